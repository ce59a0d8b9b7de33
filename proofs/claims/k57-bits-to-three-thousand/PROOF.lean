import PyProof.Rows.All
import Wide.All
import OpenK.AllK
import Wide.FinOn
import HandS.More
import HandS.ForMost
import HandS.ForExc
import HandS.Flow
import HandS.Style
import HandS.StrMore
import HandS.RevRange
import HandS.SortInts
import HandS.TryOnly
import HandS.TryElse
import HandS.SuiteRaise
import HandS.IsInst
import HandS.ExcIs
import HandS.ExcField
import HandS.NoneIn
import HandS.Defaults
import HandS.Head0
import HandS.Head1
import HandS.Head2
import HandS.HeadEnd
import HandS.HeadHook1
import HandS.HeadHook2
import HandS.ExcValue
import KE.KExcIs
import KE.KStateDown
import HandS.HeadHook3
import HandS.HeadHook4
import PySem.Challenge.RW_patchsquare_k57_bits_to_three_thousand
set_option Elab.async false
set_option linter.all false
set_option maxRecDepth 100000
set_option maxHeartbeats 0
namespace Ps
open PySem PySem.Spec L2
open PyProof.Rows (envOfC AllBare)
open He (ga ma)
/-! PsPre -/
/-! ### operators by short names -/
abbrev qAdd : R2 := rI0 fun i j => .int (i + j)
abbrev qSub : R2 := rI0 fun i j => .int (i - j)
abbrev qMul : R2 := rI CMul fun i j => .int (i * j)
abbrev qDiv : R2 := rI CDiv fun i j => .int (i / j)
abbrev qMod : R2 := rI (fun _ j => 0 < j) fun i j => .int (i % j)
abbrev qShl : R2 := rI CPow fun i j => .int (i * 2 ^ j.toNat)
abbrev qShr : R2 := rI (fun _ j => 0 ≤ j) fun i j => .int (i / 2 ^ j.toNat)
abbrev qPow : R2 := rI CPow fun i j => .int (i ^ j.toNat)
abbrev qAnd : R2 := rI0 fun i j => .int (Builtin.bitAnd i j)
abbrev qOr : R2 := rI0 fun i j => .int (Builtin.bitOr i j)
abbrev qXor : R2 := rI0 fun i j => .int (Builtin.bitXor i j)
abbrev qLt : R2 := rI0 fun i j => .bl (decide (i < j))
abbrev qLe : R2 := rI0 fun i j => .bl (decide (i ≤ j))
abbrev qGt : R2 := rI0 fun i j => .bl (decide (j < i))
abbrev qGe : R2 := rI0 fun i j => .bl (decide (j ≤ i))
def qIsN : R2 := fun x y H Q => y = .non ∧ Q (.bl (decide (x = .non))) H
def qNotN : R2 := fun x y H Q => y = .non ∧ Q (.bl (!decide (x = .non))) H
def qAddS : R2 := fun x y H Q => ∃ i j, x = .str i ∧ y = .str j ∧ i.length + j.length ≤ sizeLine ∧ Q (.str (i ++ j)) H
def qInSg : R2 := fun x y H Q => ∃ (c : Nat) (z : Str), x = .str ⟨#[c]⟩ ∧ y = .str z ∧ Q (.bl (decide (c ∈ z.cps.toList))) H
def qNinSg : R2 := fun x y H Q => ∃ (c : Nat) (z : Str), x = .str ⟨#[c]⟩ ∧ y = .str z ∧ Q (.bl (!decide (c ∈ z.cps.toList))) H
def qLenQ (K : PySem.W.Frag) : List V → Hp → VK → Prop := fun xs H Q => ∃ p ys, xs = [.ref p] ∧ (SqL K H p ys ∨ SqT K H p ys) ∧ Q (.int ys.length) H
def qLenS : List V → Hp → VK → Prop := fun xs H Q => ∃ z, xs = [.str z] ∧ z.length ≤ sizeLine ∧ Q (.int z.length) H
def qAbs : List V → Hp → VK → Prop := fun xs H Q => ∃ i, xs = [.int i] ∧ Q (.int (if i < 0 then -i else i)) H
def qMax2 : List V → Hp → VK → Prop := fun xs H Q => ∃ i j, xs = [.int i, .int j] ∧ Q (.int (if j > i then j else i)) H
def qMin2 : List V → Hp → VK → Prop := fun xs H Q => ∃ i j, xs = [.int i, .int j] ∧ Q (.int (if j < i then j else i)) H
def qDivmod : List V → Hp → VK → Prop := fun xs H Q => ∃ i j, xs = [.int i, .int j] ∧ CDiv i j ∧ ∀ p, H p = none → Q (.ref p) (upd H p (.tup [.int (i / j), .int (i % j)]))
def qIntB : List V → Hp → VK → Prop := fun xs H Q => (∃ i, xs = [.int i] ∧ Q (.int i) H) ∨ ∃ k, xs = [.bl k] ∧ Q (.int (if k then 1 else 0)) H
def qIntS : List V → Hp → VK → Prop := fun xs H Q => ∃ a n, xs = [.str a] ∧ PySem.intText? a = some n ∧ a.length ≤ 640 ∧ Q (.int n) H
def qStrI : List V → Hp → VK → Prop := fun xs H Q => ∃ i, xs = [.int i] ∧ i.natAbs.log2 < 1920 ∧ Q (.str (toString i)) H
def qListOf (K : PySem.W.Frag) : List V → Hp → VK → Prop := fun xs H Q => ∃ p ys, xs = [.ref p] ∧ (SqL K H p ys ∨ SqT K H p ys) ∧ ∀ l, H l = none → Q (.ref l) (upd H l (.lst ys))
def qZfill : V → List V → Hp → VK → Prop := fun x xs H Q => ∃ (a : Str) (i : Int), x = .str a ∧ xs = [.int i] ∧ PadOk i = true ∧ Q (.str (Txt.zfill a i)) H
def qFind : V → List V → Hp → VK → Prop := fun x xs H Q => ∃ a b, x = .str a ∧ xs = [.str b] ∧ Q (.int (Txt.find a b)) H
def qInsert : V → List V → Hp → VK → Prop := fun x vs H Q => ∃ (l : Addr) (xs : List V) (i : Int) (y : V), x = .ref l ∧ vs = [.int i, y] ∧ H l = some (.lst xs) ∧ xs.length < sizeLine ∧ 0 ≤ i ∧ i < 2 ^ 63 ∧ Q .non (upd H l (.lst (xs.take i.toNat ++ [y] ++ xs.drop i.toNat)))
def qJoin (K : PySem.W.Frag) : V → List V → Hp → VK → Prop := fun x xs H Q => ∃ a p, ∃ ys : List Str, x = .str a ∧ xs = [.ref p] ∧ (SqL K H p (ys.map V.str) ∨ SqT K H p (ys.map V.str)) ∧ (ys.map (·.length)).sum + ys.length * a.length ≤ 16777216 ∧ Q (.str (Txt.join a ys)) H
def sRaise (C : Addr) (W : WX) : TS := fun _ σ H => W (.ref C) none σ H
def wE (E : XK) : WX := fun cls d _ H => E cls d H

/-! ### the heap -/
theorem same_new {H0 H : Hp} {p : Addr} {o : HO} (s : Same H0 H) (h : H p = none) : Same H0 (upd H p o) := fun b x e => by
  rw [upd_ne (ne_of_none (s b x e) h)]; exact s b x e
theorem same_mut {H0 H : Hp} {p : Addr} {o : HO} (s : Same H0 H) (h : H0 p = none) : Same H0 (upd H p o) := fun b x e => by
  rw [upd_ne (ne_of_none e h)]; exact s b x e
theorem upd_new {H : Hp} {p b : Addr} {o x : HO} (h : H p = none) (e : H b = some x) : upd H p o b = some x := by
  rw [upd_ne (ne_of_none e h)]; exact e
theorem upd_get {H : Hp} {p b : Addr} {o : HO} {x : Option HO} (h : b ≠ p) (e : H b = x) : upd H p o b = x := by
  rw [upd_ne h]; exact e
theorem seq_new {K : PySem.W.Frag} {H : Hp} {p b : Addr} {o : HO} {xs : List V} (h : H p = none) (e : SqL K H b xs) : SqL K (upd H p o) b xs := (same_new (Same.refl H) h).seq e
theorem Same.seqT {K : PySem.W.Frag} {H H' : Hp} {a : Addr} {xs : List V} (e : Same H H') (h : SqT K H a xs) : SqT K H' a xs := by
  rcases h with (h | ⟨o, h⟩) | h
  · exact .inl (.inl (e _ _ h))
  · exact .inl (.inr ⟨o, e _ _ h⟩)
  · exact .inr h
theorem ne_new {H0 H : Hp} {p b : Addr} {x : HO} (s : Same H0 H) (e : H0 b = some x) (h : H p = none) : b ≠ p := ne_of_none (s b x e) h

/-! ### going through a reading: statements -/
section
variable {n : St → Hp → Prop} {r : VK} {b c : St → Hp → Prop} {σ : St} {H : Hp} {t u tb : TS} {te ta tx : TE} {g : TG} {i : Nat} {v : V} {tc : TT} {Q : VK} {QT : Bool → Hp → Prop} {K : PySem.W.Frag}
theorem g_seq (h : t ⟨u ⟨n, r, b, c⟩, r, b, c⟩ σ H) : tSeq t u ⟨n, r, b, c⟩ σ H := h
theorem g_next (h : n σ H) : tNext ⟨n, r, b, c⟩ σ H := h
theorem g_brk (h : b σ H) : tBreak ⟨n, r, b, c⟩ σ H := h
theorem g_cont (h : c σ H) : tCont ⟨n, r, b, c⟩ σ H := h
theorem g_asg (h : te σ H fun x H1 => g x σ H1 n) : tAsg te g ⟨n, r, b, c⟩ σ H := h
theorem g_name {P : St → Hp → Prop} (h : P (σ.set i (some v)) H) : gName i v σ H P := h
theorem g_drop (h : te σ H fun _ H1 => n σ H1) : tDrop te ⟨n, r, b, c⟩ σ H := h
theorem g_ret (h : te σ H r) : tRet te ⟨n, r, b, c⟩ σ H := h
theorem g_if (h : tc σ H fun k H1 => if k = true then t ⟨n, r, b, c⟩ σ H1 else u ⟨n, r, b, c⟩ σ H1) : tIfS tc t u ⟨n, r, b, c⟩ σ H := h
theorem g_aug {ti : TIp} {x : V} (hx : σ[i]? = some (some x)) (h : te σ H fun y H1 => ti x y H1 fun z H2 => n (σ.set i (some z)) H2) : tAug i te ti ⟨n, r, b, c⟩ σ H := ⟨x, hx, h⟩
theorem g_ipI {f : Int → Int → Int} {j k : Int} (h : Q (.int (f j k)) H) : ipI f (.int j) (.int k) H Q := ⟨j, k, rfl, rfl, h⟩
theorem g_raise {C : Addr} {W : WX} (h : W (.ref C) none σ H) : sRaise C W ⟨n, r, b, c⟩ σ H := h
/-! ### expressions -/
theorem g_var (hx : σ[i]? = some (some v)) (h : Q v H) : tVar i σ H Q := ⟨v, hx, h⟩
theorem g_c (h : Q v H) : tC v σ H Q := h
theorem g_op {q : R2} (h : ta σ H fun x H1 => tx σ H1 fun y H2 => q x y H2 Q) : tOp q ta tx σ H Q := h
theorem g_I0 {f : Int → Int → V} {j k : Int} (h : Q (f j k) H) : rI0 f (.int j) (.int k) H Q := ⟨j, k, rfl, rfl, h⟩
theorem g_mul {f : Int → Int → V} {j k : Int} (hc : CMul j k) (h : Q (f j k) H) : rI CMul f (.int j) (.int k) H Q := ⟨j, k, rfl, rfl, hc, h⟩
theorem g_div {f : Int → Int → V} {j k : Int} (h1 : 0 < k) (h2 : k < 1073741824) (h : Q (f j k) H) : rI CDiv f (.int j) (.int k) H Q := ⟨j, k, rfl, rfl, ⟨h1, h2⟩, h⟩
theorem g_mod {f : Int → Int → V} {j k : Int} (h1 : 0 < k) (h : Q (f j k) H) : rI (fun _ j => 0 < j) f (.int j) (.int k) H Q := ⟨j, k, rfl, rfl, h1, h⟩
theorem g_shr {f : Int → Int → V} {j k : Int} (h1 : 0 ≤ k) (h : Q (f j k) H) : rI (fun _ j => 0 ≤ j) f (.int j) (.int k) H Q := ⟨j, k, rfl, rfl, h1, h⟩
theorem g_pow {f : Int → Int → V} {j k : Int} (hc : CPow j k) (h : Q (f j k) H) : rI CPow f (.int j) (.int k) H Q := ⟨j, k, rfl, rfl, hc, h⟩
theorem g_un {q : V → Hp → VK → Prop} (h : ta σ H fun x H1 => q x H1 Q) : tUn q ta σ H Q := h
theorem g_rU {f : Int → V} {j : Int} (h : Q (f j) H) : rU f (.int j) H Q := ⟨j, rfl, h⟩
theorem g_eqI {j k : Int} (h : Q (.bl (decide (j = k))) H) : rEq (.int j) (.int k) H Q := ⟨rfl, by
  have e : decide (V.int j = V.int k) = decide (j = k) := by simp
  rw [e]; exact h⟩
theorem g_neI {j k : Int} (h : Q (.bl (!decide (j = k))) H) : rNe (.int j) (.int k) H Q := ⟨rfl, by
  have e : decide (V.int j = V.int k) = decide (j = k) := by simp
  rw [e]; exact h⟩
theorem g_eqS {j k : Str} (h : Q (.bl (decide (j = k))) H) : rEq (.str j) (.str k) H Q := ⟨rfl, by
  have e : decide (V.str j = V.str k) = decide (j = k) := by simp
  rw [e]; exact h⟩
theorem g_isN (h : Q (.bl (decide (v = .non))) H) : qIsN v .non H Q := ⟨rfl, h⟩
theorem g_notN (h : Q (.bl (!decide (v = .non))) H) : qNotN v .non H Q := ⟨rfl, h⟩
theorem g_addS {x y : Str} (hl : x.length + y.length ≤ sizeLine) (h : Q (.str (x ++ y)) H) : qAddS (.str x) (.str y) H Q := ⟨x, y, rfl, rfl, hl, h⟩
theorem g_test (h : te σ H fun x H1 => ∃ k, x = .bl k ∧ QT k H1) : tTest te σ H QT := h
theorem g_tB (h : te σ H fun x H1 => ∃ k, x = .bl k ∧ QT k H1) : tB te σ H QT := h
theorem g_and {t u : TT} (h : t σ H fun k H1 => if k = true then u σ H1 QT else QT false H1) : tAnd t u σ H QT := h
theorem g_or {t u : TT} (h : t σ H fun k H1 => if k = true then QT true H1 else u σ H1 QT) : tOr t u σ H QT := h
theorem g_not {t : TT} (h : t σ H fun k H1 => QT (!k) H1) : tNot t σ H QT := h
theorem g_ifE (h : tc σ H fun k H1 => if k = true then ta σ H1 Q else tx σ H1 Q) : tIf tc ta tx σ H Q := h
theorem g_andV (h : ta σ H fun x H1 => ∃ k, x = .bl k ∧ if k = true then tx σ H1 Q else Q (.bl false) H1) : tAndV ta tx σ H Q := h
theorem g_orV (h : ta σ H fun x H1 => ∃ k, x = .bl k ∧ if k = true then Q (.bl true) H1 else tx σ H1 Q) : tOrV ta tx σ H Q := h
theorem g_notV (h : ta σ H fun x H1 => ∃ k, x = .bl k ∧ Q (.bl (!k)) H1) : tNotV ta σ H Q := h
theorem g_blV {k : Bool} {P : Bool → Prop} (h : P k) : ∃ k', V.bl k = .bl k' ∧ P k' := ⟨k, rfl, h⟩
theorem g_lst {A : TA} (h : A σ H fun xs H1 => xs.length ≤ sizeLine ∧ ∀ p, H1 p = none → Q (.ref p) (upd H1 p (.lst xs))) : tLst A σ H Q := h
theorem g_tup {A : TA} (h : A σ H fun xs H1 => xs.length ≤ sizeLine ∧ ∀ p, H1 p = none → Q (.ref p) (upd H1 p (.tup xs))) : tTup A σ H Q := h
theorem g_nil {QA : List V → Hp → Prop} (h : QA [] H) : tNil σ H QA := h
theorem g_cons {A : TA} {QA : List V → Hp → Prop} (h : ta σ H fun x H1 => A σ H1 fun xs H2 => QA (x :: xs) H2) : tCons ta A σ H QA := h
theorem g_cb {q : List V → Hp → VK → Prop} {A : TA} (h : A σ H fun vs H1 => q vs H1 Q) : tCB q A σ H Q := h
theorem g_call {sp : Sp} {dvs : List V} {E : XK} {A : TA} (h : A σ H fun vs H1 => sp (vs ++ dvs) H1 Q E) : tCall sp dvs E A σ H Q := h
theorem g_callS {sp : Sp} {E : St → XK} {A : TA} (h : A σ H fun vs H1 => sp vs H1 Q (E σ)) : tCallS sp E A σ H Q := h
theorem g_ixL {p : Addr} {xs : List V} {j : Int} (hs : SqL K H p xs) (ha : atI xs j = some v) (h : Q v H) : rIxL K (.ref p) (.int j) H Q := ⟨p, xs, j, v, rfl, rfl, hs, ha, h⟩
theorem g_ixT {p : Addr} {xs : List V} {j : Int} (hs : SqT K H p xs) (ha : atI xs j = some v) (h : Q v H) : rIxT K (.ref p) (.int j) H Q := ⟨p, xs, j, v, rfl, rfl, hs, ha, h⟩
theorem g_ixS {z : Str} {j : Int} {x : Nat} (hl : z.length ≤ sizeLine) (ha : atI z.cps.toList j = some x) (h : Q (.str ⟨#[x]⟩) H) : rIxS (.str z) (.int j) H Q := ⟨z, j, x, rfl, rfl, hl, ha, h⟩
theorem g_sl {q : V → Option Int → Option Int → Hp → VK → Prop} {tl th : TO} (h : te σ H fun x H1 => tl σ H1 fun l H2 => th σ H2 fun u H3 => q x l u H3 Q) : tSl q te tl th σ H Q := h
theorem g_part {QO : Option Int → Hp → Prop} (h : te σ H fun x H1 => ∃ j, x = .int j ∧ QO (some j) H1) : tPart te σ H QO := h
theorem g_noPart {QO : Option Int → Hp → Prop} (h : QO none H) : tNoPart σ H QO := h
theorem g_partI {j : Int} {P : Int → Prop} (h : P j) : ∃ j', V.int j = .int j' ∧ P j' := ⟨j, rfl, h⟩
theorem g_slL {p : Addr} {xs : List V} {lo hi : Option Int} (hs : SqL K H p xs) (h : ∀ q, H q = none → Q (.ref q) (upd H q (.lst (cutV xs lo hi)))) : rSlL K (.ref p) lo hi H Q := ⟨p, xs, rfl, hs, h⟩
theorem g_slS {z : Str} {lo hi : Option Int} (hl : z.length ≤ sizeLine) (h : Q (.str (cutS z lo hi)) H) : rSlS (.str z) lo hi H Q := ⟨z, rfl, hl, h⟩
theorem g_lenL {p : Addr} {xs : List V} (hs : SqL K H p xs) (h : Q (.int xs.length) H) : qLenQ K [.ref p] H Q := ⟨p, xs, rfl, .inl hs, h⟩
theorem g_lenT {p : Addr} {xs : List V} (hs : SqT K H p xs) (h : Q (.int xs.length) H) : qLenQ K [.ref p] H Q := ⟨p, xs, rfl, .inr hs, h⟩
theorem g_lenS {z : Str} (hl : z.length ≤ sizeLine) (h : Q (.int z.length) H) : qLenS [.str z] H Q := ⟨z, rfl, hl, h⟩
theorem g_abs {j : Int} (h : Q (.int (if j < 0 then -j else j)) H) : qAbs [.int j] H Q := ⟨j, rfl, h⟩
theorem g_max2 {j k : Int} (h : Q (.int (if k > j then k else j)) H) : qMax2 [.int j, .int k] H Q := ⟨j, k, rfl, h⟩
theorem g_min2 {j k : Int} (h : Q (.int (if k < j then k else j)) H) : qMin2 [.int j, .int k] H Q := ⟨j, k, rfl, h⟩
theorem g_intB {k : Bool} (h : Q (.int (if k then 1 else 0)) H) : qIntB [.bl k] H Q := .inr ⟨k, rfl, h⟩
theorem g_listL {p : Addr} {xs : List V} (hs : SqL K H p xs) (h : ∀ l, H l = none → Q (.ref l) (upd H l (.lst xs))) : qListOf K [.ref p] H Q := ⟨p, xs, rfl, .inl hs, h⟩
theorem g_bm {T : String} {q : V → List V → Hp → VK → Prop} {A : TA} (h : te σ H fun x H1 => tyV K T x H1 ∧ A σ H1 fun xs H2 => q x xs H2 Q) : tBM K T q te A σ H Q := h
theorem g_tyL {p : Addr} {xs : List V} {P : Prop} (hs : SqL K H p xs) (h : P) : tyV K "list" (.ref p) H ∧ P := ⟨.inl ⟨rfl, xs, hs⟩, h⟩
theorem g_app {p : Addr} {xs : List V} (hp : H p = some (.lst xs)) (hl : xs.length < sizeLine) (h : Q .non (upd H p (.lst (xs ++ [v])))) : rAppend (.ref p) [v] H Q := ⟨p, xs, v, rfl, rfl, hp, hl, h⟩
theorem g_cat {p q : Addr} {xs ys : List V} (hp : H p = some (.lst xs)) (hq : H q = some (.lst ys)) (hl : xs.length + ys.length ≤ sizeLine) (h : ∀ l, H l = none → Q (.ref l) (upd H l (.lst (xs ++ ys)))) : rCat (.ref p) (.ref q) H Q :=
  ⟨p, q, xs, ys, rfl, rfl, hp, hq, hl, h⟩
theorem g_rep {p : Addr} {xs : List V} {k : Int} (hp : H p = some (.lst xs)) (h1 : -(2 ^ 63) ≤ k) (h2 : k < 2 ^ 63) (hl : xs.length * k.toNat ≤ sizeLine) (h : ∀ l, H l = none → Q (.ref l) (upd H l (.lst (List.replicate k.toNat xs).flatten))) : rRep (.ref p) (.int k) H Q := by
  exact ⟨p, k, xs, rfl, rfl, hp, h1, h2, hl, h⟩
theorem g_fld {f : Str} {a C dx : Addr} {fs : List (Str × V)} {P : V → Prop} (ho : H a = some (.ins C dx fs)) (hc : Cls K C) (hn : NoAttr K C f) (hl : fs.lookup f = some v) (h : P v) : (∃ a' C' dx' fs' v', V.ref a = .ref a' ∧ H a' = some (.ins C' dx' fs') ∧ Cls K C' ∧ NoAttr K C' f ∧ fs'.lookup f = some v' ∧ P v') :=
  ⟨a, C, dx, fs, v, rfl, ho, hc, hn, hl, h⟩
theorem g_ite {p : Prop} [Decidable p] {A B : Prop} (h1 : p → A) (h2 : ¬ p → B) : if decide p = true then A else B := by
  by_cases h : p
  · rw [if_pos (decide_eq_true h)]; exact h1 h
  · rw [if_neg (by rw [decide_eq_false h]; exact Bool.false_ne_true)]; exact h2 h
theorem g_iteN {p : Prop} [Decidable p] {A B : Prop} (h1 : ¬ p → A) (h2 : p → B) : if (!decide p) = true then A else B := by
  by_cases h : p
  · rw [if_neg (by rw [decide_eq_true h]; exact Bool.false_ne_true)]; exact h2 h
  · rw [if_pos (by rw [decide_eq_false h]; rfl)]; exact h1 h
theorem g_iteB {k : Bool} {A B : Prop} (h1 : k = true → A) (h2 : k = false → B) : if k = true then A else B := by
  cases k with
  | true => exact h1 rfl
  | false => exact h2 rfl
end

/-! ### loops -/
def LoopJ (J : It) (g : TG) (tb : TS) (n : St → Hp → Prop) (r : VK) (σ : St) (H : Hp) : Prop := ∃ W : Nat → Nat → St → Hp → Prop, (∃ m, W 0 m σ H) ∧ ∀ i m σ H, W i m σ H →
  (J.stop i H ∧ n σ H) ∨ (J.go i H ∧ ∃ N : St → Hp → Prop, (∀ σ' H', N σ' H' → ∃ m', m' < m ∧ W (i + 1) m' σ' H') ∧ ∀ x H', J.yld i H x H' → g x σ H' fun σ2 H2 => tb ⟨N, r, n, N⟩ σ2 H2)
def LcJ (J : It) (g : TG) (tt : TT) (te : TE) (vs : List Nat) (σ : St) (D : Addr) (Q : VK) (H1 : Hp) : Prop := ∃ W : Nat → Nat → Hp → Prop, (∃ m, W 0 m (upd H1 D (.lst []))) ∧ ∀ i m H, W i m H →
  (J.stop i H ∧ Q (.ref D) H) ∨ (J.go i H ∧ ∃ Nx : Hp → Prop, (∀ H', Nx H' → ∃ m', m' < m ∧ W (i + 1) m' H') ∧ ∀ x H', J.yld i H x H' → g x (wipe σ vs) H' fun σ2 H2 => wipe σ2 vs = wipe σ vs ∧ tt σ2 H2 fun b H3 =>
    if b = true then te σ2 H3 fun y H4 => ∃ acc, H4 D = some (.lst acc) ∧ acc.length < sizeLine ∧ Nx (upd H4 D (.lst (acc ++ [y]))) else Nx H3)
section
variable {n : St → Hp → Prop} {r : VK} {b c : St → Hp → Prop} {σ : St} {H : Hp} {tb : TS} {te : TE} {g : TG} {K : PySem.W.Frag} {wi : TI} {tt : TT} {vs : List Nat} {Q : VK}
theorem g_for (h : wi σ H fun J H1 => LoopJ J g tb n r σ H1) : tFor wi g tb ⟨n, r, b, c⟩ σ H := h
theorem g_lc (h : wi σ H fun J H1 => ∀ D, H1 D = none → LcJ J g tt te vs σ D Q H1) : tLc wi g tt te vs σ H Q := h
theorem g_iL {R : It → Hp → Prop} (h : te σ H fun x H1 => ∃ a, x = .ref a ∧ (∃ xs, SqL K H1 a xs) ∧ R (Itl K a) H1) : iList K te σ H R := h
theorem g_iT {R : It → Hp → Prop} (h : te σ H fun x H1 => ∃ a, x = .ref a ∧ (∃ xs, SqT K H1 a xs) ∧ R (Itt K a) H1) : iTup K te σ H R := h
theorem g_atL {p : Addr} {xs : List V} {P : Addr → Prop} (hs : SqL K H p xs) (h : P p) : ∃ a, V.ref p = .ref a ∧ (∃ xs, SqL K H a xs) ∧ P a := ⟨p, rfl, ⟨xs, hs⟩, h⟩
theorem g_atT {p : Addr} {xs : List V} {P : Addr → Prop} (hs : SqT K H p xs) (h : P p) : ∃ a, V.ref p = .ref a ∧ (∃ xs, SqT K H a xs) ∧ P a := ⟨p, rfl, ⟨xs, hs⟩, h⟩
theorem g_iR1 {A : TA} {R : It → Hp → Prop} (h : A σ H fun vs H1 => ∃ j : Int, vs = [.int j] ∧ -(2 ^ 62) ≤ j ∧ j < 2 ^ 62 ∧ R (Itr 0 j.toNat) H1) : iRng1 A σ H R := h
theorem g_iR2 {A : TA} {R : It → Hp → Prop} (h : A σ H fun vs H1 => ∃ i j : Int, vs = [.int i, .int j] ∧ (-(2 ^ 62) ≤ i ∧ i < 2 ^ 62 ∧ -(2 ^ 62) ≤ j ∧ j < 2 ^ 62) ∧ R (Itr i (j - i).toNat) H1) : iRng2 A σ H R := h
theorem g_r1 {j : Int} {P : Int → Prop} (h1 : -(2 ^ 62) ≤ j) (h2 : j < 2 ^ 62) (h : P j) : ∃ j' : Int, [V.int j] = [.int j'] ∧ -(2 ^ 62) ≤ j' ∧ j' < 2 ^ 62 ∧ P j' := ⟨j, rfl, h1, h2, h⟩
theorem g_r2 {i j : Int} {P : Int → Int → Prop} (h1 : -(2 ^ 62) ≤ i) (h2 : i < 2 ^ 62) (h3 : -(2 ^ 62) ≤ j) (h4 : j < 2 ^ 62) (h : P i j) : ∃ i' j' : Int, [V.int i, V.int j] = [.int i', .int j'] ∧ (-(2 ^ 62) ≤ i' ∧ i' < 2 ^ 62 ∧ -(2 ^ 62) ≤ j' ∧ j' < 2 ^ 62) ∧ P i' j' :=
  ⟨i, j, rfl, ⟨h1, h2, h3, h4⟩, h⟩
/-- over a list, by what is left of it -/
theorem forL {α : Type} {a : Addr} (f : α → V) (xs : List α) (Pv : List α → St → Hp → Prop) (h0 : Pv xs σ H) (hl : ∀ d l σ H, xs = d ++ l → Pv l σ H → SqL K H a (xs.map f))
    (hs : ∀ d x l σ H, xs = d ++ x :: l → Pv (x :: l) σ H → g (f x) σ H fun σ2 H2 => tb ⟨Pv l, r, n, Pv l⟩ σ2 H2) (hd : ∀ σ H, Pv [] σ H → n σ H) : LoopJ (Itl K a) g tb n r σ H := by
  refine for_list (D := ⟨n, r, n, n⟩) (K := K) (a := a) (xs := xs.map f) (fun i σ H => Pv (xs.drop i) σ H) (by simpa using h0) (fun i σ H hi p => hl (xs.take i) (xs.drop i) σ H (List.take_append_drop i xs).symm p) (fun i x σ H hx p => ?_) (fun σ H p => ?_)
  · rw [List.getElem?_map] at hx
    cases e : xs[i]? with
    | none => rw [e] at hx; cases hx
    | some y =>
      rw [e] at hx
      obtain rfl : f y = x := Option.some.inj hx
      obtain ⟨hi, e2⟩ := List.getElem?_eq_some_iff.mp e
      have ed : xs.drop i = y :: xs.drop (i + 1) := by rw [← e2]; exact List.drop_eq_getElem_cons hi
      rw [ed] at p
      exact hs (xs.take i) y (xs.drop (i + 1)) σ H (by rw [← ed]; exact (List.take_append_drop i xs).symm) p
  · rw [List.length_map, List.drop_length] at p
    exact hd σ H p
theorem forR {lo : Int} {m : Nat} (Pv : Nat → St → Hp → Prop) (h0 : Pv 0 σ H) (hs : ∀ i σ H, i < m → Pv i σ H → g (.int (lo + i)) σ H fun σ2 H2 => tb ⟨Pv (i + 1), r, n, Pv (i + 1)⟩ σ2 H2) (hd : ∀ σ H, Pv m σ H → n σ H) : LoopJ (Itr lo m) g tb n r σ H :=
  for_range (D := ⟨n, r, n, n⟩) Pv h0 hs hd
theorem whileJ {tc : TT} (W : Nat → St → Hp → Prop) (m : Nat) (h0 : W m σ H)
    (h : ∀ m σ H, W m σ H → tc σ H fun k H1 => if k = true then ∃ N : St → Hp → Prop, (∀ σ' H', N σ' H' → ∃ m', m' < m ∧ W m' σ' H') ∧ tb ⟨N, r, n, N⟩ σ H1 else n σ H1) : tWhile tc tb ⟨n, r, b, c⟩ σ H := ⟨W, ⟨m, h0⟩, h⟩
theorem g_iteW {p : Prop} [Decidable p] {B : Prop} {W : Nat → St → Hp → Prop} {m : Nat} {P : (St → Hp → Prop) → Prop} (h1 : p → P (fun σ' H' => ∃ m', m' < m ∧ W m' σ' H')) (h2 : ¬ p → B) :
    if decide p = true then ∃ N : St → Hp → Prop, (∀ σ' H', N σ' H' → ∃ m', m' < m ∧ W m' σ' H') ∧ P N else B := g_ite (fun h => ⟨_, fun _ _ z => z, h1 h⟩) h2
theorem g_iteWN {p : Prop} [Decidable p] {B : Prop} {W : Nat → St → Hp → Prop} {m : Nat} {P : (St → Hp → Prop) → Prop} (h1 : ¬ p → P (fun σ' H' => ∃ m', m' < m ∧ W m' σ' H')) (h2 : p → B) :
    if (!decide p) = true then ∃ N : St → Hp → Prop, (∀ σ' H', N σ' H' → ∃ m', m' < m ∧ W m' σ' H') ∧ P N else B := g_iteN (fun h => ⟨_, fun _ _ z => z, h1 h⟩) h2
theorem lcL {α : Type} {a D : Addr} {σ : St} {H1 : Hp} (f : α → V) (xs : List α) (Pv : List α → Hp → Prop) (h0 : Pv xs (upd H1 D (.lst []))) (hl : ∀ d l H, xs = d ++ l → Pv l H → SqL K H a (xs.map f))
    (hs : ∀ d x l H, xs = d ++ x :: l → Pv (x :: l) H → g (f x) (wipe σ vs) H fun σ2 H2 => wipe σ2 vs = wipe σ vs ∧ tt σ2 H2 fun b H3 =>
      if b = true then te σ2 H3 fun y H4 => ∃ acc, H4 D = some (.lst acc) ∧ acc.length < sizeLine ∧ Pv l (upd H4 D (.lst (acc ++ [y]))) else Pv l H3) (hd : ∀ H, Pv [] H → Q (.ref D) H) : LcJ (Itl K a) g tt te vs σ D Q H1 := by
  refine lc_list (K := K) (a := a) (xs := xs.map f) (Qd := fun H => Q (.ref D) H) (fun i H => Pv (xs.drop i) H) (by simpa using h0) (fun i H hi p => hl (xs.take i) (xs.drop i) H (List.take_append_drop i xs).symm p) (fun i x H hx p => ?_) (fun H p => ?_)
  · rw [List.getElem?_map] at hx
    cases e : xs[i]? with
    | none => rw [e] at hx; cases hx
    | some y =>
      rw [e] at hx
      obtain rfl : f y = x := Option.some.inj hx
      obtain ⟨hi, e2⟩ := List.getElem?_eq_some_iff.mp e
      have ed : xs.drop i = y :: xs.drop (i + 1) := by rw [← e2]; exact List.drop_eq_getElem_cons hi
      rw [ed] at p
      exact hs (xs.take i) y (xs.drop (i + 1)) H (by rw [← ed]; exact (List.take_append_drop i xs).symm) p
  · rw [List.length_map, List.drop_length] at p
    exact hd H p
theorem lcR {lo : Int} {m : Nat} {D : Addr} {σ : St} {H1 : Hp} (Pv : Nat → Hp → Prop) (h0 : Pv 0 (upd H1 D (.lst [])))
    (hs : ∀ i H, i < m → Pv i H → g (.int (lo + i)) (wipe σ vs) H fun σ2 H2 => wipe σ2 vs = wipe σ vs ∧ tt σ2 H2 fun b H3 =>
      if b = true then te σ2 H3 fun y H4 => ∃ acc, H4 D = some (.lst acc) ∧ acc.length < sizeLine ∧ Pv (i + 1) (upd H4 D (.lst (acc ++ [y]))) else Pv (i + 1) H3) (hd : ∀ H, Pv m H → Q (.ref D) H) : LcJ (Itr lo m) g tt te vs σ D Q H1 :=
  lc_range (Qd := fun H => Q (.ref D) H) Pv h0 hs hd
theorem g_iS {R : It → Hp → Prop} (h : te σ H fun v H1 => ∃ x, v = .str x ∧ R (Its x) H1) : iStr te σ H R := h
theorem g_atS {x : Str} {P : Str → Prop} (h : P x) : ∃ y, V.str x = .str y ∧ P y := ⟨x, rfl, h⟩
/-- over a text, by what is left of it -/
theorem forS (s : List Nat) (Pv : List Nat → St → Hp → Prop) (h0 : Pv s σ H) (hs : ∀ d x l σ H, s = d ++ x :: l → Pv (x :: l) σ H → g (.str ⟨#[x]⟩) σ H fun σ2 H2 => tb ⟨Pv l, r, n, Pv l⟩ σ2 H2) (hd : ∀ σ H, Pv [] σ H → n σ H) :
    LoopJ (Its ⟨s.toArray⟩) g tb n r σ H := by
  refine ⟨fun i m σ H => m = s.length - i ∧ i ≤ s.length ∧ Pv (s.drop i) σ H, ⟨s.length, by simp, Nat.zero_le _, by simpa using h0⟩, ?_⟩
  rintro i m σ H ⟨rfl, hi, p⟩
  by_cases hlt : i < s.length
  · have ed : s.drop i = s[i] :: s.drop (i + 1) := List.drop_eq_getElem_cons hlt
    refine .inr ⟨by show i < s.toArray.size; simpa using hlt, Pv (s.drop (i + 1)), fun σ' H' p' => ⟨s.length - (i + 1), by omega, rfl, hlt, p'⟩, fun x H' y => ?_⟩
    obtain ⟨rfl, z, hz, rfl⟩ := y
    have ez : z = s[i] := by
      have : s[i]? = some z := by simpa using hz
      rw [List.getElem?_eq_getElem hlt] at this
      exact (Option.some.inj this).symm
    subst ez
    rw [ed] at p
    exact hs (s.take i) s[i] (s.drop (i + 1)) σ _ (by rw [← ed]; exact (List.take_append_drop i s).symm) p
  · have e : i = s.length := by omega
    subst e
    rw [List.drop_length] at p
    exact .inl ⟨by show s.toArray.size ≤ s.length; simp, hd σ H p⟩
theorem g_iR3 {A : TA} {R : It → Hp → Prop} (h : A σ H fun vs H1 => ∃ (i j c : Int) (n : Nat), vs = [.int i, .int j, .int c] ∧ RgC i j c n ∧ R (Itc i c n) H1) : iRng3 A σ H R := h
theorem g_r3 {i j c : Int} {m : Nat} {P : Int → Int → Int → Nat → Prop} (h1 : RgC i j c m) (h : P i j c m) : ∃ (i' j' c' : Int) (n : Nat), [V.int i, V.int j, V.int c] = [.int i', .int j', .int c'] ∧ RgC i' j' c' n ∧ P i' j' c' n := ⟨i, j, c, m, rfl, h1, h⟩
theorem forC {lo c : Int} {m : Nat} (Pv : Nat → St → Hp → Prop) (h0 : Pv 0 σ H) (hs : ∀ i σ H, i < m → Pv i σ H → g (.int (lo + (i : Nat) * c)) σ H fun σ2 H2 => tb ⟨Pv (i + 1), r, n, Pv (i + 1)⟩ σ2 H2) (hd : ∀ σ H, Pv m σ H → n σ H) : LoopJ (Itc lo c m) g tb n r σ H :=
  for_rangeC (D := ⟨n, r, n, n⟩) Pv h0 hs hd
theorem g_find {x y : Str} (h : Q (.int (Txt.find x y)) H) : qFind (.str x) [.str y] H Q := ⟨x, y, rfl, rfl, h⟩
theorem g_intS {x : Str} {m : Int} (e : PySem.intText? x = some m) (hl : x.length ≤ 640) (h : Q (.int m) H) : qIntS [.str x] H Q := ⟨x, m, rfl, e, hl, h⟩
theorem g_strI {m : Int} (hl : m.natAbs.log2 < 1920) (h : Q (.str (toString m)) H) : qStrI [.int m] H Q := ⟨m, rfl, hl, h⟩
theorem g_tyS {T : String} {x : Str} {P : Prop} (hT : T = "str") (h : P) : tyV K T (.str x) H ∧ P := ⟨by subst hT; rfl, h⟩
theorem g_ins0 {p : Addr} {xs : List V} {y : V} (hp : H p = some (.lst xs)) (hl : xs.length < sizeLine) (h : Q .non (upd H p (.lst (y :: xs)))) : qInsert (.ref p) [.int 0, y] H Q := ⟨p, xs, 0, y, rfl, rfl, hp, hl, by decide, by decide, h⟩
theorem g_ext {p q : Addr} {xs ys : List V} (hp : H p = some (.lst xs)) (hq : H q = some (.lst ys)) (hl : xs.length + ys.length ≤ sizeLine) (h : Q .non (upd H p (.lst (xs ++ ys)))) : rExtend (.ref p) [.ref q] H Q := ⟨p, q, xs, ys, rfl, rfl, hp, hq, hl, h⟩
theorem g_join {x : Str} {p : Addr} {ys : List Str} (hs : SqL K H p (ys.map V.str)) (hl : (ys.map (·.length)).sum + ys.length * x.length ≤ 16777216) (h : Q (.str (Txt.join x ys)) H) : qJoin K (.str x) [.ref p] H Q := ⟨x, p, ys, rfl, rfl, .inl hs, hl, h⟩
theorem g_yes {QT : Bool → Hp → Prop} (h : QT true H) : tYes σ H QT := h
theorem g_ifT {A B : Prop} (h : A) : if true = true then A else B := by rw [if_pos rfl]; exact h
theorem g_ifF {A B : Prop} (h : B) : if false = true then A else B := by rw [if_neg Bool.false_ne_true]; exact h
theorem g_wipe {P : Prop} {σ σ' : St} (h1 : σ = σ') (h : P) : σ = σ' ∧ P := ⟨h1, h⟩
theorem g_size {m : Nat} {P : Prop} (h1 : m ≤ sizeLine) (h : P) : m ≤ sizeLine ∧ P := ⟨h1, h⟩
theorem g_meth {C : Addr} {m : Str} {sp : Sp} {dvs : List V} {E : XK} {ta : TE} {t : TA} (h : ta σ H fun x H1 => ∃ a dx fs, x = .ref a ∧ H1 a = some (.ins C dx fs) ∧ fs.lookup m = none ∧ t σ H1 fun vs H2 => sp (x :: (vs ++ dvs)) H2 Q E) : tMeth C m sp dvs E ta t σ H Q := h
theorem g_atI {C dx p : Addr} {m : Str} {fs : List (Str × V)} {P : Prop} (ho : H p = some (.ins C dx fs)) (hl : fs.lookup m = none) (h : P) : ∃ a dx' fs', V.ref p = .ref a ∧ H a = some (.ins C dx' fs') ∧ fs'.lookup m = none ∧ P := ⟨p, dx, fs, rfl, ho, hl, h⟩
theorem g_tFld {f : Str} {ta : TE} (h : ta σ H fun x H1 => ∃ a C dx fs v, x = .ref a ∧ H1 a = some (.ins C dx fs) ∧ Cls K C ∧ NoAttr K C f ∧ fs.lookup f = some v ∧ Q v H1) : tFld K ta f σ H Q := h
theorem g_gsub {to ti : TE} {t : TSet} {v : V} {P : St → Hp → Prop} (h : to σ H fun o H1 => ti σ H1 fun i H2 => t o i v H2 fun H3 => P σ H3) : gSub to ti t v σ H P := h
theorem g_setL {p : Addr} {xs : List V} {k : Int} {j : Nat} {v : V} {P : Hp → Prop} (hp : H p = some (.lst xs)) (hj : ixN xs.length k = some j) (h : P (upd H p (.lst (xs.set j v)))) : rSetL (.ref p) (.int k) v H P := ⟨p, xs, k, j, rfl, rfl, hp, hj, h⟩
theorem g_par {i j : Nat} {ta : TA} (h : ta σ H fun vs H1 => ∃ v w, vs = [v, w] ∧ n ((σ.set i (some v)).set j (some w)) H1) : tPar i j ta ⟨n, r, b, c⟩ σ H := h
theorem g_par2 {v w : V} {P : V → V → Prop} (h : P v w) : ∃ v' w', [v, w] = [v', w'] ∧ P v' w' := ⟨v, w, rfl, h⟩
theorem g_gtup {p : Addr} {xs : List V} {m : Nat} {t : TGs} {P : St → Hp → Prop} (hs : SqT K H p xs) (hl : xs.length = m) (h : t xs σ H P) : gTup K m t (.ref p) σ H P := ⟨p, xs, rfl, hs, hl, h⟩
theorem g_gcons {t : TG} {u : TGs} {v : V} {vr : List V} {P : St → Hp → Prop} (h : t v σ H fun σ' H' => u vr σ' H' P) : gCons t u (v :: vr) σ H P := ⟨v, vr, rfl, h⟩
theorem g_gnil {P : St → Hp → Prop} (h : P σ H) : gNil [] σ H P := ⟨rfl, h⟩
theorem g_sFld {f : Str} {ta tv : TE} (h : tv σ H fun y H1 => ta σ H1 fun x H2 => ∃ a C dx fs, x = .ref a ∧ H2 a = some (.ins C dx fs) ∧ Cls K C ∧ NoAttr K C f ∧ fs.length < 1000 ∧ n σ (upd H2 a (.ins C dx (putF f y fs)))) : sFld K ta tv f ⟨n, r, b, c⟩ σ H := h
end

local macro_rules | `(tactic| walk_at "side") => `(tactic| first | assumption | omega | decide | (constructor <;> omega))
local macro_rules | `(tactic| walk_at "cmul") => `(tactic| first | exact .inl ⟨by decide, by decide⟩ | exact .inr ⟨by decide, by decide⟩ | exact .inl ⟨by omega, by omega⟩ | exact .inr ⟨by omega, by omega⟩)
local macro_rules | `(tactic| walk_at "go1") => `(tactic| first
  | ((with_reducible refine' g_var ?hx ?_); (case hx => exact rfl))
  | with_reducible refine g_c ?_
  | with_reducible refine g_op ?_
  | with_reducible refine g_asg ?_
  | with_reducible refine g_name ?_
  | with_reducible refine g_cons ?_
  | with_reducible refine g_nil ?_
  | with_reducible refine g_I0 ?_
  | with_reducible refine g_blV ?_
  | with_reducible refine g_test ?_
  | with_reducible refine g_if ?_
  | with_reducible refine g_cb ?_
  | with_reducible refine g_drop ?_
  | with_reducible refine g_ret ?_
  | with_reducible refine g_next ?_
  | with_reducible refine g_callS ?_
  | with_reducible refine g_call ?_
  | with_reducible refine g_eqI ?_
  | with_reducible refine g_neI ?_
  | with_reducible refine g_eqS ?_
  | with_reducible refine g_isN ?_
  | with_reducible refine g_notN ?_
  | ((with_reducible refine g_mod ?h1 ?_); (case h1 => walk_at "side"))
  | ((with_reducible refine g_div ?h1 ?h2 ?_); (case h1 => walk_at "side"); (case h2 => walk_at "side"))
  | ((with_reducible refine g_mul ?h1 ?_); (case h1 => walk_at "cmul"))
  | ((with_reducible refine g_shr ?h1 ?_); (case h1 => walk_at "side"))
  | ((with_reducible refine g_pow ?h1 ?_); (case h1 => exact ⟨by omega, by omega, by omega⟩))
  | ((with_reducible refine' g_aug ?hx ?_); (case hx => exact rfl))
  | with_reducible refine g_ipI ?_
  | with_reducible refine g_sl ?_
  | with_reducible refine g_part ?_
  | with_reducible refine g_partI ?_
  | with_reducible refine g_noPart ?_
  | with_reducible refine g_lst ?_
  | with_reducible refine g_tup ?_
  | with_reducible refine g_tB ?_
  | with_reducible refine g_and ?_
  | with_reducible refine g_or ?_
  | with_reducible refine g_not ?_
  | with_reducible refine g_ifE ?_
  | with_reducible refine g_andV ?_
  | with_reducible refine g_orV ?_
  | with_reducible refine g_notV ?_
  | with_reducible refine g_bm ?_
  | with_reducible refine g_un ?_
  | with_reducible refine g_rU ?_
  | with_reducible refine g_abs ?_
  | with_reducible refine g_max2 ?_
  | with_reducible refine g_min2 ?_
  | with_reducible refine g_intB ?_
  | with_reducible refine g_brk ?_
  | with_reducible refine g_cont ?_
  | with_reducible refine g_raise ?_
  | with_reducible refine g_for ?_
  | with_reducible refine g_lc ?_
  | with_reducible refine g_iL ?_
  | with_reducible refine g_iT ?_
  | with_reducible refine g_iR1 ?_
  | with_reducible refine g_iR2 ?_
  | ((with_reducible refine g_size ?h1 ?_); (case h1 => walk_at "size"))
  | with_reducible refine g_yes ?_
  | with_reducible refine g_ifT ?_
  | with_reducible refine g_ifF ?_
  | ((with_reducible refine g_wipe ?h1 ?_); (case h1 => exact rfl))
  | with_reducible refine g_iS ?_
  | with_reducible refine g_atS ?_
  | with_reducible refine g_iR3 ?_
  | with_reducible refine g_find ?_
  | with_reducible refine g_gsub ?_
  | with_reducible refine g_par ?_
  | with_reducible refine g_par2 ?_
  | with_reducible refine g_gcons ?_
  | with_reducible refine g_gnil ?_
  | with_reducible refine g_meth ?_
  | with_reducible refine g_tFld ?_
  | with_reducible refine g_sFld ?_)
local macro_rules | `(tactic| walk_at "size") => `(tactic| first | decide | exact Nat.le_trans (by assumption) (by decide) | (rw [sizeLine_eq]; (try simp only [List.length_append, List.length_map, List.length_cons, List.length_nil, List.length_replicate]); omega))
local macro_rules | `(tactic| walk_at "hp") => `(tactic| first
  | assumption
  | exact upd_same
  | (refine upd_new (by assumption) ?_; walk_at "hp")
  | (refine upd_get (by assumption) ?_; walk_at "hp")
  | (refine upd_get (Ne.symm (by assumption)) ?_; walk_at "hp")
  | exact (by assumption : Same _ _) _ _ (by assumption))
local macro_rules | `(tactic| walk_at "sq") => `(tactic| first
  | assumption
  | exact SqL.of (by walk_at "hp")
  | (refine seq_new (by assumption) ?_; walk_at "sq")
  | (refine Same.seq (by assumption) ?_; walk_at "sq"))
local macro_rules | `(tactic| walk_at "go") => `(tactic| repeat first | walk_at "go1" | with_reducible refine g_seq ?_)
local macro_rules | `(tactic| walk_at "st") => `(tactic| ((try with_reducible refine g_seq ?_); (repeat walk_at "go1")))

/-! PsFn -/
open PyProof.Rows (envOfC)

/-! ### a def by its name, with its promise -/
def FnC (P : Program) (w : World) (K : PySem.W.Frag) (mg : Str → Option Value) (base : Heap) (CX : CXT) (k : Nat) (x : Str) (ps : List Str) (sp : Sp) : Prop :=
  ∃ fd, FnOk P w K mg base CX k (ga K x) fd ps sp ∧ Binds K fd ps [] ∧ mg x = some (.ref (ga K x)) ∧ PySem.W.keepIn K (.ref (ga K x)) = true
section
variable {X : Cx} {CX : CXT} {k : Nat} {sp : Sp} {E : XK} {x : Str} {ps : List Str} {p pos : Pos} {e : Expr} {es : List Expr} {t : TA} {W : WX}
theorem pe_callF (F : FnC X.prog X.w X.K X.mg X.base CX k x ps sp) (hr : Room k X.A) (hx : Passes CX X E) (ha : PA X (e :: es) t) (hg : Gl X x := by rfl) (hdb : (x == ("__debug__" : Str)) = false := by decide)
    (he : starEach (e :: es) X.env = (false, eval e X.env) :: starEach es X.env := by rfl) (hpl : (backTo pos (starEach es X.env)).any (·.1) = false := by rfl) : PE X (.Call (.Name x p) (e :: es) [] pos) (tCall sp [] E t) := by
  obtain ⟨fd, F, b, m, kp⟩ := F
  exact pe_call F hr hg m kp b .nil hx ha hdb he hpl
theorem pe_callF0 (F : FnC X.prog X.w X.K X.mg X.base CX k x ps sp) (hr : Room k X.A) (hx : Passes CX X E) (hg : Gl X x := by rfl) (hdb : (x == ("__debug__" : Str)) = false := by decide) : PE X (.Call (.Name x p) [] [] pos) (tCall sp [] E tNil) := by
  obtain ⟨fd, F, b, m, kp⟩ := F
  exact pe_call0 F hr hg m kp b .nil hx hdb
theorem pe_callFS (F : FnC X.prog X.w X.K X.mg X.base (L2.CX X.prog X.w) k x ps sp) (hr : Room k X.A) (tk : Takes X W) (ha : PA X (e :: es) t) (hg : Gl X x := by rfl) (hdb : (x == ("__debug__" : Str)) = false := by decide)
    (he : starEach (e :: es) X.env = (false, eval e X.env) :: starEach es X.env := by rfl) (hpl : (backTo pos (starEach es X.env)).any (·.1) = false := by rfl) : PE X (.Call (.Name x p) (e :: es) [] pos) (tCallS sp (WE W) t) := by
  obtain ⟨fd, F, b, m, kp⟩ := F
  exact pe_callS F hr hg m kp b (fun σ => passAt tk σ) ha hdb he hpl
theorem passW (tk : Takes X (wE E)) : Passes (L2.CX X.prog X.w) X E := passes_call tk fun _ _ _ _ h => h
end

/-! ### methods by their names -/
def MtC (P : Program) (w : World) (K : PySem.W.Frag) (mg : Str → Option Value) (base : Heap) (CX : CXT) (k : Nat) (C m : Str) (ps : List Str) (sp : Sp) : Prop :=
  ∃ fd, FnOk P w K mg base CX k (ma K (ga K C) m) fd ps sp ∧ Binds K fd ps []
structure ClsT (K : PySem.W.Frag) (mg : Str → Option Value) (C : Str) : Prop where
  cl : Cls K (ga K C)
  mke : Mk K (ga K C) (ma K (ga K C) "__init__")
  mg : mg C = some (.ref (ga K C))
section
variable {X : Cx} {CX : CXT} {k : Nat} {sp : Sp} {E : XK} {C m : Str} {ps : List Str} {p pos apos : Pos} {e o : Expr} {es : List Expr} {ta : TE} {t : TA} {W : WX}
theorem pe_methF {pl : Sem Bool} (he : PE X o ta) (T : ClsT X.K X.mg C) (hm : Meth X.K (ga X.K C) m (ma X.K (ga X.K C) m)) (F : MtC X.prog X.w X.K X.mg X.base CX k C m ps sp) (hr : Room k X.A) (hx : Passes CX X E) (ha : PA X (e :: es) t)
    (hst : starEach (e :: es) X.env = (false, eval e X.env) :: starEach es X.env := by rfl) (hpl : (backTo pos (starEach es X.env)).any (·.1) = false := by rfl)
    (ht : eval (.Call (.Attribute o m apos) (e :: es) [] pos) X.env = (do
      let ov ← eval o X.env
      standAt apos.atName
      let (f, first) ← holding [ov] (getMethod ov m pl)
      callWith pos f first (backTo pos (starEach (e :: es) X.env)) (backToKw pos (keywordEach [] X.env))) := by rfl) :
    PE X (.Call (.Attribute o m apos) (e :: es) [] pos) (tMeth (ga X.K C) m sp [] E ta t) := by
  obtain ⟨fd, F, b⟩ := F
  exact pe_meth he T.cl hm F hr b .nil hx ha hst hpl ht
theorem pe_makeF (T : ClsT X.K X.mg C) (F : MtC X.prog X.w X.K X.mg X.base CX k C "__init__" ps sp) (hr : Room (k + 1) X.A) (hx : Passes CX X E) (ha : PA X (e :: es) t) (hg : Gl X C := by rfl) (hdb : (C == ("__debug__" : Str)) = false := by decide)
    (he : starEach (e :: es) X.env = (false, eval e X.env) :: starEach es X.env := by rfl) (hpl : (backTo pos (starEach es X.env)).any (·.1) = false := by rfl) : PE X (.Call (.Name C p) (e :: es) [] pos) (tMake (ga X.K C) sp [] E t) := by
  obtain ⟨fd, F, b⟩ := F
  exact pe_make T.mke F hr hg T.mg b .nil hx ha hdb he hpl
end

/-! ### exceptions of an own class without __init__ -/
structure ExcF (K : PySem.W.Frag) (mg : Str → Option Value) (x : Str) : Prop where
  mg : mg x = some (.ref (ga K x))
  ok : (He.Fa.exc x).ok K = true
theorem ps_raiseN {X : Cx} {x m : Str} {j : Nat} {p p2 pos pos2 : Pos} {W : WX} (hc : X.calm = true) (tk : Takes X W) (c : ExcF X.K X.mg x) (hg : Gl X x := by rfl) (hdb : (x == ("__debug__" : Str)) = false := by decide) :
    PS X (.Raise (some (.Call (.Name x p) [.Constant (.str m) j p2] [] pos)) none pos2) (sRaise (ga X.K x) W) := by
  obtain ⟨q, kC, h1, h2⟩ := He.exc_ok c.ok
  exact ps_raise hc tk (pmk_own PySem.F.excBase_ValueError q c.mg kC (raises_own h1 h2) hg hdb)

theorem pe_globI {X : Cx} {x : Str} {n : Int} {pos : Pos} (h : ∃ t, X.mg x = some (.int n t)) (hg : Gl X x := by rfl) (hd : (x == ("__debug__" : Str)) = false := by decide) : PE X (.Name x pos) (tC (.int n)) := by
  obtain ⟨t, h⟩ := h
  exact pe_glob hg h ⟨t, rfl⟩ hd
theorem pe_globS {X : Cx} {x z : Str} {pos : Pos} (h : ∃ t, X.mg x = some (.str z t)) (hg : Gl X x := by rfl) (hd : (x == ("__debug__" : Str)) = false := by decide) : PE X (.Name x pos) (tC (.str z)) := by
  obtain ⟨t, h⟩ := h
  exact pe_glob hg h ⟨t, rfl⟩ hd
theorem pe_globR {X : Cx} {x : Str} {a : Addr} {pos : Pos} (h : X.mg x = some (.ref a)) (hg : Gl X x := by rfl) (hd : (x == ("__debug__" : Str)) = false := by decide) : PE X (.Name x pos) (tC (.ref a)) := pe_glob hg h rfl hd
theorem ip_of {X : Cx} {op : Operator} {q : R2} (h : OpR X (inplaceOp op) q) : PIp X op q := fun pins s σ H x y u v Q I rx ry hq => h pins s σ H x y u v Q I rx ry hq

/-! ### from the text to a promise -/
section
variable {P : Program} {w : World} {K : PySem.W.Frag} {mg : Str → Option Value} {base : Heap} {x qual : Str} {params : Arguments} {body : List Stmt} {scope : Scope} {N ps : List Str} {k : Nat} {sp : Sp}
/-- what the head tells of a def -/
def DefT (K : PySem.W.Frag) (mg : Str → Option Value) (x : Str) (params : Arguments) (body : List Stmt) (scope : Scope) : Prop := (∃ fd, FunD K x x params body scope [] [] (ga K x) fd) ∧ mg x = some (.ref (ga K x))
def MthT (K : PySem.W.Frag) (C m qual : Str) (params : Arguments) (body : List Stmt) (scope : Scope) : Prop := ∃ fd, FunD K m qual params body scope [] [] (ma K (ga K C) m) fd
abbrev BindN (x qual : Str) (params : Arguments) (body : List Stmt) (scope : Scope) (ps : List Str) : Prop := ∀ (kV doc pm : Value) (an : Option Addr) (cdv ct : Value) (us : List Value), us.length = ps.length → bindArgs (PySem.W.fnOf x qual params body scope .none kV doc pm an cdv ct) ⟨us, []⟩ = pure (ps.zip us)
/-- a def that lets nothing out -/
theorem fnc0 (F : DefT K mg x params body scope) (S : FnScope N ps scope) (hb : BindN x x params body scope ps) (len : ∀ vs H Q E, sp vs H Q E → vs.length = ps.length) (t : TS)
    (hbody : ∀ (cdv : Value) (f : Addr) (A : Around) (outer : List Env) (s : Shared) (H : Hp) (E : XK), Room k (A.deeper (envOfC x scope s.heap.objs.size f cdv)) → PSs (cxOf CX0 P w K mg base N x scope f cdv A outer s H E).nox body t)
    (pure_ : ∀ vs H Q E, sp vs H Q E → t ⟨fun _ H' => Q .non H', Q, fun _ _ => False, fun _ _ => False⟩ (start N vs) H) : FnC P w K mg base CX0 (k + 1) x ps sp := by
  obtain ⟨⟨fd, F⟩, m⟩ := F
  exact ⟨fd, F.ok S len fun cdv A outer s H vs Q E hr h => ⟨t, (hbody cdv _ A outer s H E hr).nox, pure_ vs H Q E h⟩, F.bindsN hb, m, F.kp⟩
/-- the law's own def: one object whatever the base is -/
theorem fncA (F : DefT K mg x params body scope) (S : FnScope N ps scope) (len : ∀ vs H Q E, sp vs H Q E → vs.length = ps.length) (t : TS)
    (hbody : ∀ (base : Heap) (cdv : Value) (f : Addr) (A : Around) (outer : List Env) (s : Shared) (H : Hp) (E : XK), Room k (A.deeper (envOfC x scope s.heap.objs.size f cdv)) → PSs (cxOf CX0 P w K mg base N x scope f cdv A outer s H E).nox body t)
    (pure_ : ∀ vs H Q E, sp vs H Q E → t ⟨fun _ H' => Q .non H', Q, fun _ _ => False, fun _ _ => False⟩ (start N vs) H) : ∃ fd, FunD K x x params body scope [] [] (ga K x) fd ∧ ∀ base, FnOk P w K mg base CX0 (k + 1) (ga K x) fd ps sp := by
  obtain ⟨⟨fd, F⟩, m⟩ := F
  exact ⟨fd, F, fun base => F.ok S len fun cdv A outer s H vs Q E hr h => ⟨t, (hbody base cdv _ A outer s H E hr).nox, pure_ vs H Q E h⟩⟩
/-- a def that may raise -/
theorem fncX (F : DefT K mg x params body scope) (S : FnScope N ps scope) (hb : BindN x x params body scope ps) (len : ∀ vs H Q E, sp vs H Q E → vs.length = ps.length) (t : XK → TS)
    (hbody : ∀ (cdv : Value) (f : Addr) (A : Around) (outer : List Env) (s : Shared) (H : Hp) (E : XK), Room k (A.deeper (envOfC x scope s.heap.objs.size f cdv)) → PSs (cxOf (L2.CX P w) P w K mg base N x scope f cdv A outer s H E) body (t E))
    (pure_ : ∀ vs H Q E, sp vs H Q E → t E ⟨fun _ H' => Q .non H', Q, fun _ _ => False, fun _ _ => False⟩ (start N vs) H) : FnC P w K mg base (L2.CX P w) (k + 1) x ps sp := by
  obtain ⟨⟨fd, F⟩, m⟩ := F
  exact ⟨fd, F.ok S len fun cdv A outer s H vs Q E hr h => ⟨t E, hbody cdv _ A outer s H E hr, pure_ vs H Q E h⟩, F.bindsN hb, m, F.kp⟩
theorem mtc0 {C m : Str} (F : MthT K C m qual params body scope) (S : FnScope N ps scope) (hb : BindN m qual params body scope ps) (len : ∀ vs H Q E, sp vs H Q E → vs.length = ps.length) (t : TS)
    (hbody : ∀ (cdv : Value) (f : Addr) (A : Around) (outer : List Env) (s : Shared) (H : Hp) (E : XK), Room k (A.deeper (envOfC qual scope s.heap.objs.size f cdv)) → PSs (cxOf CX0 P w K mg base N qual scope f cdv A outer s H E).nox body t)
    (pure_ : ∀ vs H Q E, sp vs H Q E → t ⟨fun _ H' => Q .non H', Q, fun _ _ => False, fun _ _ => False⟩ (start N vs) H) : MtC P w K mg base CX0 (k + 1) C m ps sp := by
  obtain ⟨fd, F⟩ := F
  exact ⟨fd, F.ok S len fun cdv A outer s H vs Q E hr h => ⟨t, (hbody cdv _ A outer s H E hr).nox, pure_ vs H Q E h⟩, F.bindsN hb⟩
theorem mtcX {C m : Str} (F : MthT K C m qual params body scope) (S : FnScope N ps scope) (hb : BindN m qual params body scope ps) (len : ∀ vs H Q E, sp vs H Q E → vs.length = ps.length) (t : XK → TS)
    (hbody : ∀ (cdv : Value) (f : Addr) (A : Around) (outer : List Env) (s : Shared) (H : Hp) (E : XK), Room k (A.deeper (envOfC qual scope s.heap.objs.size f cdv)) → PSs (cxOf (L2.CX P w) P w K mg base N qual scope f cdv A outer s H E) body (t E))
    (pure_ : ∀ vs H Q E, sp vs H Q E → t E ⟨fun _ H' => Q .non H', Q, fun _ _ => False, fun _ _ => False⟩ (start N vs) H) : MtC P w K mg base (L2.CX P w) (k + 1) C m ps sp := by
  obtain ⟨fd, F⟩ := F
  exact ⟨fd, F.ok S len fun cdv A outer s H vs Q E hr h => ⟨t E, hbody cdv _ A outer s H E hr, pure_ vs H Q E h⟩, F.bindsN hb⟩
end

/-! PsX -/
open PyProof.Rows (envOfC AllBare)

/-! ### an exception that is caught and kept as a value -/
/-- an exception object of the class cls, its dict d, at a -/
def ExV (cls : Value) (d : Option Addr) (a : Addr) : HO := .ext fun h => ∃ (oe : Obj) (vs : Array Value), h.get? a = some oe ∧ Zc cls d oe ∧ oe.data = .fields vs
theorem exV_ok {P : Program} {w : World} {H : Hp} {h : Heap} {a : Addr} {cls : Value} {d : Option Addr} {oe : Obj} {vs : Array Value} (e : h.get? a = some oe) (z : Zc cls d oe) (hd : oe.data = .fields vs) : ObjOk P w H h a (ExV cls d a) :=
  ⟨⟨oe, vs, e, z, hd⟩, ⟨oe, e⟩, fun _ _ ⟨o, v, q, r⟩ k => ⟨o, v, k o q, r⟩⟩
section
variable {X : Cx} {pins : List (Addr × Obj)} {σ : St} {H : Hp} {s sI : Shared}
/-- an object that is on the heap, but wasn't when the state sI stood, is tracked -/
theorem inv_track {a : Addr} {o : HO} (J : Inv X pins σ H sI) (I : Inv X pins σ H s) (hI : sI.heap.get? a = none) (hn : H a = none) (new : ObjOk X.prog X.w (upd H a o) s.heap a o) : Inv X pins σ (upd H a o) s := by
  have hlL : X.env.locals ≠ a := by
    obtain ⟨m, ⟨od, es, ep, ho, _⟩, _⟩ := J.loc
    intro z; rw [z, hI] at ho; cases ho
  have n0 : ∀ o, X.s_0.heap.get? a = some o → X.H_0 a = none → a ∉ X.ex → False := fun o e n hx => by
    obtain ⟨o', e'⟩ := J.base.there a o e hx
    rw [hI] at e'; cases e'
  refine ⟨I.ok, I.os, I.bare, ⟨I.base.keep, I.base.slot, fun b o e n hx => ?_, I.base.there, fun b xs e => ?_, fun b o u e => ?_, fun b ps e => ?_⟩, I.loc, I.cell, ?_, fun x c e => ?_, fun p hp => ?_, I.hok.laidN (fun _ _ z => z) hn new, I.len⟩
  · have : b ≠ a := by
      intro z; subst z; exact n0 o e n hx
    rw [upd_ne this]
    exact I.base.free b o e n hx
  · have q := I.base.tups b xs e
    rw [upd_ne (ne_of_none q hn)]; exact q
  · have q := I.base.frzs b o u e
    rw [upd_ne (ne_of_none q hn)]; exact q
  · obtain ⟨m, q⟩ := I.base.tbls b ps e
    exact ⟨m, by rw [upd_ne (ne_of_none q hn)]; exact q⟩
  · rw [upd_ne hlL]; exact I.free
  · have : c ≠ a := fun z => by
      obtain ⟨v, o, ho, _⟩ := J.cell x c e
      rw [z, hI] at ho; cases ho
    rw [upd_ne this]; exact I.freeC x c e
  · obtain ⟨e, n, ne, nf, d⟩ := I.pin p hp
    have : p.1 ≠ a := fun z => by
      obtain ⟨e', _⟩ := J.pin p hp
      rw [z, hI] at e'; cases e'
    exact ⟨e, by rw [upd_ne this]; exact n, ne, nf, d⟩
theorem inv_suite0 (I : Inv X pins σ H s) (a : Addr) : Inv (X.suite a (X.pn ++ pins)) [] σ H s :=
  ⟨I.ok.suite _ _, I.os, I.bare, I.base, I.loc, I.cell, I.free, I.freeC, fun p hp => I.pin p (by rw [List.append_nil] at hp; exact hp), I.hok, I.len⟩
theorem inv_unsuite0 {a : Addr} {pn' : List (Addr × Obj)} (I : Inv (X.suite a (X.pn ++ pins)) pn' σ H s) (ok : X.Ok) : Inv X pins σ H s :=
  ⟨ok, I.os, I.bare, I.base, I.loc, I.cell, I.free, I.freeC, fun p hp => I.pin p (List.mem_append_left _ hp), I.hok, I.len⟩
end
/-- behind the suite the clause's name is gone -/
abbrev goneAt (i : Nat) (D : Ends) : Ends := ⟨fun τ G => D.nx (τ.set i none) G, D.rt, fun τ G => D.bk (τ.set i none) G, fun τ G => D.ct (τ.set i none) G⟩
/-- what is wished of an exception of the body: one that the clause takes is tracked at its address, and the suite is gone through with it; any other one goes on -/
def wKp (K : PySem.W.Frag) (c : Value) (i : Nat) (ts : TS) (Wo : WX) (D : Ends) : WX := fun cls d τ G =>
  ∃ b, PySem.W.exmOne K cls c = some b ∧ (b = true → ∀ a, G a = none → ts (goneAt i D) (τ.set i (some (.ref a))) (upd G a (ExV cls d a))) ∧ (b = false → Wo cls d τ G)
def tKp (K : PySem.W.Frag) (c : Value) (i : Nat) (tb : WX → TS) (ts : TS) (Wo : WX) : TS := fun D τ G => tb (wKp K c i ts Wo D) D τ G
/-- an exception at a, on its way over X's frames; sI is the last state that the walk knew -/
structure Way (X : Cx) (pins : List (Addr × Obj)) (σ : St) (H : Hp) (sI s : Shared) (B : Heap) (a : Addr) (cls : Value) (d : Option Addr) : Prop where
  inv : Inv X pins σ H sI
  ground : ∀ b o, sI.heap.get? b = some o → b ∉ frs X.stack → B.get? b = some o
  up : sI.heap.UpToSlots s.heap
  fly : HandSPX.FlyingZ B (X.env :: X.outer) a (Zc cls d) s.heap
  os : s.os = sI.os
  gens : AllBare s.gens
  free : H a = none
section
variable {X : Cx} {pins : List (Addr × Obj)} {σ : St} {H : Hp} {sI s : Shared} {B : Heap} {a : Addr} {cls c : Value} {d : Option Addr} {D : Ends} {i : Nat} {x n : Str} {body more : List Stmt} {fst : Stmt} {p1 p2 p3 : Pos} {tb : WX → TS} {ts : TS} {Wo : WX}
theorem Way.next (W : Way X pins σ H sI s B a cls d) {h : Heap} (f : HandSPX.FlyingZ B (X.env :: X.outer) a (Zc cls d) h) (u : s.heap.UpToSlots h) : Way X pins σ H sI { s with heap := h } B a cls d :=
  { W with up := W.up.trans u, fly := f }
theorem Way.now (W : Way X pins σ H sI s B a cls d) : Inv X pins σ H s := W.inv.landed W.ground W.fly.1 W.up W.os W.gens
theorem Way.unknown (W : Way X pins σ H sI s B a cls d) (hs : X.stack = X.env :: X.outer) : sI.heap.get? a = none := by
  obtain ⟨oe, vs, he, _, hv⟩ := W.fly.there
  refine Option.eq_none_iff_forall_ne_some.mpr fun o e => ?_
  have off : a ∉ frs X.stack := by
    rw [hs]
    intro m
    obtain ⟨_, o', e', hn⟩ := W.fly.2.2.1.mem m
    rw [he] at e'
    cases e'
    exact hn _ hv
  have g := W.ground a o e off
  rw [W.fly.2.1] at g
  cases g
/-- the suite, its name given -/
theorem Way.taken (W : Way X pins σ H sI s B a cls d) (hs : X.stack = X.env :: X.outer) (hN : X.N.Nodup) (hi : X.N[i]? = some n) (hln : X.env.kindOf n = some .local) (hsu : PSs (X.suite a (X.pn ++ pins)) (fst :: more) ts) {D' : Ends}
    (go : ts D' (σ.set i (some (.ref a))) (upd H a (ExV cls d a))) {R : Result → Shared → Prop} (hR : ∀ f t, SP (X.suite a (X.pn ++ pins)) [] D' f t → R (.ok f) t) :
    codeAny (model X.prog X.w) (X.A.mark (some (.ref a))) (.handlers (.ref a) [.ExceptHandler none (some n) (fst :: more) p3] X.env) R s := by
  refine codeAny_handlers_suite_as (HandSPX.lands_againZ W.fly fun h f u => ?_)
  have V := W.next f u
  obtain ⟨oe, vs, he, hz, hv⟩ := V.fly.there
  have T := inv_suite0 (inv_track W.inv V.now (W.unknown hs) W.free (exV_ok he hz hv)) a
  refine store_ok (X := X.suite a (X.pn ++ pins)) (v := .ref a) T hN hi (.inl hln) rfl (fun t It => ?_) (.inr hln)
  exact wpAny_mono (hsu.run [] t _ _ D' It go) (fun f t q => hR f t q) fun _ _ z => z.elim
/-- behind the suite -/
theorem Way.leaves (ok : X.Ok) (hN : X.N.Nodup) (hi : X.N[i]? = some n) (hln : X.env.kindOf n = some .local) {f : Flow} {t : Shared} {M : Model} {A : Around} {E : Value → Shared → Prop} (q : SP (X.suite a (X.pn ++ pins)) [] (goneAt i D) f t) :
    wpAny M A (do bindName X.env n .none; unbindBehindTheSuite X.env n p3) (fun _ t' => SP X pins D f t') E t := by
  cases f with
  | ret u =>
    obtain ⟨v, τ, G, I, r, z⟩ := q
    exact gone_ok (inv_unsuite0 I ok) hN hi hln fun _ J => ⟨v, _, G, J, r, z⟩
  | next => obtain ⟨τ, G, I, z⟩ := q; exact gone_ok (inv_unsuite0 I ok) hN hi hln fun _ J => ⟨_, G, J, z⟩
  | brk => obtain ⟨τ, G, I, z⟩ := q; exact gone_ok (inv_unsuite0 I ok) hN hi hln fun _ J => ⟨_, G, J, z⟩
  | cont => obtain ⟨τ, G, I, z⟩ := q; exact gone_ok (inv_unsuite0 I ok) hN hi hln fun _ J => ⟨_, G, J, z⟩
/-- no clause takes it -/
theorem Way.missed (W : Way X pins σ H sI s B a cls d) (hs : X.stack = X.env :: X.outer) (hf : X.env.frame = some X.env.locals) (tk : Takes X Wo) (w : Wo cls d σ H) {Q : Flow → Shared → Prop} : wpAny (model X.prog X.w) X.A (handleBy (.ref a) X.env []) Q X.xe s := by
  have out : wpAny (model X.prog X.w) X.A (do setFlight (.ref a) X.env.frame; (throw (.ref a) : Sem Flow)) Q X.xe s := by
    rw [hf]
    refine wpAny_bind (HandSPX.setFlight_upZ W.fly fun h hh u => wpAny_throw (tk _ _ ⟨a, B, sI, pins, σ, H, cls, d, rfl, W.inv, W.ground, W.up.trans u, .inr (.inr ?_), W.free, W.os, W.gens, w⟩))
    rw [hs]; exact hh
  obtain ⟨_, _, _, oe, vs, T, _, _, he, _, hv, h1, _⟩ := W.fly
  refine wpAny_handleBy_nil ?_
  unfold PySem.passOn
  refine wpAny_bind (wpAny_field he hv h1 ?_)
  have no : (Value.ref T == Value.none) = false := by simp
  rw [if_neg (by rw [no]; exact Bool.false_ne_true)]
  first | exact out | exact wpAny_bind (wpAny_pure out)
/-- try: body / except x as n: suite -/
theorem ps_try_kp (hs : X.stack = X.env :: X.outer) (hf : X.env.frame = some X.env.locals) (hN : X.N.Nodup) (hi : X.N[i]? = some n) (hln : X.env.kindOf n = some .local) (hc : Names X x c) (tk : Takes X Wo)
    (hb : ∀ (W : WX) (pn : List (Addr × Obj)) (xe : Value → Shared → Prop), Takes (X.tr pn xe) W → PassesOwn (model X.prog X.w) X.A X.env xe → PSs (X.tr pn xe) body (tb W))
    (hsu : ∀ (a : Addr) (pn : List (Addr × Obj)), PSs (X.suite a pn) (fst :: more) ts) : PS X (.Try body [.ExceptHandler (some (.Name x p1)) (some n) (fst :: more) p3] [] [] p2) (tKp X.K c i tb ts Wo) := by
  refine ⟨fun pins s σ H D I h => wpAny_Try_except (wpAny_mono ((hb (wKp X.K c i ts Wo D) (X.pn ++ pins) _ ?_ PassesOwn.looking).run [] s σ H D (I.toTry _) h) ?_ fun _ _ z => z)⟩
  · rintro u t ⟨a, B, sI, pn', τ, G, cls, d, rfl, J, gr, up, sky, na, os, ag, b, hb1, yes, no⟩
    rw [show (X.tr (X.pn ++ pins) _).stack = X.env :: X.outer from hs] at sky
    show wpAny (model X.prog X.w) X.A (noteFrame (.ref a) X.env) _ _ _
    refine Sky.land Zc.steady (by rw [I.ok.frames, hs]) hf sky fun h1 f1 u1 => ?_
    have W : Way X pins τ G sI { t with heap := h1 } B a cls d := ⟨J.ofTry I.ok, gr, up.trans u1, f1, os, ag, na⟩
    refine wpAny_handleBy_cons (codeAny_handlers_test ?_) (fun z => by cases z)
    obtain ⟨oe, vs, he, hz, hv⟩ := W.fly.there
    have ask := PySem.W.exm_one (M := model X.prog X.w) W.now.kIn (e := a) (cls := cls) (fun A Q E s k q => wpAny_typeOf_ref (k _ _ he) (by rw [hz.1]; exact q)) hb1
    have S := inv_suite0 W.now a
    obtain ⟨g1, g2, g3⟩ := hc
    have named : ∀ {Q : Value → Shared → Prop} {E : Value → Shared → Prop}, Q c { t with heap := h1 } → wpAny (model X.prog X.w) (X.A.mark (some (.ref a))) (eval (.Name x p1) X.env) Q E { t with heap := h1 } := fun q => by
      rcases g3 with m | ⟨m, v, ne⟩
      · exact ld_glob (X := X.suite a (X.pn ++ pins)) S g1 m q g2
      · exact ld_blt (X := X.suite a (X.pn ++ pins)) S g1 m v q ne g2
    refine named (ask.here ?_)
    cases b with
    | true => exact W.taken hs hN hi hln (hsu a _) (yes rfl a na) fun f t' q => Way.leaves I.ok hN hi hln q
    | false => exact W.missed hs hf tk (no rfl)
  · intro f t q
    cases f with
    | ret u => obtain ⟨v, τ, G, J, z⟩ := q; exact ⟨v, τ, G, J.ofTry I.ok, z⟩
    | next => obtain ⟨τ, G, J, z⟩ := q; exact wpAny_execs_nil ⟨τ, G, J.ofTry I.ok, z⟩
    | brk => obtain ⟨τ, G, J, z⟩ := q; exact ⟨τ, G, J.ofTry I.ok, z⟩
    | cont => obtain ⟨τ, G, J, z⟩ := q; exact ⟨τ, G, J.ofTry I.ok, z⟩
end
/-! ### isinstance of it -/
/-- its dict is there -/
def DOk (H : Hp) (d : Option Addr) : Prop := ∀ dd, d = some dd → ∃ fs, H dd = some (.xd fs)
theorem dok_none {H : Hp} : DOk H none := fun _ z => by cases z
theorem kit_exV {X : Cx} {pins : List (Addr × Obj)} {σ : St} {H : Hp} {s : Shared} {a D : Addr} {d : Option Addr} (I : Inv X pins σ H s) (C : ExcC X.K D) (ha : H a = some (ExV (.ref D) d a)) (hd : DOk H d) : ∃ P : Heap → Prop, PySem.W.KitX X.K (.ref a) (.ref D) P ∧ P s.heap := by
  obtain ⟨⟨oe, vs, ho, hz, hv⟩, _, _⟩ := I.hok a _ ha
  have hcl : (PySem.W.clsIn X.K D).isSome = true := by
    obtain ⟨cd, hc, _⟩ := PySem.W.any_some C.hd
    rw [hc]; rfl
  have nc : PySem.W.notCls oe = true := by unfold PySem.W.notCls; rw [hv] <;> rfl
  cases d with
  | none =>
    have J : PySem.W.InstAt s.heap a oe D none := ⟨ho, hz.1, nc, by rw [hz.2]; trivial⟩
    exact ⟨_, PySem.W.kitx_exc (gt := none) hcl C.hg C.hk C.hs C.ha C.hn C.ht C.hm, J⟩
  | some dd =>
    obtain ⟨fs, hf⟩ := hd dd rfl
    obtain ⟨mA, hns, _⟩ := (show ObjOk X.prog X.w H s.heap dd (.xd fs) from I.hok dd _ hf)
    obtain ⟨od, ho2, _⟩ := lookIn_ns hns
    have J : PySem.W.InstAt s.heap a oe D (some od) := ⟨ho, hz.1, nc, by rw [hz.2]; exact ho2⟩
    exact ⟨_, PySem.W.kitx_exc (gt := none) hcl C.hg C.hk C.hs C.ha C.hn C.ht C.hm, J⟩
def qIsV (K : PySem.W.Frag) : List V → Hp → VK → Prop := fun xs H Q => ∃ (a D : Addr) (d : Option Addr) (c : V) (u : Value) (b : Bool), xs = [.ref a, c] ∧ H a = some (ExV (.ref D) d a) ∧ DOk H d ∧ ExcC K D ∧ ClsV c u ∧ PySem.W.kitOne K (.ref D) u = some b ∧ Q (.bl b) H
def qIsVT (K : PySem.W.Frag) : List V → Hp → VK → Prop := fun xs H Q => ∃ (a D : Addr) (d : Option Addr) (tp : Addr) (cs : List V) (us : List Value) (b : Bool), xs = [.ref a, .ref tp] ∧ H a = some (ExV (.ref D) d a) ∧ DOk H d ∧ ExcC K D ∧ H tp = some (.tup cs) ∧ Paired ClsV cs us ∧ PySem.W.kitAny K (.ref D) us = some b ∧ Q (.bl b) H
theorem takes_no {X : Cx} : Takes X (fun _ _ _ _ => False) := fun _ _ ⟨_, _, _, _, _, _, _, _, _, _, _, _, _, _, _, _, w⟩ => w.elim
theorem call_isV {X : Cx} : CallR X (.builtin "isinstance") (qIsV X.K) := by
  intro pins s σ H xs us Q I r h
  obtain ⟨a, D, d, c, u, b, rfl, ha, hd, C, k, e, q⟩ := h
  obtain ⟨u1, u2, rfl, r1, r2⟩ := vals2 r
  cases (show u1 = Value.ref a from r1)
  have e2 := k.eq r2
  subst e2
  obtain ⟨P, Z, p⟩ := kit_exV I C ha hd
  exact PySem.W.kia_one Z I.kIn p e (fun z => nomatch z) fun tk => ⟨.bl b, H, I.tok tk, rfl, q⟩
theorem call_isVT {X : Cx} : CallR X (.builtin "isinstance") (qIsVT X.K) := by
  intro pins s σ H xs us Q I r h
  obtain ⟨a, D, d, tp, cs, ws, b, rfl, ha, hd, C, hT, k, e, q⟩ := h
  obtain ⟨u1, u2, rfl, r1, r2⟩ := vals2 r
  cases (show u1 = Value.ref a from r1)
  cases (show u2 = Value.ref tp from r2)
  obtain ⟨P, Z, p⟩ := kit_exV I C ha hd
  obtain ⟨_, its, rv, o, h1, h2, n, h3⟩ := (show ObjOk X.prog X.w H s.heap tp (.tup cs) from I.hok tp _ hT)
  have e3 := ClsV.all k rv
  subst e3
  obtain ⟨oc, od, dt, sl⟩ := o
  simp only at h2 h3
  subst h2 h3
  exact PySem.W.kia_tup Z I.kIn p h1 e (fun z => nomatch z) fun tk => ⟨.bl b, H, I.tok tk, rfl, q⟩

/-! PsM0 -/
/-! ### cuts -/
theorem sIx_nat (n d k : Nat) : HT.sIx n d (some (k : Int)) = min k n := HT.sIx_nat n d k
theorem cut_list {α : Type} (xs : List α) (lo hi : Nat) : (xs.drop (min lo xs.length)).take (min hi xs.length - min lo xs.length) = (xs.drop lo).take (hi - lo) := by
  by_cases h : lo ≤ xs.length
  · rw [Nat.min_eq_left h]
    by_cases h2 : hi ≤ xs.length
    · rw [Nat.min_eq_left h2]
    · rw [Nat.min_eq_right (by omega)]
      rw [List.take_of_length_le (by rw [List.length_drop]; omega), List.take_of_length_le (by rw [List.length_drop]; omega)]
  · have e : min lo xs.length = xs.length := Nat.min_eq_right (by omega)
    rw [e, List.drop_length, List.drop_eq_nil_of_le (by omega), List.take_nil, List.take_nil]
theorem cut_mid {α : Type} (f : α → V) (xs : List α) (lo hi : Nat) : cutV (xs.map f) (some (lo : Int)) (some (hi : Int)) = ((xs.drop lo).take (hi - lo)).map f := by
  unfold cutV
  rw [sIx_nat, sIx_nat, List.length_map, ← List.map_drop, ← List.map_take, cut_list]
theorem cut_take {α : Type} (f : α → V) (xs : List α) (hi : Nat) : cutV (xs.map f) none (some (hi : Int)) = (xs.take hi).map f := by
  unfold cutV
  rw [sIx_nat, List.length_map]
  show List.take (min hi xs.length - 0) (List.drop 0 (xs.map f)) = _
  rw [Nat.sub_zero, List.drop_zero, ← List.map_take]
  congr 1
  by_cases h : hi ≤ xs.length
  · rw [Nat.min_eq_left h]
  · rw [Nat.min_eq_right (by omega), List.take_length, List.take_of_length_le (by omega)]
theorem cut_drop {α : Type} (f : α → V) (xs : List α) (lo : Nat) : cutV (xs.map f) (some (lo : Int)) none = (xs.drop lo).map f := by
  unfold cutV
  rw [sIx_nat, List.length_map]
  show List.take (xs.length - min lo xs.length) (List.drop (min lo xs.length) (xs.map f)) = _
  rw [← List.map_drop, ← List.map_take, List.take_of_length_le (by rw [List.length_drop]; exact Nat.le_refl _)]
  by_cases h : lo ≤ xs.length
  · rw [Nat.min_eq_left h]
  · have e : min lo xs.length = xs.length := Nat.min_eq_right (by omega)
    rw [e, List.drop_length, List.drop_eq_nil_of_le (by omega)]
/-! ### texts as lists of codes -/
abbrev tx (l : List Nat) : Str := ⟨l.toArray⟩
theorem tx_len (l : List Nat) : (tx l).length = l.length := by rw [TL.len_tl]
theorem tx_app (a b : List Nat) : tx a ++ tx b = tx (a ++ b) := TL.ext_tl (TL.tl_append _ _)
theorem tx_inj {a b : List Nat} (h : tx a = tx b) : a = b := congrArg TL.tl h
theorem tx_num (n : Nat) : Str.ofString (toString (n : Int)) = tx (TL.numL n) := TL.ext_tl (TL.tl_num n)
theorem cutS_mid (l : List Nat) (lo hi : Nat) : cutS (tx l) (some (lo : Int)) (some (hi : Int)) = tx ((l.drop lo).take (hi - lo)) := by
  unfold cutS
  rw [sIx_nat, sIx_nat, tx_len]
  show tx ((l.drop _).take _) = _
  rw [cut_list]
theorem zfill_num (n s : Nat) : Txt.zfill (tx (TL.numL n)) (s : Int) = tx (List.replicate (s - (TL.numL n).length) 48 ++ TL.numL n) := by
  unfold Txt.zfill
  split
  · rename_i h
    rw [tx_len] at h
    rw [show s - (TL.numL n).length = 0 by omega]
    rfl
  · rename_i h
    unfold zfilled
    have h0 : ∀ c, (tx (TL.numL n)).cps[0]? = some c → 48 ≤ c := fun c hc => by
      have hm : c ∈ TL.numL n := by
        have : (TL.numL n)[0]? = some c := by simpa using hc
        exact List.mem_of_getElem? this
      have := TL.numL_digits n c hm
      omega
    have e : (Int.toNat (s : Int)) = s := rfl
    split
    · rename_i hc; exact absurd (h0 _ hc) (by decide)
    · rename_i hc; exact absurd (h0 _ hc) (by decide)
    · rw [e, tx_len]
      apply TL.ext_tl
      simp [Builtin.Str.padded, TL.tl]
theorem atI_toNat {α : Type} {xs : List α} {i : Int} {v : α} (h0 : 0 ≤ i) (h : xs[i.toNat]? = some v) : atI xs i = some v := by
  obtain ⟨m, rfl⟩ := Int.eq_ofNat_of_zero_le h0
  exact atI_nat h

/-! ### the place of a sign in a text -/
section
open StrLaws Builtin Builtin.Str
theorem occ_done (x y : Str) (k : Nat) : ∀ (l : List Nat) (f : Nat), (forIn l (#[k], f) (occBody x y x.length 1)).run.fst = #[k]
  | [], f => rfl
  | a :: l, f => by
    rw [List.forIn_cons]
    have e : occBody x y x.length 1 a (#[k], f) = pure (ForInStep.yield (#[k], f)) := by
      unfold occBody
      rw [if_neg (fun h => absurd h.1.1.1 (by simp))]
    rw [e]
    exact occ_done x y k l f
theorem occ_at (x : Str) (c k : Nat) (hk : x.cps.toList[k]? = some c) : ∀ (n lo f : Nat), f ≤ lo → lo ≤ k → k < lo + n → (∀ j, lo ≤ j → j < k → x.cps.toList[j]? ≠ some c) → (forIn (List.range' lo n) ((#[] : Array Nat), f) (occBody x ⟨#[c]⟩ x.length 1)).run.fst = #[k]
  | 0, lo, f, _, _, h, _ => by omega
  | n + 1, lo, f, hf, h1, h2, h3 => by
    rw [List.range'_succ, List.forIn_cons]
    by_cases e : lo = k
    · subst e
      have s1 := (subAt_one x c lo).mpr hk
      have eb : occBody x ⟨#[c]⟩ x.length 1 lo (#[], f) = pure (ForInStep.yield (#[lo], lo + (⟨#[c]⟩ : Str).length)) := by
        unfold occBody
        rw [if_pos ⟨⟨⟨by simp, hf⟩, s1.1⟩, s1.2⟩]
        rfl
      rw [eb]
      exact occ_done x _ lo _ _
    · have s1 : ¬ (lo + (⟨#[c]⟩ : Str).length ≤ x.length ∧ subAt x ⟨#[c]⟩ lo = true) := fun z => h3 lo (Nat.le_refl _) (by omega) ((subAt_one x c lo).mp z)
      have eb : occBody x ⟨#[c]⟩ x.length 1 lo (#[], f) = pure (ForInStep.yield (#[], f)) := by
        unfold occBody
        rw [if_neg (fun z => s1 ⟨z.1.2, z.2⟩)]
      rw [eb]
      exact occ_at x c k hk n (lo + 1) f (by omega) (by omega) (by omega) fun j hj hj2 => h3 j (by omega) hj2
theorem idxOf_first : ∀ (l : List Nat) (c j : Nat), j < l.idxOf c → l[j]? ≠ some c
  | [], c, j, h => by simp at h
  | a :: l, c, j, h => by
    rw [List.idxOf_cons] at h
    by_cases e : a = c
    · subst e; simp at h
    · have eb : (a == c) = false := beq_eq_false_iff_ne.mpr e
      rw [eb] at h
      cases j with
      | zero => simpa using e
      | succ j =>
        have h' : j < l.idxOf c := by simpa using h
        simpa using idxOf_first l c j h'
theorem occ_one {l : List Nat} {c : Nat} (h : c ∈ l) : occurrences (tx l) (tx [c]) 0 (tx l).length 1 = [l.idxOf c] := by
  have hi : l.idxOf c < l.length := List.idxOf_lt_length_of_mem h
  have hk : (tx l).cps.toList[l.idxOf c]? = some c := by
    show l[l.idxOf c]? = some c
    rw [List.getElem?_eq_getElem hi, List.getElem_idxOf hi]
  rw [occ_eq]
  show ((forIn (List.range' 0 ((tx l).length + 1 - 0)) ((#[] : Array Nat), 0) (occBody (tx l) ⟨#[c]⟩ (tx l).length 1)).run.fst).toList = _
  rw [occ_at (tx l) c (l.idxOf c) hk _ 0 0 (Nat.le_refl _) (Nat.zero_le _) (by rw [tx_len]; omega) fun j _ hj => ?_]
  show l[j]? ≠ some c
  intro z
  exact idxOf_first l c j hj z
theorem find_one {l : List Nat} {c : Nat} (h : c ∈ l) : Txt.find (tx l) (tx [c]) = ((l.idxOf c : Nat) : Int) := by
  unfold Txt.find
  rw [occ_one h]
end
theorem fitsL {i : Int} (h1 : -1000000000 ≤ i) (h2 : i ≤ 1000000000) : Builtin.Range.rangeFitsLong i = true := by
  unfold Builtin.Range.rangeFitsLong
  exact Bool.and_eq_true_iff.mpr ⟨decide_eq_true (by omega), decide_eq_true (by omega)⟩
theorem rgC_up (a n : Nat) (c m : Nat) (hc : 0 < c) (hc2 : c ≤ 1000) (ha : a ≤ 1000000) (hn : n ≤ 1000000) (hm : m = (n - a + (c - 1)) / c) : RgC (a : Int) (n : Int) (c : Int) m := by
  have e : Builtin.Range.rangeSize (a : Int) (n : Int) (c : Int) = (m : Int) := by
    unfold Builtin.Range.rangeSize
    rw [if_pos (by omega)]
    split
    · rename_i h
      have e1 : (n : Int) - a - 1 = ((n - a - 1 : Nat) : Int) := by omega
      rw [e1, ← Int.natCast_ediv]
      have e2 : n - a + (c - 1) = (n - a - 1) + c := by omega
      rw [hm, e2, Nat.add_div_right _ hc]
      rfl
    · rename_i h
      have e2 : n - a = 0 := by omega
      rw [hm, e2, Nat.zero_add, Nat.div_eq_of_lt (by omega)]; rfl
  have hml : m ≤ 1000000 + 1000 := by
    rw [hm]
    exact Nat.le_trans (Nat.div_le_self _ _) (by omega)
  refine ⟨by omega, by omega, ?_, e⟩
  unfold Builtin.Range.small
  rw [e, fitsL (by omega) (by omega), fitsL (by omega) (by omega), fitsL (by omega) (by omega), fitsL (by omega) (by omega), if_pos (by omega), fitsL (by omega) (by omega), Bool.or_true]
  rfl
theorem range3 (n : Nat) (hn : n ≤ 1000000) : RgC 0 (n : Int) 3 ((n + 2) / 3) := rgC_up 0 n 3 _ (by decide) (by decide) (by decide) hn (by rw [Nat.sub_zero])

/-! PsM1 -/
/-! ### numbers as bits -/
def numOf (l : List Int) : Int := l.foldl (fun n b => 2 * n + b) 0
def B01 (l : List Int) : Prop := ∀ b ∈ l, b = 0 ∨ b = 1
instance (l : List Int) : Decidable (B01 l) := inferInstanceAs (Decidable (∀ b ∈ l, b = 0 ∨ b = 1))
theorem B01.take {l : List Int} (h : B01 l) (n : Nat) : B01 (l.take n) := fun b hb => h b (List.mem_of_mem_take hb)
theorem B01.drop {l : List Int} (h : B01 l) (n : Nat) : B01 (l.drop n) := fun b hb => h b (List.mem_of_mem_drop hb)
theorem B01.append {l m : List Int} (h : B01 l) (g : B01 m) : B01 (l ++ m) := fun b hb => (List.mem_append.mp hb).elim (h b) (g b)
theorem bitOr_shl {n b : Int} (h0 : 0 ≤ n) (hb : b = 0 ∨ b = 1) : Builtin.bitOr (n * 2 ^ (1 : Int).toNat) b = 2 * n + b := by
  have e : (1 : Int).toNat = 1 := rfl
  rw [e, _root_.Bits.bitOr_join' (k := 1) (by omega) (by omega) h0]
  omega
theorem fold_bound : ∀ (l : List Int) (n : Int) (k : Nat), B01 l → 0 ≤ n → n < 2 ^ k → 0 ≤ l.foldl (fun n b => 2 * n + b) n ∧ l.foldl (fun n b => 2 * n + b) n < 2 ^ (k + l.length)
  | [], n, k, _, h0, h1 => ⟨h0, h1⟩
  | b :: l, n, k, hb, h0, h1 => by
    have h2 := hb b List.mem_cons_self
    have e : (2 : Int) ^ (k + 1) = 2 * 2 ^ k := by rw [Int.pow_succ, Int.mul_comm]
    have ih := fold_bound l (2 * n + b) (k + 1) (fun c hc => hb c (List.mem_cons_of_mem _ hc)) (by omega) (by rw [e]; omega)
    rw [List.length_cons, show k + (l.length + 1) = k + 1 + l.length by omega]
    exact ih
theorem numOf_bound {l : List Int} (h : B01 l) : 0 ≤ numOf l ∧ numOf l < 2 ^ l.length := by
  have := fold_bound l 0 0 h (by omega) (by decide)
  rw [Nat.zero_add] at this
  exact this
theorem pow2_le {a b : Nat} (h : a ≤ b) : (2 : Int) ^ a ≤ 2 ^ b := by
  have h1 : (2 : Nat) ^ a ≤ 2 ^ b := Nat.pow_le_pow_right (by decide) h
  exact_mod_cast h1
theorem fold_append (l : List Int) (b n : Int) : (l ++ [b]).foldl (fun n b => 2 * n + b) n = 2 * l.foldl (fun n b => 2 * n + b) n + b := by
  rw [List.foldl_append]; rfl

/-! ### the reader of pieces, over the bits that are left -/
def rdN (c : Nat) (l : List Int) : Option (Int × List Int) := if c ≤ l.length then some (numOf (l.take c), l.drop c) else none
def gBits (s : Nat) : Nat := if s = 3 then 10 else 3 * s + 1
def gSizes (n : Nat) : List Nat := List.replicate (n / 3) 3 ++ (if n % 3 = 0 then [] else [n % 3])
def pad : Nat → Nat → List Nat
  | 0, _ => []
  | s + 1, n => pad s (n / 10) ++ [48 + n % 10]
def rdFigs : List Nat → List Int → Option (List Nat × List Int)
  | [], l => some ([], l)
  | s :: r, l => match rdN (gBits s) l with
    | none => none
    | some (n, l1) => if (10 : Int) ^ s ≤ n then none else match rdFigs r l1 with
      | none => none
      | some (t, l2) => some (pad s n.toNat ++ t, l2)
def rdSigns (known : List Nat) (w : Nat) : Nat → List Int → Option (List Nat × List Int)
  | 0, l => some ([], l)
  | c + 1, l => match rdN w l with
    | none => none
    | some (n, l1) => if (known.length : Int) ≤ n then none else match rdSigns known w c l1 with
      | none => none
      | some (t, l2) => some (known.getD n.toNat 0 :: t, l2)
def capL : List Nat := [32, 65, 66, 67, 68, 69, 70, 71, 72, 73, 74, 75, 76, 77, 78, 79, 80, 81, 82, 83, 84, 85, 86, 87, 88, 89, 90, 46, 44, 45, 58, 47]
def sgnL : List Nat := [32, 33, 34, 35, 36] ++ (List.range' 38 89)
def figL : List Nat := List.range' 48 10
def rdBody (k : Int) (c : Nat) (l : List Int) : Option (List Nat × List Int) := if k = 1 then rdFigs (gSizes c) l else if k = 2 then rdSigns capL 5 c l else rdSigns sgnL 7 c l
def rdAft : Nat → Int → List Int → Option (List (Int × List Nat) × List Int)
  | 0, _, _ => none
  | f + 1, k, l => if k = 0 then some ([], l) else match rdN 6 l with
    | none => none
    | some (c, l2) => match rdBody k (c.toNat + 1) l2 with
      | none => none
      | some (s, l3) => match rdN 2 l3 with
        | none => none
        | some (k', l4) => match rdAft f k' l4 with
          | none => none
          | some (ps, l5) => some ((k, s) :: ps, l5)
def rdAll (l : List Int) : Option (List (Int × List Nat) × List Int) := match rdN 2 l with
  | none => none
  | some (k, l1) => rdAft (l1.length + 1) k l1
def cCAPITALS : Str := ⟨capL.toArray⟩
def cSIGNS : Str := ⟨sgnL.toArray⟩
def cFIGURES : Str := ⟨figL.toArray⟩

theorem rdN_some {c : Nat} {l l1 : List Int} {n : Int} (h : rdN c l = some (n, l1)) : c ≤ l.length ∧ n = numOf (l.take c) ∧ l1 = l.drop c := by
  unfold rdN at h
  split at h
  · rename_i hc; cases h; exact ⟨hc, rfl, rfl⟩
  · cases h
theorem rdN_none {c : Nat} {l : List Int} (h : rdN c l = none) : l.length < c := by
  unfold rdN at h
  split at h
  · cases h
  · omega
theorem rdN_yes {c : Nat} {l : List Int} (h : c ≤ l.length) : rdN c l = some (numOf (l.take c), l.drop c) := if_pos h
theorem rdN_no {c : Nat} {l : List Int} (h : l.length < c) : rdN c l = none := if_neg (by omega)
theorem rdFigs_len : ∀ {r : List Nat} {l l2 : List Int} {t : List Nat}, rdFigs r l = some (t, l2) → ∃ k, l2 = l.drop k ∧ k ≤ l.length
  | [], l, l2, t, h => by cases h; exact ⟨0, rfl, Nat.zero_le _⟩
  | s :: r, l, l2, t, h => by
    unfold rdFigs at h
    split at h
    · cases h
    · rename_i n l1 e
      obtain ⟨h1, _, rfl⟩ := rdN_some e
      split at h
      · cases h
      · split at h
        · cases h
        · rename_i t' l2' e2
          cases h
          obtain ⟨k, rfl, hk⟩ := rdFigs_len e2
          rw [List.length_drop] at hk
          exact ⟨gBits s + k, by rw [List.drop_drop], by omega⟩
theorem rdSigns_len {known : List Nat} {w : Nat} : ∀ {c : Nat} {l l2 : List Int} {t : List Nat}, rdSigns known w c l = some (t, l2) → ∃ k, l2 = l.drop k ∧ k ≤ l.length
  | 0, l, l2, t, h => by cases h; exact ⟨0, rfl, Nat.zero_le _⟩
  | c + 1, l, l2, t, h => by
    unfold rdSigns at h
    split at h
    · cases h
    · rename_i n l1 e
      obtain ⟨h1, _, rfl⟩ := rdN_some e
      split at h
      · cases h
      · split at h
        · cases h
        · rename_i t' l2' e2
          cases h
          obtain ⟨k, rfl, hk⟩ := rdSigns_len e2
          rw [List.length_drop] at hk
          exact ⟨w + k, by rw [List.drop_drop], by omega⟩
theorem rdBody_len {k : Int} {c : Nat} {l l2 : List Int} {t : List Nat} (h : rdBody k c l = some (t, l2)) : ∃ k, l2 = l.drop k ∧ k ≤ l.length := by
  unfold rdBody at h
  split at h
  · exact rdFigs_len h
  · split at h
    · exact rdSigns_len h
    · exact rdSigns_len h
theorem rdAft_fuel : ∀ (f g : Nat) (k : Int) (l : List Int), l.length < f → l.length < g → rdAft f k l = rdAft g k l
  | 0, _, _, _, h, _ => by omega
  | _, 0, _, _, _, h => by omega
  | f + 1, g + 1, k, l, hf, hg => by
    unfold rdAft
    split
    · rfl
    · cases e1 : rdN 6 l with
      | none => rfl
      | some p =>
        obtain ⟨c, l2⟩ := p
        obtain ⟨h1, _, rfl⟩ := rdN_some e1
        dsimp only
        cases e2 : rdBody k (c.toNat + 1) (l.drop 6) with
        | none => rfl
        | some p =>
          obtain ⟨s, l3⟩ := p
          obtain ⟨j, rfl, hj⟩ := rdBody_len e2
          dsimp only
          cases e3 : rdN 2 ((l.drop 6).drop j) with
          | none => rfl
          | some p =>
            obtain ⟨k', l4⟩ := p
            obtain ⟨h2, _, rfl⟩ := rdN_some e3
            dsimp only
            rw [List.length_drop, List.length_drop] at h2
            rw [rdAft_fuel f g k' _ (by rw [List.length_drop, List.length_drop, List.length_drop]; omega) (by rw [List.length_drop, List.length_drop, List.length_drop]; omega)]

/-! ### figures -/
theorem pad_len : ∀ (s n : Nat), (pad s n).length = s
  | 0, _ => rfl
  | s + 1, n => by unfold pad; rw [List.length_append, pad_len s]; rfl
theorem numL_zero : TL.numL 0 = [48] := TL.numL_lt (by decide)
/-- the figures of n, filled up with noughts -/
theorem pad_num : ∀ (s n : Nat), 0 < s → n < 10 ^ s → pad s n = List.replicate (s - (TL.numL n).length) 48 ++ TL.numL n
  | 0, _, h, _ => by omega
  | 1, n, _, h => by
    have h1 : n < 10 := by simpa using h
    rw [TL.numL_lt h1]
    have e : n % 10 = n := Nat.mod_eq_of_lt h1
    show [] ++ [48 + n % 10] = _
    rw [e]; rfl
  | s + 2, n, _, h => by
    have hd : n / 10 < 10 ^ (s + 1) := by
      rw [Nat.div_lt_iff_lt_mul (by decide)]
      rw [Nat.pow_succ] at h; exact h
    have ih := pad_num (s + 1) (n / 10) (by omega) hd
    show pad (s + 1) (n / 10) ++ [48 + n % 10] = _
    rw [ih]
    by_cases hn : n < 10
    · have e : n / 10 = 0 := by omega
      have e2 : n % 10 = n := Nat.mod_eq_of_lt hn
      rw [e, e2, numL_zero, TL.numL_lt hn]
      show (List.replicate (s + 1 - 1) 48 ++ [48]) ++ [48 + n] = List.replicate (s + 2 - 1) 48 ++ [48 + n]
      rw [show s + 1 - 1 = s by omega, show s + 2 - 1 = s + 1 by omega, List.replicate_succ']
    · rw [TL.numL_step (n := n) (by omega)]
      rw [List.length_append, List.length_singleton, ← List.append_assoc]
      rw [show s + 2 - ((TL.numL (n / 10)).length + 1) = s + 1 - (TL.numL (n / 10)).length by omega]
theorem numL_le {n s : Nat} (hs : 0 < s) : (TL.numL n).length ≤ s ↔ n < 10 ^ s := by
  constructor
  · intro h
    induction s generalizing n with
    | zero => omega
    | succ s ih =>
      by_cases hn : n < 10
      · exact Nat.lt_of_lt_of_le hn (by rw [Nat.pow_succ]; have : 0 < 10 ^ s := Nat.pow_pos (by decide); omega)
      · rw [TL.numL_step (by omega), List.length_append, List.length_singleton] at h
        have h1 : 0 < s := by
          have : 0 < (TL.numL (n / 10)).length := List.length_pos_iff.mpr (TL.numL_ne _)
          omega
        have := ih h1 (n := n / 10) (by omega)
        rw [Nat.pow_succ]
        omega
  · exact fun h => TL.numL_len hs h

/-! PsA1 -/
/-! ### number_of, group_sizes, group_bits -/
abbrev N_number_of : List Str := ["bits", "number", "bit"]
def t_number_of (K : PySem.W.Frag) : TS :=
  tSeq (tAsg (tC (.int 0)) (gName 1)) (tSeq (tFor (iList K (tVar 0)) (gName 2) (tAsg (tOp qOr (tOp qShl (tVar 1) (tC (.int 1))) (tVar 2)) (gName 1))) (tRet (tVar 1)))
def sp_number_of (K : PySem.W.Frag) : Sp := fun vs H Q _ => ∃ (a : Addr) (l : List Int), vs = [.ref a] ∧ SqL K H a (l.map V.int) ∧ B01 l ∧ l.length ≤ 60 ∧ Q (.int (numOf l)) H
theorem len_number_of (K : PySem.W.Frag) (vs : List V) (H : Hp) (Q : VK) (E : XK) (h : sp_number_of K vs H Q E) : vs.length = (["bits"] : List Str).length := by
  obtain ⟨a, l, rfl, _⟩ := h; rfl
theorem pure_number_of (K : PySem.W.Frag) (vs : List V) (H : Hp) (Q : VK) (E : XK) (h : sp_number_of K vs H Q E) : t_number_of K ⟨fun _ H' => Q .non H', Q, fun _ _ => False, fun _ _ => False⟩ (start N_number_of vs) H := by
  obtain ⟨a, l, rfl, hS, hb, hl, q⟩ := h
  unfold t_number_of
  walk_at "go"
  refine g_atL hS ?_
  refine forL V.int l (fun rest σ H' => H' = H ∧ ∃ v2 n, σ = [some (.ref a), some (.int n), v2] ∧ rest.foldl (fun n b => 2 * n + b) n = numOf l ∧ 0 ≤ n ∧ n < 2 ^ (l.length - rest.length)) ⟨rfl, none, 0, rfl, rfl, by omega, by rw [Nat.sub_self]; decide⟩ ?_ ?_ ?_
  · rintro d r σ H' _ ⟨rfl, _⟩
    exact hS
  · rintro d x r σ H' rfl ⟨rfl, v2, n, rfl, e, h0, h1⟩
    have hx := hb x (List.mem_append_right _ List.mem_cons_self)
    rw [List.length_append, List.length_cons] at h1 hl
    have hd : d.length ≤ 59 := by omega
    have e1 : d.length + (r.length + 1) - (r.length + 1) = d.length := by omega
    rw [e1] at h1
    have h3 : n < 2 ^ 59 := Int.lt_of_lt_of_le h1 (pow2_le hd)
    walk_at "go"
    refine ⟨rfl, some (.int x), 2 * n + x, ?_, e, by omega, ?_⟩
    · rw [bitOr_shl h0 hx]; rfl
    · rw [List.length_append, List.length_cons, show d.length + (r.length + 1) - r.length = d.length + 1 by omega, Int.pow_succ]
      omega
  · rintro σ H' ⟨rfl, v2, n, rfl, e, _⟩
    walk_at "go"
    rw [← e] at q
    exact q
abbrev N_group_sizes : List Str := ["count", "sizes"]
def t_group_sizes (K : PySem.W.Frag) : TS :=
  tSeq (tAsg (tOp rRep (tLst (tCons (tC (.int 3)) tNil)) (tOp qDiv (tVar 0) (tC (.int 3)))) (gName 1)) (tSeq (tIfS (tTest (tOp rNe (tOp qMod (tVar 0) (tC (.int 3))) (tC (.int 0)))) (tDrop (tBM K "list" rAppend (tVar 1) (tCons (tOp qMod (tVar 0) (tC (.int 3))) tNil))) (tNext)) (tRet (tVar 1)))
def natV (n : Nat) : V := .int (n : Int)
def sp_group_sizes (K : PySem.W.Frag) : Sp := fun vs H Q _ => ∃ n : Nat, vs = [.int (n : Int)] ∧ n ≤ 100000 ∧ ∀ H' p, Same H H' → H p = none → H' p = some (.lst ((gSizes n).map natV)) → Q (.ref p) H'
theorem len_group_sizes (K : PySem.W.Frag) (vs : List V) (H : Hp) (Q : VK) (E : XK) (h : sp_group_sizes K vs H Q E) : vs.length = (["count"] : List Str).length := by
  obtain ⟨a, rfl, _⟩ := h; rfl
theorem pure_group_sizes (K : PySem.W.Frag) (vs : List V) (H : Hp) (Q : VK) (E : XK) (h : sp_group_sizes K vs H Q E) : t_group_sizes K ⟨fun _ H' => Q .non H', Q, fun _ _ => False, fun _ _ => False⟩ (start N_group_sizes vs) H := by
  obtain ⟨n, rfl, hn, q⟩ := h
  unfold t_group_sizes
  walk_at "go"
  intro p hp
  walk_at "go"

  have e3 : ((n : Int) / 3).toNat = n / 3 := by omega
  refine g_rep (xs := [.int 3]) upd_same (by omega) (by omega) (by rw [e3, sizeLine_eq, List.length_singleton]; omega) ?_
  intro l hl
  have hl0 : H l = none := by
    by_cases e : l = p
    · rw [e]; exact hp
    · rw [upd_ne e] at hl; exact hl
  have sm : Same H (upd (upd H p (.lst [.int 3])) l (.lst (List.replicate ((n : Int) / 3).toNat [V.int 3]).flatten)) := same_new (same_new (Same.refl H) hp) hl
  have er : (List.replicate ((n : Int) / 3).toNat [V.int 3]).flatten = (List.replicate (n / 3) 3).map natV := by
    rw [e3, List.map_replicate]
    induction n / 3 with
    | zero => rfl
    | succ k ih => rw [List.replicate_succ, List.flatten_cons, ih, List.replicate_succ]; rfl
  rw [er] at sm ⊢
  walk_at "go"
  refine g_iteN (fun hm => ?_) (fun hm => ?_)
  · walk_at "go"
    refine g_tyL (SqL.of upd_same) ?_
    walk_at "go"
    refine g_app upd_same (by rw [sizeLine_eq, List.length_map, List.length_replicate]; omega) ?_
    walk_at "go"
    refine q _ l (same_mut sm hl0) hl0 ?_
    rw [upd_same]
    unfold gSizes
    rw [if_neg (by omega), List.map_append]
    rfl
  · walk_at "go"
    refine q _ l sm hl0 ?_
    rw [upd_same]
    unfold gSizes
    rw [if_pos (by omega), List.append_nil]
abbrev N_group_bits : List Str := ["size"]
def t_group_bits (K : PySem.W.Frag) : TS :=
  tSeq (tIfS (tTest (tOp rEq (tVar 0) (tC (.int 3)))) (tRet (tC (.int 10))) (tNext)) (tRet (tOp qAdd (tOp qMul (tC (.int 3)) (tVar 0)) (tC (.int 1))))
def sp_group_bits (K : PySem.W.Frag) : Sp := fun vs H Q _ => ∃ n : Nat, vs = [.int (n : Int)] ∧ Q (.int (gBits n : Int)) H
theorem len_group_bits (K : PySem.W.Frag) (vs : List V) (H : Hp) (Q : VK) (E : XK) (h : sp_group_bits K vs H Q E) : vs.length = (["size"] : List Str).length := by
  obtain ⟨a, rfl, _⟩ := h; rfl
theorem pure_group_bits (K : PySem.W.Frag) (vs : List V) (H : Hp) (Q : VK) (E : XK) (h : sp_group_bits K vs H Q E) : t_group_bits K ⟨fun _ H' => Q .non H', Q, fun _ _ => False, fun _ _ => False⟩ (start N_group_bits vs) H := by
  obtain ⟨n, rfl, q⟩ := h
  unfold t_group_bits
  unfold gBits at q
  walk_at "go"

  refine g_ite (fun hm => ?_) (fun hm => ?_)
  · walk_at "go"
    rw [if_pos (by omega)] at q
    exact q
  · walk_at "go"
    rw [if_neg (by omega)] at q
    exact q

/-! PsA2 -/
/-! ### the reader's object -/
def SameX (x : Addr) (H H' : Hp) : Prop := ∀ b o, b ≠ x → H b = some o → H' b = some o
theorem SameX.refl (x : Addr) (H : Hp) : SameX x H H := fun _ _ _ e => e
theorem SameX.trans {x : Addr} {H H1 H2 : Hp} (a : SameX x H H1) (b : SameX x H1 H2) : SameX x H H2 := fun c o n e => b c o n (a c o n e)
theorem SameX.of {x : Addr} {H H1 : Hp} (a : Same H H1) : SameX x H H1 := fun c o _ e => a c o e
theorem SameX.mut {x : Addr} {H H1 : Hp} {o : HO} (a : SameX x H H1) : SameX x H (upd H1 x o) := fun c u n e => by rw [upd_ne n]; exact a c u n e
theorem SameX.new {x p : Addr} {H H1 : Hp} {o : HO} (a : SameX x H H1) (h : H1 p = none) : SameX x H (upd H1 p o) := fun c u n e => by
  have := a c u n e
  rw [upd_ne (ne_of_none this h)]; exact this
structure KtB (K : PySem.W.Frag) : Prop where
  cl : Cls K (ga K "BitRow")
  nb : NoAttr K (ga K "BitRow") "bits"
  np : NoAttr K (ga K "BitRow") "place"
abbrev rowO (K : PySem.W.Frag) (dx l : Addr) (p : Nat) : HO := .ins (ga K "BitRow") dx [(("bits" : Str), .ref l), (("place" : Str), .int (p : Int))]
/-- at x a row over the bits bs, its place p -/
def RowAt (K : PySem.W.Frag) (H : Hp) (x dx l : Addr) (bs : List Int) (p : Nat) : Prop := H x = some (rowO K dx l p) ∧ H l = some (.lst (bs.map V.int)) ∧ B01 bs ∧ p ≤ bs.length ∧ bs.length ≤ 100000
abbrev N_BitRow_init : List Str := ["self", "bits"]
def t_BitRow_init (K : PySem.W.Frag) : TS :=
  tSeq (sFld K (tVar 0) (tCB (qListOf K) (tCons (tVar 1) tNil)) "bits") (sFld K (tVar 0) (tC (.int 0)) "place")
def sp_BitRow_init (K : PySem.W.Frag) : Sp := fun vs H Q _ => ∃ (x dx a : Addr) (bs : List Int), vs = [.ref x, .ref a] ∧ H x = some (.ins (ga K "BitRow") dx []) ∧ SqL K H a (bs.map V.int) ∧ B01 bs ∧ bs.length ≤ 100000 ∧
  ∀ H' l, SameX x H H' → H l = none → RowAt K H' x dx l bs 0 → Q .non H'
theorem len_BitRow_init (K : PySem.W.Frag) (vs : List V) (H : Hp) (Q : VK) (E : XK) (h : sp_BitRow_init K vs H Q E) : vs.length = (["self", "bits"] : List Str).length := by
  obtain ⟨x, dx, a, bs, rfl, _⟩ := h; rfl
theorem pure_BitRow_init (K : PySem.W.Frag) (kB : KtB K) (vs : List V) (H : Hp) (Q : VK) (E : XK) (h : sp_BitRow_init K vs H Q E) : t_BitRow_init K ⟨fun _ H' => Q .non H', Q, fun _ _ => False, fun _ _ => False⟩ (start N_BitRow_init vs) H := by
  obtain ⟨x, dx, a, bs, rfl, hx, hS, hb, hl, q⟩ := h
  unfold t_BitRow_init
  walk_at "go"
  refine g_listL hS ?_
  intro l hl0
  walk_at "go"
  have nx : x ≠ l := ne_of_none hx hl0
  refine ⟨x, ga K "BitRow", dx, [], rfl, upd_get nx hx, kB.cl, kB.nb, by show 0 < 1000; decide, ?_⟩
  walk_at "go"
  refine ⟨x, ga K "BitRow", dx, _, rfl, upd_same, kB.cl, kB.np, by show 1 < 1000; decide, ?_⟩
  refine q _ l ((SameX.new (SameX.refl x H) hl0).mut.mut) hl0 ⟨upd_same, ?_, hb, Nat.zero_le _, hl⟩
  rw [upd_ne nx.symm, upd_ne nx.symm, upd_same]
abbrev N_BitRow_read_number : List Str := ["self", "count", "end", "number"]
def t_BitRow_read_number (K : PySem.W.Frag) (E : XK) : TS :=
  tSeq (tAsg (tOp qAdd (tFld K (tVar 0) "place") (tVar 1)) (gName 2)) (tSeq (tIfS (tTest (tOp qGt (tVar 2) (tCB (qLenQ K) (tCons (tFld K (tVar 0) "bits") tNil)))) (sRaise (ga K "NoText") (wE E)) (tNext)) (tSeq (tAsg (tCall (sp_number_of K) [] E0 (tCons (tSl (rSlL K) (tFld K (tVar 0) "bits") (tPart (tFld K (tVar 0) "place")) (tPart (tVar 2))) tNil)) (gName 3)) (tSeq (sFld K (tVar 0) (tVar 2) "place") (tRet (tVar 3)))))
def sp_BitRow_read_number (K : PySem.W.Frag) : Sp := fun vs H Q E => ∃ (x dx l : Addr) (bs : List Int) (p c : Nat), vs = [.ref x, .int (c : Int)] ∧ RowAt K H x dx l bs p ∧ c ≤ 60 ∧
  (rdN c (bs.drop p) = none → ∀ H', SameX x H H' → E (.ref (ga K "NoText")) none H') ∧
  (∀ n r, rdN c (bs.drop p) = some (n, r) → ∀ H', SameX x H H' → RowAt K H' x dx l bs (p + c) → Q (.int n) H')
theorem len_BitRow_read_number (K : PySem.W.Frag) (vs : List V) (H : Hp) (Q : VK) (E : XK) (h : sp_BitRow_read_number K vs H Q E) : vs.length = (["self", "count"] : List Str).length := by
  obtain ⟨x, dx, l, bs, p, c, rfl, _⟩ := h; rfl
theorem pure_BitRow_read_number (K : PySem.W.Frag) (kB : KtB K) (vs : List V) (H : Hp) (Q : VK) (E : XK) (h : sp_BitRow_read_number K vs H Q E) : t_BitRow_read_number K E ⟨fun _ H' => Q .non H', Q, fun _ _ => False, fun _ _ => False⟩ (start N_BitRow_read_number vs) H := by
  obtain ⟨x, dx, l, bs, p, c, rfl, ⟨hx, hL, hb, hp, hn⟩, hc, qE, qN⟩ := h
  unfold t_BitRow_read_number
  walk_at "go"
  refine g_fld hx kB.cl kB.np rfl ?_
  walk_at "go"
  refine g_fld hx kB.cl kB.nb rfl ?_
  walk_at "go"
  refine g_lenL (SqL.of hL) ?_
  walk_at "go"
  refine g_ite (fun h => ?_) (fun h => ?_)
  · walk_at "go"
    rw [List.length_map] at h
    exact qE (rdN_no (by rw [List.length_drop]; omega)) H (SameX.refl x H)
  · rw [List.length_map] at h
    walk_at "go"
    refine g_fld hx kB.cl kB.nb rfl ?_
    walk_at "go"
    refine g_fld hx kB.cl kB.np rfl ?_
    walk_at "go"
    rw [show (p : Int) + (c : Int) = ((p + c : Nat) : Int) from rfl]
    refine g_slL (SqL.of hL) ?_
    intro s hs
    rw [cut_mid]
    walk_at "go"
    have e1 : p + c - p = c := by omega
    rw [e1]
    refine ⟨s, (bs.drop p).take c, rfl, SqL.of upd_same, (hb.drop p).take c, by rw [List.length_take]; omega, ?_⟩
    walk_at "go"
    have nx : x ≠ s := ne_of_none hx hs
    have nl : l ≠ s := ne_of_none hL hs
    have nlx : l ≠ x := ne_of hL hx (by intro z; cases z)
    refine ⟨x, ga K "BitRow", dx, _, rfl, upd_get nx hx, kB.cl, kB.np, by show 2 < 1000; decide, ?_⟩
    walk_at "go"
    refine qN _ _ (rdN_yes (by rw [List.length_drop]; omega)) _ ((SameX.new (SameX.refl x H) hs).mut) ⟨upd_same, ?_, hb, by omega, hn⟩
    rw [upd_ne nlx, upd_ne nl]
    exact hL

/-! PsA3 -/
/-! ### read_figures -/
abbrev N_read_figures : List Str := ["row", "count", "signs", "size", "figures"]
def t_read_figures (K : PySem.W.Frag) (E : XK) : TS :=
  tSeq (tAsg (tC (.str "")) (gName 2)) (tSeq (tFor (iList K (tCall (sp_group_sizes K) [] E0 (tCons (tVar 1) tNil))) (gName 3) (tSeq (tAsg (tCB qStrI (tCons (tMeth (ga K "BitRow") "read_number" (sp_BitRow_read_number K) [] E (tVar 0) (tCons (tCall (sp_group_bits K) [] E0 (tCons (tVar 3) tNil)) tNil)) tNil)) (gName 4)) (tSeq (tIfS (tTest (tOp qGt (tCB qLenS (tCons (tVar 4) tNil)) (tVar 3))) (sRaise (ga K "NoText") (wE E)) (tNext)) (tAug 2 (tBM K "str" qZfill (tVar 4) (tCons (tVar 3) tNil)) qAddS)))) (tRet (tVar 2)))
def sp_read_figures (K : PySem.W.Frag) : Sp := fun vs H Q E => ∃ (x dx l : Addr) (bs : List Int) (p c : Nat), vs = [.ref x, .int (c : Int)] ∧ RowAt K H x dx l bs p ∧ c ≤ 1000 ∧
  (rdFigs (gSizes c) (bs.drop p) = none → ∀ H', SameX x H H' → E (.ref (ga K "NoText")) none H') ∧
  (∀ t k, rdFigs (gSizes c) (bs.drop p) = some (t, bs.drop k) → k ≤ bs.length → ∀ H', SameX x H H' → RowAt K H' x dx l bs k → Q (.str (tx t)) H')
theorem len_read_figures (K : PySem.W.Frag) (vs : List V) (H : Hp) (Q : VK) (E : XK) (h : sp_read_figures K vs H Q E) : vs.length = (["row", "count"] : List Str).length := by
  obtain ⟨x, dx, l, bs, p, c, rfl, _⟩ := h; rfl
def preT (a : List Nat) (o : Option (List Nat × List Int)) : Option (List Nat × List Int) := o.map fun z => (a ++ z.1, z.2)
theorem preT_nil (o : Option (List Nat × List Int)) : preT [] o = o := by cases o <;> rfl
theorem preT_pre (a b : List Nat) (o : Option (List Nat × List Int)) : preT a (preT b o) = preT (a ++ b) o := by
  cases o with
  | none => rfl
  | some z => simp only [preT, Option.map_some, List.append_assoc]
theorem gSizes_small {c s : Nat} (h : s ∈ gSizes c) : 0 < s ∧ s ≤ 3 := by
  unfold gSizes at h
  rcases List.mem_append.mp h with h | h
  · have := List.eq_of_mem_replicate h; omega
  · split at h
    · cases h
    · have := List.mem_singleton.mp h; omega
theorem gSizes_len (c : Nat) : (gSizes c).length ≤ c / 3 + 1 := by
  unfold gSizes
  rw [List.length_append, List.length_replicate]
  split <;> simp
theorem gBits_le {s : Nat} (h : s ≤ 3) : gBits s ≤ 10 := by
  unfold gBits; split <;> omega
theorem log_small {n : Nat} (h : n < 2 ^ 60) : n.log2 < 1920 := by
  by_cases h0 : n = 0
  · subst h0; decide
  · exact Nat.lt_trans ((Nat.log2_lt h0).mpr h) (by decide)
theorem rdFigs_cons (s : Nat) (r : List Nat) (l : List Int) {n : Int} {l1 : List Int} (h : rdN (gBits s) l = some (n, l1)) (hn : ¬ (10 : Int) ^ s ≤ n) : rdFigs (s :: r) l = preT (pad s n.toNat) (rdFigs r l1) := by
  conv => lhs; unfold rdFigs
  rw [h]
  dsimp only
  rw [if_neg hn]
  cases rdFigs r l1 with
  | none => rfl
  | some z => rfl
theorem padOk_small {s : Nat} (h : s ≤ 3) : PadOk (s : Int) = true := by
  match s, h with
  | 0, _ => decide
  | 1, _ => decide
  | 2, _ => decide
  | 3, _ => decide
theorem ten_pow (s : Nat) : (10 : Int) ^ s = ((10 ^ s : Nat) : Int) := by rw [Int.natCast_pow]; rfl
theorem pure_read_figures (K : PySem.W.Frag) (vs : List V) (H : Hp) (Q : VK) (E : XK) (h : sp_read_figures K vs H Q E) : t_read_figures K E ⟨fun _ H' => Q .non H', Q, fun _ _ => False, fun _ _ => False⟩ (start N_read_figures vs) H := by
  obtain ⟨x, dx, l, bs, p, c, rfl, hR, hc, qE, qS⟩ := h
  unfold t_read_figures
  walk_at "go"
  refine ⟨c, rfl, by omega, fun H1 g s1 ng hg => ?_⟩
  have hR1 : RowAt K H1 x dx l bs p := ⟨s1 _ _ hR.1, s1 _ _ hR.2.1, hR.2.2⟩
  have nxg : x ≠ g := ne_of_none hR.1 ng
  refine g_atL (SqL.of hg) ?_
  refine forL natV (gSizes c) (fun rest σ H' => ∃ (q : Nat) (acc : List Nat) (v3 v4 : Option V), σ = [some (.ref x), some (.int c), some (.str (tx acc)), v3, v4] ∧ SameX x H1 H' ∧ RowAt K H' x dx l bs q ∧
    rdFigs (gSizes c) (bs.drop p) = preT acc (rdFigs rest (bs.drop q)) ∧ acc.length + 3 * rest.length ≤ 3 * (gSizes c).length)
    ⟨p, [], none, none, rfl, SameX.refl _ _, hR1, (preT_nil _).symm, by simp⟩ ?_ ?_ ?_
  · rintro d r σ H' _ ⟨q, acc, v3, v4, _, sx, _⟩
    exact SqL.of (sx _ _ nxg.symm hg)
  · rintro d s r σ H' ed ⟨q, acc, v3, v4, rfl, sx, hRq, e, hal⟩
    obtain ⟨hs0, hs3⟩ := gSizes_small (c := c) (s := s) (by rw [ed]; exact List.mem_append_right _ List.mem_cons_self)
    unfold natV
    walk_at "go"
    refine g_atI hRq.1 rfl ?_
    walk_at "go"
    refine ⟨s, rfl, ?_⟩
    walk_at "go"
    refine ⟨x, dx, l, bs, q, gBits s, rfl, hRq, Nat.le_trans (gBits_le hs3) (by decide), fun e2 H2 sx2 => ?_, fun n r2 e2 H2 sx2 hR2 => ?_⟩
    · refine qE ?_ H2 ((SameX.of s1).trans (sx.trans sx2))
      rw [e]
      conv => lhs; rhs; unfold rdFigs
      rw [e2]; rfl
    · obtain ⟨hlen, en, er⟩ := rdN_some e2
      have hB := numOf_bound ((hRq.2.2.1.drop q).take (gBits s))
      rw [← en] at hB
      have hb2 : n < 2 ^ 60 := Int.lt_of_lt_of_le hB.2 (pow2_le (by rw [List.length_take]; have := gBits_le hs3; omega))
      obtain ⟨m, rfl⟩ := Int.eq_ofNat_of_zero_le hB.1
      have hm : m < 2 ^ 60 := by exact_mod_cast hb2
      walk_at "go"
      refine ⟨(m : Int), rfl, by simpa using log_small hm, ?_⟩
      rw [tx_num]
      walk_at "go"
      have hml : (TL.numL m).length ≤ 60 := TL.numL_len (by decide) (Nat.lt_of_lt_of_le hm (by decide))
      refine g_lenS (by rw [tx_len, sizeLine_eq]; omega) ?_
      rw [tx_len]
      walk_at "go"
      refine g_ite (fun h1 => ?_) (fun h1 => ?_)
      · walk_at "go"
        refine qE ?_ H2 ((SameX.of s1).trans (sx.trans sx2))
        have h2 : ¬ m < 10 ^ s := fun z => by have := (numL_le hs0).mpr z; omega
        rw [e]
        conv => lhs; rhs; unfold rdFigs
        rw [e2]
        dsimp only
        rw [if_pos (by rw [ten_pow]; omega)]; rfl
      · have h2 : m < 10 ^ s := (numL_le hs0).mp (by omega)
        have h3 : ¬ (10 : Int) ^ s ≤ (m : Int) := by rw [ten_pow]; omega
        walk_at "go"
        refine ⟨rfl, ?_⟩
        walk_at "go"
        refine ⟨tx (TL.numL m), s, rfl, rfl, padOk_small hs3, ?_⟩
        rw [zfill_num, ← pad_num s m hs0 h2]
        have hg3 := gSizes_len c
        refine g_addS (by rw [tx_len, tx_len, pad_len, sizeLine_eq]; omega) ?_
        rw [tx_app]
        refine ⟨q + gBits s, acc ++ pad s m, some (.int s), some (.str (tx (TL.numL m))), rfl, sx.trans sx2, hR2, ?_, ?_⟩
        · rw [e, rdFigs_cons s r _ e2 h3, preT_pre, er, List.drop_drop]; rfl
        · rw [List.length_cons] at hal; rw [List.length_append, pad_len]; omega
  · rintro σ H' ⟨q, acc, v3, v4, rfl, sx, hRq, e, _⟩
    walk_at "go"
    have e2 : rdFigs (gSizes c) (bs.drop p) = some (acc, bs.drop q) := by rw [e]; simp [preT, rdFigs]
    exact qS acc q e2 hRq.2.2.2.1 H' ((SameX.of s1).trans sx) hRq

/-! PsA4 -/
/-! ### read_listed -/
abbrev N_read_listed : List Str := ["row", "count", "known", "width", "signs", "k", "number"]
def t_read_listed (K : PySem.W.Frag) (E : XK) : TS :=
  tSeq (tAsg (tC (.str "")) (gName 4)) (tSeq (tFor (iRng1 (tCons (tVar 1) tNil)) (gName 5) (tSeq (tAsg (tMeth (ga K "BitRow") "read_number" (sp_BitRow_read_number K) [] E (tVar 0) (tCons (tVar 3) tNil)) (gName 6)) (tSeq (tIfS (tTest (tOp qGe (tVar 6) (tCB qLenS (tCons (tVar 2) tNil)))) (sRaise (ga K "NoText") (wE E)) (tNext)) (tAug 4 (tOp rIxS (tVar 2) (tVar 6)) qAddS)))) (tRet (tVar 4)))
def sp_read_listed (K : PySem.W.Frag) : Sp := fun vs H Q E => ∃ (x dx l : Addr) (bs : List Int) (p c : Nat) (known : List Nat) (w : Nat), vs = [.ref x, .int (c : Int), .str (tx known), .int (w : Int)] ∧ RowAt K H x dx l bs p ∧ c ≤ 1000 ∧ known.length ≤ 1000 ∧ w ≤ 60 ∧
  (rdSigns known w c (bs.drop p) = none → ∀ H', SameX x H H' → E (.ref (ga K "NoText")) none H') ∧
  (∀ t k, rdSigns known w c (bs.drop p) = some (t, bs.drop k) → k ≤ bs.length → ∀ H', SameX x H H' → RowAt K H' x dx l bs k → Q (.str (tx t)) H')
theorem len_read_listed (K : PySem.W.Frag) (vs : List V) (H : Hp) (Q : VK) (E : XK) (h : sp_read_listed K vs H Q E) : vs.length = (["row", "count", "known", "width"] : List Str).length := by
  obtain ⟨x, dx, l, bs, p, c, known, w, rfl, _⟩ := h; rfl
theorem rdSigns_cons (known : List Nat) (w c : Nat) (l : List Int) {n : Int} {l1 : List Int} (h : rdN w l = some (n, l1)) (hn : ¬ (known.length : Int) ≤ n) : rdSigns known w (c + 1) l = preT [known.getD n.toNat 0] (rdSigns known w c l1) := by
  conv => lhs; unfold rdSigns
  rw [h]
  dsimp only
  rw [if_neg hn]
  cases rdSigns known w c l1 with
  | none => rfl
  | some z => rfl
theorem atI_nat' {α : Type} {xs : List α} {j : Nat} {v : α} (h : xs[j]? = some v) : atI xs (j : Int) = some v := atI_nat h
theorem getD_some {l : List Nat} {m : Nat} (h : m < l.length) : l[m]? = some (l.getD m 0) := by
  rw [List.getD_eq_getElem?_getD, List.getElem?_eq_getElem h]; rfl
theorem pure_read_listed (K : PySem.W.Frag) (vs : List V) (H : Hp) (Q : VK) (E : XK) (h : sp_read_listed K vs H Q E) : t_read_listed K E ⟨fun _ H' => Q .non H', Q, fun _ _ => False, fun _ _ => False⟩ (start N_read_listed vs) H := by
  obtain ⟨x, dx, l, bs, p, c, known, w, rfl, hR, hc, hk, hw, qE, qS⟩ := h
  unfold t_read_listed
  walk_at "go"
  refine g_r1 (by omega) (by omega) ?_
  rw [show ((c : Int)).toNat = c from rfl]
  refine forR (fun i σ H' => ∃ (q : Nat) (acc : List Nat) (v5 v6 : Option V), σ = [some (.ref x), some (.int c), some (.str (tx known)), some (.int w), some (.str (tx acc)), v5, v6] ∧ SameX x H H' ∧ RowAt K H' x dx l bs q ∧
    rdSigns known w c (bs.drop p) = preT acc (rdSigns known w (c - i) (bs.drop q)) ∧ acc.length = i)
    ⟨p, [], none, none, rfl, SameX.refl _ _, hR, (preT_nil _).symm, rfl⟩ ?_ ?_
  · rintro i σ H' hi ⟨q, acc, v5, v6, rfl, sx, hRq, e, hal⟩
    walk_at "go"
    refine g_atI hRq.1 rfl ?_
    walk_at "go"
    have ec : c - i = (c - (i + 1)) + 1 := by omega
    refine ⟨x, dx, l, bs, q, w, rfl, hRq, hw, fun e2 H2 sx2 => ?_, fun n r2 e2 H2 sx2 hR2 => ?_⟩
    · refine qE ?_ H2 (sx.trans sx2)
      rw [e, ec]
      conv => lhs; rhs; unfold rdSigns
      rw [e2]; rfl
    · obtain ⟨hlen, en, er⟩ := rdN_some e2
      have hB := numOf_bound ((hRq.2.2.1.drop q).take w)
      rw [← en] at hB
      obtain ⟨m, rfl⟩ := Int.eq_ofNat_of_zero_le hB.1
      walk_at "go"
      refine g_lenS (by rw [tx_len, sizeLine_eq]; omega) ?_
      rw [tx_len]
      walk_at "go"
      refine g_ite (fun h1 => ?_) (fun h1 => ?_)
      · walk_at "go"
        refine qE ?_ H2 (sx.trans sx2)
        rw [e, ec]
        conv => lhs; rhs; unfold rdSigns
        rw [e2]
        dsimp only
        rw [if_pos h1]; rfl
      · walk_at "go"
        have hm : m < known.length := by omega
        refine g_ixS (x := known.getD m 0) (by rw [tx_len, sizeLine_eq]; omega) (atI_nat' (getD_some hm)) ?_
        refine g_addS (by rw [tx_len, tx_len, sizeLine_eq]; show acc.length + 1 ≤ _; omega) ?_
        rw [show (⟨#[known.getD m 0]⟩ : Str) = tx [known.getD m 0] from rfl, tx_app]
        refine ⟨q + w, acc ++ [known.getD m 0], some (.int (0 + i)), some (.int m), rfl, sx.trans sx2, hR2, ?_, ?_⟩
        · rw [e, ec, rdSigns_cons known w _ _ e2 h1, preT_pre, er, List.drop_drop]; rfl
        · rw [List.length_append, hal]; rfl
  · rintro σ H' ⟨q, acc, v5, v6, rfl, sx, hRq, e, _⟩
    walk_at "go"
    have e2 : rdSigns known w c (bs.drop p) = some (acc, bs.drop q) := by rw [e, Nat.sub_self]; simp [preT, rdSigns]
    exact qS acc q e2 hRq.2.2.2.1 H' sx hRq

/-! PsA5 -/
/-! ### read_pieces -/
abbrev N_read_pieces : List Str := ["bits", "row", "pieces", "kind", "count", "signs"]
def t_read_pieces (K : PySem.W.Frag) (E : XK) : TS :=
  tSeq (tAsg (tMake (ga K "BitRow") (sp_BitRow_init K) [] E0 (tCons (tVar 0) tNil)) (gName 1)) (tSeq (tAsg (tLst (tNil)) (gName 2)) (tSeq (tAsg (tMeth (ga K "BitRow") "read_number" (sp_BitRow_read_number K) [] E (tVar 1) (tCons (tC (.int 2)) tNil)) (gName 3)) (tSeq (tWhile (tTest (tOp rNe (tVar 3) (tC (.int 0)))) (tSeq (tAsg (tOp qAdd (tMeth (ga K "BitRow") "read_number" (sp_BitRow_read_number K) [] E (tVar 1) (tCons (tC (.int 6)) tNil)) (tC (.int 1))) (gName 4)) (tSeq (tIfS (tTest (tOp rEq (tVar 3) (tC (.int 1)))) (tAsg (tCall (sp_read_figures K) [] E (tCons (tVar 1) (tCons (tVar 4) tNil))) (gName 5)) (tIfS (tTest (tOp rEq (tVar 3) (tC (.int 2)))) (tAsg (tCall (sp_read_listed K) [] E (tCons (tVar 1) (tCons (tVar 4) (tCons (tC (.str cCAPITALS)) (tCons (tC (.int 5)) tNil))))) (gName 5)) (tAsg (tCall (sp_read_listed K) [] E (tCons (tVar 1) (tCons (tVar 4) (tCons (tC (.str cSIGNS)) (tCons (tC (.int 7)) tNil))))) (gName 5)))) (tSeq (tDrop (tBM K "list" rAppend (tVar 2) (tCons (tTup (tCons (tVar 3) (tCons (tVar 5) tNil))) tNil))) (tAsg (tMeth (ga K "BitRow") "read_number" (sp_BitRow_read_number K) [] E (tVar 1) (tCons (tC (.int 2)) tNil)) (gName 3)))))) (tRet (tTup (tCons (tVar 2) (tCons (tFld K (tVar 1) "place") tNil)))))))
def PcAll (H : Hp) (ts : List Addr) (ps : List (Int × List Nat)) : Prop := Paired (fun t pc => H t = some (.tup [.int pc.1, .str (tx pc.2)])) ts ps
def sp_read_pieces (K : PySem.W.Frag) : Sp := fun vs H Q E => ∃ (a : Addr) (bs : List Int), vs = [.ref a] ∧ SqL K H a (bs.map V.int) ∧ B01 bs ∧ bs.length ≤ 100000 ∧
  (rdAll bs = none → ∀ H', Same H H' → E (.ref (ga K "NoText")) none H') ∧
  (∀ ps k, rdAll bs = some (ps, bs.drop k) → k ≤ bs.length → ∀ H' t p ts, Same H H' → H p = none → H' t = some (.tup [.ref p, .int (k : Int)]) → H' p = some (.lst (ts.map V.ref)) → PcAll H' ts ps → Q (.ref t) H')
theorem len_read_pieces (K : PySem.W.Frag) (vs : List V) (H : Hp) (Q : VK) (E : XK) (h : sp_read_pieces K vs H Q E) : vs.length = (["bits"] : List Str).length := by
  obtain ⟨a, bs, rfl, _⟩ := h; rfl
def preP (a : List (Int × List Nat)) (o : Option (List (Int × List Nat) × List Int)) : Option (List (Int × List Nat) × List Int) := o.map fun z => (a ++ z.1, z.2)
theorem preP_nil (o : Option (List (Int × List Nat) × List Int)) : preP [] o = o := by cases o <;> rfl
theorem preP_pre (a b : List (Int × List Nat)) (o : Option (List (Int × List Nat) × List Int)) : preP a (preP b o) = preP (a ++ b) o := by
  cases o with
  | none => rfl
  | some z => simp only [preP, Option.map_some, List.append_assoc]
theorem Same.ofX {H H1 H2 : Hp} {x : Addr} (s : Same H H1) (h : H x = none) (sx : SameX x H1 H2) : Same H H2 := fun b o e => sx b o (ne_of_none e h) (s b o e)
theorem PcAll.mono {H H' : Hp} {ts : List Addr} {ps : List (Int × List Nat)} (h : PcAll H ts ps) (k : ∀ t xs, H t = some (.tup xs) → H' t = some (.tup xs)) : PcAll H' ts ps := Paired.mapP h fun _ _ e => k _ _ e
theorem Paired.snoc {α β : Type} {R : α → β → Prop} {a : α} {b : β} (h : R a b) : ∀ {xs : List α} {ys : List β}, Paired R xs ys → Paired R (xs ++ [a]) (ys ++ [b])
  | _, _, .nil => .cons h .nil
  | _, _, .cons r t => .cons r (Paired.snoc h t)
theorem g_make {C : Addr} {sp : Sp} {dvs : List V} {E : XK} {t : TA} {σ : St} {H : Hp} {Q : VK} (h : t σ H fun vs H1 => ∀ x dx, H1 x = none → H1 dx = none → dx ≠ x → sp (.ref x :: (vs ++ dvs)) (upd (upd H1 dx (.own x)) x (.ins C dx [])) (fun v H2 => v = .non ∧ Q (.ref x) H2) E) : tMake C sp dvs E t σ H Q := h
theorem rdAft_step {f : Nat} {k : Int} {l : List Int} (hk : ¬ k = 0) : rdAft (f + 1) k l = match rdN 6 l with
    | none => none
    | some (c, l2) => match rdBody k (c.toNat + 1) l2 with
      | none => none
      | some (s, l3) => match rdN 2 l3 with
        | none => none
        | some (k', l4) => preP [(k, s)] (rdAft f k' l4) := by
  conv => lhs; unfold rdAft
  rw [if_neg hk]
  cases rdN 6 l with
  | none => rfl
  | some z =>
    obtain ⟨c, l2⟩ := z
    dsimp only
    cases rdBody k (c.toNat + 1) l2 with
    | none => rfl
    | some z =>
      obtain ⟨s, l3⟩ := z
      dsimp only
      cases rdN 2 l3 with
      | none => rfl
      | some z =>
        obtain ⟨k', l4⟩ := z
        dsimp only
        cases rdAft f k' l4 with
        | none => rfl
        | some z => rfl
theorem numOf_small {l : List Int} (hb : B01 l) {c : Nat} {n : Int} {r : List Int} (h : rdN c l = some (n, r)) : ∃ m : Nat, n = (m : Int) ∧ m < 2 ^ c := by
  obtain ⟨h1, rfl, _⟩ := rdN_some h
  have hB := numOf_bound (hb.take c)
  rw [List.length_take, Nat.min_eq_left h1] at hB
  obtain ⟨m, e⟩ := Int.eq_ofNat_of_zero_le hB.1
  refine ⟨m, e, ?_⟩
  rw [e] at hB
  exact_mod_cast hB.2
theorem pure_read_pieces (K : PySem.W.Frag) (kB : KtB K) (vs : List V) (H : Hp) (Q : VK) (E : XK) (h : sp_read_pieces K vs H Q E) : t_read_pieces K E ⟨fun _ H' => Q .non H', Q, fun _ _ => False, fun _ _ => False⟩ (start N_read_pieces vs) H := by
  obtain ⟨a, bs, rfl, hS, hb, hl, qE, qS⟩ := h
  unfold t_read_pieces
  walk_at "go"
  refine g_make ?_
  walk_at "go"
  intro x dx nx ndx ne
  have s1 : Same H (upd (upd H dx (.own x)) x (.ins (ga K "BitRow") dx [])) := same_mut (same_new (Same.refl H) ndx) nx
  refine ⟨x, dx, a, bs, rfl, upd_same, s1.seq hS, hb, hl, fun H1 l sx nl hR => ⟨rfl, ?_⟩⟩
  have s2 : Same H H1 := Same.ofX s1 nx sx
  walk_at "go"
  intro pl npl
  have s3 : Same H (upd H1 pl (.lst [])) := same_new s2 npl
  have nxp : x ≠ pl := ne_of_none hR.1 npl
  have nlp : l ≠ pl := ne_of_none hR.2.1 npl
  have nplH : H pl = none := s2.free npl
  have hR3 : RowAt K (upd H1 pl (.lst [])) x dx l bs 0 := ⟨upd_get nxp hR.1, upd_get nlp hR.2.1, hR.2.2⟩
  walk_at "go"
  refine g_atI hR3.1 rfl ?_
  walk_at "go"
  refine ⟨x, dx, l, bs, 0, 2, rfl, hR3, by decide, fun e2 H2 sx2 => ?_, fun k r e2 H2 sx2 hR2 => ?_⟩
  · refine qE ?_ H2 (Same.ofX s3 nx sx2)
    unfold rdAll
    rw [List.drop_zero] at e2
    rw [e2]
  · rw [List.drop_zero] at e2
    obtain ⟨h2l, _, er⟩ := rdN_some e2
    walk_at "go"
    refine whileJ (fun m σ H' => ∃ (k : Int) (q : Nat) (acc : List (Int × List Nat)) (ts : List Addr) (v4 v5 : Option V), σ = [some (.ref a), some (.ref x), some (.ref pl), some (.int k), v4, v5] ∧ Same H H' ∧ RowAt K H' x dx l bs q ∧
      H' pl = some (.lst (ts.map V.ref)) ∧ PcAll H' ts acc ∧ rdAll bs = preP acc (rdAft m k (bs.drop q)) ∧ (bs.drop q).length < m ∧ ts.length + (bs.drop q).length ≤ bs.length ∧ (∃ k0 : Nat, k = (k0 : Int) ∧ k0 < 4)) ((bs.drop 2).length + 1) ?_ ?_
    · obtain ⟨k0, ek, hk0⟩ := numOf_small hb e2
      refine ⟨k, 0 + 2, [], [], none, none, rfl, Same.ofX s3 nx sx2, hR2, sx2 pl _ nxp.symm upd_same, .nil, ?_, by simp only [List.length_drop]; omega, by simp, ⟨k0, ek, hk0⟩⟩
      unfold rdAll
      rw [e2]
      dsimp only
      rw [er, preP_nil, Nat.zero_add]
    · rintro m σ H' ⟨k, q, acc, ts, v4, v5, rfl, sm, hRq, hpl, hpc, e, hm, hts, k0, ek0, hk0⟩
      walk_at "go"
      obtain ⟨m, rfl⟩ : ∃ m', m = m' + 1 := ⟨m - 1, by omega⟩
      refine g_iteWN (fun hk => ?_) (fun hk => ?_)
      · rw [rdAft_step hk] at e
        walk_at "go"
        refine g_atI hRq.1 rfl ?_
        walk_at "go"
        refine ⟨x, dx, l, bs, q, 6, rfl, hRq, by decide, fun e3 H3 sx3 => ?_, fun c r3 e3 H3 sx3 hR3 => ?_⟩
        · refine qE ?_ H3 (Same.ofX sm nx sx3)
          rw [e, e3]; rfl
        · rw [e3] at e
          dsimp only at e
          obtain ⟨c0, rfl, hc0⟩ := numOf_small (hRq.2.2.1.drop q) e3
          obtain ⟨h3l, _, er3⟩ := rdN_some e3
          rw [er3, List.drop_drop] at e
          have ec : ((c0 : Int)).toNat + 1 = c0 + 1 := rfl
          rw [ec] at e
          walk_at "go"
          -- the body, whichever kind it is
          have fin : ∀ (t : List Nat) (j : Nat) (H4 : Hp), rdBody k (c0 + 1) (bs.drop (q + 6)) = some (t, bs.drop j) → q + 6 ≤ j → j ≤ bs.length → SameX x H3 H4 → RowAt K H4 x dx l bs j →
              tSeq (tDrop (tBM K "list" rAppend (tVar 2) (tCons (tTup (tCons (tVar 3) (tCons (tVar 5) tNil))) tNil))) (tAsg (tMeth (ga K "BitRow") "read_number" (sp_BitRow_read_number K) [] E (tVar 1) (tCons (tC (.int 2)) tNil)) (gName 3))
                ⟨fun σ' H' => ∃ m', m' < m + 1 ∧ ∃ (k : Int) (q : Nat) (acc : List (Int × List Nat)) (ts : List Addr) (v4 v5 : Option V), σ' = [some (.ref a), some (.ref x), some (.ref pl), some (.int k), v4, v5] ∧ Same H H' ∧ RowAt K H' x dx l bs q ∧
                  H' pl = some (.lst (ts.map V.ref)) ∧ PcAll H' ts acc ∧ rdAll bs = preP acc (rdAft m' k (bs.drop q)) ∧ (bs.drop q).length < m' ∧ ts.length + (bs.drop q).length ≤ bs.length ∧ (∃ k0 : Nat, k = (k0 : Int) ∧ k0 < 4), Q,
                tRet (tTup (tCons (tVar 2) (tCons (tFld K (tVar 1) "place") tNil))) ⟨fun _ H' => Q .non H', Q, fun _ _ => False, fun _ _ => False⟩,
                fun σ' H' => ∃ m', m' < m + 1 ∧ ∃ (k : Int) (q : Nat) (acc : List (Int × List Nat)) (ts : List Addr) (v4 v5 : Option V), σ' = [some (.ref a), some (.ref x), some (.ref pl), some (.int k), v4, v5] ∧ Same H H' ∧ RowAt K H' x dx l bs q ∧
                  H' pl = some (.lst (ts.map V.ref)) ∧ PcAll H' ts acc ∧ rdAll bs = preP acc (rdAft m' k (bs.drop q)) ∧ (bs.drop q).length < m' ∧ ts.length + (bs.drop q).length ≤ bs.length ∧ (∃ k0 : Nat, k = (k0 : Int) ∧ k0 < 4)⟩
                [some (.ref a), some (.ref x), some (.ref pl), some (.int k), some (.int (c0 + 1)), some (.str (tx t))] H4 := by
            intro t j H4 eb hqj hj sx4 hR4
            have sx34 : SameX x H' H4 := sx3.trans sx4
            have hpl4 : H4 pl = some (.lst (ts.map V.ref)) := sx34 pl _ nxp.symm hpl
            rw [eb] at e
            dsimp only at e
            walk_at "go"
            refine g_tyL (SqL.of hpl4) ?_
            walk_at "go"
            intro tt ntt
            walk_at "go"
            have npt : pl ≠ tt := ne_of_none hpl4 ntt
            have nxt : x ≠ tt := ne_of_none hR4.1 ntt
            have nlt : l ≠ tt := ne_of_none hR4.2.1 ntt
            have nlpl : l ≠ pl := nlp
            have hxl : x ≠ pl := nxp
            refine g_app (upd_get npt hpl4) (by rw [List.length_map, sizeLine_eq]; rw [List.length_drop] at hts; omega) ?_
            have hR5 : RowAt K (upd (upd H4 tt (.tup [.int k, .str (tx t)])) pl (.lst (ts.map V.ref ++ [.ref tt]))) x dx l bs j := ⟨upd_get hxl (upd_get nxt hR4.1), upd_get nlpl (upd_get nlt hR4.2.1), hR4.2.2⟩
            have s5 : Same H (upd (upd H4 tt (.tup [.int k, .str (tx t)])) pl (.lst (ts.map V.ref ++ [.ref tt]))) := same_mut (same_new (Same.ofX sm nx sx34) ntt) nplH
            have pc4 : PcAll H4 ts acc := hpc.mono fun u xs h => sx34 u _ (ne_of h hRq.1 (by intro z; cases z)) h
            have pc5 : PcAll (upd (upd H4 tt (.tup [.int k, .str (tx t)])) pl (.lst (ts.map V.ref ++ [.ref tt]))) (ts ++ [tt]) (acc ++ [(k, t)]) :=
              Paired.snoc (by rw [upd_ne npt.symm, upd_same]) (pc4.mono fun u xs h => upd_get (ne_of h hpl4 (by intro z; cases z)) (upd_get (ne_of_none h ntt) h))
            walk_at "go"
            refine g_atI hR5.1 rfl ?_
            walk_at "go"
            refine ⟨x, dx, l, bs, j, 2, rfl, hR5, by decide, fun e6 H6 sx6 => ?_, fun k6 r6 e6 H6 sx6 hR6 => ?_⟩
            · refine qE ?_ H6 (Same.ofX s5 nx sx6)
              rw [e, e6]; rfl
            · rw [e6] at e
              dsimp only at e
              obtain ⟨k1, ek1, hk1⟩ := numOf_small (hR4.2.2.1.drop j) e6
              obtain ⟨h6l, _, er6⟩ := rdN_some e6
              rw [er6, List.drop_drop, preP_pre] at e
              rw [List.length_drop] at hm hts h6l
              refine ⟨m, by omega, k6, j + 2, acc ++ [(k, t)], ts ++ [tt], some (.int (c0 + 1)), some (.str (tx t)), rfl, Same.ofX s5 nx sx6, hR6, ?_, ?_, e, by rw [List.length_drop]; omega, by rw [List.length_append, List.length_drop]; show ts.length + 1 + _ ≤ _; omega, ⟨k1, ek1, hk1⟩⟩
              · rw [sx6 pl _ hxl.symm upd_same, List.map_append]; rfl
              · exact pc5.mono fun u xs h => sx6 u _ (ne_of h hR5.1 (by intro z; cases z)) h
          refine g_ite (fun h1 => ?_) (fun h1 => ?_)
          · subst h1
            have eb : rdBody 1 (c0 + 1) (bs.drop (q + 6)) = rdFigs (gSizes (c0 + 1)) (bs.drop (q + 6)) := rfl
            walk_at "go"
            refine ⟨x, dx, l, bs, q + 6, c0 + 1, rfl, hR3, by omega, fun e4 H4 sx4 => ?_, fun t j e4 hj H4 sx4 hR4 => ?_⟩
            · refine qE ?_ H4 (Same.ofX (Same.ofX sm nx sx3) nx sx4)
              rw [e, eb, e4]; rfl
            · refine fin t j H4 (eb.trans e4) ?_ hj sx4 hR4
              obtain ⟨i, hi, hi2⟩ := rdFigs_len e4
              have := congrArg List.length hi
              rw [List.length_drop, List.length_drop, List.length_drop] at this
              rw [List.length_drop] at hi2 h3l
              omega
          · walk_at "go"
            refine g_ite (fun h2 => ?_) (fun h2 => ?_)
            · subst h2
              have eb : rdBody 2 (c0 + 1) (bs.drop (q + 6)) = rdSigns capL 5 (c0 + 1) (bs.drop (q + 6)) := rfl
              walk_at "go"
              refine ⟨x, dx, l, bs, q + 6, c0 + 1, capL, 5, rfl, hR3, by omega, by decide, by decide, fun e4 H4 sx4 => ?_, fun t j e4 hj H4 sx4 hR4 => ?_⟩
              · refine qE ?_ H4 (Same.ofX (Same.ofX sm nx sx3) nx sx4)
                rw [e, eb, e4]; rfl
              · refine fin t j H4 (eb.trans e4) ?_ hj sx4 hR4
                obtain ⟨i, hi, hi2⟩ := rdSigns_len e4
                have := congrArg List.length hi
                rw [List.length_drop, List.length_drop, List.length_drop] at this
                rw [List.length_drop] at hi2 h3l
                omega
            · have eb : rdBody k (c0 + 1) (bs.drop (q + 6)) = rdSigns sgnL 7 (c0 + 1) (bs.drop (q + 6)) := by
                unfold rdBody
                rw [if_neg h1, if_neg h2]
              walk_at "go"
              refine ⟨x, dx, l, bs, q + 6, c0 + 1, sgnL, 7, rfl, hR3, by omega, by decide, by decide, fun e4 H4 sx4 => ?_, fun t j e4 hj H4 sx4 hR4 => ?_⟩
              · refine qE ?_ H4 (Same.ofX (Same.ofX sm nx sx3) nx sx4)
                rw [e, eb, e4]; rfl
              · refine fin t j H4 (eb.trans e4) ?_ hj sx4 hR4
                obtain ⟨i, hi, hi2⟩ := rdSigns_len e4
                have := congrArg List.length hi
                rw [List.length_drop, List.length_drop, List.length_drop] at this
                rw [List.length_drop] at hi2 h3l
                omega
      · subst hk
        walk_at "go"
        refine g_fld hRq.1 kB.cl kB.np rfl ?_
        walk_at "go"
        intro t nt
        have npt : pl ≠ t := ne_of_none hpl nt
        refine qS acc q ?_ hRq.2.2.2.1 _ t pl ts (same_new sm nt) nplH upd_same (upd_get npt hpl) (hpc.mono fun u xs h => upd_get (ne_of_none h nt) h)
        rw [e]
        simp [preP, rdAft]

/-! PsM2 -/
/-! ### written bits are read back -/
def bitsN : Nat → Nat → List Int
  | 0, _ => []
  | w + 1, n => bitsN w (n / 2) ++ [((n % 2 : Nat) : Int)]
theorem bitsN_len : ∀ (w n : Nat), (bitsN w n).length = w
  | 0, _ => rfl
  | w + 1, n => by unfold bitsN; rw [List.length_append, bitsN_len w]; rfl
theorem bitsN_B01 : ∀ (w n : Nat), B01 (bitsN w n)
  | 0, _ => fun _ h => nomatch h
  | w + 1, n => by
    unfold bitsN
    refine (bitsN_B01 w _).append fun b hb => ?_
    have := List.mem_singleton.mp hb
    omega
theorem numOf_snoc (l : List Int) (b : Int) : numOf (l ++ [b]) = 2 * numOf l + b := fold_append l b 0
theorem numOf_bitsN : ∀ (w n : Nat), n < 2 ^ w → numOf (bitsN w n) = (n : Int)
  | 0, n, h => by
    have : n = 0 := by simpa using h
    subst this; rfl
  | w + 1, n, h => by
    unfold bitsN
    rw [numOf_snoc, numOf_bitsN w (n / 2) (by rw [Nat.pow_succ] at h; omega)]
    omega
theorem rdN_bitsN {w n : Nat} (h : n < 2 ^ w) (r : List Int) : rdN w (bitsN w n ++ r) = some ((n : Int), r) := by
  rw [rdN_yes (by rw [List.length_append, bitsN_len]; omega)]
  have e1 : (bitsN w n ++ r).take w = bitsN w n := by rw [List.take_append_of_le_length (by rw [bitsN_len]; exact Nat.le_refl _), List.take_of_length_le (by rw [bitsN_len]; exact Nat.le_refl _)]
  have e2 : (bitsN w n ++ r).drop w = r := by
    have : (bitsN w n ++ r).drop (bitsN w n).length = r := List.drop_left
    rwa [bitsN_len] at this
  rw [e1, e2, numOf_bitsN w n h]
def knownL (k : Int) : List Nat := if k = 1 then figL else if k = 2 then capL else sgnL
def encS (known : List Nat) (w : Nat) (s : List Nat) : List Int := s.flatMap fun c => bitsN w (known.idxOf c)
def encF : List Nat → List Int
  | [] => []
  | [a] => bitsN 4 (a - 48)
  | [a, b] => bitsN 7 (10 * (a - 48) + (b - 48))
  | a :: b :: c :: r => bitsN 10 (100 * (a - 48) + 10 * (b - 48) + (c - 48)) ++ encF r
def encB (k : Int) (s : List Nat) : List Int := if k = 1 then encF s else if k = 2 then encS capL 5 s else encS sgnL 7 s
def PieceOk (p : Int × List Nat) : Prop := (p.1 = 1 ∨ p.1 = 2 ∨ p.1 = 3) ∧ 1 ≤ p.2.length ∧ p.2.length ≤ 64 ∧ ∀ c ∈ p.2, c ∈ knownL p.1
def encP (p : Int × List Nat) : List Int := bitsN 2 p.1.toNat ++ (bitsN 6 (p.2.length - 1) ++ encB p.1 p.2)
def encAll (ps : List (Int × List Nat)) : List Int := ps.flatMap encP
theorem encS_B01 (known : List Nat) (w : Nat) : ∀ s : List Nat, B01 (encS known w s)
  | [] => fun _ h => nomatch h
  | c :: s => by
    unfold encS
    rw [List.flatMap_cons]
    exact (bitsN_B01 _ _).append (encS_B01 known w s)
theorem encF_B01 : ∀ s : List Nat, B01 (encF s)
  | [] => fun _ h => nomatch h
  | [a] => bitsN_B01 _ _
  | [a, b] => bitsN_B01 _ _
  | a :: b :: c :: r => (bitsN_B01 _ _).append (encF_B01 r)
theorem encB_B01 (k : Int) (s : List Nat) : B01 (encB k s) := by
  unfold encB
  split
  · exact encF_B01 s
  · split <;> exact encS_B01 _ _ s
theorem encP_B01 (p : Int × List Nat) : B01 (encP p) := (bitsN_B01 _ _).append ((bitsN_B01 _ _).append (encB_B01 _ _))
theorem encAll_B01 : ∀ ps : List (Int × List Nat), B01 (encAll ps)
  | [] => fun _ h => nomatch h
  | p :: ps => by
    unfold encAll
    rw [List.flatMap_cons]
    exact (encP_B01 p).append (encAll_B01 ps)
theorem rdSigns_enc {known : List Nat} {w : Nat} (hw : known.length ≤ 2 ^ w) : ∀ (s : List Nat) (r : List Int), (∀ c ∈ s, c ∈ known) → rdSigns known w s.length (encS known w s ++ r) = some (s, r)
  | [], r, _ => rfl
  | c :: s, r, h => by
    have hc := h c List.mem_cons_self
    have hi : known.idxOf c < known.length := List.idxOf_lt_length_of_mem hc
    have e : encS known w (c :: s) ++ r = bitsN w (known.idxOf c) ++ (encS known w s ++ r) := by
      unfold encS
      rw [List.flatMap_cons, List.append_assoc]
    rw [e, List.length_cons]
    unfold rdSigns
    rw [rdN_bitsN (by omega)]
    dsimp only
    rw [if_neg (by omega), rdSigns_enc hw s r fun d hd => h d (List.mem_cons_of_mem _ hd)]
    dsimp only
    rw [Int.toNat_natCast]
    have : known.getD (known.idxOf c) 0 = c := by
      rw [List.getD_eq_getElem?_getD, List.getElem?_eq_getElem hi]
      exact List.getElem_idxOf hi
    rw [this]
theorem gSizes_three (n : Nat) : gSizes (n + 3) = 3 :: gSizes n := by
  unfold gSizes
  rw [show (n + 3) / 3 = n / 3 + 1 by omega, show (n + 3) % 3 = n % 3 by omega, List.replicate_succ, List.cons_append]
theorem rdFigs_enc : ∀ (s : List Nat) (r : List Int), (∀ c ∈ s, 48 ≤ c ∧ c ≤ 57) → rdFigs (gSizes s.length) (encF s ++ r) = some (s, r)
  | [], r, _ => rfl
  | [a], r, h => by
    have ha := h a (by simp)
    rw [show gSizes [a].length = [1] from by rw [List.length_singleton]; decide, show encF [a] = bitsN 4 (a - 48) from by rw [encF]]
    unfold rdFigs
    rw [show gBits 1 = 4 from rfl, rdN_bitsN (by omega)]
    dsimp only
    rw [if_neg (by omega)]
    show some (pad 1 (Int.toNat ((a - 48 : Nat) : Int)) ++ [], r) = _
    rw [Int.toNat_natCast]
    show some (([] ++ [48 + (a - 48) % 10]) ++ [], r) = _
    rw [List.append_nil, List.nil_append, show 48 + (a - 48) % 10 = a by omega]
  | [a, b], r, h => by
    have ha := h a (by simp)
    have hb := h b (by simp)
    rw [show gSizes [a, b].length = [2] from by rw [show [a, b].length = 2 from rfl]; decide, show encF [a, b] = bitsN 7 (10 * (a - 48) + (b - 48)) from by rw [encF]]
    unfold rdFigs
    rw [show gBits 2 = 7 from rfl, rdN_bitsN (by omega)]
    dsimp only
    rw [if_neg (by omega)]
    show some (pad 2 (Int.toNat ((10 * (a - 48) + (b - 48) : Nat) : Int)) ++ [], r) = _
    rw [Int.toNat_natCast]
    show some ((([] ++ [48 + (10 * (a - 48) + (b - 48)) / 10 % 10]) ++ [48 + (10 * (a - 48) + (b - 48)) % 10]) ++ [], r) = _
    rw [List.append_nil, List.nil_append, show 48 + (10 * (a - 48) + (b - 48)) % 10 = b by omega, show 48 + (10 * (a - 48) + (b - 48)) / 10 % 10 = a by omega]
    rfl
  | a :: b :: c :: s, r, h => by
    have ha := h a (by simp)
    have hb := h b (by simp)
    have hc := h c (by simp)
    have e : encF (a :: b :: c :: s) ++ r = bitsN 10 (100 * (a - 48) + 10 * (b - 48) + (c - 48)) ++ (encF s ++ r) := by
      rw [show encF (a :: b :: c :: s) = bitsN 10 (100 * (a - 48) + 10 * (b - 48) + (c - 48)) ++ encF s from by rw [encF], List.append_assoc]
    rw [e, show (a :: b :: c :: s).length = s.length + 3 from rfl, gSizes_three]
    unfold rdFigs
    rw [show gBits 3 = 10 from rfl, rdN_bitsN (by omega)]
    dsimp only
    rw [if_neg (by omega), rdFigs_enc s r fun d hd => h d (by simp [hd])]
    dsimp only
    rw [Int.toNat_natCast]
    show some (((([] ++ [48 + (100 * (a - 48) + 10 * (b - 48) + (c - 48)) / 10 / 10 % 10]) ++ [48 + (100 * (a - 48) + 10 * (b - 48) + (c - 48)) / 10 % 10]) ++ [48 + (100 * (a - 48) + 10 * (b - 48) + (c - 48)) % 10]) ++ s, r) = _
    rw [List.nil_append, show 48 + (100 * (a - 48) + 10 * (b - 48) + (c - 48)) % 10 = c by omega, show 48 + (100 * (a - 48) + 10 * (b - 48) + (c - 48)) / 10 % 10 = b by omega, show 48 + (100 * (a - 48) + 10 * (b - 48) + (c - 48)) / 10 / 10 % 10 = a by omega]
    rfl
theorem fig_mem {c : Nat} (h : c ∈ figL) : 48 ≤ c ∧ c ≤ 57 := by
  unfold figL at h
  rw [List.mem_range'_1] at h
  omega
theorem rdBody_enc {k : Int} {s : List Nat} (h : PieceOk (k, s)) (r : List Int) : rdBody k s.length (encB k s ++ r) = some (s, r) := by
  obtain ⟨hk, _, _, hm⟩ := h
  dsimp only at hk hm
  unfold rdBody encB
  unfold knownL at hm
  split
  · rename_i h1
    rw [if_pos h1] at hm
    exact rdFigs_enc s r fun c hc => fig_mem (hm c hc)
  · rename_i h1
    rw [if_neg h1] at hm
    split
    · rename_i h2
      rw [if_pos h2] at hm
      exact rdSigns_enc (by decide) s r hm
    · rename_i h2
      rw [if_neg h2] at hm
      exact rdSigns_enc (by decide) s r hm
theorem rd_enc : ∀ (ps : List (Int × List Nat)) (r : List Int), (∀ p ∈ ps, PieceOk p) → ∃ k l, rdN 2 (encAll ps ++ ([0, 0] ++ r)) = some (k, l) ∧ ∀ f, l.length < f → rdAft f k l = some (ps, r)
  | [], r, _ => ⟨0, r, by
      have : encAll [] ++ ([0, 0] ++ r) = bitsN 2 0 ++ r := rfl
      rw [this]; exact rdN_bitsN (by decide) r, fun f hf => by
      obtain ⟨f, rfl⟩ : ∃ g, f = g + 1 := ⟨f - 1, by omega⟩
      rfl⟩
  | (k, s) :: ps, r, h => by
    have h0 := h (k, s) List.mem_cons_self
    obtain ⟨hk, hl1, hl2, hm⟩ := id h0
    dsimp only at hk hl1 hl2 hm
    obtain ⟨k', l', e', ih⟩ := rd_enc ps r fun p hp => h p (List.mem_cons_of_mem _ hp)
    have e : encAll ((k, s) :: ps) ++ ([0, 0] ++ r) = bitsN 2 k.toNat ++ (bitsN 6 (s.length - 1) ++ (encB k s ++ (encAll ps ++ ([0, 0] ++ r)))) := by
      show (encP (k, s) ++ encAll ps) ++ _ = _
      unfold encP
      simp only [List.append_assoc]
    have hkn : ((k.toNat : Nat) : Int) = k := by omega
    refine ⟨k, _, by rw [e, rdN_bitsN (by omega), hkn], fun f hf => ?_⟩
    obtain ⟨f, rfl⟩ : ∃ g, f = g + 1 := ⟨f - 1, by omega⟩
    unfold rdAft
    rw [if_neg (by omega), rdN_bitsN (by omega)]
    dsimp only
    rw [Int.toNat_natCast, show s.length - 1 + 1 = s.length by omega, rdBody_enc h0]
    dsimp only
    rw [e']
    dsimp only
    rw [ih f (by
      obtain ⟨_, _, rfl⟩ := rdN_some e'
      rw [List.length_append, List.length_append, bitsN_len] at hf
      rw [List.length_drop]; omega)]
theorem rdAll_enc (ps : List (Int × List Nat)) (r : List Int) (h : ∀ p ∈ ps, PieceOk p) : rdAll (encAll ps ++ ([0, 0] ++ r)) = some (ps, r) := by
  obtain ⟨k, l, e, f⟩ := rd_enc ps r h
  unfold rdAll
  rw [e]
  exact f _ (Nat.lt_succ_self _)

/-! PsL1 -/
/-! ### the law's hand -/
def HandL (H : Hp) (a l : Addr) : Prop := ∃ (ns : List Int) (i j k : Int), H a = some (.lst [.ref l, .int i, .int j, .int k]) ∧ H l = some (.lst (ns.map V.int)) ∧ ns.length ≤ 63
def HandAt (H : Hp) (a : Addr) : Prop := ∃ l, HandL H a l
theorem hand_ne {H : Hp} {a l : Addr} {ns : List Int} {i j k : Int} (h1 : H a = some (.lst [.ref l, .int i, .int j, .int k])) (h2 : H l = some (.lst (ns.map V.int))) : l ≠ a := by
  refine ne_of h2 h1 fun z => ?_
  injection z with z
  cases ns with
  | nil => cases z
  | cons n r => rw [List.map_cons] at z; injection z with z1; cases z1
theorem HandL.keep {H H' : Hp} {a l : Addr} (h : HandL H a l) (k : ∀ b o, H b = some o → H' b = some o) : HandL H' a l := by
  obtain ⟨ns, i, j, m, h1, h2, h3⟩ := h
  exact ⟨ns, i, j, m, k _ _ h1, k _ _ h2, h3⟩
theorem HandL.new {H : Hp} {a l p : Addr} {o : HO} (h : HandL H a l) (hp : H p = none) : HandL (upd H p o) a l := h.keep fun b x e => upd_new hp e
theorem HandL.some {H : Hp} {a l : Addr} (h : HandL H a l) : ∃ o, H a = Option.some o := by
  obtain ⟨ns, i, j, m, h1, _⟩ := h
  exact ⟨_, h1⟩
theorem HandL.ne {H : Hp} {a l p : Addr} (h : HandL H a l) (hp : H p = none) : p ≠ a := by
  obtain ⟨o, e⟩ := h.some
  intro z; subst z; rw [e] at hp; cases hp
theorem HandL.nel {H : Hp} {a l p : Addr} (h : HandL H a l) (hp : H p = none) : p ≠ l := by
  obtain ⟨ns, i, j, m, _, h2, _⟩ := h
  intro z; subst z; rw [h2] at hp; cases hp
/-- a list is changed that is not the hand's -/
theorem HandL.mut {H : Hp} {a l p : Addr} {o : HO} (h : HandL H a l) (h1 : p ≠ a) (h2 : p ≠ l) : HandL (upd H p o) a l := by
  obtain ⟨ns, i, j, m, e1, e2, e3⟩ := h
  exact ⟨ns, i, j, m, upd_get h1.symm e1, upd_get h2.symm e2, e3⟩
theorem SameX.free {H H1 : Hp} {a p : Addr} (s : SameX a H H1) (hp : H1 p = none) (n : p ≠ a) : H p = none := by
  cases e : H p with
  | none => rfl
  | some o => rw [s p o n e] at hp; cases hp
theorem SameX.mutF {H H1 : Hp} {a p : Addr} {o : HO} (s : SameX a H H1) (hp : H p = none) : SameX a H (upd H1 p o) := fun b x n e => by
  rw [upd_ne (ne_of_none e hp)]; exact s b x n e
theorem SameX.thenS {H H1 H2 : Hp} {a : Addr} (s : SameX a H H1) (t : Same H1 H2) : SameX a H H2 := s.trans (SameX.of t)
abbrev N_law_hand : List Str := ["script", "cell"]
def t_law_hand (K : PySem.W.Frag) : TS :=
  tRet (tLst (tCons (tLc (iList K (tSl (rSlL K) (tVar 0) tNoPart (tPart (tC (.int 63))))) (gName 1) (tYes) (tCB qAbs (tCons (tVar 1) tNil)) [1]) (tCons (tC (.int 0)) (tCons (tC (.int 0)) (tCons (tC (.int 0)) tNil)))))
def sp_law_hand (K : PySem.W.Frag) : Sp := fun vs H Q _ => ∃ (a : Addr) (ns : List Int), vs = [.ref a] ∧ SqL K H a (ns.map V.int) ∧ ns.length ≤ 63 ∧ ∀ H' p, Same H H' → H p = none → HandAt H' p → Q (.ref p) H'
theorem len_law_hand (K : PySem.W.Frag) (vs : List V) (H : Hp) (Q : VK) (E : XK) (h : sp_law_hand K vs H Q E) : vs.length = (["script"] : List Str).length := by
  obtain ⟨a, ns, rfl, _⟩ := h; rfl
def absI (i : Int) : Int := if i < 0 then -i else i
theorem pure_law_hand (K : PySem.W.Frag) (vs : List V) (H : Hp) (Q : VK) (E : XK) (h : sp_law_hand K vs H Q E) : t_law_hand K ⟨fun _ H' => Q .non H', Q, fun _ _ => False, fun _ _ => False⟩ (start N_law_hand vs) H := by
  obtain ⟨a, ns, rfl, hS, hl, q⟩ := h
  unfold t_law_hand
  walk_at "go"
  refine g_slL hS ?_
  intro s ns0
  rw [show (63 : Int) = ((63 : Nat) : Int) from rfl, cut_take, List.take_of_length_le hl]
  have s1 : Same H (upd H s (.lst (ns.map V.int))) := same_new (Same.refl H) ns0
  refine g_atL (SqL.of upd_same) ?_
  intro D hD
  have nsD : s ≠ D := ne_of_none upd_same hD
  have hD0 : H D = none := s1.free hD
  refine lcL V.int ns (fun rest H' => ∃ acc, Same (upd H s (.lst (ns.map V.int))) H' ∧ H' D = some (.lst (acc.map V.int)) ∧ acc.length + rest.length = ns.length) ⟨[], same_new (Same.refl _) hD, upd_same, by simp⟩ ?_ ?_ ?_
  · rintro d r H' _ ⟨acc, sm, _⟩
    exact SqL.of (sm _ _ upd_same)
  · rintro d x r H' ed ⟨acc, sm, hd, hal⟩
    walk_at "go"
    rw [List.length_cons] at hal
    refine ⟨acc.map V.int, hd, by rw [List.length_map, sizeLine_eq]; omega, acc ++ [absI x], same_mut sm hD, ?_, by rw [List.length_append, List.length_singleton]; omega⟩
    rw [upd_same, List.map_append]; rfl
  · rintro H' ⟨acc, sm, hd, hal⟩
    walk_at "go"
    intro p hp
    have s2 : Same H H' := s1.trans sm
    refine q _ p (same_new s2 hp) (s2.free hp) ⟨D, acc, 0, 0, 0, upd_same, upd_new hp hd, ?_⟩
    rw [List.length_nil] at hal
    omega
theorem set3 {H : Hp} {a : Addr} {x0 x1 x2 x3 v : V} {P : Hp → Prop} (hp : H a = some (.lst [x0, x1, x2, x3])) (h : P (upd H a (.lst [x0, x1, x2, v]))) : rSetL (.ref a) (.int 3) v H P := g_setL (j := 3) hp rfl h
theorem set2 {H : Hp} {a : Addr} {x0 x1 x2 x3 v : V} {P : Hp → Prop} (hp : H a = some (.lst [x0, x1, x2, x3])) (h : P (upd H a (.lst [x0, x1, v, x3]))) : rSetL (.ref a) (.int 2) v H P := g_setL (j := 2) hp rfl h
theorem set1 {H : Hp} {a : Addr} {x0 x1 x2 x3 v : V} {P : Hp → Prop} (hp : H a = some (.lst [x0, x1, x2, x3])) (h : P (upd H a (.lst [x0, v, x2, x3]))) : rSetL (.ref a) (.int 1) v H P := g_setL (j := 1) hp rfl h
abbrev N_law_draw : List Str := ["hand", "many", "cell", "once", "twice", "found"]
def t_law_draw (K : PySem.W.Frag) : TS :=
  tSeq (tAsg (tOp qAdd (tOp (rIxL K) (tVar 0) (tC (.int 3))) (tC (.int 1))) (gSub (tVar 0) (tC (.int 3)) rSetL)) (tSeq (tIfS (tTest (tOp rEq (tOp (rIxL K) (tVar 0) (tC (.int 2))) (tC (.int 0)))) (tSeq (tAsg (tC (.int 0)) (gName 2)) (tSeq (tIfS (tTest (tOp qGt (tCB (qLenQ K) (tCons (tOp (rIxL K) (tVar 0) (tC (.int 0))) tNil)) (tC (.int 0)))) (tAsg (tOp (rIxL K) (tOp (rIxL K) (tVar 0) (tC (.int 0))) (tOp qMod (tOp (rIxL K) (tVar 0) (tC (.int 1))) (tCB (qLenQ K) (tCons (tOp (rIxL K) (tVar 0) (tC (.int 0))) tNil)))) (gName 2)) (tNext)) (tSeq (tAsg (tOp qAdd (tOp (rIxL K) (tVar 0) (tC (.int 1))) (tC (.int 1))) (gSub (tVar 0) (tC (.int 1)) rSetL)) (tSeq (tIfS (tOr (tTest (tOp qLt (tVar 2) (tOp qPow (tC (.int 10)) (tC (.int 18))))) (tTest (tOp qGt (tOp (rIxL K) (tVar 0) (tC (.int 1))) (tCB (qLenQ K) (tCons (tOp (rIxL K) (tVar 0) (tC (.int 0))) tNil))))) (tSeq (tAsg (tOp qMod (tOp qMul (tOp qAdd (tOp qAdd (tOp qMod (tVar 2) (tC (.int 2147483629))) (tOp qMul (tC (.int 7919)) (tOp (rIxL K) (tVar 0) (tC (.int 3))))) (tC (.int 11))) (tC (.int 48271))) (tC (.int 2147483647))) (gName 3)) (tSeq (tAsg (tOp qMod (tOp qAdd (tOp qMul (tVar 3) (tOp qAdd (tOp qMod (tVar 3) (tC (.int 39373))) (tOp (rIxL K) (tVar 0) (tC (.int 3))))) (tOp qMul (tC (.int 104729)) (tOp (rIxL K) (tVar 0) (tC (.int 3))))) (tC (.int 1999999973))) (gName 4)) (tRet (tOp qMod (tOp qDiv (tVar 4) (tC (.int 64))) (tVar 1))))) (tNext)) (tAsg (tVar 2) (gSub (tVar 0) (tC (.int 2)) rSetL)))))) (tNext)) (tSeq (tAsg (tOp qMod (tOp (rIxL K) (tVar 0) (tC (.int 2))) (tVar 1)) (gName 5)) (tSeq (tAsg (tOp qDiv (tOp (rIxL K) (tVar 0) (tC (.int 2))) (tVar 1)) (gSub (tVar 0) (tC (.int 2)) rSetL)) (tRet (tVar 5)))))
def sp_law_draw (K : PySem.W.Frag) : Sp := fun vs H Q _ => ∃ (a : Addr) (m : Int) (l : Addr), vs = [.ref a, .int m] ∧ HandL H a l ∧ 0 < m ∧ m < 1073741824 ∧ ∀ H' r, SameX a H H' → HandL H' a l → 0 ≤ r → r < m → Q (.int r) H'
theorem len_law_draw (K : PySem.W.Frag) (vs : List V) (H : Hp) (Q : VK) (E : XK) (h : sp_law_draw K vs H Q E) : vs.length = (["hand", "many"] : List Str).length := by
  obtain ⟨a, ns, l, rfl, _⟩ := h; rfl
theorem pure_law_draw (K : PySem.W.Frag) (vs : List V) (H : Hp) (Q : VK) (E : XK) (h : sp_law_draw K vs H Q E) : t_law_draw K ⟨fun _ H' => Q .non H', Q, fun _ _ => False, fun _ _ => False⟩ (start N_law_draw vs) H := by
  obtain ⟨a, m, l, rfl, ⟨ns, i, j, k, ha, hL, hn⟩, m0, m1, q⟩ := h
  have nla : l ≠ a := hand_ne ha hL
  unfold t_law_draw
  walk_at "go"
  refine g_ixL (SqL.of ha) rfl ?_
  walk_at "go"
  refine set3 ha ?_
  have ha1 : (upd H a (.lst [.ref l, .int i, .int j, .int (k + 1)])) a = some (.lst [.ref l, .int i, .int j, .int (k + 1)]) := upd_same
  have hl1 : (upd H a (.lst [.ref l, .int i, .int j, .int (k + 1)])) l = some (.lst (ns.map V.int)) := upd_get nla hL
  have sx1 : SameX a H (upd H a (.lst [.ref l, .int i, .int j, .int (k + 1)])) := (SameX.refl a H).mut
  generalize upd H a (.lst [.ref l, .int i, .int j, .int (k + 1)]) = H1 at ha1 hl1 sx1 ⊢
  generalize k + 1 = k1 at ha1 ⊢
  walk_at "st"
  walk_at "st"
  refine g_ixL (SqL.of ha1) rfl ?_
  walk_at "st"
  -- the last part, whatever the third number is
  have fin : ∀ (i2 j2 : Int) (v2 : Option V) (H2 : Hp), H2 a = some (.lst [.ref l, .int i2, .int j2, .int k1]) → H2 l = some (.lst (ns.map V.int)) → SameX a H H2 →
      tSeq (tAsg (tOp qMod (tOp (rIxL K) (tVar 0) (tC (.int 2))) (tVar 1)) (gName 5)) (tSeq (tAsg (tOp qDiv (tOp (rIxL K) (tVar 0) (tC (.int 2))) (tVar 1)) (gSub (tVar 0) (tC (.int 2)) rSetL)) (tRet (tVar 5)))
        ⟨fun _ H' => Q .non H', Q, fun _ _ => False, fun _ _ => False⟩ [some (.ref a), some (.int m), v2, none, none, none] H2 := by
    intro i2 j2 v2 H2 ha2 hl2 sx2
    walk_at "go"
    refine g_ixL (SqL.of ha2) rfl ?_
    walk_at "go"
    refine g_ixL (SqL.of ha2) rfl ?_
    walk_at "go"
    refine set2 ha2 ?_
    walk_at "go"
    exact q _ _ sx2.mut ⟨ns, i2, j2 / m, k1, upd_same, upd_get nla hl2, hn⟩ (Int.emod_nonneg _ (by omega)) (Int.emod_lt_of_pos _ m0)
  refine g_ite (fun h1 => ?_) (fun h1 => ?_)
  · walk_at "st"
    walk_at "st"
    refine g_ixL (SqL.of ha1) rfl ?_
    walk_at "st"
    refine g_lenL (SqL.of hl1) ?_
    walk_at "st"
    -- behind the choice of the cell
    have mid : ∀ (c : Int), tSeq (tAsg (tOp qAdd (tOp (rIxL K) (tVar 0) (tC (.int 1))) (tC (.int 1))) (gSub (tVar 0) (tC (.int 1)) rSetL)) (tSeq (tIfS (tOr (tTest (tOp qLt (tVar 2) (tOp qPow (tC (.int 10)) (tC (.int 18))))) (tTest (tOp qGt (tOp (rIxL K) (tVar 0) (tC (.int 1))) (tCB (qLenQ K) (tCons (tOp (rIxL K) (tVar 0) (tC (.int 0))) tNil))))) (tSeq (tAsg (tOp qMod (tOp qMul (tOp qAdd (tOp qAdd (tOp qMod (tVar 2) (tC (.int 2147483629))) (tOp qMul (tC (.int 7919)) (tOp (rIxL K) (tVar 0) (tC (.int 3))))) (tC (.int 11))) (tC (.int 48271))) (tC (.int 2147483647))) (gName 3)) (tSeq (tAsg (tOp qMod (tOp qAdd (tOp qMul (tVar 3) (tOp qAdd (tOp qMod (tVar 3) (tC (.int 39373))) (tOp (rIxL K) (tVar 0) (tC (.int 3))))) (tOp qMul (tC (.int 104729)) (tOp (rIxL K) (tVar 0) (tC (.int 3))))) (tC (.int 1999999973))) (gName 4)) (tRet (tOp qMod (tOp qDiv (tVar 4) (tC (.int 64))) (tVar 1))))) (tNext)) (tAsg (tVar 2) (gSub (tVar 0) (tC (.int 2)) rSetL)))
        ⟨tSeq (tAsg (tOp qMod (tOp (rIxL K) (tVar 0) (tC (.int 2))) (tVar 1)) (gName 5)) (tSeq (tAsg (tOp qDiv (tOp (rIxL K) (tVar 0) (tC (.int 2))) (tVar 1)) (gSub (tVar 0) (tC (.int 2)) rSetL)) (tRet (tVar 5))) ⟨fun _ H' => Q .non H', Q, fun _ _ => False, fun _ _ => False⟩, Q, fun _ _ => False, fun _ _ => False⟩
        [some (.ref a), some (.int m), some (.int c), none, none, none] H1 := by
      intro c
      walk_at "go"
      refine g_ixL (SqL.of ha1) rfl ?_
      walk_at "go"
      refine set1 ha1 ?_
      have ha2 : (upd H1 a (.lst [.ref l, .int (i + 1), .int j, .int k1])) a = some (.lst [.ref l, .int (i + 1), .int j, .int k1]) := upd_same
      have hl2 : (upd H1 a (.lst [.ref l, .int (i + 1), .int j, .int k1])) l = some (.lst (ns.map V.int)) := upd_get nla hl1
      have sx2 : SameX a H (upd H1 a (.lst [.ref l, .int (i + 1), .int j, .int k1])) := sx1.mut
      generalize upd H1 a (.lst [.ref l, .int (i + 1), .int j, .int k1]) = H2 at ha2 hl2 sx2 ⊢
      have once : tSeq (tAsg (tOp qMod (tOp qMul (tOp qAdd (tOp qAdd (tOp qMod (tVar 2) (tC (.int 2147483629))) (tOp qMul (tC (.int 7919)) (tOp (rIxL K) (tVar 0) (tC (.int 3))))) (tC (.int 11))) (tC (.int 48271))) (tC (.int 2147483647))) (gName 3)) (tSeq (tAsg (tOp qMod (tOp qAdd (tOp qMul (tVar 3) (tOp qAdd (tOp qMod (tVar 3) (tC (.int 39373))) (tOp (rIxL K) (tVar 0) (tC (.int 3))))) (tOp qMul (tC (.int 104729)) (tOp (rIxL K) (tVar 0) (tC (.int 3))))) (tC (.int 1999999973))) (gName 4)) (tRet (tOp qMod (tOp qDiv (tVar 4) (tC (.int 64))) (tVar 1))))
          ⟨tAsg (tVar 2) (gSub (tVar 0) (tC (.int 2)) rSetL) ⟨tSeq (tAsg (tOp qMod (tOp (rIxL K) (tVar 0) (tC (.int 2))) (tVar 1)) (gName 5)) (tSeq (tAsg (tOp qDiv (tOp (rIxL K) (tVar 0) (tC (.int 2))) (tVar 1)) (gSub (tVar 0) (tC (.int 2)) rSetL)) (tRet (tVar 5))) ⟨fun _ H' => Q .non H', Q, fun _ _ => False, fun _ _ => False⟩, Q, fun _ _ => False, fun _ _ => False⟩, Q, fun _ _ => False, fun _ _ => False⟩
          [some (.ref a), some (.int m), some (.int c), none, none, none] H2 := by
        walk_at "go"
        refine g_ixL (SqL.of ha2) rfl ?_
        walk_at "go"
        refine g_ixL (SqL.of ha2) rfl ?_
        walk_at "go"
        refine g_ixL (SqL.of ha2) rfl ?_
        walk_at "go"
        exact q _ _ sx2 ⟨ns, _, _, _, ha2, hl2, hn⟩ (Int.emod_nonneg _ (by omega)) (Int.emod_lt_of_pos _ m0)
      walk_at "go"
      refine g_ite (fun h3 => ?_) (fun h3 => ?_)
      · exact g_ifT once
      · walk_at "go"
        refine g_ixL (SqL.of ha2) rfl ?_
        walk_at "go"
        refine g_ixL (SqL.of ha2) rfl ?_
        walk_at "go"
        refine g_lenL (SqL.of hl2) ?_
        walk_at "go"
        refine g_ite (fun h4 => ?_) (fun h4 => ?_)
        · exact once
        · walk_at "go"
          refine set2 ha2 ?_
          exact fin _ _ (some (.int c)) _ upd_same (upd_get nla hl2) sx2.mut
    refine g_ite (fun h2 => ?_) (fun h2 => ?_)
    · walk_at "st"
      refine g_ixL (SqL.of ha1) rfl ?_
      walk_at "st"
      refine g_ixL (SqL.of ha1) rfl ?_
      walk_at "st"
      refine g_ixL (SqL.of ha1) rfl ?_
      walk_at "st"
      refine g_lenL (SqL.of hl1) ?_
      rw [List.length_map] at h2 ⊢
      walk_at "st"
      have hlt : (i % (ns.length : Int)).toNat < ns.length := by
        have h3 := Int.emod_nonneg i (b := (ns.length : Int)) (by omega)
        have h4 := Int.emod_lt_of_pos i (b := (ns.length : Int)) h2
        omega
      refine g_ixL (v := .int ns[(i % (ns.length : Int)).toNat]) (SqL.of hl1) ?_ ?_
      · refine atI_toNat (Int.emod_nonneg i (by omega)) ?_
        rw [List.getElem?_map, List.getElem?_eq_getElem hlt]; rfl
      · walk_at "st"
        exact mid _
    · walk_at "st"
      exact mid 0
  · walk_at "st"
    exact fin i j none H1 ha1 hl1 sx1

/-! PsL2 -/
/-! ### the law's own writer (k57) -/
abbrev N_law_all : List Str := ["some"]
def t_law_all (K : PySem.W.Frag) : TS :=
  tSeq (tAsg (tC (.str " !\"#$&'()*+,-./0123456789:;<=>?@ABCDEFGHIJKLMNOPQRSTUVWXYZ[\\]^_`")) (gName 0)) (tRet (tOp qAddS (tVar 0) (tC (.str "abcdefghijklmnopqrstuvwxyz{|}~"))))
def sp_law_all (K : PySem.W.Frag) : Sp := fun vs H Q _ => vs = [] ∧ Q (.str (tx sgnL)) H
theorem len_law_all (K : PySem.W.Frag) (vs : List V) (H : Hp) (Q : VK) (E : XK) (h : sp_law_all K vs H Q E) : vs.length = ([] : List Str).length := by
  obtain ⟨rfl, _⟩ := h; rfl
theorem tx_all : (" !\"#$&'()*+,-./0123456789:;<=>?@ABCDEFGHIJKLMNOPQRSTUVWXYZ[\\]^_`" : Str) ++ ("abcdefghijklmnopqrstuvwxyz{|}~" : Str) = tx sgnL := by decide +kernel
theorem tx_fig : ("0123456789" : Str) = tx figL := by decide +kernel
theorem tx_cap : (" ABCDEFGHIJKLMNOPQRSTUVWXYZ.,-:/" : Str) = tx capL := by decide +kernel
theorem pure_law_all (K : PySem.W.Frag) (vs : List V) (H : Hp) (Q : VK) (E : XK) (h : sp_law_all K vs H Q E) : t_law_all K ⟨fun _ H' => Q .non H', Q, fun _ _ => False, fun _ _ => False⟩ (start N_law_all vs) H := by
  obtain ⟨rfl, q⟩ := h
  unfold t_law_all
  walk_at "go"
  refine g_addS (by decide +kernel) ?_
  rw [tx_all]
  exact q
abbrev N_law_known : List Str := ["kind"]
def t_law_known (K : PySem.W.Frag) : TS :=
  tSeq (tIfS (tTest (tOp rEq (tVar 0) (tC (.int 1)))) (tRet (tC (.str "0123456789"))) (tNext)) (tSeq (tIfS (tTest (tOp rEq (tVar 0) (tC (.int 2)))) (tRet (tC (.str " ABCDEFGHIJKLMNOPQRSTUVWXYZ.,-:/"))) (tNext)) (tRet (tCall (sp_law_all K) [] E0 (tNil))))
def sp_law_known (K : PySem.W.Frag) : Sp := fun vs H Q _ => ∃ k : Int, vs = [.int k] ∧ Q (.str (tx (knownL k))) H
theorem len_law_known (K : PySem.W.Frag) (vs : List V) (H : Hp) (Q : VK) (E : XK) (h : sp_law_known K vs H Q E) : vs.length = (["kind"] : List Str).length := by
  obtain ⟨k, rfl, _⟩ := h; rfl
theorem pure_law_known (K : PySem.W.Frag) (vs : List V) (H : Hp) (Q : VK) (E : XK) (h : sp_law_known K vs H Q E) : t_law_known K ⟨fun _ H' => Q .non H', Q, fun _ _ => False, fun _ _ => False⟩ (start N_law_known vs) H := by
  obtain ⟨k, rfl, q⟩ := h
  unfold t_law_known
  unfold knownL at q
  walk_at "go"
  refine g_ite (fun h1 => ?_) (fun h1 => ?_)
  · walk_at "go"
    rw [if_pos h1] at q
    rw [tx_fig]; exact q
  · rw [if_neg h1] at q
    walk_at "go"
    refine g_ite (fun h2 => ?_) (fun h2 => ?_)
    · walk_at "go"
      rw [if_pos h2] at q
      rw [tx_cap]; exact q
    · rw [if_neg h2] at q
      walk_at "go"
      exact ⟨rfl, q⟩
abbrev N_law_bits : List Str := ["number", "width", "bits", "k"]
def t_law_bits (K : PySem.W.Frag) : TS :=
  tSeq (tAsg (tLst (tNil)) (gName 2)) (tSeq (tFor (iRng1 (tCons (tVar 1) tNil)) (gName 3) (tSeq (tDrop (tBM K "list" qInsert (tVar 2) (tCons (tC (.int 0)) (tCons (tOp qMod (tVar 0) (tC (.int 2))) tNil)))) (tAsg (tOp qDiv (tVar 0) (tC (.int 2))) (gName 0)))) (tRet (tVar 2)))
def sp_law_bits (K : PySem.W.Frag) : Sp := fun vs H Q _ => ∃ n w : Nat, vs = [.int (n : Int), .int (w : Int)] ∧ w ≤ 1000 ∧ ∀ H' p, Same H H' → H p = none → H' p = some (.lst ((bitsN w n).map V.int)) → Q (.ref p) H'
theorem len_law_bits (K : PySem.W.Frag) (vs : List V) (H : Hp) (Q : VK) (E : XK) (h : sp_law_bits K vs H Q E) : vs.length = (["number", "width"] : List Str).length := by
  obtain ⟨n, w, rfl, _⟩ := h; rfl
theorem bitsN_front : ∀ (i n : Nat), bitsN (i + 1) n = ((n / 2 ^ i % 2 : Nat) : Int) :: bitsN i n
  | 0, n => by
    show [] ++ [((n % 2 : Nat) : Int)] = _
    rw [Nat.pow_zero, Nat.div_one]; rfl
  | i + 1, n => by
    show bitsN (i + 1) (n / 2) ++ [((n % 2 : Nat) : Int)] = _
    rw [bitsN_front i (n / 2), Nat.div_div_eq_div_mul, List.cons_append, show 2 * 2 ^ i = 2 ^ (i + 1) by rw [Nat.pow_succ, Nat.mul_comm]]
    rfl
theorem pure_law_bits (K : PySem.W.Frag) (vs : List V) (H : Hp) (Q : VK) (E : XK) (h : sp_law_bits K vs H Q E) : t_law_bits K ⟨fun _ H' => Q .non H', Q, fun _ _ => False, fun _ _ => False⟩ (start N_law_bits vs) H := by
  obtain ⟨n, w, rfl, hw, q⟩ := h
  unfold t_law_bits
  walk_at "go"
  intro p hp
  walk_at "go"
  refine g_r1 (by omega) (by omega) ?_
  rw [show ((w : Int)).toNat = w from rfl]
  refine forR (fun i σ H' => ∃ v3, σ = [some (.int ((n / 2 ^ i : Nat) : Int)), some (.int w), some (.ref p), v3] ∧ Same H H' ∧ H' p = some (.lst ((bitsN i n).map V.int)))
    ⟨none, by rw [Nat.pow_zero, Nat.div_one]; rfl, same_new (Same.refl H) hp, upd_same⟩ ?_ ?_
  · rintro i σ H' hi ⟨v3, rfl, sm, hl⟩
    walk_at "go"
    refine g_tyL (SqL.of hl) ?_
    walk_at "go"
    refine g_ins0 hl (by rw [List.length_map, bitsN_len, sizeLine_eq]; omega) ?_
    walk_at "go"
    refine ⟨some (.int (0 + i)), ?_, same_mut sm hp, ?_⟩
    · rw [show n / 2 ^ (i + 1) = n / 2 ^ i / 2 by rw [Nat.pow_succ, Nat.div_div_eq_div_mul]]; rfl
    · rw [upd_same, bitsN_front]; rfl
  · rintro σ H' ⟨v3, rfl, sm, hl⟩
    walk_at "go"
    exact q H' p sm hp hl
abbrev N_law_value : List Str := ["bits", "number", "bit"]
def t_law_value (K : PySem.W.Frag) : TS :=
  tSeq (tAsg (tC (.int 0)) (gName 1)) (tSeq (tFor (iList K (tVar 0)) (gName 2) (tAsg (tOp qAdd (tOp qMul (tC (.int 2)) (tVar 1)) (tVar 2)) (gName 1))) (tRet (tVar 1)))
def sp_law_value (K : PySem.W.Frag) : Sp := fun vs H Q _ => ∃ (a : Addr) (l : List Int), vs = [.ref a] ∧ SqL K H a (l.map V.int) ∧ Q (.int (numOf l)) H
theorem len_law_value (K : PySem.W.Frag) (vs : List V) (H : Hp) (Q : VK) (E : XK) (h : sp_law_value K vs H Q E) : vs.length = (["bits"] : List Str).length := by
  obtain ⟨a, l, rfl, _⟩ := h; rfl
theorem pure_law_value (K : PySem.W.Frag) (vs : List V) (H : Hp) (Q : VK) (E : XK) (h : sp_law_value K vs H Q E) : t_law_value K ⟨fun _ H' => Q .non H', Q, fun _ _ => False, fun _ _ => False⟩ (start N_law_value vs) H := by
  obtain ⟨a, l, rfl, hS, q⟩ := h
  unfold t_law_value
  walk_at "go"
  refine g_atL hS ?_
  refine forL V.int l (fun rest σ H' => H' = H ∧ ∃ v2 n, σ = [some (.ref a), some (.int n), v2] ∧ rest.foldl (fun n b => 2 * n + b) n = numOf l) ⟨rfl, none, 0, rfl, rfl⟩ ?_ ?_ ?_
  · rintro d r σ H' _ ⟨rfl, _⟩
    exact hS
  · rintro d x r σ H' rfl ⟨rfl, v2, n, rfl, e⟩
    walk_at "go"
    exact ⟨rfl, some (.int x), 2 * n + x, rfl, e⟩
  · rintro σ H' ⟨rfl, v2, n, rfl, e⟩
    walk_at "go"
    rw [← e] at q
    exact q
abbrev N_law_piece_bits : List Str := ["kind", "signs", "bits", "sign", "k", "group"]
def t_law_piece_bits (K : PySem.W.Frag) : TS :=
  tSeq (tAsg (tOp rCat (tCall (sp_law_bits K) [] E0 (tCons (tVar 0) (tCons (tC (.int 2)) tNil))) (tCall (sp_law_bits K) [] E0 (tCons (tOp qSub (tCB qLenS (tCons (tVar 1) tNil)) (tC (.int 1))) (tCons (tC (.int 6)) tNil)))) (gName 2)) (tSeq (tIfS (tTest (tOp qGt (tVar 0) (tC (.int 1)))) (tSeq (tFor (iStr (tVar 1)) (gName 3) (tAsg (tOp rCat (tVar 2) (tCall (sp_law_bits K) [] E0 (tCons (tBM K "str" qFind (tCall (sp_law_known K) [] E0 (tCons (tVar 0) tNil)) (tCons (tVar 3) tNil)) (tCons (tOp qAdd (tOp qMul (tC (.int 2)) (tVar 0)) (tC (.int 1))) tNil)))) (gName 2))) (tRet (tVar 2))) (tNext)) (tSeq (tFor (iRng3 (tCons (tC (.int 0)) (tCons (tCB qLenS (tCons (tVar 1) tNil)) (tCons (tC (.int 3)) tNil)))) (gName 4) (tSeq (tAsg (tSl rSlS (tVar 1) (tPart (tVar 4)) (tPart (tOp qAdd (tVar 4) (tC (.int 3))))) (gName 5)) (tAsg (tOp rCat (tVar 2) (tCall (sp_law_bits K) [] E0 (tCons (tCB qIntS (tCons (tVar 5) tNil)) (tCons (tOp (rIxL K) (tLst (tCons (tC (.int 0)) (tCons (tC (.int 4)) (tCons (tC (.int 7)) (tCons (tC (.int 10)) tNil))))) (tCB qLenS (tCons (tVar 5) tNil))) tNil)))) (gName 2)))) (tRet (tVar 2))))
def sp_law_piece_bits (K : PySem.W.Frag) : Sp := fun vs H Q _ => ∃ (k : Int) (s : List Nat), vs = [.int k, .str (tx s)] ∧ PieceOk (k, s) ∧ ∀ H' p, Same H H' → H p = none → H' p = some (.lst ((encP (k, s)).map V.int)) → Q (.ref p) H'
theorem len_law_piece_bits (K : PySem.W.Frag) (vs : List V) (H : Hp) (Q : VK) (E : XK) (h : sp_law_piece_bits K vs H Q E) : vs.length = (["kind", "signs"] : List Str).length := by
  obtain ⟨n, w, rfl, _⟩ := h; rfl
def widF (n : Nat) : Nat := if n = 1 then 4 else if n = 2 then 7 else 10
theorem encF_step : ∀ (s : List Nat), s ≠ [] → (∀ c ∈ s, 48 ≤ c ∧ c ≤ 57) → encF s = bitsN (widF (s.take 3).length) (NumText.digitsVal (s.take 3)) ++ encF (s.drop 3)
  | [], h, _ => absurd rfl h
  | [a], _, h => by
    rw [show encF ([a].drop 3) = [] from rfl, List.append_nil, encF]
    show bitsN 4 (a - 48) = bitsN 4 (0 * 10 + (a - 48))
    congr 1; omega
  | [a, b], _, h => by
    rw [show encF ([a, b].drop 3) = [] from rfl, List.append_nil, encF]
    show bitsN 7 _ = bitsN 7 ((0 * 10 + (a - 48)) * 10 + (b - 48))
    congr 1; omega
  | a :: b :: c :: r, _, h => by
    rw [encF]
    show bitsN 10 _ ++ encF r = bitsN 10 (((0 * 10 + (a - 48)) * 10 + (b - 48)) * 10 + (c - 48)) ++ encF r
    congr 2; omega
theorem pure_law_piece_bits (K : PySem.W.Frag) (vs : List V) (H : Hp) (Q : VK) (E : XK) (h : sp_law_piece_bits K vs H Q E) : t_law_piece_bits K ⟨fun _ H' => Q .non H', Q, fun _ _ => False, fun _ _ => False⟩ (start N_law_piece_bits vs) H := by
  obtain ⟨k, s, rfl, ok, q⟩ := h
  obtain ⟨hk, hl1, hl2, hm⟩ := ok
  dsimp only at hk hl1 hl2 hm
  unfold t_law_piece_bits
  walk_at "st"
  have ek : k = ((k.toNat : Nat) : Int) := by omega
  refine ⟨k.toNat, 2, by rw [← ek]; rfl, by decide, fun H1 p1 s1 n1 h1 => ?_⟩
  walk_at "st"
  refine g_lenS (by rw [tx_len, sizeLine_eq]; omega) ?_
  rw [tx_len]
  walk_at "st"
  refine ⟨s.length - 1, 6, by rw [show (s.length : Int) - 1 = ((s.length - 1 : Nat) : Int) by omega]; rfl, by decide, fun H2 p2 s2 n2 h2 => ?_⟩
  refine g_cat (s2 _ _ h1) h2 (by rw [List.length_map, List.length_map, bitsN_len, bitsN_len]; decide) ?_
  intro p3 n3
  rw [← List.map_append]
  have s3 : Same H (upd H2 p3 (.lst ((bitsN 2 k.toNat ++ bitsN 6 (s.length - 1)).map V.int))) := same_new (s1.trans s2) n3
  have h3 : (upd H2 p3 (.lst ((bitsN 2 k.toNat ++ bitsN 6 (s.length - 1)).map V.int))) p3 = some (.lst ((bitsN 2 k.toNat ++ bitsN 6 (s.length - 1)).map V.int)) := upd_same
  have n30 : H p3 = none := (s1.trans s2).free n3
  generalize upd H2 p3 (.lst ((bitsN 2 k.toNat ++ bitsN 6 (s.length - 1)).map V.int)) = H3 at s3 h3 ⊢
  have hpre : (bitsN 2 k.toNat ++ bitsN 6 (s.length - 1)).length = 8 := by rw [List.length_append, bitsN_len, bitsN_len]
  have hfull : encP (k, s) = (bitsN 2 k.toNat ++ bitsN 6 (s.length - 1)) ++ encB k s := by unfold encP; rw [List.append_assoc]
  generalize bitsN 2 k.toNat ++ bitsN 6 (s.length - 1) = pre at *
  walk_at "st"
  walk_at "st"
  refine g_ite (fun hgt => ?_) (fun hgt => ?_)
  · -- capitals and any signs
    obtain ⟨known, w, e1, e2, e3, e4⟩ : ∃ (known : List Nat) (w : Nat), knownL k = known ∧ encB k s = encS known w s ∧ 2 * k + 1 = (w : Int) ∧ (w ≤ 7 ∧ ∀ c ∈ known, Txt.find (tx known) (tx [c]) = ((known.idxOf c : Nat) : Int)) := by
      rcases hk with rfl | rfl | rfl
      · exact absurd hgt (by decide)
      · exact ⟨capL, 5, rfl, rfl, rfl, by decide, fun c hc => find_one hc⟩
      · exact ⟨sgnL, 7, rfl, rfl, rfl, by decide, fun c hc => find_one hc⟩
    rw [e1] at hm
    rw [hfull, e2] at q
    walk_at "go"
    refine forS s (fun rest σ H' => ∃ (p : Addr) (acc : List Int) (v3 v4 v5 : Option V), σ = [some (.int k), some (.str (tx s)), some (.ref p), v3, v4, v5] ∧ Same H H' ∧ H p = none ∧ H' p = some (.lst (acc.map V.int)) ∧ acc ++ encS known w rest = pre ++ encS known w s ∧ acc.length + 7 * rest.length ≤ 1000)
      ⟨p3, pre, none, none, none, rfl, s3, n30, h3, rfl, by omega⟩ ?_ ?_
    · rintro d c r σ H' ed ⟨p, acc, v3, v4, v5, rfl, sm, np, hp, e, hal⟩
      have hc : c ∈ known := hm c (by rw [ed]; exact List.mem_append_right _ List.mem_cons_self)
      walk_at "go"
      refine ⟨k, rfl, ?_⟩
      refine g_tyS rfl ?_
      walk_at "go"
      rw [e1, show (⟨#[c]⟩ : Str) = tx [c] from rfl, e4.2 c hc]
      refine ⟨known.idxOf c, w, by rw [← e3]; rfl, by omega, fun H4 p4 s4 n4 h4 => ?_⟩
      rw [List.length_cons] at hal
      refine g_cat (s4 _ _ hp) h4 (by rw [List.length_map, List.length_map, bitsN_len, sizeLine_eq]; omega) ?_
      intro p5 n5
      walk_at "go"
      refine ⟨p5, acc ++ bitsN w (known.idxOf c), some (.str ⟨#[c]⟩), v4, v5, rfl, same_new (sm.trans s4) n5, (sm.trans s4).free n5, by rw [upd_same, List.map_append], ?_, by rw [List.length_append, bitsN_len]; omega⟩
      rw [← e]
      show _ = acc ++ (bitsN w (known.idxOf c) ++ encS known w r)
      rw [List.append_assoc]
    · rintro σ H' ⟨p, acc, v3, v4, v5, rfl, sm, np, hp, e, _⟩
      walk_at "go"
      refine q H' p sm np ?_
      rw [hp, ← e]
      show _ = some (HO.lst ((acc ++ []).map V.int))
      rw [List.append_nil]
  · -- figures
    have hk1 : k = 1 := by omega
    subst hk1
    have hd : ∀ c ∈ s, 48 ≤ c ∧ c ≤ 57 := fun c hc => fig_mem (hm c hc)
    rw [hfull, show encB 1 s = encF s from rfl] at q
    walk_at "go"
    refine g_lenS (by rw [tx_len, sizeLine_eq]; omega) ?_
    rw [tx_len]
    walk_at "go"
    refine g_r3 (m := (s.length + 2) / 3) ?_ ?_
    · exact range3 _ (by omega)
    refine forC (fun i σ H' => ∃ (p : Addr) (acc : List Int) (v3 v4 v5 : Option V), σ = [some (.int 1), some (.str (tx s)), some (.ref p), v3, v4, v5] ∧ Same H H' ∧ H p = none ∧ H' p = some (.lst (acc.map V.int)) ∧ acc ++ encF (s.drop (3 * i)) = pre ++ encF s ∧ acc.length ≤ 8 + 10 * i)
      ⟨p3, pre, none, none, none, rfl, s3, n30, h3, rfl, by omega⟩ ?_ ?_
    · rintro i σ H' hi ⟨p, acc, v3, v4, v5, rfl, sm, np, hp, e, hal⟩
      walk_at "go"
      refine g_slS (by rw [tx_len, sizeLine_eq]; omega) ?_
      rw [show (0 : Int) + (i : Nat) * 3 = ((3 * i : Nat) : Int) by omega, show ((3 * i : Nat) : Int) + 3 = ((3 * i + 3 : Nat) : Int) by omega, cutS_mid, show 3 * i + 3 - 3 * i = 3 by omega]
      have hne : s.drop (3 * i) ≠ [] := fun z => by
        have := congrArg List.length z
        rw [List.length_drop, List.length_nil] at this
        omega
      have hdd : ∀ c ∈ s.drop (3 * i), 48 ≤ c ∧ c ≤ 57 := fun c hc => hd c (List.mem_of_mem_drop hc)
      have hst := encF_step _ hne hdd
      have hg3 : ((s.drop (3 * i)).take 3).length ≤ 3 := by rw [List.length_take]; omega
      have hg0 : 0 < ((s.drop (3 * i)).take 3).length := by
        rw [List.length_take]
        have : 0 < (s.drop (3 * i)).length := List.length_pos_iff.mpr hne
        omega
      have hgd : ∀ c ∈ (s.drop (3 * i)).take 3, 48 ≤ c ∧ c ≤ 57 := fun c hc => hdd c (List.mem_of_mem_take hc)
      rw [List.drop_drop] at hst
      generalize (s.drop (3 * i)).take 3 = grp at hst hg3 hg0 hgd ⊢
      walk_at "go"
      refine g_intS (PySem.intText_digits (x := tx grp) hgd (fun z => by rw [show grp = [] from z] at hg0; exact absurd hg0 (by decide)) (by rw [tx_len]; omega)) (by rw [tx_len]; omega) ?_
      walk_at "go"
      intro q4 n4
      walk_at "go"
      refine g_lenS (by rw [tx_len, sizeLine_eq]; omega) ?_
      rw [tx_len]
      refine g_ixL (v := .int (widF grp.length : Nat)) (SqL.of upd_same) ?_ ?_
      · refine atI_nat ?_
        have : grp.length = 1 ∨ grp.length = 2 ∨ grp.length = 3 := by omega
        rcases this with h | h | h <;> rw [h] <;> rfl
      walk_at "go"
      have hwid : widF grp.length ≤ 10 := by unfold widF; split <;> (try split) <;> omega
      refine ⟨NumText.digitsVal grp, widF grp.length, rfl, by omega, fun H5 p5 s5 n5 h5 => ?_⟩
      refine g_cat (s5 _ _ (upd_new n4 hp)) h5 (by rw [List.length_map, List.length_map, bitsN_len, sizeLine_eq]; omega) ?_
      intro p6 n6
      walk_at "go"
      have sm5 : Same H H5 := (same_new sm n4).trans s5
      refine ⟨p6, acc ++ bitsN (widF grp.length) (NumText.digitsVal grp), v3, some (.int ((3 * i : Nat) : Int)), some (.str (tx grp)), rfl, same_new sm5 n6, sm5.free n6, by rw [upd_same, List.map_append], ?_, by rw [List.length_append, bitsN_len]; omega⟩
      rw [← e, hst, List.append_assoc, show 3 * (i + 1) = 3 * i + 3 by omega]
    · rintro σ H' ⟨p, acc, v3, v4, v5, rfl, sm, np, hp, e, _⟩
      walk_at "go"
      refine q H' p sm np ?_
      rw [List.drop_eq_nil_of_le (by omega)] at e
      rw [hp, ← e]
      show _ = some (HO.lst ((acc ++ []).map V.int))
      rw [List.append_nil]

/-! PsL3 -/
/-! ### the law's own reader (k57) -/
abbrev N_law_widths : List Str := ["kind", "count"]
def t_law_widths (K : PySem.W.Frag) : TS :=
  tSeq (tIfS (tTest (tOp qGt (tVar 0) (tC (.int 1)))) (tRet (tOp rRep (tLst (tCons (tTup (tCons (tOp qAdd (tOp qMul (tC (.int 2)) (tVar 0)) (tC (.int 1))) (tCons (tCB qLenS (tCons (tCall (sp_law_known K) [] E0 (tCons (tVar 0) tNil)) tNil)) tNil))) tNil)) (tVar 1))) (tNext)) (tRet (tOp rCat (tOp rRep (tLst (tCons (tTup (tCons (tC (.int 10)) (tCons (tC (.int 1000)) tNil))) tNil)) (tOp qDiv (tVar 1) (tC (.int 3)))) (tSl (rSlL K) (tLst (tCons (tTup (tCons (tC (.int 0)) (tCons (tC (.int 1)) tNil))) (tCons (tTup (tCons (tC (.int 4)) (tCons (tC (.int 10)) tNil))) (tCons (tTup (tCons (tC (.int 7)) (tCons (tC (.int 100)) tNil))) tNil)))) (tPart (tOp qMod (tVar 1) (tC (.int 3)))) (tPart (tOp qAdd (tOp qMod (tVar 1) (tC (.int 3))) (tC (.int 1)))))))
def widL (n : Nat) : List (Nat × Nat) := [[(0, 1)], [(4, 10)], [(7, 100)]].getD (n % 3) []
def widths (k : Int) (c : Nat) : List (Nat × Nat) := if k = 1 then List.replicate (c / 3) (10, 1000) ++ widL c else List.replicate c ((2 * k + 1).toNat, (knownL k).length)
def WpAll (H : Hp) (ts : List Addr) (ws : List (Nat × Nat)) : Prop := Paired (fun t (w : Nat × Nat) => H t = some (.tup [.int (w.1 : Int), .int (w.2 : Int)])) ts ws
def sp_law_widths (K : PySem.W.Frag) : Sp := fun vs H Q _ => ∃ (k : Int) (c : Nat), vs = [.int k, .int (c : Int)] ∧ (k = 1 ∨ k = 2 ∨ k = 3) ∧ c ≤ 1000 ∧ ∀ H' p ts, Same H H' → H' p = some (.lst (ts.map V.ref)) → WpAll H' ts (widths k c) → Q (.ref p) H'
theorem len_law_widths (K : PySem.W.Frag) (vs : List V) (H : Hp) (Q : VK) (E : XK) (h : sp_law_widths K vs H Q E) : vs.length = (["kind", "count"] : List Str).length := by
  obtain ⟨n, w, rfl, _⟩ := h; rfl
theorem rep_one {α : Type} (x : α) (n : Nat) : (List.replicate n [x]).flatten = List.replicate n x := by
  induction n with
  | zero => rfl
  | succ k ih => rw [List.replicate_succ, List.flatten_cons, ih, List.replicate_succ]; rfl
theorem Paired.rep {α β : Type} {R : α → β → Prop} {a : α} {b : β} (h : R a b) : ∀ n : Nat, Paired R (List.replicate n a) (List.replicate n b)
  | 0 => .nil
  | n + 1 => by rw [List.replicate_succ, List.replicate_succ]; exact .cons h (Paired.rep h n)
theorem Paired.app {α β : Type} {R : α → β → Prop} : ∀ {xs xs' : List α} {ys ys' : List β}, Paired R xs ys → Paired R xs' ys' → Paired R (xs ++ xs') (ys ++ ys')
  | _, _, _, _, .nil, h => h
  | _, _, _, _, .cons r t, h => .cons r (Paired.app t h)
theorem knownL_len (k : Int) : (knownL k).length ≤ 94 := by
  unfold knownL
  split
  · decide
  · split <;> decide
theorem pure_law_widths (K : PySem.W.Frag) (vs : List V) (H : Hp) (Q : VK) (E : XK) (h : sp_law_widths K vs H Q E) : t_law_widths K ⟨fun _ H' => Q .non H', Q, fun _ _ => False, fun _ _ => False⟩ (start N_law_widths vs) H := by
  obtain ⟨k, c, rfl, hk, hc, q⟩ := h
  unfold t_law_widths
  walk_at "go"
  refine g_ite (fun h1 => ?_) (fun h1 => ?_)
  · walk_at "go"
    refine ⟨k, rfl, ?_⟩
    walk_at "go"
    have hkl := knownL_len k
    refine g_lenS (by rw [tx_len, sizeLine_eq]; omega) ?_
    rw [tx_len]
    walk_at "go"
    intro t nt
    walk_at "go"
    intro p np
    walk_at "go"
    refine g_rep (xs := [.ref t]) upd_same (by omega) (by omega) (by rw [List.length_singleton, sizeLine_eq]; show 1 * c ≤ _; omega) ?_
    intro l nl
    have s1 := same_new (o := .tup [.int (2 * k + 1), .int ((knownL k).length : Int)]) (Same.refl H) nt
    have s2 := same_new (o := .lst [.ref t]) s1 np
    have s3 := same_new (o := .lst (List.replicate ((c : Int)).toNat [V.ref t]).flatten) s2 nl
    have ht : (upd (upd (upd H t (.tup [.int (2 * k + 1), .int ((knownL k).length : Int)])) p (.lst [.ref t])) l (.lst (List.replicate ((c : Int)).toNat [V.ref t]).flatten)) t = some (.tup [.int (2 * k + 1), .int ((knownL k).length : Int)]) := upd_new nl (upd_new np upd_same)
    refine q _ l (List.replicate c t) s3 ?_ ?_
    · rw [upd_same, rep_one, List.map_replicate]; rfl
    · unfold widths
      rw [if_neg (by omega)]
      refine Paired.rep ?_ c
      show _ = some (HO.tup [.int (((2 * k + 1).toNat : Nat) : Int), _])
      rw [ht, show (((2 * k + 1).toNat : Nat) : Int) = 2 * k + 1 by omega]
  · have hk1 : k = 1 := by omega
    subst hk1
    walk_at "go"
    intro t nt
    walk_at "go"
    intro p np
    walk_at "go"
    have e3 : ((c : Int) / 3).toNat = c / 3 := by omega
    refine g_rep (xs := [.ref t]) upd_same (by omega) (by omega) (by rw [e3, List.length_singleton, sizeLine_eq]; omega) ?_
    intro l nl
    rw [e3, rep_one]
    walk_at "go"
    intro a na
    walk_at "go"
    intro b nb
    walk_at "go"
    intro d nd
    walk_at "go"
    intro e ne
    walk_at "go"
    rw [show (c : Int) % 3 = ((c % 3 : Nat) : Int) by omega, show ((c % 3 : Nat) : Int) + 1 = ((c % 3 + 1 : Nat) : Int) by omega]
    refine g_slL (SqL.of upd_same) ?_
    intro f nf
    rw [show [V.ref a, V.ref b, V.ref d] = [a, b, d].map V.ref from rfl, cut_mid, show c % 3 + 1 - c % 3 = 1 by omega]
    refine g_cat (xs := (List.replicate (c / 3) t).map V.ref) (ys := (([a, b, d].drop (c % 3)).take 1).map V.ref) ?_ upd_same ?_ ?_
    · rw [List.map_replicate]; exact upd_new nf (upd_new ne (upd_new nd (upd_new nb (upd_new na upd_same))))
    · rw [List.length_map, List.length_map, List.length_replicate, List.length_take, sizeLine_eq]; omega
    intro g ng
    rw [← List.map_append]
    refine q _ g _ (same_new (same_new (same_new (same_new (same_new (same_new (same_new (same_new (same_new (Same.refl H) nt) np) nl) na) nb) nd) ne) nf) ng) upd_same ?_
    unfold widths
    rw [if_pos rfl]
    refine Paired.app (Paired.rep ?_ _) ?_
    · exact upd_new ng (upd_new nf (upd_new ne (upd_new nd (upd_new nb (upd_new na (upd_new nl (upd_new np upd_same)))))))
    · have ha : ∀ x y : Addr, True := fun _ _ => trivial
      have hA := upd_new (o := .lst ((List.replicate (c / 3) t ++ ([a, b, d].drop (c % 3)).take 1).map V.ref)) ng (upd_new (o := .lst ((([a, b, d].drop (c % 3)).take 1).map V.ref)) nf (upd_new (o := .lst ([a, b, d].map V.ref)) ne (upd_new (o := .tup [.int 7, .int 100]) nd (upd_new (o := .tup [.int 4, .int 10]) nb (upd_same (a := a) (o := .tup [.int 0, .int 1]))))))
      have hB := upd_new (o := .lst ((List.replicate (c / 3) t ++ ([a, b, d].drop (c % 3)).take 1).map V.ref)) ng (upd_new (o := .lst ((([a, b, d].drop (c % 3)).take 1).map V.ref)) nf (upd_new (o := .lst ([a, b, d].map V.ref)) ne (upd_new (o := .tup [.int 7, .int 100]) nd (upd_same (a := b) (o := .tup [.int 4, .int 10])))))
      have hD := upd_new (o := .lst ((List.replicate (c / 3) t ++ ([a, b, d].drop (c % 3)).take 1).map V.ref)) ng (upd_new (o := .lst ((([a, b, d].drop (c % 3)).take 1).map V.ref)) nf (upd_new (o := .lst ([a, b, d].map V.ref)) ne (upd_same (a := d) (o := .tup [.int 7, .int 100]))))
      unfold widL
      have hm : c % 3 = 0 ∨ c % 3 = 1 ∨ c % 3 = 2 := by omega
      rcases hm with h | h | h
      · rw [h] at hA ⊢; exact .cons hA .nil
      · rw [h] at hB ⊢; exact .cons hB .nil
      · rw [h] at hD ⊢; exact .cons hD .nil
abbrev N_law_shown : List Str := ["kind", "number", "width", "shown"]
def t_law_shown (K : PySem.W.Frag) : TS :=
  tSeq (tIfS (tTest (tOp qGt (tVar 0) (tC (.int 1)))) (tRet (tOp rIxS (tCall (sp_law_known K) [] E0 (tCons (tVar 0) tNil)) (tVar 1))) (tNext)) (tSeq (tAsg (tCB qStrI (tCons (tVar 1) tNil)) (gName 3)) (tSeq (tWhile (tTest (tOp qLt (tCB qLenS (tCons (tVar 3) tNil)) (tOp qDiv (tVar 2) (tC (.int 3))))) (tAsg (tOp qAddS (tC (.str "0")) (tVar 3)) (gName 3))) (tRet (tVar 3))))
def shownL (k : Int) (n w : Nat) : List Nat := if w = 0 then [] else if k = 1 then pad (w / 3) n else [(knownL k).getD n 0]
def sp_law_shown (K : PySem.W.Frag) : Sp := fun vs H Q _ => ∃ (k : Int) (n w : Nat), vs = [.int k, .int (n : Int), .int (w : Int)] ∧ (k = 1 → 0 < w / 3 ∧ w ≤ 100 ∧ n < 10 ^ (w / 3)) ∧ (k ≠ 1 → 1 < k ∧ n < (knownL k).length) ∧ 0 < w ∧ Q (.str (tx (shownL k n w))) H
theorem len_law_shown (K : PySem.W.Frag) (vs : List V) (H : Hp) (Q : VK) (E : XK) (h : sp_law_shown K vs H Q E) : vs.length = (["kind", "number", "width"] : List Str).length := by
  obtain ⟨k, n, w, rfl, _⟩ := h; rfl
theorem tx_zero : ("0" : Str) = tx [48] := by decide +kernel
theorem pure_law_shown (K : PySem.W.Frag) (vs : List V) (H : Hp) (Q : VK) (E : XK) (h : sp_law_shown K vs H Q E) : t_law_shown K ⟨fun _ H' => Q .non H', Q, fun _ _ => False, fun _ _ => False⟩ (start N_law_shown vs) H := by
  obtain ⟨k, n, w, rfl, h1, h2, hw, q⟩ := h
  unfold t_law_shown
  unfold shownL at q
  rw [if_neg (by omega)] at q
  walk_at "go"
  refine g_ite (fun hk => ?_) (fun hk => ?_)
  · obtain ⟨_, hn⟩ := h2 (by omega)
    rw [if_neg (by omega)] at q
    walk_at "go"
    refine ⟨k, rfl, ?_⟩
    walk_at "go"
    have hkl := knownL_len k
    exact g_ixS (x := (knownL k).getD n 0) (by rw [tx_len, sizeLine_eq]; omega) (atI_nat (getD_some hn)) q
  · have hk1 : k = 1 := by
      by_cases e : k = 1
      · exact e
      · exact absurd (h2 e).1 (by omega)
    subst hk1
    rw [if_pos rfl] at q
    obtain ⟨h3, h4, h5⟩ := h1 rfl
    have h6 : n < 2 ^ 200 := Nat.lt_of_lt_of_le h5 (Nat.le_trans (Nat.pow_le_pow_right (by decide) (show w / 3 ≤ 34 by omega)) (by decide))
    have hlog : n.log2 < 1920 := by
      by_cases h0 : n = 0
      · subst h0; decide
      · exact Nat.lt_trans ((Nat.log2_lt h0).mpr h6) (by decide)
    walk_at "go"
    refine g_strI (by simpa using hlog) ?_
    rw [tx_num]
    walk_at "go"
    have hnl : (TL.numL n).length ≤ w / 3 := (numL_le h3).mpr h5
    have ew : (w : Int) / 3 = ((w / 3 : Nat) : Int) := by omega
    refine whileJ (fun m σ H' => ∃ j, H' = H ∧ σ = [some (.int 1), some (.int n), some (.int w), some (.str (tx (List.replicate j 48 ++ TL.numL n)))] ∧ j + m = w / 3 - (TL.numL n).length) (w / 3 - (TL.numL n).length) ⟨0, rfl, rfl, by omega⟩ ?_
    rintro m σ H' ⟨j, rfl, rfl, ej⟩
    walk_at "go"
    refine g_lenS (by rw [tx_len, List.length_append, List.length_replicate, sizeLine_eq]; omega) ?_
    rw [tx_len, List.length_append, List.length_replicate]
    walk_at "go"
    rw [ew]
    refine g_iteW (fun hlt => ?_) (fun hlt => ?_)
    · walk_at "go"
      refine g_addS (by rw [tx_zero, tx_len, tx_len, List.length_append, List.length_replicate, sizeLine_eq]; show 1 + _ ≤ _; omega) ?_
      rw [tx_zero, tx_app]
      walk_at "go"
      exact ⟨m - 1, by omega, j + 1, rfl, rfl, by omega⟩
    · walk_at "go"
      rw [pad_num (w / 3) n h3 h5] at q
      have : j = w / 3 - (TL.numL n).length := by omega
      rw [this]
      exact q

/-! PsD -/
/-! ### data -/
def OkD (n : Nat) (d : PyData) : Prop := d.canLay0 = true ∧ d.depth ≤ n
theorem okD_int {n : Nat} (i : Int) : OkD n (.int i) := ⟨rfl, Nat.zero_le _⟩
theorem okD_non {n : Nat} : OkD n .none := ⟨rfl, Nat.zero_le _⟩
theorem okD_bl {n : Nat} (b : Bool) : OkD n (.bool b) := ⟨rfl, Nat.zero_le _⟩
theorem okD_str {n : Nat} {l : List Nat} (h : ∀ c ∈ l, c < 0x110000) : OkD n (.str (tx l)) := by
  refine ⟨?_, Nat.zero_le _⟩
  show PyData.strOk (tx l) = true
  unfold PyData.strOk
  show (l.toArray.all fun x => decide (x < 0x110000)) = true
  rw [List.all_toArray, List.all_eq_true]
  exact fun c hc => decide_eq_true (h c hc)
theorem okD_all {n : Nat} : ∀ {ds : List PyData}, (∀ d ∈ ds, OkD n d) → PyData.canLayAll0 ds = true ∧ PyData.depthAll ds ≤ n
  | [], _ => ⟨rfl, Nat.zero_le _⟩
  | d :: ds, h => by
    obtain ⟨h1, h2⟩ := h d List.mem_cons_self
    obtain ⟨h3, h4⟩ := okD_all fun e he => h e (List.mem_cons_of_mem _ he)
    refine ⟨?_, ?_⟩
    · show (d.canLay0 && PyData.canLayAll0 ds) = true
      rw [h1, h3]; rfl
    · show max d.depth (PyData.depthAll ds) ≤ n
      exact Nat.max_le.mpr ⟨h2, h4⟩
theorem okD_list {n : Nat} {ds : List PyData} (h : ∀ d ∈ ds, OkD n d) : OkD (n + 1) (.list ds) := by
  obtain ⟨h1, h2⟩ := okD_all h
  exact ⟨h1, Nat.succ_le_succ h2⟩
theorem okD_tup {n : Nat} {ds : List PyData} (h : ∀ d ∈ ds, OkD n d) : OkD (n + 1) (.tuple ds) := by
  obtain ⟨h1, h2⟩ := okD_all h
  exact ⟨h1, Nat.succ_le_succ h2⟩
theorem OkD.mono {n m : Nat} {d : PyData} (h : OkD n d) (hn : n ≤ m) : OkD m d := ⟨h.1, Nat.le_trans h.2 hn⟩
theorem OkD.shaped {n : Nat} {d : PyData} (h : OkD n d) (hn : n ≤ 64) : SeqAt.shaped d = true := by
  unfold SeqAt.shaped
  rw [h.1, decide_eq_true (Nat.le_trans h.2 hn)]; rfl
theorem OkD.eqv {n : Nat} {d : PyData} (h : OkD n d) : PyData.eqv d d = true := by
  first | exact SeqAt.eqv_refl d h.1 | exact P3.eqv_refl d h.1 | exact PyData.eqv_refl d h.1 | exact eqv_refl d h.1
mutual
theorem Dp.mono {K : PySem.W.Frag} {H H' : Hp} (s : Same H H') : ∀ {v : V} {d : PyData}, Dp K H v d → Dp K H' v d
  | _, _, .non => .non
  | _, _, .bl b => .bl b
  | _, _, .int i => .int i
  | _, _, .str x => .str x
  | _, _, .lst h a => .lst (s.seq h) (DpAll.mono s a)
  | _, _, .tup h a => .tup (Same.seqT s h) (DpAll.mono s a)
theorem DpAll.mono {K : PySem.W.Frag} {H H' : Hp} (s : Same H H') : ∀ {vs : List V} {ds : List PyData}, DpAll K H vs ds → DpAll K H' vs ds
  | _, _, .nil => .nil
  | _, _, .cons h a => .cons (Dp.mono s h) (DpAll.mono s a)
end
theorem dpAll_map {α : Type} {K : PySem.W.Frag} {H : Hp} {f : α → V} {g : α → PyData} (h : ∀ x, Dp K H (f x) (g x)) : ∀ xs : List α, DpAll K H (xs.map f) (xs.map g)
  | [] => .nil
  | x :: xs => .cons (h x) (dpAll_map h xs)
theorem dpAll_pair {α β : Type} {K : PySem.W.Frag} {H : Hp} {R : α → β → Prop} {f : α → V} {g : β → PyData} (h : ∀ x y, R x y → Dp K H (f x) (g y)) : ∀ {xs : List α} {ys : List β}, Paired R xs ys → DpAll K H (xs.map f) (ys.map g)
  | _, _, .nil => .nil
  | _, _, .cons r t => .cons (h _ _ r) (dpAll_pair h t)
theorem dp_ints {K : PySem.W.Frag} {H : Hp} {p : Addr} {l : List Int} (h : SqL K H p (l.map V.int)) : Dp K H (.ref p) (.list (l.map PyData.int)) := .lst h (dpAll_map (fun i => .int i) l)
theorem okD_ints (l : List Int) : OkD 1 (.list (l.map PyData.int)) := okD_list fun d hd => by
  obtain ⟨i, _, rfl⟩ := List.mem_map.mp hd
  exact okD_int i
theorem eqvAll_ints : ∀ l m : List Int, PyData.eqvAll (l.map PyData.int) (m.map PyData.int) = decide (l = m)
  | [], [] => rfl
  | [], _ :: _ => rfl
  | _ :: _, [] => rfl
  | a :: l, b :: m => by
    show (PyData.eqv (.int a) (.int b) && PyData.eqvAll (l.map PyData.int) (m.map PyData.int)) = _
    rw [eqvAll_ints l m]
    show ((a == b) && decide (l = m)) = _
    by_cases h1 : a = b
    · subst h1
      by_cases h2 : l = m
      · subst h2; simp
      · simp [h2]
    · simp [h1]
theorem eqv_ints (l m : List Int) : PyData.eqv (.list (l.map PyData.int)) (.list (m.map PyData.int)) = decide (l = m) := eqvAll_ints l m
section
variable {K : PySem.W.Frag} {H : Hp} {Q : VK}
theorem g_neInts {p q : Addr} {l m : List Int} (h1 : SqL K H p (l.map V.int)) (h2 : SqL K H q (m.map V.int)) (h : Q (.bl (!decide (l = m))) H) : rNeD K (.ref p) (.ref q) H Q :=
  ⟨_, _, dp_ints h1, dp_ints h2, (okD_ints l).shaped (by decide), (okD_ints m).shaped (by decide), by rw [eqv_ints]; exact h⟩
theorem g_eqInts {p q : Addr} {l m : List Int} (h1 : SqL K H p (l.map V.int)) (h2 : SqL K H q (m.map V.int)) (h : Q (.bl (decide (l = m))) H) : rEqD K (.ref p) (.ref q) H Q :=
  ⟨_, _, dp_ints h1, dp_ints h2, (okD_ints l).shaped (by decide), (okD_ints m).shaped (by decide), by rw [eqv_ints]; exact h⟩
/-- the same data on both sides -/
theorem g_neSame {x y : V} {d : PyData} {n : Nat} (h1 : Dp K H x d) (h2 : Dp K H y d) (ok : OkD n d) (hn : n ≤ 64) (h : Q (.bl false) H) : rNeD K x y H Q :=
  ⟨d, d, h1, h2, ok.shaped hn, ok.shaped hn, by rw [ok.eqv]; exact h⟩
theorem g_eqSame {x y : V} {d : PyData} {n : Nat} (h1 : Dp K H x d) (h2 : Dp K H y d) (ok : OkD n d) (hn : n ≤ 64) (h : Q (.bl true) H) : rEqD K x y H Q :=
  ⟨d, d, h1, h2, ok.shaped hn, ok.shaped hn, by rw [ok.eqv]; exact h⟩
end

/-! PsL4 -/
abbrev N_law_piece : List Str := ["bits", "at", "kind", "count", "signs", "width", "past", "number"]
def t_law_piece (K : PySem.W.Frag) : TS :=
  tSeq (tAsg (tCall (sp_law_value K) [] E0 (tCons (tSl (rSlL K) (tVar 0) (tPart (tVar 1)) (tPart (tOp qAdd (tVar 1) (tC (.int 2))))) tNil)) (gName 2)) (tSeq (tIfS (tTest (tOp qLt (tCB (qLenQ K) (tCons (tVar 0) tNil)) (tOp qAdd (tVar 1) (tC (.int 8))))) (tRet (tC .non)) (tNext)) (tSeq (tAsg (tOp qAdd (tC (.int 1)) (tCall (sp_law_value K) [] E0 (tCons (tSl (rSlL K) (tVar 0) (tPart (tOp qAdd (tVar 1) (tC (.int 2)))) (tPart (tOp qAdd (tVar 1) (tC (.int 8))))) tNil))) (gName 3)) (tSeq (tAsg (tOp qAdd (tVar 1) (tC (.int 8))) (gName 1)) (tSeq (tAsg (tC (.str "")) (gName 4)) (tSeq (tFor (iList K (tCall (sp_law_widths K) [] E0 (tCons (tVar 2) (tCons (tVar 3) tNil)))) (gTup K 2 (gCons (gName 5) (gCons (gName 6) (gNil)))) (tSeq (tAsg (tCall (sp_law_value K) [] E0 (tCons (tSl (rSlL K) (tVar 0) (tPart (tVar 1)) (tPart (tOp qAdd (tVar 1) (tVar 5)))) tNil)) (gName 7)) (tSeq (tIfS (tOr (tTest (tOp qLt (tCB (qLenQ K) (tCons (tVar 0) tNil)) (tOp qAdd (tVar 1) (tVar 5)))) (tTest (tOp qGe (tVar 7) (tVar 6)))) (tRet (tC .non)) (tNext)) (tSeq (tIfS (tTest (tOp qGt (tVar 5) (tC (.int 0)))) (tAsg (tOp qAddS (tVar 4) (tCall (sp_law_shown K) [] E0 (tCons (tVar 2) (tCons (tVar 7) (tCons (tVar 5) tNil))))) (gName 4)) (tNext)) (tAsg (tOp qAdd (tVar 1) (tVar 5)) (gName 1)))))) (tRet (tTup (tCons (tTup (tCons (tVar 2) (tCons (tVar 4) tNil))) (tCons (tVar 1) tNil)))))))))
/-- by widths and bounds -/
def rdW (k : Int) : List (Nat × Nat) → List Int → Option (List Nat × List Int)
  | [], l => some ([], l)
  | (w, p) :: r, l => if l.length < w ∨ (p : Int) ≤ numOf (l.take w) then none else preT (shownL k (numOf (l.take w)).toNat w) (rdW k r (l.drop w))
theorem rdW_fig : ∀ (n : Nat) (l : List Int), rdW 1 (widths 1 n) l = rdFigs (gSizes n) l := by
  have key : ∀ (m : Nat) (e1 : List (Nat × Nat)) (e2 : List Nat), (∀ l, rdW 1 e1 l = rdFigs e2 l) → ∀ l, rdW 1 (List.replicate m (10, 1000) ++ e1) l = rdFigs (List.replicate m 3 ++ e2) l := by
    intro m e1 e2 h
    induction m with
    | zero => exact h
    | succ m ih =>
      intro l
      rw [List.replicate_succ, List.replicate_succ, List.cons_append, List.cons_append]
      unfold rdW rdFigs
      rw [show gBits 3 = 10 from rfl]
      by_cases hl : l.length < 10
      · rw [if_pos (.inl hl), rdN_no hl]
      · rw [rdN_yes (by omega)]
        dsimp only
        by_cases hp : (1000 : Int) ≤ numOf (l.take 10)
        · rw [if_pos (.inr hp), if_pos (by exact hp)]
        · rw [if_neg (fun z => z.elim hl hp), if_neg (by exact hp), ih]
          show preT (pad 3 _) _ = _
          cases rdFigs (List.replicate m 3 ++ e2) (l.drop 10) with
          | none => rfl
          | some z => rfl
  intro n l
  unfold widths gSizes
  rw [if_pos rfl]
  refine key _ _ _ (fun l => ?_) l
  unfold widL
  have hm : n % 3 = 0 ∨ n % 3 = 1 ∨ n % 3 = 2 := by omega
  rcases hm with h | h | h
  · rw [h, if_pos rfl]
    show rdW 1 [(0, 1)] l = rdFigs [] l
    unfold rdW
    rw [if_neg (fun z => z.elim (fun q => absurd q (by omega)) (fun q => absurd q (by rw [List.take_zero]; decide)))]
    rfl
  · rw [h, if_neg (by decide)]
    show rdW 1 [(4, 10)] l = rdFigs [1] l
    unfold rdW rdFigs
    rw [show gBits 1 = 4 from rfl]
    by_cases hl : l.length < 4
    · rw [if_pos (.inl hl), rdN_no hl]
    · rw [rdN_yes (by omega)]
      dsimp only
      by_cases hp : (10 : Int) ≤ numOf (l.take 4)
      · rw [if_pos (.inr hp), if_pos (by exact hp)]
      · rw [if_neg (fun z => z.elim hl hp), if_neg (by exact hp)]
        rfl
  · rw [h, if_neg (by decide)]
    show rdW 1 [(7, 100)] l = rdFigs [2] l
    unfold rdW rdFigs
    rw [show gBits 2 = 7 from rfl]
    by_cases hl : l.length < 7
    · rw [if_pos (.inl hl), rdN_no hl]
    · rw [rdN_yes (by omega)]
      dsimp only
      by_cases hp : (100 : Int) ≤ numOf (l.take 7)
      · rw [if_pos (.inr hp), if_pos (by exact hp)]
      · rw [if_neg (fun z => z.elim hl hp), if_neg (by exact hp)]
        rfl
theorem rdW_signs (k : Int) (hk : k ≠ 1) (w : Nat) (hw : w ≠ 0) : ∀ (n : Nat) (l : List Int), rdW k (List.replicate n (w, (knownL k).length)) l = rdSigns (knownL k) w n l
  | 0, l => rfl
  | n + 1, l => by
    rw [List.replicate_succ]
    unfold rdW rdSigns
    by_cases hl : l.length < w
    · rw [if_pos (.inl hl), rdN_no hl]
    · rw [rdN_yes (by omega)]
      dsimp only
      by_cases hp : ((knownL k).length : Int) ≤ numOf (l.take w)
      · rw [if_pos (.inr hp), if_pos hp]
      · rw [if_neg (fun z => z.elim hl hp), if_neg hp, rdW_signs k hk w hw n]
        unfold shownL
        rw [if_neg hw, if_neg hk]
        cases rdSigns (knownL k) w n (l.drop w) with
        | none => rfl
        | some z => rfl
theorem rdW_body {k : Int} (hk : k = 1 ∨ k = 2 ∨ k = 3) (n : Nat) (l : List Int) : rdW k (widths k n) l = rdBody k n l := by
  rcases hk with rfl | rfl | rfl
  · exact rdW_fig n l
  · exact rdW_signs 2 (by decide) 5 (by decide) n l
  · exact rdW_signs 3 (by decide) 7 (by decide) n l
theorem widths_ok {k : Int} (hk : k = 1 ∨ k = 2 ∨ k = 3) (n : Nat) : ∀ w ∈ widths k n, w.1 ≤ 10 ∧ (k = 1 → w = (10, 1000) ∨ w = (4, 10) ∨ w = (7, 100) ∨ w = (0, 1)) ∧ (k ≠ 1 → w.2 = (knownL k).length ∧ 0 < w.1) := by
  intro w hw
  unfold widths at hw
  rcases hk with rfl | rfl | rfl
  · rw [if_pos rfl] at hw
    have : w = (10, 1000) ∨ w = (4, 10) ∨ w = (7, 100) ∨ w = (0, 1) := by
      rcases List.mem_append.mp hw with h | h
      · exact .inl (List.eq_of_mem_replicate h)
      · unfold widL at h
        have hm : n % 3 = 0 ∨ n % 3 = 1 ∨ n % 3 = 2 := by omega
        rcases hm with e | e | e <;> rw [e] at h <;> (have := List.mem_singleton.mp h; simp [this])
    refine ⟨?_, fun _ => this, fun z => absurd rfl z⟩
    rcases this with rfl | rfl | rfl | rfl <;> decide
  · rw [if_neg (by decide)] at hw
    have := List.eq_of_mem_replicate hw
    subst this
    exact ⟨by decide, fun z => absurd z (by decide), fun _ => ⟨rfl, by decide⟩⟩
  · rw [if_neg (by decide)] at hw
    have := List.eq_of_mem_replicate hw
    subst this
    exact ⟨by decide, fun z => absurd z (by decide), fun _ => ⟨rfl, by decide⟩⟩
def rdP (k : Int) (l : List Int) : Option (List Nat × List Int) := match rdN 6 l with
  | none => none
  | some (c, l2) => rdBody k (c.toNat + 1) l2
theorem rdP_len {k : Int} {l l2 : List Int} {t : List Nat} (h : rdP k l = some (t, l2)) : ∃ j, l2 = l.drop j ∧ j ≤ l.length := by
  unfold rdP at h
  split at h
  · cases h
  · rename_i c l3 e
    obtain ⟨h1, _, rfl⟩ := rdN_some e
    obtain ⟨j, rfl, hj⟩ := rdBody_len h
    rw [List.length_drop] at hj
    exact ⟨6 + j, by rw [List.drop_drop], by omega⟩
theorem shownL_len {k : Int} {n w : Nat} (hw : w ≤ 10) : (shownL k n w).length ≤ 4 := by
  unfold shownL
  split
  · simp
  · split
    · rw [pad_len]; omega
    · simp
def sp_law_piece (K : PySem.W.Frag) : Sp := fun vs H Q _ => ∃ (a : Addr) (bs : List Int) (at_ : Nat) (k : Int), vs = [.ref a, .int (at_ : Int)] ∧ SqL K H a (bs.map V.int) ∧ B01 bs ∧ bs.length ≤ 100000 ∧ at_ + 2 ≤ bs.length ∧ numOf ((bs.drop at_).take 2) = k ∧ k ≠ 0 ∧
  (rdP k (bs.drop (at_ + 2)) = none → ∀ H', Same H H' → Q .non H') ∧
  (∀ t j, rdP k (bs.drop (at_ + 2)) = some (t, bs.drop j) → j ≤ bs.length → ∀ H' u1 u2, Same H H' → H' u1 = some (.tup [.ref u2, .int (j : Int)]) → H' u2 = some (.tup [.int k, .str (tx t)]) → Q (.ref u1) H')
theorem len_law_piece (K : PySem.W.Frag) (vs : List V) (H : Hp) (Q : VK) (E : XK) (h : sp_law_piece K vs H Q E) : vs.length = (["bits", "at"] : List Str).length := by
  obtain ⟨n, w, u, k, rfl, _⟩ := h; rfl
theorem numOf_two {l : List Int} (hb : B01 l) (hl : 2 ≤ l.length) : ∃ k : Nat, numOf (l.take 2) = (k : Int) ∧ k < 4 := by
  obtain ⟨m, e, h⟩ := numOf_small hb (rdN_yes hl)
  exact ⟨m, e, h⟩
theorem pure_law_piece (K : PySem.W.Frag) (vs : List V) (H : Hp) (Q : VK) (E : XK) (h : sp_law_piece K vs H Q E) : t_law_piece K ⟨fun _ H' => Q .non H', Q, fun _ _ => False, fun _ _ => False⟩ (start N_law_piece vs) H := by
  obtain ⟨a, bs, at_, k, rfl, hS, hb, hl, h2, hk, hk0, qN, qS⟩ := h
  obtain ⟨k0, ek, hk4⟩ := numOf_two (hb.drop at_) (by rw [List.length_drop]; omega)
  rw [hk] at ek
  have hk3 : k = 1 ∨ k = 2 ∨ k = 3 := by omega
  unfold t_law_piece
  walk_at "st"
  rw [show (at_ : Int) + 2 = ((at_ + 2 : Nat) : Int) from rfl]
  refine g_slL hS ?_
  intro s1 n1
  rw [cut_mid, show at_ + 2 - at_ = 2 by omega]
  have sm1 := same_new (o := .lst (((bs.drop at_).take 2).map V.int)) (Same.refl H) n1
  refine ⟨s1, (bs.drop at_).take 2, rfl, SqL.of upd_same, ?_⟩
  rw [hk]
  generalize upd H s1 (.lst (((bs.drop at_).take 2).map V.int)) = H1 at sm1 ⊢
  walk_at "st"
  walk_at "st"
  refine g_lenL (sm1.seq hS) ?_
  rw [List.length_map]
  walk_at "st"
  refine g_ite (fun hlt => ?_) (fun hlt => ?_)
  · walk_at "st"
    refine qN ?_ H1 sm1
    unfold rdP
    rw [rdN_no (by rw [List.length_drop]; omega)]
  · walk_at "st"
    walk_at "st"
    rw [show (at_ : Int) + 2 = ((at_ + 2 : Nat) : Int) from rfl, show (at_ : Int) + 8 = ((at_ + 8 : Nat) : Int) from rfl]
    refine g_slL (sm1.seq hS) ?_
    intro s2 n2
    rw [cut_mid, show at_ + 8 - (at_ + 2) = 6 by omega]
    have sm2 := same_new (o := .lst (((bs.drop (at_ + 2)).take 6).map V.int)) sm1 n2
    refine ⟨s2, (bs.drop (at_ + 2)).take 6, rfl, SqL.of upd_same, ?_⟩
    have e6 := rdN_yes (c := 6) (l := bs.drop (at_ + 2)) (by rw [List.length_drop]; omega)
    obtain ⟨c, ec, hc⟩ := numOf_small (hb.drop _) e6
    rw [ec] at e6 ⊢
    rw [List.drop_drop] at e6
    have eP : rdP k (bs.drop (at_ + 2)) = rdBody k (c + 1) (bs.drop (at_ + 8)) := by
      unfold rdP
      rw [e6]; rfl
    rw [eP] at qN qS
    generalize upd H1 s2 (.lst (((bs.drop (at_ + 2)).take 6).map V.int)) = H2 at sm2 ⊢
    walk_at "st"
    walk_at "st"
    walk_at "st"
    walk_at "st"
    rw [show (1 : Int) + (c : Int) = ((c + 1 : Nat) : Int) by omega]
    refine ⟨k, c + 1, rfl, hk3, by omega, fun H3 p ts sm3 hp hts => ?_⟩
    have sm3' : Same H H3 := sm2.trans sm3
    rw [← rdW_body hk3] at qN qS
    have hwok := widths_ok hk3 (c + 1)
    have hwl : (widths k (c + 1)).length ≤ 1000 := by
      have hc' : c < 64 := hc
      unfold widths
      rcases hk3 with rfl | rfl | rfl
      · rw [if_pos rfl, List.length_append, List.length_replicate]
        have : ∀ m < 3, ([[(0, 1)], [(4, 10)], [(7, 100)]].getD m [] : List (Nat × Nat)).length ≤ 1 := by decide
        have := this ((c + 1) % 3) (Nat.mod_lt _ (by decide))
        unfold widL
        omega
      · rw [if_neg (by decide), List.length_replicate]; omega
      · rw [if_neg (by decide), List.length_replicate]; omega
    generalize widths k (c + 1) = ws at hts qN qS hwok hwl
    refine g_atL (SqL.of hp) ?_
    refine forL (fun z : Addr × (Nat × Nat) => V.ref z.1) (ts.zip ws) (fun rest σ H' => ∃ (q : Nat) (acc : List Nat) (v5 v6 v7 : Option V), σ = [some (.ref a), some (.int (q : Int)), some (.int k), some (.int ((c + 1 : Nat) : Int)), some (.str (tx acc)), v5, v6, v7] ∧ Same H3 H' ∧ q ≤ bs.length ∧
      rdW k ws (bs.drop (at_ + 8)) = preT acc (rdW k (rest.map (·.2)) (bs.drop q)) ∧ acc.length + 4 * rest.length ≤ 4 * ws.length) ?_ ?_ ?_ ?_
    · have hlen := hts.length
      refine ⟨at_ + 8, [], none, none, none, rfl, Same.refl _, by omega, ?_, by rw [List.length_zip]; simp; omega⟩
      rw [preT_nil, show (ts.zip ws).map (·.2) = ws from List.map_snd_zip (by omega)]
    · rintro d r σ H' _ ⟨q, acc, v5, v6, v7, _, sm, _⟩
      refine SqL.of (sm _ _ ?_)
      rw [hp, show (ts.zip ws).map (fun z : Addr × (Nat × Nat) => V.ref z.1) = ts.map V.ref from by
        have : (ts.zip ws).map (fun z => z.1) = ts := List.map_fst_zip (by have := hts.length; omega)
        conv => rhs; rw [← this]
        rw [List.map_map]; rfl]
    · rintro d ⟨t, w, pt⟩ r σ H' ed ⟨q, acc, v5, v6, v7, rfl, sm, hq, e, hal⟩
      have hmem : (t, (w, pt)) ∈ ts.zip ws := by rw [ed]; exact List.mem_append_right _ List.mem_cons_self
      have ht : H3 t = some (.tup [.int (w : Int), .int (pt : Int)]) := by
        have key : ∀ {xs : List Addr} {ys : List (Nat × Nat)}, WpAll H3 xs ys → (t, (w, pt)) ∈ xs.zip ys → H3 t = some (.tup [.int (w : Int), .int (pt : Int)]) := by
          intro xs ys h
          induction h with
          | nil => intro z; cases z
          | cons r' t' ih =>
            intro z
            rw [List.zip_cons_cons] at z
            rcases List.mem_cons.mp z with z | z
            · cases z; exact r'
            · exact ih z
        exact key hts hmem
      obtain ⟨hw10, hw1, hwn⟩ := hwok (w, pt) (List.of_mem_zip hmem).2
      dsimp only at hw10 hw1 hwn
      refine g_gtup (SqT.of (sm _ _ ht)) rfl ?_
      walk_at "st"
      walk_at "st"
      rw [show (q : Int) + (w : Int) = ((q + w : Nat) : Int) from rfl]
      refine g_slL (sm.seq (sm3'.seq hS)) ?_
      intro s4 n4
      rw [cut_mid, show q + w - q = w by omega]
      have sm4 := same_new (o := .lst (((bs.drop q).take w).map V.int)) sm n4
      refine ⟨s4, (bs.drop q).take w, rfl, SqL.of upd_same, ?_⟩
      have hB := numOf_bound ((hb.drop q).take w)
      obtain ⟨m, em⟩ := Int.eq_ofNat_of_zero_le hB.1
      generalize upd H' s4 (.lst (((bs.drop q).take w).map V.int)) = H4 at sm4 ⊢
      walk_at "st"
      walk_at "st"
      refine g_lenL (sm4.seq (sm3'.seq hS)) ?_
      rw [List.length_map]
      walk_at "st"
      have hal' : acc.length + 4 * (r.length + 1) ≤ 4 * ws.length := by
        rw [List.length_cons] at hal; exact hal
      have hws := hwl
      refine g_ite (fun hlt => ?_) (fun hlt => ?_)
      · refine g_ifT ?_
        walk_at "st"
        refine qN ?_ H4 (sm3'.trans sm4)
        rw [e]
        show preT acc (rdW k ((w, pt) :: r.map (·.2)) (bs.drop q)) = none
        unfold rdW
        rw [if_pos (.inl (by rw [List.length_drop]; omega))]; rfl
      · walk_at "st"
        refine g_ite (fun hge => ?_) (fun hge => ?_)
        · walk_at "st"
          refine qN ?_ H4 (sm3'.trans sm4)
          rw [e]
          show preT acc (rdW k ((w, pt) :: r.map (·.2)) (bs.drop q)) = none
          unfold rdW
          rw [if_pos (.inr hge)]; rfl
        · have e2 : rdW k ws (bs.drop (at_ + 8)) = preT (acc ++ shownL k m w) (rdW k (r.map (·.2)) (bs.drop (q + w))) := by
            rw [e]
            show preT acc (rdW k ((w, pt) :: r.map (·.2)) (bs.drop q)) = _
            conv => lhs; unfold rdW
            rw [if_neg (fun z => z.elim (fun y => hlt (by rw [List.length_drop] at y; omega)) hge), preT_pre, List.drop_drop, em]; rfl
          walk_at "st"
          walk_at "st"
          rw [em] at hge ⊢
          refine g_ite (fun hw0 => ?_) (fun hw0 => ?_)
          · walk_at "st"
            refine ⟨k, m, w, rfl, ?_, ?_, by omega, ?_⟩
            · intro hk1
              rcases hw1 hk1 with z | z | z | z <;> (cases z; first | exact ⟨by decide, by decide, by (show m < _); omega⟩ | omega)
            · intro hk1
              obtain ⟨z1, z2⟩ := hwn hk1
              exact ⟨by omega, by omega⟩
            · have hsl := shownL_len (k := k) (n := m) hw10
              refine g_addS (by rw [tx_len, tx_len, sizeLine_eq]; omega) ?_
              rw [tx_app]
              walk_at "st"
              exact ⟨q + w, acc ++ shownL k m w, some (.int (w : Int)), some (.int (pt : Int)), some (.int (m : Int)), rfl, sm4, by omega, e2, by rw [List.length_append]; omega⟩
          · walk_at "st"
            have ew : w = 0 := by omega
            have es : shownL k m w = [] := by unfold shownL; rw [if_pos ew]
            rw [es, List.append_nil] at e2
            exact ⟨q + w, acc, some (.int (w : Int)), some (.int (pt : Int)), some (.int (m : Int)), rfl, sm4, by omega, e2, by omega⟩
    · rintro σ H' ⟨q, acc, v5, v6, v7, rfl, sm, hq, e, _⟩
      walk_at "go"
      intro u2 nu2
      walk_at "go"
      intro u1 nu1
      refine qS acc q ?_ hq _ u1 u2 (same_new (same_new (sm3'.trans sm) nu2) nu1) upd_same (upd_new nu1 upd_same)
      rw [e]
      show preT acc (some ([], bs.drop q)) = _
      simp [preT]

/-! PsL5 -/
/-! ### the law's reader -/
theorem rdAll_step {l r : List Int} {k : Int} (h : rdN 2 l = some (k, r)) (hk : ¬ k = 0) : rdAll l = match rdP k r with
    | none => none
    | some (t, l3) => preP [(k, t)] (rdAll l3) := by
  conv => lhs; unfold rdAll
  rw [h]
  dsimp only
  rw [rdAft_step hk]
  unfold rdP
  cases e1 : rdN 6 r with
  | none => rfl
  | some z =>
    obtain ⟨c, l2⟩ := z
    dsimp only
    cases e2 : rdBody k (c.toNat + 1) l2 with
    | none => rfl
    | some z =>
      obtain ⟨s, l3⟩ := z
      dsimp only
      unfold rdAll
      cases e3 : rdN 2 l3 with
      | none => rfl
      | some z =>
        obtain ⟨k', l4⟩ := z
        dsimp only
        have h1 := rdN_some e1
        have h3 := rdN_some e3
        obtain ⟨j, hj, _⟩ := rdBody_len e2
        have a1 := congrArg List.length h1.2.2
        have a2 := congrArg List.length hj
        have a3 := congrArg List.length h3.2.2
        rw [List.length_drop] at a1 a2 a3
        rw [rdAft_fuel _ _ _ _ (by omega) (Nat.lt_succ_self l4.length)]
theorem rdAll_end {l r : List Int} (h : rdN 2 l = some (0, r)) : rdAll l = some ([], r) := by
  unfold rdAll
  rw [h]
  dsimp only
  unfold rdAft
  rw [if_pos rfl]
theorem rdAll_no {l : List Int} (h : rdN 2 l = none) : rdAll l = none := by
  unfold rdAll
  rw [h]
theorem two_zero {l : List Int} (hb : B01 l) (hl : 2 ≤ l.length) : (l.take 2 = [0, 0]) ↔ numOf (l.take 2) = 0 := by
  match l, hl with
  | a :: b :: r, _ =>
    have ha := hb a List.mem_cons_self
    have hb' := hb b (List.mem_cons_of_mem _ List.mem_cons_self)
    show [a, b] = [0, 0] ↔ numOf [a, b] = 0
    rcases ha with rfl | rfl <;> rcases hb' with rfl | rfl <;> decide
def sp_law_due (K : PySem.W.Frag) : Sp := fun vs H Q _ => ∃ (a : Addr) (bs : List Int), vs = [.ref a] ∧ SqL K H a (bs.map V.int) ∧ B01 bs ∧ bs.length ≤ 100000 ∧
  (rdAll bs = none → ∀ H', Same H H' → Q .non H') ∧
  (∀ ps k, rdAll bs = some (ps, bs.drop k) → k ≤ bs.length → ∀ H' t p ts, Same H H' → H' t = some (.tup [.ref p, .int (k : Int)]) → H' p = some (.lst (ts.map V.ref)) → PcAll H' ts ps → Q (.ref t) H')
theorem len_law_due (K : PySem.W.Frag) (vs : List V) (H : Hp) (Q : VK) (E : XK) (h : sp_law_due K vs H Q E) : vs.length = (["bits"] : List Str).length := by
  obtain ⟨a, bs, rfl, _⟩ := h; rfl
abbrev N_law_due : List Str := ["bits", "pieces", "at", "told"]
def t_law_due (K : PySem.W.Frag) : TS :=
  tSeq (tAsg (tLst (tNil)) (gName 1)) (tSeq (tAsg (tC (.int 0)) (gName 2)) (tSeq (tWhile (tAnd (tTest (tOp qGe (tCB (qLenQ K) (tCons (tVar 0) tNil)) (tOp qAdd (tVar 2) (tC (.int 2))))) (tTest (tOp (rNeD K) (tSl (rSlL K) (tVar 0) (tPart (tVar 2)) (tPart (tOp qAdd (tVar 2) (tC (.int 2))))) (tLst (tCons (tC (.int 0)) (tCons (tC (.int 0)) tNil)))))) (tSeq (tAsg (tCall (sp_law_piece K) [] E0 (tCons (tVar 0) (tCons (tVar 2) tNil))) (gName 3)) (tSeq (tIfS (tTest (tOp qIsN (tVar 3) (tC .non))) (tRet (tC .non)) (tNext)) (tSeq (tDrop (tBM K "list" rAppend (tVar 1) (tCons (tOp (rIxT K) (tVar 3) (tC (.int 0))) tNil))) (tAsg (tOp (rIxT K) (tVar 3) (tC (.int 1))) (gName 2)))))) (tSeq (tIfS (tTest (tOp qLt (tCB (qLenQ K) (tCons (tVar 0) tNil)) (tOp qAdd (tVar 2) (tC (.int 2))))) (tRet (tC .non)) (tNext)) (tRet (tTup (tCons (tVar 1) (tCons (tOp qAdd (tVar 2) (tC (.int 2))) tNil)))))))
theorem pure_law_due (K : PySem.W.Frag) (vs : List V) (H : Hp) (Q : VK) (E : XK) (h : sp_law_due K vs H Q E) : t_law_due K ⟨fun _ H' => Q .non H', Q, fun _ _ => False, fun _ _ => False⟩ (start N_law_due vs) H := by
  obtain ⟨a, bs, rfl, hS, hb, hl, qN, qS⟩ := h
  unfold t_law_due
  walk_at "st"
  intro pl npl
  have s1 : Same H (upd H pl (.lst [])) := same_new (Same.refl H) npl
  walk_at "st"
  walk_at "st"
  -- behind the loop
  have fin : ∀ (q : Nat) (acc : List (Int × List Nat)) (ts : List Addr) (v3 : Option V) (H' : Hp), q ≤ bs.length → Same H H' → H' pl = some (.lst (ts.map V.ref)) → PcAll H' ts acc → rdAll bs = preP acc (rdAll (bs.drop q)) → (bs.length < q + 2 ∨ rdN 2 (bs.drop q) = some (0, bs.drop (q + 2))) →
      tSeq (tIfS (tTest (tOp qLt (tCB (qLenQ K) (tCons (tVar 0) tNil)) (tOp qAdd (tVar 2) (tC (.int 2))))) (tRet (tC .non)) (tNext)) (tRet (tTup (tCons (tVar 1) (tCons (tOp qAdd (tVar 2) (tC (.int 2))) tNil))))
        ⟨fun _ H' => Q .non H', Q, fun _ _ => False, fun _ _ => False⟩ [some (.ref a), some (.ref pl), some (.int (q : Int)), v3] H' := by
    intro q acc ts v3 H' hq sm hp hpc e hend
    walk_at "st"
    refine g_lenL (sm.seq hS) ?_
    rw [List.length_map]
    walk_at "st"
    refine g_ite (fun hlt => ?_) (fun hlt => ?_)
    · walk_at "st"
      refine qN ?_ H' sm
      rw [e, rdAll_no (rdN_no (by rw [List.length_drop]; omega))]; rfl
    · walk_at "st"
      walk_at "st"
      intro t nt
      rcases hend with h | h
      · omega
      · rw [show (q : Int) + 2 = ((q + 2 : Nat) : Int) from rfl]
        refine qS acc (q + 2) ?_ (by omega) _ t pl ts (same_new sm nt) upd_same (upd_new nt hp) (hpc.mono fun u xs h => upd_new nt h)
        rw [e, rdAll_end h]
        simp [preP]
  refine whileJ (fun m σ H' => ∃ (q : Nat) (acc : List (Int × List Nat)) (ts : List Addr) (v3 : Option V), σ = [some (.ref a), some (.ref pl), some (.int (q : Int)), v3] ∧ q ≤ bs.length ∧ Same H H' ∧ H' pl = some (.lst (ts.map V.ref)) ∧ PcAll H' ts acc ∧ rdAll bs = preP acc (rdAll (bs.drop q)) ∧ ts.length ≤ q ∧ m = bs.length - q) bs.length ?_ ?_
  · exact ⟨0, [], [], none, rfl, by omega, s1, upd_same, .nil, by rw [List.drop_zero, preP_nil], by simp, rfl⟩
  · rintro m σ H' ⟨q, acc, ts, v3, rfl, hq, sm, hp, hpc, e, hts, rfl⟩
    walk_at "st"
    refine g_lenL (sm.seq hS) ?_
    rw [List.length_map]
    walk_at "st"
    refine g_ite (fun hge => ?_) (fun hge => ?_)
    · walk_at "st"
      rw [show (q : Int) + 2 = ((q + 2 : Nat) : Int) from rfl]
      refine g_slL (sm.seq hS) ?_
      intro s2 n2
      rw [cut_mid, show q + 2 - q = 2 by omega]
      have sm2 := same_new (o := .lst (((bs.drop q).take 2).map V.int)) sm n2
      have e2 : (upd H' s2 (.lst (((bs.drop q).take 2).map V.int))) s2 = some (.lst (((bs.drop q).take 2).map V.int)) := upd_same
      have hp2 : (upd H' s2 (.lst (((bs.drop q).take 2).map V.int))) pl = some (.lst (ts.map V.ref)) := upd_new n2 hp
      have hpc2 : PcAll (upd H' s2 (.lst (((bs.drop q).take 2).map V.int))) ts acc := hpc.mono fun u xs h => upd_new n2 h
      generalize upd H' s2 (.lst (((bs.drop q).take 2).map V.int)) = H2 at sm2 e2 hp2 hpc2 ⊢
      walk_at "st"
      intro s3 n3
      have sm3 := same_new (o := .lst [.int 0, .int 0]) sm2 n3
      have hp3 : (upd H2 s3 (.lst [.int 0, .int 0])) pl = some (.lst (ts.map V.ref)) := upd_new n3 hp2
      have hpc3 : PcAll (upd H2 s3 (.lst [.int 0, .int 0])) ts acc := hpc2.mono fun u xs h => upd_new n3 h
      refine g_neInts (l := (bs.drop q).take 2) (m := [0, 0]) (SqL.of (upd_new n3 e2)) (SqL.of upd_same) ?_
      generalize upd H2 s3 (.lst [.int 0, .int 0]) = H3 at sm3 hp3 hpc3 ⊢
      walk_at "st"
      have hl2 : 2 ≤ (bs.drop q).length := by rw [List.length_drop]; omega
      have eR := rdN_yes hl2
      rw [List.drop_drop] at eR
      refine g_iteWN (fun hne => ?_) (fun heq => ?_)
      · rw [two_zero (hb.drop q) hl2] at hne
        rw [rdAll_step eR hne] at e
        walk_at "st"
        refine ⟨a, bs, q, _, rfl, sm3.seq hS, hb, hl, by omega, rfl, hne, fun eP H4 sm4 => ?_, fun t j eP hj H4 u1 u2 sm4 hu1 hu2 => ?_⟩
        · walk_at "st"
          walk_at "st"
          refine g_ite (fun _ => ?_) (fun z => absurd rfl z)
          walk_at "st"
          refine qN ?_ H4 (sm3.trans sm4)
          rw [e, eP]; rfl
        · rw [eP] at e
          dsimp only at e
          rw [preP_pre] at e
          walk_at "st"
          walk_at "st"
          refine g_ite (fun z => by cases z) (fun _ => ?_)
          walk_at "st"
          walk_at "st"
          refine g_tyL (SqL.of (sm4 _ _ hp3)) ?_
          walk_at "st"
          refine g_ixT (SqT.of hu1) rfl ?_
          walk_at "st"
          refine g_app (sm4 _ _ hp3) (by rw [List.length_map, sizeLine_eq]; omega) ?_
          have n1 : u1 ≠ pl := ne_of hu1 (sm4 _ _ hp3) (by intro z; cases z)
          have n2' : u2 ≠ pl := ne_of hu2 (sm4 _ _ hp3) (by intro z; cases z)
          walk_at "st"
          walk_at "st"
          refine g_ixT (SqT.of (upd_get n1 hu1)) rfl ?_
          walk_at "st"
          obtain ⟨i, hi, hi2⟩ := rdP_len eP
          have hlen := congrArg List.length hi
          rw [List.length_drop, List.length_drop, List.length_drop] at hlen
          rw [List.length_drop] at hi2
          have hqj : q + 2 ≤ j := by omega
          refine ⟨bs.length - j, by omega, j, acc ++ [(numOf ((bs.drop q).take 2), t)], ts ++ [u2], some (.ref u1), rfl, hj, same_mut (sm3.trans sm4) npl, ?_, ?_, e, by rw [List.length_append]; show ts.length + 1 ≤ j; omega, rfl⟩
          · rw [upd_same, List.map_append]; rfl
          · refine Paired.snoc (by exact upd_get n2' hu2) (hpc3.mono fun u xs h => upd_get (ne_of (sm4 _ _ h) (sm4 _ _ hp3) (by intro z; cases z)) (sm4 _ _ h))
      · refine fin q acc ts v3 H3 hq sm3 hp3 hpc3 e (.inr ?_)
        rw [eR, ← (two_zero (hb.drop q) hl2).mp heq]
    · walk_at "st"
      exact fin q acc ts v3 H' hq sm hp hpc e (.inl (by omega))

/-! PsL6 -/
/-! ### the law's drawn pieces -/
theorem join_tx : ∀ l : List Nat, Txt.join ("" : Str) (l.map fun c => tx [c]) = tx l := by
  have key : ∀ l : List Nat, Str.join ("" : Str) (l.map fun c => tx [c]) = tx l := by
    intro l
    induction l with
    | nil => rfl
    | cons c r ih =>
      cases r with
      | nil => rfl
      | cons d r =>
        show tx [c] ++ ("" : Str) ++ Str.join ("" : Str) ((d :: r).map fun c => tx [c]) = _
        rw [ih, show ("" : Str) = tx [] from rfl, tx_app, tx_app]; rfl
  intro l
  show Builtin.Str.glued ("" : Str) _ = _
  rw [StrLaws.glued_eq_join, key]
theorem atI_tx {l : List Nat} {r : Int} (h0 : 0 ≤ r) (h1 : r < (l.length : Int)) : ∃ c ∈ l, atI (tx l).cps.toList r = some c := by
  have hlt : r.toNat < l.length := by omega
  exact ⟨l[r.toNat], List.getElem_mem hlt, atI_toNat h0 (by show l.toArray.toList[r.toNat]? = _; rw [List.getElem?_eq_getElem (by simpa using hlt)])⟩
theorem knownL_len2 (k : Int) : 1 ≤ (knownL k).length ∧ (knownL k).length ≤ 100 := by
  unfold knownL
  split
  · decide
  · split <;> decide
theorem encAll_snoc (ps : List (Int × List Nat)) (p : Int × List Nat) : encAll (ps ++ [p]) = encAll ps ++ encP p := by
  unfold encAll
  rw [List.flatMap_append]
  simp
def sp_law_made (K : PySem.W.Frag) : Sp := fun vs H Q _ => ∃ (a l : Addr), vs = [.ref a] ∧ HandL H a l ∧
  ∀ H' t p b ts ps, SameX a H H' → HandL H' a l → H p = none → H b = none → p ≠ b → H' t = some (.tup [.ref p, .ref b]) → H' p = some (.lst (ts.map V.ref)) → PcAll H' ts ps → H' b = some (.lst ((encAll ps ++ [0, 0]).map V.int)) → (∀ x ∈ ps, PieceOk x) → (encAll ps).length ≤ 2998 → Q (.ref t) H'
theorem len_law_made (K : PySem.W.Frag) (vs : List V) (H : Hp) (Q : VK) (E : XK) (h : sp_law_made K vs H Q E) : vs.length = (["hand"] : List Str).length := by
  obtain ⟨a, l, rfl, _⟩ := h; rfl
abbrev N_law_made : List Str := ["hand", "most", "longest", "pieces", "bits", "turn", "kind", "some", "signs", "more", "k"]
def t_law_made (K : PySem.W.Frag) : TS :=
  tSeq (tPar 1 2 (tCons (tOp (rIxL K) (tLst (tCons (tC (.int 2998)) (tCons (tC (.int 2998)) (tCons (tOp qSub (tC (.int 2998)) (tCall (sp_law_draw K) [] E0 (tCons (tVar 0) (tCons (tC (.int 300)) tNil)))) (tCons (tC (.int 298)) tNil))))) (tCall (sp_law_draw K) [] E0 (tCons (tVar 0) (tCons (tC (.int 4)) tNil)))) (tCons (tOp (rIxL K) (tLst (tCons (tC (.int 1)) (tCons (tC (.int 7)) (tCons (tC (.int 64)) tNil)))) (tCall (sp_law_draw K) [] E0 (tCons (tVar 0) (tCons (tC (.int 3)) tNil)))) tNil))) (tSeq (tPar 3 4 (tCons (tLst (tNil)) (tCons (tLst (tNil)) tNil))) (tSeq (tFor (iRng1 (tCons (tC (.int 260)) tNil)) (gName 5) (tSeq (tAsg (tOp qAdd (tC (.int 1)) (tCall (sp_law_draw K) [] E0 (tCons (tVar 0) (tCons (tC (.int 3)) tNil)))) (gName 6)) (tSeq (tAsg (tCall (sp_law_known K) [] E0 (tCons (tVar 6) tNil)) (gName 7)) (tSeq (tAsg (tBM K "str" (qJoin K) (tC (.str "")) (tCons (tLc (iRng1 (tCons (tOp qAdd (tC (.int 1)) (tCall (sp_law_draw K) [] E0 (tCons (tVar 0) (tCons (tVar 2) tNil)))) tNil)) (gName 10) (tYes) (tOp rIxS (tVar 7) (tCall (sp_law_draw K) [] E0 (tCons (tVar 0) (tCons (tCB qLenS (tCons (tVar 7) tNil)) tNil)))) [10]) tNil)) (gName 8)) (tSeq (tAsg (tCall (sp_law_piece_bits K) [] E0 (tCons (tVar 6) (tCons (tVar 8) tNil))) (gName 9)) (tIfS (tTest (tOp qLe (tOp qAdd (tCB (qLenQ K) (tCons (tVar 4) tNil)) (tCB (qLenQ K) (tCons (tVar 9) tNil))) (tVar 1))) (tSeq (tDrop (tBM K "list" rAppend (tVar 3) (tCons (tTup (tCons (tVar 6) (tCons (tVar 8) tNil))) tNil))) (tDrop (tBM K "list" rExtend (tVar 4) (tCons (tVar 9) tNil)))) (tNext))))))) (tRet (tTup (tCons (tVar 3) (tCons (tOp rCat (tVar 4) (tLst (tCons (tC (.int 0)) (tCons (tC (.int 0)) tNil)))) tNil))))))
theorem pure_law_made (K : PySem.W.Frag) (vs : List V) (H : Hp) (Q : VK) (E : XK) (h : sp_law_made K vs H Q E) : t_law_made K ⟨fun _ H' => Q .non H', Q, fun _ _ => False, fun _ _ => False⟩ (start N_law_made vs) H := by
  obtain ⟨a, l, rfl, hA, q⟩ := h
  unfold t_law_made
  walk_at "st"
  refine ⟨a, 300, l, rfl, hA, by decide, by decide, fun H1 r1 sx1 hA1 r10 r11 => ?_⟩
  walk_at "st"
  intro p1 np1
  have hp1 : (upd H1 p1 (.lst [.int 2998, .int 2998, .int (2998 - r1), .int 298])) p1 = some (.lst [.int 2998, .int 2998, .int (2998 - r1), .int 298]) := upd_same
  have sx2 := sx1.new (o := .lst [.int 2998, .int 2998, .int (2998 - r1), .int 298]) np1
  have hA2 := hA1.new (o := .lst [.int 2998, .int 2998, .int (2998 - r1), .int 298]) np1
  have np1a := hA1.ne np1
  generalize upd H1 p1 (.lst [.int 2998, .int 2998, .int (2998 - r1), .int 298]) = H2 at hp1 sx2 hA2 ⊢
  walk_at "st"
  refine ⟨a, 4, l, rfl, hA2, by decide, by decide, fun H3 r3 sx3 hA3 r30 r31 => ?_⟩
  have sx03 := sx2.trans sx3
  obtain ⟨most, em, hm2⟩ : ∃ most : Int, atI [V.int 2998, .int 2998, .int (2998 - r1), .int 298] r3 = some (.int most) ∧ most ≤ 2998 := by
    have : r3 = 0 ∨ r3 = 1 ∨ r3 = 2 ∨ r3 = 3 := by omega
    rcases this with rfl | rfl | rfl | rfl
    · exact ⟨_, rfl, by decide⟩
    · exact ⟨_, rfl, by decide⟩
    · exact ⟨_, rfl, by omega⟩
    · exact ⟨_, rfl, by decide⟩
  refine g_ixL (SqL.of (sx3 _ _ np1a hp1)) em ?_
  walk_at "st"
  intro p2 np2
  have hp2 : (upd H3 p2 (.lst [.int 1, .int 7, .int 64])) p2 = some (.lst [.int 1, .int 7, .int 64]) := upd_same
  have sx4 := sx03.new (o := .lst [.int 1, .int 7, .int 64]) np2
  have hA4 := hA3.new (o := .lst [.int 1, .int 7, .int 64]) np2
  have np2a := hA3.ne np2
  generalize upd H3 p2 (.lst [.int 1, .int 7, .int 64]) = H4 at hp2 sx4 hA4 ⊢
  walk_at "st"
  refine ⟨a, 3, l, rfl, hA4, by decide, by decide, fun H5 r5 sx5 hA5 r50 r51 => ?_⟩
  have sx05 := sx4.trans sx5
  obtain ⟨longest, el, hg1, hg2⟩ : ∃ longest : Int, atI [V.int 1, .int 7, .int 64] r5 = some (.int longest) ∧ 1 ≤ longest ∧ longest ≤ 64 := by
    have : r5 = 0 ∨ r5 = 1 ∨ r5 = 2 := by omega
    rcases this with rfl | rfl | rfl
    · exact ⟨_, rfl, by decide, by decide⟩
    · exact ⟨_, rfl, by decide, by decide⟩
    · exact ⟨_, rfl, by decide, by decide⟩
  refine g_ixL (SqL.of (sx5 _ _ np2a hp2)) el ?_
  walk_at "st"
  walk_at "st"
  intro p np
  walk_at "st"
  intro b nb
  have npa := hA5.ne np
  have npl := hA5.nel np
  have hA6 := hA5.new (o := .lst []) np
  have nba := hA6.ne nb
  have nbl := hA6.nel nb
  have nbp : p ≠ b := ne_of_none upd_same nb
  have np0 : H p = none := sx05.free np npa
  have nb5 : H5 b = none := by
    cases e : H5 b with
    | none => rfl
    | some o => rw [upd_new np e] at nb; cases nb
  have nb0 : H b = none := sx05.free nb5 nba
  walk_at "st"
  walk_at "st"
  refine g_r1 (by decide) (by decide) ?_
  refine forR (fun i σ H' => ∃ (acc : List (Int × List Nat)) (ts : List Addr) (v5 v6 v7 v8 v9 : Option V), σ = [some (.ref a), some (.int most), some (.int longest), some (.ref p), some (.ref b), v5, v6, v7, v8, v9, none] ∧ SameX a H H' ∧ HandL H' a l ∧
    H' p = some (.lst (ts.map V.ref)) ∧ PcAll H' ts acc ∧ H' b = some (.lst ((encAll acc).map V.int)) ∧ (∀ x ∈ acc, PieceOk x) ∧ (encAll acc).length ≤ 2998 ∧ ts.length ≤ i ∧ i ≤ 260) ?_ ?_ ?_
  · exact ⟨[], [], none, none, none, none, none, rfl, (sx05.new np).new nb, hA6.new nb, upd_get nbp upd_same, .nil, upd_same, (by intro x hx; cases hx), by decide, by simp, by decide⟩
  · rintro i σ H6 hi ⟨acc, ts, v5, v6, v7, v8, v9, rfl, sx6, hA6', hp6, hpc6, hb6, hok, hlen, hts, _⟩
    walk_at "st"
    walk_at "st"
    refine ⟨a, 3, l, rfl, hA6', by decide, by decide, fun H7 r7 sx7 hA7 r70 r71 => ?_⟩
    walk_at "st"
    obtain ⟨k, ek, hk⟩ : ∃ k : Int, 1 + r7 = k ∧ (k = 1 ∨ k = 2 ∨ k = 3) := ⟨_, rfl, by omega⟩
    rw [ek]
    walk_at "st"
    refine ⟨k, rfl, ?_⟩
    walk_at "st"
    walk_at "st"
    refine g_tyS rfl ?_
    walk_at "st"
    refine ⟨a, longest, l, rfl, hA7, by omega, by omega, fun H8 r8 sx8 hA8 r80 r81 => ?_⟩
    have sx68 := sx7.trans sx8
    have hp8 := sx68 _ _ npa hp6
    have hb8 := sx68 _ _ nba hb6
    have hpc8 : PcAll H8 ts acc := hpc6.mono fun u xs h => sx68 u _ (by
      obtain ⟨ns, i', j', m', e1, _⟩ := hA6'
      exact ne_of h e1 (by intro z; cases z)) h
    walk_at "st"
    refine g_r1 (by omega) (by omega) ?_
    intro D nD
    have nDa := hA8.ne nD
    obtain ⟨hK1, hK2⟩ := knownL_len2 k
    refine lcR (fun j H' => ∃ s : List Nat, s.length = j ∧ (∀ c ∈ s, c ∈ knownL k) ∧ SameX a H8 H' ∧ HandL H' a l ∧ H' D = some (.lst ((s.map fun c => tx [c]).map V.str)) ∧ j ≤ 64) ?_ ?_ ?_
    · exact ⟨[], rfl, (by intro c hc; cases hc), (SameX.refl a H8).new nD, hA8.new nD, upd_same, by decide⟩
    · rintro j H9 hj ⟨s, es, hs, sx9, hA9, hD9, _⟩
      walk_at "st"
      refine g_lenS (by rw [tx_len, sizeLine_eq]; omega) ?_
      rw [tx_len]
      refine ⟨a, _, l, rfl, hA9, by omega, by omega, fun H10 r10 sx10 hA10 r100 r101 => ?_⟩
      obtain ⟨c, hc, ec⟩ := atI_tx r100 r101
      refine g_ixS (by rw [tx_len, sizeLine_eq]; omega) ec ?_
      refine ⟨_, sx10 _ _ nDa hD9, by rw [List.length_map, List.length_map, sizeLine_eq]; omega, s ++ [c], by rw [List.length_append, es]; rfl, ?_, (sx9.trans sx10).mutF nD, hA10.mut nDa (hA8.nel nD), ?_, by omega⟩
      · intro d hd
        rcases List.mem_append.mp hd with h | h
        · exact hs d h
        · rw [List.mem_singleton.mp h]; exact hc
      · rw [upd_same, List.map_append, List.map_append]; rfl
    · rintro H9 ⟨s, es, hs, sx9, hA9, hD9, _⟩
      have hs64 : 1 ≤ s.length ∧ s.length ≤ 64 := by omega
      walk_at "st"
      refine g_join (SqL.of hD9) ?_ ?_
      · have : ∀ s : List Nat, ((s.map fun c => tx [c]).map (·.length)).sum = s.length := by
          intro s
          induction s with
          | nil => rfl
          | cons c r ih => rw [List.map_cons, List.map_cons, List.sum_cons, ih, tx_len, List.length_cons]; simp; omega
        rw [this, show ("" : Str).length = 0 from rfl]
        omega
      rw [join_tx]
      walk_at "st"
      walk_at "st"
      have ok : PieceOk (k, s) := ⟨hk, hs64.1, hs64.2, hs⟩
      refine ⟨k, s, rfl, ok, fun H10 m sm10 nm hm => ?_⟩
      have sx610 := (sx68.trans sx9).thenS sm10
      have sx010 := sx6.trans sx610
      have hA10 : HandL H10 a l := hA9.keep sm10
      have hp10 := sm10 _ _ (sx9 _ _ npa hp8)
      have hb10 := sm10 _ _ (sx9 _ _ nba hb8)
      have hpc10 : PcAll H10 ts acc := hpc8.mono fun u xs h => sm10 u _ (sx9 u _ (by
        obtain ⟨ns, i', j', m', e1, _⟩ := hA8
        exact ne_of h e1 (by intro z; cases z)) h)
      have nmp : m ≠ p := fun z => by subst z; rw [sx9 _ _ npa hp8] at nm; cases nm
      walk_at "st"
      refine g_lenL (SqL.of hb10) ?_
      rw [List.length_map]
      walk_at "st"
      refine g_lenL (SqL.of hm) ?_
      rw [List.length_map]
      walk_at "st"
      refine g_ite (fun hle => ?_) (fun hle => ?_)
      · walk_at "st"
        refine g_tyL (SqL.of hp10) ?_
        walk_at "st"
        intro tt ntt
        have hA11 := hA10.new (o := .tup [.int k, .str (tx s)]) ntt
        have hp11 := upd_new (o := .tup [.int k, .str (tx s)]) ntt hp10
        have hb11 := upd_new (o := .tup [.int k, .str (tx s)]) ntt hb10
        have hm11 := upd_new (o := .tup [.int k, .str (tx s)]) ntt hm
        have sx11 := sx010.new (o := .tup [.int k, .str (tx s)]) ntt
        have hpc11 : PcAll _ (ts ++ [tt]) (acc ++ [(k, s)]) := Paired.snoc (by exact (upd_same : (upd H10 tt (.tup [.int k, .str (tx s)])) tt = _)) (hpc10.mono fun u xs h => upd_new ntt h)
        generalize upd H10 tt (.tup [.int k, .str (tx s)]) = H11 at hA11 hp11 hb11 hm11 sx11 hpc11 ⊢
        walk_at "st"
        refine g_app hp11 (by rw [List.length_map, sizeLine_eq]; omega) ?_
        have hb12 := upd_get (o := .lst (ts.map V.ref ++ [V.ref tt])) nbp.symm hb11
        have hm12 := upd_get (o := .lst (ts.map V.ref ++ [V.ref tt])) nmp hm11
        have hp12 : (upd H11 p (.lst (ts.map V.ref ++ [V.ref tt]))) p = some (.lst ((ts ++ [tt]).map V.ref)) := by rw [upd_same, List.map_append]; rfl
        have hA12 := hA11.mut (o := .lst (ts.map V.ref ++ [V.ref tt])) npa npl
        have sx12 := sx11.mutF (o := .lst (ts.map V.ref ++ [V.ref tt])) np0
        have hpc12 : PcAll (upd H11 p (.lst (ts.map V.ref ++ [V.ref tt]))) (ts ++ [tt]) (acc ++ [(k, s)]) := hpc11.mono fun u xs h => upd_get (ne_of h hp11 (by intro z; cases z)) h
        generalize upd H11 p (.lst (ts.map V.ref ++ [V.ref tt])) = H12 at hb12 hm12 hp12 hA12 sx12 hpc12 ⊢
        walk_at "st"
        refine g_tyL (SqL.of hb12) ?_
        walk_at "st"
        refine g_ext hb12 hm12 (by rw [List.length_map, List.length_map, sizeLine_eq]; omega) ?_
        walk_at "st"
        refine ⟨acc ++ [(k, s)], ts ++ [tt], _, _, _, _, _, rfl, sx12.mutF nb0, hA12.mut nba nbl, upd_get nbp hp12, hpc12.mono fun u xs h => upd_get (ne_of h hb12 (by intro z; cases z)) h, by rw [upd_same, encAll_snoc, List.map_append], ?_, by rw [encAll_snoc, List.length_append]; omega, by rw [List.length_append]; show ts.length + 1 ≤ _; omega, by omega⟩
        intro x hx
        rcases List.mem_append.mp hx with h | h
        · exact hok x h
        · rw [List.mem_singleton.mp h]; exact ok
      · walk_at "st"
        exact ⟨acc, ts, _, _, _, _, _, rfl, sx010, hA10, hp10, hpc10, hb10, hok, hlen, by omega, by omega⟩
  · rintro σ H6 ⟨acc, ts, v5, v6, v7, v8, v9, rfl, sx6, hA6', hp6, hpc6, hb6, hok, hlen, hts, _⟩
    walk_at "st"
    intro z nz
    have nzb : b ≠ z := ne_of_none hb6 nz
    refine g_cat (upd_get nzb hb6) upd_same (by rw [List.length_map, sizeLine_eq]; show _ + 2 ≤ _; omega) ?_
    intro b2 nb2
    walk_at "st"
    intro t nt
    have npb2 : p ≠ b2 := ne_of_none (upd_new nz hp6) nb2
    have hz6 := sx6.new (o := .lst [.int 0, .int 0]) nz
    have hA7 := hA6'.new (o := .lst [.int 0, .int 0]) nz
    have nb2a := hA7.ne nb2
    refine q _ t p b2 ts acc ((hz6.new nb2).new nt) ((hA7.new nb2).new nt) np0 (hz6.free nb2 nb2a) npb2 upd_same (upd_new nt (upd_new nb2 (upd_new nz hp6))) (hpc6.mono fun u xs h => upd_new nt (upd_new nb2 (upd_new nz h))) ?_ hok hlen
    rw [upd_new nt (x := .lst ((encAll acc ++ [0, 0]).map V.int)) (by rw [upd_same, List.map_append]; rfl)]

/-! PsL7 -/
/-! ### the law's spoilt bits -/
theorem cutB (lo hi : Option Int) (bs : List Int) (hb : B01 bs) : ∃ m : List Int, cutV (bs.map V.int) lo hi = m.map V.int ∧ B01 m ∧ m.length ≤ bs.length := by
  refine ⟨(bs.drop (HT.sIx (bs.map V.int).length 0 lo)).take (HT.sIx (bs.map V.int).length (bs.map V.int).length hi - HT.sIx (bs.map V.int).length 0 lo), ?_, (hb.drop _).take _, ?_⟩
  · unfold cutV
    rw [← List.map_drop, ← List.map_take]
  · rw [List.length_take, List.length_drop]
    omega
def sp_law_spoilt (K : PySem.W.Frag) : Sp := fun vs H Q _ => ∃ (a l b : Addr) (bs : List Int), vs = [.ref a, .ref b] ∧ HandL H a l ∧ b ≠ a ∧ H b = some (.lst (bs.map V.int)) ∧ B01 bs ∧ 0 < bs.length ∧ bs.length ≤ 3000 ∧
  ∀ H' p m, SameX a H H' → HandL H' a l → H p = none → H' p = some (.lst (m.map V.int)) → B01 m → m.length ≤ 10000 → Q (.ref p) H'
theorem len_law_spoilt (K : PySem.W.Frag) (vs : List V) (H : Hp) (Q : VK) (E : XK) (h : sp_law_spoilt K vs H Q E) : vs.length = (["hand", "bits"] : List Str).length := by
  obtain ⟨a, l, b, bs, rfl, _⟩ := h; rfl
abbrev N_law_spoilt : List Str := ["hand", "bits", "at", "way", "k"]
def t_law_spoilt (K : PySem.W.Frag) : TS :=
  tSeq (tPar 2 3 (tCons (tCall (sp_law_draw K) [] E0 (tCons (tVar 0) (tCons (tCB (qLenQ K) (tCons (tVar 1) tNil)) tNil))) (tCons (tCall (sp_law_draw K) [] E0 (tCons (tVar 0) (tCons (tC (.int 6)) tNil))) tNil))) (tSeq (tIfS (tTest (tOp rEq (tVar 3) (tC (.int 0)))) (tRet (tSl (rSlL K) (tVar 1) tNoPart (tPart (tVar 2)))) (tNext)) (tSeq (tIfS (tTest (tOp rEq (tVar 3) (tC (.int 1)))) (tRet (tOp rCat (tOp rCat (tSl (rSlL K) (tVar 1) tNoPart (tPart (tVar 2))) (tLst (tCons (tOp qSub (tC (.int 1)) (tOp (rIxL K) (tVar 1) (tVar 2))) tNil))) (tSl (rSlL K) (tVar 1) (tPart (tOp qAdd (tVar 2) (tC (.int 1)))) tNoPart))) (tNext)) (tSeq (tIfS (tTest (tOp rEq (tVar 3) (tC (.int 2)))) (tRet (tSl (rSlL K) (tOp rCat (tOp rCat (tSl (rSlL K) (tVar 1) tNoPart (tPart (tVar 2))) (tLc (iRng1 (tCons (tOp qAdd (tC (.int 1)) (tCall (sp_law_draw K) [] E0 (tCons (tVar 0) (tCons (tC (.int 12)) tNil)))) tNil)) (gName 4) (tYes) (tCall (sp_law_draw K) [] E0 (tCons (tVar 0) (tCons (tC (.int 2)) tNil))) [4])) (tSl (rSlL K) (tVar 1) (tPart (tVar 2)) tNoPart)) tNoPart (tPart (tC (.int 3000))))) (tNext)) (tSeq (tIfS (tTest (tOp rEq (tVar 3) (tC (.int 3)))) (tRet (tOp rCat (tSl (rSlL K) (tVar 1) tNoPart (tPart (tVar 2))) (tSl (rSlL K) (tVar 1) (tPart (tOp qAdd (tOp qAdd (tVar 2) (tC (.int 1))) (tCall (sp_law_draw K) [] E0 (tCons (tVar 0) (tCons (tC (.int 12)) tNil))))) tNoPart))) (tNext)) (tSeq (tIfS (tTest (tOp rEq (tVar 3) (tC (.int 4)))) (tRet (tOp rCat (tSl (rSlL K) (tVar 1) tNoPart (tPart (tVar 2))) (tOp rRep (tLst (tCons (tC (.int 1)) tNil)) (tOp qSub (tCB (qLenQ K) (tCons (tVar 1) tNil)) (tVar 2))))) (tNext)) (tRet (tSl (rSlL K) (tOp rCat (tSl (rSlL K) (tVar 1) tNoPart (tPart (tUn (rU fun i => .int (-i)) (tC (.int 2))))) (tVar 1)) tNoPart (tPart (tC (.int 3000))))))))))
/-- [draw(hand, 2) for k in range(1 + draw(hand, n))], behind a draw -/
theorem bits_lc {K : PySem.W.Frag} {a l : Addr} {H0 : Hp} {D : Addr} {σ : St} {Q : VK} {m : Nat} {lo : Int} {i : Nat} (h0 : HandL H0 a l) (hD : H0 D = none) (hm : m ≤ 1000) (hv : σ[0]? = some (some (.ref a))) (hi : i ≠ 0) (hw : wipe (σ.set i none) [i] = wipe σ [i])
    (hw2 : ∀ v, wipe ((wipe σ [i]).set i (some v)) [i] = wipe σ [i]) (hv2 : ∀ v, ((wipe σ [i]).set i (some v))[0]? = some (some (.ref a)))
    (q : ∀ H' (b : List Int), SameX a H0 H' → HandL H' a l → H' D = some (.lst (b.map V.int)) → B01 b → b.length = m → Q (.ref D) H') :
    LcJ (Itr lo m) (gName i) tYes (tCall (sp_law_draw K) [] E0 (tCons (tVar 0) (tCons (tC (.int 2)) tNil))) [i] σ D Q H0 := by
  refine lcR (fun j H' => ∃ b : List Int, SameX a H0 H' ∧ HandL H' a l ∧ H' D = some (.lst (b.map V.int)) ∧ B01 b ∧ b.length = j ∧ j ≤ m) ?_ ?_ ?_
  · exact ⟨[], (SameX.refl a H0).new hD, h0.new hD, upd_same, (by intro b hb; cases hb), rfl, Nat.zero_le _⟩
  · rintro j H1 hj ⟨b, sx, hA, hb, h01, hl, _⟩
    refine g_name ?_
    refine ⟨hw2 _, ?_⟩
    walk_at "st"
    refine g_var (hv2 _) ?_
    walk_at "st"
    refine ⟨a, 2, l, rfl, hA, by decide, by decide, fun H2 r sx2 hA2 r0 r1 => ?_⟩
    have nDa := h0.ne hD
    refine ⟨_, sx2 _ _ nDa hb, by rw [List.length_map, sizeLine_eq]; omega, b ++ [r], (sx.trans sx2).mutF hD, hA2.mut nDa (h0.nel hD), by rw [upd_same, List.map_append]; rfl, ?_, by rw [List.length_append, hl]; rfl, by omega⟩
    intro x hx
    rcases List.mem_append.mp hx with h | h
    · exact h01 x h
    · rw [List.mem_singleton.mp h]; omega
  · rintro H1 ⟨b, sx, hA, hb, h01, hl, _⟩
    exact q H1 b sx hA hb h01 hl
theorem pure_law_spoilt (K : PySem.W.Frag) (vs : List V) (H : Hp) (Q : VK) (E : XK) (h : sp_law_spoilt K vs H Q E) : t_law_spoilt K ⟨fun _ H' => Q .non H', Q, fun _ _ => False, fun _ _ => False⟩ (start N_law_spoilt vs) H := by
  obtain ⟨a, l, b, bs, rfl, hA, nba, hb, hB, hl0, hl, q⟩ := h
  unfold t_law_spoilt
  walk_at "st"
  refine g_lenL (SqL.of hb) ?_
  rw [List.length_map]
  refine ⟨a, _, l, rfl, hA, by omega, by omega, fun H1 r1 sx1 hA1 r10 r11 => ?_⟩
  walk_at "st"
  refine ⟨a, 6, l, rfl, hA1, by decide, by decide, fun H2 w sx2 hA2 w0 w1 => ?_⟩
  have sx := sx1.trans sx2
  have hb2 := sx _ _ nba hb
  clear sx1 hA1 sx2
  obtain ⟨at_, rfl⟩ := Int.eq_ofNat_of_zero_le r10
  walk_at "st"
  walk_at "st"
  refine g_ite (fun h => ?_) (fun h => ?_)
  · walk_at "st"
    refine g_slL (SqL.of hb2) ?_
    intro p np
    obtain ⟨m, em, hm, hml⟩ := cutB none (some (at_ : Int)) bs hB
    rw [em]
    exact q _ p m (sx.new np) (hA2.new np) (sx.free np (hA2.ne np)) upd_same hm (by omega)
  walk_at "st"
  walk_at "st"
  refine g_ite (fun h1 => ?_) (fun h1 => ?_)
  · walk_at "st"
    refine g_slL (SqL.of hb2) ?_
    intro p np
    obtain ⟨m, em, hm, hml⟩ := cutB none (some (at_ : Int)) bs hB
    rw [em]
    have hb3 := upd_new (o := .lst (m.map V.int)) np hb2
    walk_at "st"
    have hlt : at_ < bs.length := by omega
    refine g_ixL (v := .int bs[at_]) (SqL.of hb3) ?_ ?_
    · refine atI_toNat r10 ?_
      rw [show ((at_ : Int)).toNat = at_ from rfl, List.getElem?_map, List.getElem?_eq_getElem hlt]; rfl
    have hbit := hB _ (List.getElem_mem hlt)
    generalize bs[at_] = x at hbit
    walk_at "st"
    intro p2 np2
    have npp2 : p ≠ p2 := ne_of_none upd_same np2
    refine g_cat (xs := m.map V.int) (ys := [V.int (1 - x)]) (upd_get npp2 upd_same) upd_same (by rw [List.length_map, sizeLine_eq]; show _ + 1 ≤ _; omega) ?_
    intro p3 np3
    walk_at "st"
    refine g_slL (SqL.of (upd_new np3 (upd_new np2 hb3))) ?_
    intro p4 np4
    obtain ⟨m4, em4, hm4, hml4⟩ := cutB (some ((at_ : Int) + 1)) none bs hB
    rw [em4]
    have np34 : p3 ≠ p4 := ne_of_none upd_same np4
    refine g_cat (xs := m.map V.int ++ [V.int (1 - x)]) (ys := m4.map V.int) (upd_get np34 upd_same) upd_same (by rw [List.length_append, List.length_map, List.length_map, sizeLine_eq]; show _ + 1 + _ ≤ _; omega) ?_
    intro p5 np5
    have A5 := (((hA2.new (o := .lst (m.map V.int)) np).new np2).new np3).new (o := .lst (m4.map V.int)) np4
    have S5 := (((sx.new (o := .lst (m.map V.int)) np).new np2).new np3).new (o := .lst (m4.map V.int)) np4
    refine q _ p5 (m ++ [1 - x] ++ m4) (S5.new np5) (A5.new np5) (S5.free np5 (A5.ne np5)) ?_ ?_ ?_
    · rw [upd_same, List.map_append, List.map_append]; rfl
    · refine (hm.append ?_).append hm4
      intro y hy
      rw [List.mem_singleton.mp hy]; omega
    · rw [List.length_append, List.length_append]; show _ + 1 + _ ≤ _; omega
  walk_at "st"
  walk_at "st"
  refine g_ite (fun h2 => ?_) (fun h2 => ?_)
  · walk_at "st"
    refine g_slL (SqL.of hb2) ?_
    intro p np
    obtain ⟨m, em, hm, hml⟩ := cutB none (some (at_ : Int)) bs hB
    rw [em]
    have hp3 : (upd H2 p (.lst (m.map V.int))) p = some (.lst (m.map V.int)) := upd_same
    have npa := hA2.ne np
    have hb3 := upd_new (o := .lst (m.map V.int)) np hb2
    have A3 := hA2.new (o := .lst (m.map V.int)) np
    have S3 := sx.new (o := .lst (m.map V.int)) np
    generalize upd H2 p (.lst (m.map V.int)) = H3 at hp3 hb3 A3 S3 ⊢
    walk_at "st"
    refine ⟨a, 12, l, rfl, A3, by decide, by decide, fun H4 r4 sx4 A4 r40 r41 => ?_⟩
    walk_at "st"
    refine g_r1 (by omega) (by omega) ?_
    intro D nD
    have nDa := A4.ne nD
    refine bits_lc A4 nD (by omega) rfl (by decide) rfl (fun v => rfl) (fun v => rfl) ?_
    intro H5 b5 sx5 A5 hD5 hB5 hl5
    have S5 := (S3.trans sx4).trans sx5
    have hp5 := sx5 _ _ npa (sx4 _ _ npa hp3)
    have hb5 := sx5 _ _ nba (sx4 _ _ nba hb3)
    refine g_cat hp5 hD5 (by rw [List.length_map, List.length_map, sizeLine_eq]; omega) ?_
    intro p6 np6
    walk_at "st"
    refine g_slL (SqL.of (upd_new np6 hb5)) ?_
    intro p7 np7
    obtain ⟨m7, em7, hm7, hml7⟩ := cutB (some (at_ : Int)) none bs hB
    rw [em7]
    have np67 : p6 ≠ p7 := ne_of_none upd_same np7
    refine g_cat (xs := m.map V.int ++ b5.map V.int) (ys := m7.map V.int) (upd_get np67 upd_same) upd_same (by rw [List.length_append, List.length_map, List.length_map, List.length_map, sizeLine_eq]; omega) ?_
    intro p8 np8
    walk_at "st"
    refine g_slL (xs := (m ++ b5 ++ m7).map V.int) (SqL.of (by rw [upd_same, List.map_append, List.map_append])) ?_
    intro p9 np9
    obtain ⟨m9, em9, hm9, hml9⟩ := cutB none (some 3000) (m ++ b5 ++ m7) ((hm.append hB5).append hm7)
    rw [em9]
    have A9 := ((A5.new (o := .lst (m.map V.int ++ b5.map V.int)) np6).new np7).new (o := .lst (m.map V.int ++ b5.map V.int ++ m7.map V.int)) np8
    have S9 := ((S5.new (o := .lst (m.map V.int ++ b5.map V.int)) np6).new np7).new (o := .lst (m.map V.int ++ b5.map V.int ++ m7.map V.int)) np8
    rw [List.length_append, List.length_append] at hml9
    exact q _ p9 m9 (S9.new np9) (A9.new np9) (S9.free np9 (A9.ne np9)) upd_same hm9 (by omega)
  walk_at "st"
  walk_at "st"
  refine g_ite (fun h3 => ?_) (fun h3 => ?_)
  · walk_at "st"
    refine g_slL (SqL.of hb2) ?_
    intro p np
    obtain ⟨m, em, hm, hml⟩ := cutB none (some (at_ : Int)) bs hB
    rw [em]
    have hp3 : (upd H2 p (.lst (m.map V.int))) p = some (.lst (m.map V.int)) := upd_same
    have npa := hA2.ne np
    have hb3 := upd_new (o := .lst (m.map V.int)) np hb2
    have A3 := hA2.new (o := .lst (m.map V.int)) np
    have S3 := sx.new (o := .lst (m.map V.int)) np
    generalize upd H2 p (.lst (m.map V.int)) = H3 at hp3 hb3 A3 S3 ⊢
    walk_at "st"
    refine ⟨a, 12, l, rfl, A3, by decide, by decide, fun H4 r4 sx4 A4 r40 r41 => ?_⟩
    have S4 := S3.trans sx4
    have hp4 := sx4 _ _ npa hp3
    have hb4 := sx4 _ _ nba hb3
    walk_at "st"
    refine g_slL (SqL.of hb4) ?_
    intro p5 np5
    obtain ⟨m5, em5, hm5, hml5⟩ := cutB (some ((at_ : Int) + 1 + r4)) none bs hB
    rw [em5]
    refine g_cat (xs := m.map V.int) (ys := m5.map V.int) (upd_new np5 hp4) upd_same (by rw [List.length_map, List.length_map, sizeLine_eq]; omega) ?_
    intro p6 np6
    have A6 := A4.new (o := .lst (m5.map V.int)) np5
    have S6 := S4.new (o := .lst (m5.map V.int)) np5
    exact q _ p6 (m ++ m5) (S6.new np6) (A6.new np6) (S6.free np6 (A6.ne np6)) (by rw [upd_same, List.map_append]) (hm.append hm5) (by rw [List.length_append]; omega)
  walk_at "st"
  walk_at "st"
  refine g_ite (fun h4 => ?_) (fun h4 => ?_)
  · walk_at "st"
    refine g_slL (SqL.of hb2) ?_
    intro p np
    obtain ⟨m, em, hm, hml⟩ := cutB none (some (at_ : Int)) bs hB
    rw [em]
    have hb3 := upd_new (o := .lst (m.map V.int)) np hb2
    walk_at "st"
    intro p2 np2
    have npp2 : p ≠ p2 := ne_of_none upd_same np2
    walk_at "st"
    refine g_lenL (SqL.of (upd_new np2 hb3)) ?_
    rw [List.length_map]
    walk_at "st"
    refine g_rep upd_same (by omega) (by omega) ?_ ?_
    · rw [sizeLine_eq]; show 1 * _ ≤ _; omega
    intro p3 np3
    refine g_cat (xs := m.map V.int) (upd_new np3 (upd_get npp2 upd_same)) upd_same ?_ ?_
    · rw [List.length_map, sizeLine_eq, List.length_flatten, List.map_replicate, List.sum_replicate_nat]; show _ + _ * 1 ≤ _; omega
    intro p4 np4
    have A4 := ((hA2.new (o := .lst (m.map V.int)) np).new np2).new (o := .lst (List.replicate ((bs.length : Int) - (at_ : Int)).toNat [V.int 1]).flatten) np3
    have S4 := ((sx.new (o := .lst (m.map V.int)) np).new np2).new (o := .lst (List.replicate ((bs.length : Int) - (at_ : Int)).toNat [V.int 1]).flatten) np3
    refine q _ p4 (m ++ List.replicate ((bs.length : Int) - (at_ : Int)).toNat 1) (S4.new np4) (A4.new np4) (S4.free np4 (A4.ne np4)) ?_ (hm.append ?_) ?_
    · rw [upd_same, List.map_append]
      congr 3
      generalize ((bs.length : Int) - (at_ : Int)).toNat = n
      induction n with
      | zero => rfl
      | succ n ih => rw [List.replicate_succ, List.flatten_cons, ih]; rfl
    · intro y hy
      exact .inr (List.eq_of_mem_replicate hy)
    · rw [List.length_append, List.length_replicate]; omega
  walk_at "st"
  refine g_slL (SqL.of hb2) ?_
  intro p np
  obtain ⟨m, em, hm, hml⟩ := cutB none (some (-2)) bs hB
  rw [em]
  have hb3 := upd_new (o := .lst (m.map V.int)) np hb2
  walk_at "st"
  refine g_cat (xs := m.map V.int) (ys := bs.map V.int) upd_same hb3 (by rw [List.length_map, List.length_map, sizeLine_eq]; omega) ?_
  intro p2 np2
  walk_at "st"
  refine g_slL (xs := (m ++ bs).map V.int) (SqL.of (by rw [upd_same, List.map_append])) ?_
  intro p3 np3
  obtain ⟨m3, em3, hm3, hml3⟩ := cutB none (some 3000) (m ++ bs) (hm.append hB)
  rw [em3]
  have A3 := (hA2.new (o := .lst (m.map V.int)) np).new (o := .lst (m.map V.int ++ bs.map V.int)) np2
  have S3 := (sx.new (o := .lst (m.map V.int)) np).new (o := .lst (m.map V.int ++ bs.map V.int)) np2
  rw [List.length_append] at hml3
  exact q _ p3 m3 (S3.new np3) (A3.new np3) (S3.free np3 (A3.ne np3)) upd_same hm3 (by omega)

/-! PsL8 -/
/-! ### what is read is texts of known signs -/
theorem pad_ch : ∀ (s n : Nat), ∀ c ∈ pad s n, c < 0x110000
  | 0, _, c, h => by cases h
  | s + 1, n, c, h => by
    unfold pad at h
    rcases List.mem_append.mp h with h | h
    · exact pad_ch s _ c h
    · rw [List.mem_singleton.mp h]; omega
theorem rdFigs_ch : ∀ (z : List Nat) (l : List Int) (t : List Nat) (r : List Int), rdFigs z l = some (t, r) → ∀ c ∈ t, c < 0x110000
  | [], l, t, r, h, c, hc => by
    unfold rdFigs at h
    cases h; cases hc
  | s :: z, l, t, r, h, c, hc => by
    unfold rdFigs at h
    split at h
    · cases h
    · split at h
      · cases h
      · split at h
        · cases h
        · rename_i t' l2 e
          cases h
          rcases List.mem_append.mp hc with h | h
          · exact pad_ch _ _ c h
          · exact rdFigs_ch z _ _ _ e c h
theorem getD_ch {known : List Nat} (hk : ∀ c ∈ known, c < 0x110000) (n : Nat) : known.getD n 0 < 0x110000 := by
  rw [List.getD_eq_getElem?_getD]
  cases e : known[n]? with
  | none => show (0 : Nat) < _; decide
  | some c => exact hk c (List.mem_of_getElem? e)
theorem rdSigns_ch {known : List Nat} (hk : ∀ c ∈ known, c < 0x110000) (w : Nat) : ∀ (n : Nat) (l : List Int) (t : List Nat) (r : List Int), rdSigns known w n l = some (t, r) → ∀ c ∈ t, c < 0x110000
  | 0, l, t, r, h, c, hc => by
    unfold rdSigns at h
    cases h; cases hc
  | n + 1, l, t, r, h, c, hc => by
    unfold rdSigns at h
    split at h
    · cases h
    · split at h
      · cases h
      · split at h
        · cases h
        · rename_i t' l2 e
          cases h
          rcases List.mem_cons.mp hc with h | h
          · rw [h]; exact getD_ch hk _
          · exact rdSigns_ch hk w n _ _ _ e c h
theorem rdBody_ch {k : Int} {n : Nat} {l : List Int} {t : List Nat} {r : List Int} (h : rdBody k n l = some (t, r)) : ∀ c ∈ t, c < 0x110000 := by
  unfold rdBody at h
  split at h
  · exact rdFigs_ch _ _ _ _ h
  · split at h
    · exact rdSigns_ch (by decide) _ _ _ _ _ h
    · exact rdSigns_ch (by decide) _ _ _ _ _ h
theorem rdAft_ch : ∀ (f : Nat) (k : Int) (l : List Int) (ps : List (Int × List Nat)) (r : List Int), rdAft f k l = some (ps, r) → ∀ p ∈ ps, ∀ c ∈ p.2, c < 0x110000
  | 0, k, l, ps, r, h => by unfold rdAft at h; cases h
  | f + 1, k, l, ps, r, h => by
    unfold rdAft at h
    split at h
    · cases h; intro p hp; cases hp
    · split at h
      · cases h
      · split at h
        · cases h
        · rename_i s l3 eb
          split at h
          · cases h
          · split at h
            · cases h
            · rename_i ps' l5 e
              cases h
              intro p hp
              rcases List.mem_cons.mp hp with h | h
              · rw [h]; exact rdBody_ch eb
              · exact rdAft_ch f _ _ _ _ e p h
theorem rdAll_ch {l : List Int} {ps : List (Int × List Nat)} {r : List Int} (h : rdAll l = some (ps, r)) : ∀ p ∈ ps, ∀ c ∈ p.2, c < 0x110000 := by
  unfold rdAll at h
  split at h
  · cases h
  · exact rdAft_ch _ _ _ _ _ h
/-- what is read, as data -/
abbrev pcD (p : Int × List Nat) : PyData := .tuple [.int p.1, .str (tx p.2)]
abbrev rdD (ps : List (Int × List Nat)) (k : Int) : PyData := .tuple [.list (ps.map pcD), .int k]
theorem okD_rd {ps : List (Int × List Nat)} (h : ∀ p ∈ ps, ∀ c ∈ p.2, c < 0x110000) (k : Int) : OkD 3 (rdD ps k) := by
  refine okD_tup fun d hd => ?_
  rcases List.mem_cons.mp hd with rfl | hd
  · refine okD_list fun d hd => ?_
    obtain ⟨p, hp, rfl⟩ := List.mem_map.mp hd
    refine okD_tup fun d hd => ?_
    rcases List.mem_cons.mp hd with rfl | hd
    · exact okD_int _
    · rw [List.mem_singleton.mp hd]; exact okD_str (h p hp)
  · rw [List.mem_singleton.mp hd]; exact okD_int _
theorem dp_pcs {K : PySem.W.Frag} {H : Hp} {ts : List Addr} {ps : List (Int × List Nat)} (h : PcAll H ts ps) : DpAll K H (ts.map V.ref) (ps.map pcD) :=
  dpAll_pair (R := fun (t : Addr) (pc : Int × List Nat) => H t = some (.tup [.int pc.1, .str (tx pc.2)])) (f := V.ref) (g := pcD) (fun _ _ r => .tup (SqT.of r) (.cons (.int _) (.cons (.str _) .nil))) h
theorem dp_rd {K : PySem.W.Frag} {H : Hp} {t p : Addr} {k : Int} {ts : List Addr} {ps : List (Int × List Nat)} (ht : H t = some (.tup [.ref p, .int k])) (hp : H p = some (.lst (ts.map V.ref))) (h : PcAll H ts ps) : Dp K H (.ref t) (rdD ps k) :=
  .tup (SqT.of ht) (.cons (.lst (SqL.of hp) (dp_pcs h)) (.cons (.int k) .nil))

/-! ### what is told, or the word of a refusal -/
structure KtT (K : PySem.W.Frag) : Prop where
  ex : PySem.W.exmOne K (.ref (ga K "NoText")) (.ref (ga K "SquareError")) = some true
  ec : ExcC K (ga K "NoText")
  no : PySem.W.kitAny K (.ref (ga K "NoText")) [.ref (ga K "NoInverse"), .ref (ga K "NoLabel"), .ref (ga K "NoMarks"), .ref (ga K "NoMend"), .ref (ga K "NoPicture"), .ref (ga K "NoSign"), .ref (ga K "NoSquare"), .ref (ga K "TooLong")] = some false
  y1 : PySem.W.kitOne K (.ref (ga K "NoText")) (.ref (ga K "NoText")) = some true
  y2 : PySem.W.kitOne K (.ref (ga K "NoText")) (.type "ValueError") = some true
theorem g_kp {K : PySem.W.Frag} {c : Value} {i : Nat} {tb : WX → TS} {ts : TS} {Wo : WX} {D : Ends} {σ : St} {H : Hp} (h : tb (wKp K c i ts Wo D) D σ H) : tKp K c i tb ts Wo D σ H := h
def sp_law_told (K : PySem.W.Frag) : Sp := fun vs H Q _ => ∃ (a : Addr) (bs : List Int), vs = [.ref a] ∧ SqL K H a (bs.map V.int) ∧ B01 bs ∧ bs.length ≤ 100000 ∧
  (rdAll bs = none → ∀ H', Same H H' → Q (.str ("none" : Str)) H') ∧
  (∀ ps k, rdAll bs = some (ps, bs.drop k) → k ≤ bs.length → ∀ H' t p ts, Same H H' → H' t = some (.tup [.ref p, .int (k : Int)]) → H' p = some (.lst (ts.map V.ref)) → PcAll H' ts ps → Q (.ref t) H')
theorem len_law_told (K : PySem.W.Frag) (vs : List V) (H : Hp) (Q : VK) (E : XK) (h : sp_law_told K vs H Q E) : vs.length = (["bits"] : List Str).length := by
  obtain ⟨a, bs, rfl, _⟩ := h; rfl
abbrev N_law_told : List Str := ["bits", "found", "caught", "error", "others"]
def t_law_told (K : PySem.W.Frag) : TS :=
  tSeq (tAsg (tTup (tCons (tC .non) (tCons (tC .non) tNil))) (gTup K 2 (gCons (gName 1) (gCons (gName 2) (gNil))))) (tSeq (tKp K (.ref (ga K "SquareError")) 3 (fun W => tAsg (tCallS (sp_read_pieces K) (WE W) (tCons (tVar 0) tNil)) (gName 1)) (tAsg (tVar 3) (gName 2)) (fun _ _ _ _ => False)) (tSeq (tIfS (tTest (tOp qIsN (tVar 2) (tC .non))) (tRet (tVar 1)) (tNext)) (tSeq (tAsg (tCB (qIsVT K) (tCons (tVar 2) (tCons (tTup (tCons (tC (.ref (ga K "NoInverse"))) (tCons (tC (.ref (ga K "NoLabel"))) (tCons (tC (.ref (ga K "NoMarks"))) (tCons (tC (.ref (ga K "NoMend"))) (tCons (tC (.ref (ga K "NoPicture"))) (tCons (tC (.ref (ga K "NoSign"))) (tCons (tC (.ref (ga K "NoSquare"))) (tCons (tC (.ref (ga K "TooLong"))) tNil))))))))) tNil))) (gName 4)) (tRet (tIf (tAnd (tB (tCB (qIsV K) (tCons (tVar 2) (tCons (tC (.ref (ga K "NoText"))) tNil)))) (tAnd (tB (tCB (qIsV K) (tCons (tVar 2) (tCons (tC (.ty "ValueError")) tNil)))) (tNot (tB (tVar 4))))) (tC (.str "none")) (tC (.str "other")))))))
theorem pure_law_told (K : PySem.W.Frag) (kT : KtT K) (vs : List V) (H : Hp) (Q : VK) (E : XK) (h : sp_law_told K vs H Q E) : t_law_told K ⟨fun _ H' => Q .non H', Q, fun _ _ => False, fun _ _ => False⟩ (start N_law_told vs) H := by
  obtain ⟨a, bs, rfl, hS, hb, hl, qN, qS⟩ := h
  unfold t_law_told
  walk_at "st"
  intro t0 nt0
  refine g_gtup (SqT.of upd_same) rfl ?_
  have s0 : Same H (upd H t0 (.tup [.non, .non])) := same_new (Same.refl H) nt0
  have hS := s0.seq hS
  have qN := fun e H' sm => qN e H' (s0.trans sm)
  have qS := fun ps k e hk H' t p ts sm => qS ps k e hk H' t p ts (s0.trans sm)
  generalize upd H t0 (.tup [.non, .non]) = H at *
  walk_at "st"
  with_reducible refine g_seq ?_
  refine g_kp ?_
  walk_at "st"
  refine ⟨a, bs, rfl, hS, hb, hl, fun e H1 sm => ?_, fun ps k e hk H1 t p ts sm _ ht hp hpc => ?_⟩
  · refine ⟨true, kT.ex, fun _ x nx => ?_, fun z => by cases z⟩
    have hx : (upd H1 x (ExV (.ref (ga K "NoText")) none x)) x = some (ExV (.ref (ga K "NoText")) none x) := upd_same
    have s1 : Same H (upd H1 x (ExV (.ref (ga K "NoText")) none x)) := same_new sm nx
    generalize upd H1 x (ExV (.ref (ga K "NoText")) none x) = H2 at hx s1 ⊢
    walk_at "st"
    walk_at "st"
    refine g_ite (fun z => by cases z) (fun _ => ?_)
    walk_at "st"
    walk_at "st"
    intro tp ntp
    refine ⟨x, ga K "NoText", none, tp, _, _, false, rfl, upd_new ntp hx, dok_none, kT.ec, upd_same, ?_, kT.no, ?_⟩
    · exact .cons (.own _) (.cons (.own _) (.cons (.own _) (.cons (.own _) (.cons (.own _) (.cons (.own _) (.cons (.own _) (.cons (.own _) .nil)))))))
    have hx3 := upd_new (o := .tup [.ref (ga K "NoInverse"), .ref (ga K "NoLabel"), .ref (ga K "NoMarks"), .ref (ga K "NoMend"), .ref (ga K "NoPicture"), .ref (ga K "NoSign"), .ref (ga K "NoSquare"), .ref (ga K "TooLong")]) ntp hx
    have s3 := same_new (o := .tup [.ref (ga K "NoInverse"), .ref (ga K "NoLabel"), .ref (ga K "NoMarks"), .ref (ga K "NoMend"), .ref (ga K "NoPicture"), .ref (ga K "NoSign"), .ref (ga K "NoSquare"), .ref (ga K "TooLong")]) s1 ntp
    generalize upd H2 tp _ = H3 at hx3 s3 ⊢
    walk_at "st"
    walk_at "st"
    refine ⟨x, ga K "NoText", none, _, _, true, rfl, hx3, dok_none, kT.ec, .own _, kT.y1, ?_⟩
    walk_at "st"
    refine ⟨x, ga K "NoText", none, _, _, true, rfl, hx3, dok_none, kT.ec, .ty _, kT.y2, ?_⟩
    walk_at "st"
    exact qN e H3 s3
  · walk_at "st"
    walk_at "st"
    refine g_ite (fun _ => ?_) (fun z => absurd rfl z)
    walk_at "st"
    exact qS ps k e hk H1 t p ts sm ht hp hpc

/-! PsL9 -/
/-! ### the law -/
def sp_law (K : PySem.W.Frag) : Sp := fun vs H Q _ => ∃ (a : Addr) (ns : List Int), vs = [.ref a] ∧ SqL K H a (ns.map V.int) ∧ ns.length ≤ 63 ∧ ∀ H', Q (.bl true) H'
theorem len_law (K : PySem.W.Frag) (vs : List V) (H : Hp) (Q : VK) (E : XK) (h : sp_law K vs H Q E) : vs.length = (["script"] : List Str).length := by
  obtain ⟨a, ns, rfl, _⟩ := h; rfl
abbrev N_law : List Str := ["script", "hand", "pieces", "bits", "more", "handed", "kept", "turn", "spoilt", "due", "k"]
def t_law (K : PySem.W.Frag) : TS :=
  tSeq (tAsg (tCall (sp_law_hand K) [] E0 (tCons (tVar 0) tNil)) (gName 1)) (tSeq (tAsg (tCall (sp_law_made K) [] E0 (tCons (tVar 1) tNil)) (gTup K 2 (gCons (gName 2) (gCons (gName 3) (gNil))))) (tSeq (tAsg (tLc (iRng1 (tCons (tCall (sp_law_draw K) [] E0 (tCons (tVar 1) (tCons (tC (.int 71)) tNil))) tNil)) (gName 10) (tYes) (tCall (sp_law_draw K) [] E0 (tCons (tVar 1) (tCons (tC (.int 2)) tNil))) [10]) (gName 4)) (tSeq (tAsg (tSl (rSlL K) (tOp rCat (tVar 3) (tVar 4)) tNoPart (tPart (tC (.int 3000)))) (gName 5)) (tSeq (tAsg (tCB (qListOf K) (tCons (tVar 5) tNil)) (gName 6)) (tSeq (tIfS (tOr (tTest (tOp (rNeD K) (tCall (sp_law_told K) [] E0 (tCons (tVar 5) tNil)) (tTup (tCons (tVar 2) (tCons (tCB (qLenQ K) (tCons (tVar 3) tNil)) tNil))))) (tTest (tOp (rNeD K) (tVar 5) (tVar 6)))) (tRet (tC (.bl false))) (tNext)) (tSeq (tFor (iRng1 (tCons (tC (.int 8)) tNil)) (gName 7) (tSeq (tAsg (tCall (sp_law_spoilt K) [] E0 (tCons (tVar 1) (tCons (tVar 3) tNil))) (gName 8)) (tSeq (tAsg (tCall (sp_law_due K) [] E0 (tCons (tVar 8) tNil)) (gName 9)) (tIfS (tTest (tOp (rNeD K) (tCall (sp_law_told K) [] E0 (tCons (tCB (qListOf K) (tCons (tVar 8) tNil)) tNil)) (tIf (tTest (tOp qIsN (tVar 9) (tC .non))) (tC (.str "none")) (tVar 9)))) (tRet (tC (.bl false))) (tNext))))) (tRet (tC (.bl true)))))))))
/-- [draw(hand, 2) for k in range(..)], the hand at the slot z -/
theorem bits_lc2 {K : PySem.W.Frag} {a l : Addr} {H0 : Hp} {D : Addr} {σ : St} {Q : VK} {m : Nat} {lo : Int} {i z : Nat} (h0 : HandL H0 a l) (hD : H0 D = none) (hm : m ≤ 1000)
    (hw2 : ∀ v, wipe ((wipe σ [i]).set i (some v)) [i] = wipe σ [i]) (hv2 : ∀ v, ((wipe σ [i]).set i (some v))[z]? = some (some (.ref a)))
    (q : ∀ H' (b : List Int), SameX a H0 H' → HandL H' a l → H' D = some (.lst (b.map V.int)) → B01 b → b.length = m → Q (.ref D) H') :
    LcJ (Itr lo m) (gName i) tYes (tCall (sp_law_draw K) [] E0 (tCons (tVar z) (tCons (tC (.int 2)) tNil))) [i] σ D Q H0 := by
  refine lcR (fun j H' => ∃ b : List Int, SameX a H0 H' ∧ HandL H' a l ∧ H' D = some (.lst (b.map V.int)) ∧ B01 b ∧ b.length = j ∧ j ≤ m) ?_ ?_ ?_
  · exact ⟨[], (SameX.refl a H0).new hD, h0.new hD, upd_same, (by intro b hb; cases hb), rfl, Nat.zero_le _⟩
  · rintro j H1 hj ⟨b, sx, hA, hb, h01, hl, _⟩
    refine g_name ?_
    refine ⟨hw2 _, ?_⟩
    walk_at "st"
    refine g_var (hv2 _) ?_
    walk_at "st"
    refine ⟨a, 2, l, rfl, hA, by decide, by decide, fun H2 r sx2 hA2 r0 r1 => ?_⟩
    have nDa := h0.ne hD
    refine ⟨_, sx2 _ _ nDa hb, by rw [List.length_map, sizeLine_eq]; omega, b ++ [r], (sx.trans sx2).mutF hD, hA2.mut nDa (h0.nel hD), by rw [upd_same, List.map_append]; rfl, ?_, by rw [List.length_append, hl]; rfl, by omega⟩
    intro x hx
    rcases List.mem_append.mp hx with h | h
    · exact h01 x h
    · rw [List.mem_singleton.mp h]; omega
  · rintro H1 ⟨b, sx, hA, hb, h01, hl, _⟩
    exact q H1 b sx hA hb h01 hl
theorem okD_none : OkD 0 (.str ("none" : Str)) := okD_str (l := [110, 111, 110, 101]) (by decide)
theorem PcAll.sameX {H H' : Hp} {a : Addr} {ts : List Addr} {ps : List (Int × List Nat)} {x : List V} (h : PcAll H ts ps) (ha : H a = some (.lst x)) (s : SameX a H H') : PcAll H' ts ps :=
  h.mono fun u xs e => s u _ (ne_of e ha (by intro z; cases z)) e
theorem HandL.lst {H : Hp} {a l : Addr} (h : HandL H a l) : ∃ x, H a = Option.some (HO.lst x) := by
  obtain ⟨ns, i, j, m, h1, _⟩ := h
  exact ⟨_, h1⟩
theorem pure_law (K : PySem.W.Frag) (vs : List V) (H : Hp) (Q : VK) (E : XK) (h : sp_law K vs H Q E) : t_law K ⟨fun _ H' => Q .non H', Q, fun _ _ => False, fun _ _ => False⟩ (start N_law vs) H := by
  obtain ⟨s, ns, rfl, hS, hl, q⟩ := h
  unfold t_law
  walk_at "st"
  refine ⟨s, ns, rfl, hS, hl, fun H1 a _ _ ⟨l, hA1⟩ => ?_⟩
  walk_at "st"
  walk_at "st"
  refine ⟨a, l, rfl, hA1, fun H2 t p b ts ps sx2 hA2 np nb npb ht hp hpc hb hok hlen => ?_⟩
  have nba := hA1.ne nb
  have npa := hA1.ne np
  refine g_gtup (SqT.of ht) rfl ?_
  walk_at "st"
  walk_at "st"
  refine ⟨a, 71, l, rfl, hA2, by decide, by decide, fun H3 r3 sx3 hA3 r30 r31 => ?_⟩
  walk_at "st"
  refine g_r1 (by omega) (by omega) ?_
  intro D nD
  refine bits_lc2 hA3 nD (by omega) (fun v => rfl) (fun v => rfl) ?_
  intro H4 m sx4 hA4 hm hm01 hml
  have sx24 := sx3.trans sx4
  have nDa := hA3.ne nD
  have hb4 := sx24 _ _ nba hb
  have hp4 := sx24 _ _ npa hp
  obtain ⟨xa, ha2⟩ := hA2.lst
  have hpc4 := hpc.sameX ha2 sx24
  have hB : (encAll ps ++ [0, 0]).length ≤ 3000 := by rw [List.length_append]; show _ + 2 ≤ _; omega
  have hB0 : 0 < (encAll ps ++ [0, 0]).length := by rw [List.length_append]; show 0 < _ + 2; omega
  have hB01 : B01 (encAll ps ++ [0, 0]) := (encAll_B01 ps).append (by decide)
  have hrd : ∀ r, rdAll (encAll ps ++ [0, 0] ++ r) = some (ps, r) := fun r => by rw [List.append_assoc]; exact rdAll_enc ps r hok
  generalize encAll ps ++ [0, 0] = B at hb4 hB hB0 hB01 hrd hb
  walk_at "st"
  walk_at "st"
  refine g_cat hb4 hm (by rw [List.length_map, List.length_map, sizeLine_eq]; omega) ?_
  intro c nc
  walk_at "st"
  refine g_slL (xs := (B ++ m).map V.int) (SqL.of (by rw [upd_same, List.map_append])) ?_
  intro d nd
  rw [show (3000 : Int) = ((3000 : Nat) : Int) from rfl, cut_take, List.take_append, List.take_of_length_le hB]
  have hm1 : B01 (m.take (3000 - B.length)) := hm01.take _
  have hm1l : (m.take (3000 - B.length)).length ≤ 70 := by rw [List.length_take]; omega
  generalize m.take (3000 - B.length) = m1 at hm1 hm1l
  have hd : (upd (upd H4 c (.lst (B.map V.int ++ m.map V.int))) d (.lst ((B ++ m1).map V.int))) d = some (.lst ((B ++ m1).map V.int)) := upd_same
  have hb5 := upd_new (o := .lst ((B ++ m1).map V.int)) nd (upd_new (o := .lst (B.map V.int ++ m.map V.int)) nc hb4)
  have hp5 := upd_new (o := .lst ((B ++ m1).map V.int)) nd (upd_new (o := .lst (B.map V.int ++ m.map V.int)) nc hp4)
  have hpc5 : PcAll (upd (upd H4 c (.lst (B.map V.int ++ m.map V.int))) d (.lst ((B ++ m1).map V.int))) ts ps := hpc4.mono fun u xs h => upd_new nd (upd_new nc h)
  have hA5 := (hA4.new (o := .lst (B.map V.int ++ m.map V.int)) nc).new (o := .lst ((B ++ m1).map V.int)) nd
  generalize upd (upd H4 c (.lst (B.map V.int ++ m.map V.int))) d (.lst ((B ++ m1).map V.int)) = H5 at hd hb5 hp5 hpc5 hA5 ⊢
  clear nd nc hb4 hp4 hpc4 hA4 hm sx4 sx24 hm01 hml
  walk_at "st"
  walk_at "st"
  refine g_listL (SqL.of hd) ?_
  intro e ne
  have he : (upd H5 e (.lst ((B ++ m1).map V.int))) e = some (.lst ((B ++ m1).map V.int)) := upd_same
  have hd6 := upd_new (o := .lst ((B ++ m1).map V.int)) ne hd
  have hb6 := upd_new (o := .lst ((B ++ m1).map V.int)) ne hb5
  have hp6 := upd_new (o := .lst ((B ++ m1).map V.int)) ne hp5
  have hpc6 : PcAll (upd H5 e (.lst ((B ++ m1).map V.int))) ts ps := hpc5.mono fun u xs h => upd_new ne h
  have hA6 := hA5.new (o := .lst ((B ++ m1).map V.int)) ne
  generalize upd H5 e (.lst ((B ++ m1).map V.int)) = H6 at he hd6 hb6 hp6 hpc6 hA6 ⊢
  clear ne hd hb5 hp5 hpc5 hA5
  walk_at "st"
  walk_at "st"
  have hdr : (B ++ m1).drop B.length = m1 := by rw [List.drop_append_of_le_length (Nat.le_refl _), List.drop_length, List.nil_append]
  refine ⟨d, B ++ m1, rfl, SqL.of hd6, hB01.append hm1, by rw [List.length_append]; omega, fun e0 => (by rw [hrd] at e0; cases e0), fun ps2 k2 e2 hk2 H7 t7 p7 ts7 sm7 ht7 hp7 hpc7 => ?_⟩
  rw [hrd] at e2
  obtain ⟨rfl, ek⟩ := Prod.mk.inj (Option.some.inj e2)
  have hk : k2 = B.length := by
    have := congrArg List.length ek
    rw [List.length_drop, List.length_append] at this
    rw [List.length_append] at hk2
    omega
  subst hk
  walk_at "st"
  refine g_lenL (SqL.of (sm7 _ _ hb6)) ?_
  rw [List.length_map]
  walk_at "st"
  intro t8 nt8
  have hch : ∀ p ∈ ps, ∀ c ∈ p.2, c < 0x110000 := rdAll_ch (hrd [])
  have s8 : Same H7 (upd H7 t8 (.tup [.ref p, .int (B.length : Int)])) := same_new (Same.refl H7) nt8
  refine g_neSame (d := rdD ps (B.length : Int)) (n := 3) (Dp.mono s8 (dp_rd ht7 hp7 hpc7)) (dp_rd upd_same (s8 _ _ (sm7 _ _ hp6)) (hpc6.mono fun u xs h => s8 _ _ (sm7 _ _ h))) (okD_rd hch _) (by decide) ?_
  have s68 := sm7.trans s8
  generalize upd H7 t8 (.tup [.ref p, .int (B.length : Int)]) = H8 at s68
  clear s8 nt8 hpc7 hp7 ht7 sm7
  walk_at "st"
  refine g_neInts (l := B ++ m1) (m := B ++ m1) (SqL.of (s68 _ _ hd6)) (SqL.of (s68 _ _ he)) ?_
  rw [show decide (B ++ m1 = B ++ m1) = true from decide_eq_true rfl]
  walk_at "st"
  walk_at "st"
  refine g_r1 (by decide) (by decide) ?_
  refine forR (fun i σ H' => ∃ (v7 v8 v9 : Option V), σ = [some (.ref s), some (.ref a), some (.ref p), some (.ref b), some (.ref D), some (.ref d), some (.ref e), v7, v8, v9, none] ∧ HandL H' a l ∧ H' b = some (.lst (B.map V.int))) ?_ ?_ ?_
  · exact ⟨none, none, none, rfl, hA6.keep s68, s68 _ _ hb6⟩
  · rintro i σ H9 hi ⟨v7, v8, v9, rfl, hA9, hb9⟩
    walk_at "st"
    walk_at "st"
    refine ⟨a, l, b, B, rfl, hA9, nba, hb9, hB01, hB0, hB, fun H10 x w sx10 hA10 nx hx hw hwl => ?_⟩
    have hb10 := sx10 _ _ nba hb9
    walk_at "st"
    walk_at "st"
    refine ⟨x, w, rfl, SqL.of hx, hw, by omega, fun e0 H11 sm11 => ?_, fun ps1 k1 e1 hk1 H11 t1 p1 ts1 sm11 ht1 hp1 hpc1 => ?_⟩
    · walk_at "st"
      walk_at "st"
      refine g_listL (SqL.of (sm11 _ _ hx)) ?_
      intro y ny
      have s12 := same_new (o := .lst (w.map V.int)) sm11 ny
      have hy : (upd H11 y (.lst (w.map V.int))) y = some (.lst (w.map V.int)) := upd_same
      generalize upd H11 y (.lst (w.map V.int)) = H12 at s12 hy ⊢
      walk_at "st"
      refine ⟨y, w, rfl, SqL.of hy, hw, by omega, fun _ H13 sm13 => ?_, fun ps2 k2 e2 => absurd (e0.symm.trans e2) (fun z => by cases z)⟩
      have s13 := s12.trans sm13
      walk_at "st"
      refine g_ite (fun _ => ?_) (fun z => absurd rfl z)
      walk_at "st"
      refine g_neSame (.str _) (.str _) okD_none (by decide) ?_
      walk_at "st"
      exact ⟨_, _, _, rfl, hA10.keep s13, s13 _ _ hb10⟩
    · walk_at "st"
      walk_at "st"
      refine g_listL (SqL.of (sm11 _ _ hx)) ?_
      intro y ny
      have s12 := same_new (o := .lst (w.map V.int)) (Same.refl H11) ny
      have hy : (upd H11 y (.lst (w.map V.int))) y = some (.lst (w.map V.int)) := upd_same
      generalize upd H11 y (.lst (w.map V.int)) = H12 at s12 hy ⊢
      walk_at "st"
      refine ⟨y, w, rfl, SqL.of hy, hw, by omega, fun z => absurd (z.symm.trans e1) (fun z => by cases z), fun ps2 k2 e2 hk2 H13 t2 p2 ts2 sm13 ht2 hp2 hpc2 => ?_⟩
      rw [e1] at e2
      obtain ⟨rfl, ek2⟩ := Prod.mk.inj (Option.some.inj e2)
      have hk : k2 = k1 := by
        have := congrArg List.length ek2
        rw [List.length_drop, List.length_drop] at this
        omega
      subst hk
      have s13 := s12.trans sm13
      walk_at "st"
      refine g_ite (fun z => by cases z) (fun _ => ?_)
      walk_at "st"
      refine g_neSame (d := rdD ps1 (k2 : Int)) (n := 3) (dp_rd ht2 hp2 hpc2) (Dp.mono s13 (dp_rd ht1 hp1 hpc1)) (okD_rd (rdAll_ch e1) _) (by decide) ?_
      walk_at "st"
      have s14 := sm11.trans s13
      exact ⟨_, _, _, rfl, hA10.keep s14, s14 _ _ hb10⟩
  · rintro σ H9 ⟨v7, v8, v9, rfl, hA9, hb9⟩
    walk_at "st"
    exact q H9

/-! R57 -/
def topS (i : Nat) : Stmt := PySem.Challenge.pw_patchsquare_k57_bits_to_three_thousand.main.body.getD i (.Pass ⟨0, 0, 0, 0⟩)
abbrev s_law_draw : Stmt := topS 26
abbrev s_law_all : Stmt := topS 27
abbrev s_law_known : Stmt := topS 28
abbrev s_law_shown : Stmt := topS 33
abbrev s_law_value : Stmt := topS 31
abbrev s_law_widths : Stmt := topS 32
abbrev s_law_piece : Stmt := topS 34
abbrev s_law_due : Stmt := topS 35
abbrev s_law_hand : Stmt := topS 25
abbrev s_law_bits : Stmt := topS 29
abbrev s_law_piece_bits : Stmt := topS 30
abbrev s_law_made : Stmt := topS 36
abbrev s_law_spoilt : Stmt := topS 37
abbrev s_BitRow_init : Stmt := inClass (topS 20) 0
abbrev s_number_of : Stmt := topS 1
abbrev s_BitRow_read_number : Stmt := inClass (topS 20) 1
abbrev s_group_bits : Stmt := topS 19
abbrev s_group_sizes : Stmt := topS 18
abbrev s_read_figures : Stmt := topS 21
abbrev s_read_listed : Stmt := topS 22
abbrev s_read_pieces : Stmt := topS 23
abbrev s_law_told : Stmt := topS 38
abbrev s_law : Stmt := topS 39

structure Facts (K : PySem.W.Frag) (mg : Str → Option Value) : Prop where
  d_law_draw : DefT K mg "_law_draw" (defArgs s_law_draw) (defBody s_law_draw) (defScope s_law_draw)
  d_law_all : DefT K mg "_law_all" (defArgs s_law_all) (defBody s_law_all) (defScope s_law_all)
  d_law_known : DefT K mg "_law_known" (defArgs s_law_known) (defBody s_law_known) (defScope s_law_known)
  d_law_shown : DefT K mg "_law_shown" (defArgs s_law_shown) (defBody s_law_shown) (defScope s_law_shown)
  d_law_value : DefT K mg "_law_value" (defArgs s_law_value) (defBody s_law_value) (defScope s_law_value)
  d_law_widths : DefT K mg "_law_widths" (defArgs s_law_widths) (defBody s_law_widths) (defScope s_law_widths)
  d_law_piece : DefT K mg "_law_piece" (defArgs s_law_piece) (defBody s_law_piece) (defScope s_law_piece)
  d_law_due : DefT K mg "_law_due" (defArgs s_law_due) (defBody s_law_due) (defScope s_law_due)
  d_law_hand : DefT K mg "_law_hand" (defArgs s_law_hand) (defBody s_law_hand) (defScope s_law_hand)
  d_law_bits : DefT K mg "_law_bits" (defArgs s_law_bits) (defBody s_law_bits) (defScope s_law_bits)
  d_law_piece_bits : DefT K mg "_law_piece_bits" (defArgs s_law_piece_bits) (defBody s_law_piece_bits) (defScope s_law_piece_bits)
  d_law_made : DefT K mg "_law_made" (defArgs s_law_made) (defBody s_law_made) (defScope s_law_made)
  d_law_spoilt : DefT K mg "_law_spoilt" (defArgs s_law_spoilt) (defBody s_law_spoilt) (defScope s_law_spoilt)
  d_BitRow_init : MthT K "BitRow" "__init__" "BitRow.__init__" (defArgs s_BitRow_init) (defBody s_BitRow_init) (defScope s_BitRow_init)
  d_number_of : DefT K mg "number_of" (defArgs s_number_of) (defBody s_number_of) (defScope s_number_of)
  d_BitRow_read_number : MthT K "BitRow" "read_number" "BitRow.read_number" (defArgs s_BitRow_read_number) (defBody s_BitRow_read_number) (defScope s_BitRow_read_number)
  d_group_bits : DefT K mg "group_bits" (defArgs s_group_bits) (defBody s_group_bits) (defScope s_group_bits)
  d_group_sizes : DefT K mg "group_sizes" (defArgs s_group_sizes) (defBody s_group_sizes) (defScope s_group_sizes)
  d_read_figures : DefT K mg "read_figures" (defArgs s_read_figures) (defBody s_read_figures) (defScope s_read_figures)
  d_read_listed : DefT K mg "read_listed" (defArgs s_read_listed) (defBody s_read_listed) (defScope s_read_listed)
  d_read_pieces : DefT K mg "read_pieces" (defArgs s_read_pieces) (defBody s_read_pieces) (defScope s_read_pieces)
  d_law_told : DefT K mg "_law_told" (defArgs s_law_told) (defBody s_law_told) (defScope s_law_told)
  d_law : DefT K mg "law" (defArgs s_law) (defBody s_law) (defScope s_law)
  b_len : mg "len" = none
  b_range : mg "range" = none
  b_list : mg "list" = none
  b_int : mg "int" = none
  b_str : mg "str" = none
  b_abs : mg "abs" = none
  b_isinstance : mg "isinstance" = none
  b_ValueError : mg "ValueError" = none
  g_SquareError : mg "SquareError" = some (.ref (ga K "SquareError"))
  x_SquareError : ExcF K mg "SquareError"
  g_NoSign : mg "NoSign" = some (.ref (ga K "NoSign"))
  g_TooLong : mg "TooLong" = some (.ref (ga K "TooLong"))
  x_TooLong : ExcF K mg "TooLong"
  g_NoText : mg "NoText" = some (.ref (ga K "NoText"))
  x_NoText : ExcF K mg "NoText"
  g_NoInverse : mg "NoInverse" = some (.ref (ga K "NoInverse"))
  x_NoInverse : ExcF K mg "NoInverse"
  g_NoMend : mg "NoMend" = some (.ref (ga K "NoMend"))
  g_NoLabel : mg "NoLabel" = some (.ref (ga K "NoLabel"))
  x_NoLabel : ExcF K mg "NoLabel"
  g_NoMarks : mg "NoMarks" = some (.ref (ga K "NoMarks"))
  x_NoMarks : ExcF K mg "NoMarks"
  g_NoSquare : mg "NoSquare" = some (.ref (ga K "NoSquare"))
  x_NoSquare : ExcF K mg "NoSquare"
  g_NoPicture : mg "NoPicture" = some (.ref (ga K "NoPicture"))
  c_CAPITALS : ∃ t, mg "CAPITALS" = some (.str cCAPITALS t)
  c_SIGNS : ∃ t, mg "SIGNS" = some (.str cSIGNS t)
  c_KIND_BITS : ∃ t, mg "KIND_BITS" = some (.int 2 t)
  c_COUNT_BITS : ∃ t, mg "COUNT_BITS" = some (.int 6 t)
  g_BitRow : mg "BitRow" = some (.ref (ga K "BitRow"))
  t_BitRow : ClsT K mg "BitRow"
  m_BitRow_read_number : Meth K (ga K "BitRow") "read_number" (ma K (ga K "BitRow") "read_number")
  kB : KtB K
  kT : KtT K
section
variable {P : Program} {w : World} {K : PySem.W.Frag} {mg : Str → Option Value} {base : Heap}
theorem ok_law_draw (Z : Facts K mg) : FnC P w K mg base CX0 1 "_law_draw" ["hand", "many"] (sp_law_draw K) :=
  have sc : FnScope N_law_draw ["hand", "many"] (defScope s_law_draw) := ⟨rfl, rfl, rfl, by decide +kernel, rfl, by decide +kernel, by decide +kernel⟩
  fnc0 Z.d_law_draw sc (fun _ _ _ _ _ _ us hl => match us, hl with | [_, _], _ => rfl) (len_law_draw K) (t_law_draw K) (fun cdv f A outer s H E hr => by
    exact pss_cons (ps_asg (pe_op op_add (pe_ix ix_list (pv 0) (pe_int) (fun _ _ => rfl)) (pe_int)) (pg_sub (pv 0) (pe_int) set_list)) (pss_cons (ps_if (pt_cmpR op_eq (pe_ix ix_list (pv 0) (pe_int) (fun _ _ => rfl)) (pe_int) (by first | exact nomark _ | rfl)) (pss_cons (ps_set (i := 2) sc.nd rfl (Or.inl rfl) (pe_int)) (pss_cons (ps_if (pt_cmpR op_gt (pe_callB call_len_seq (by rfl) Z.b_len PySem.boot_len (pa_cons (pe_ix ix_list (pv 0) (pe_int) (fun _ _ => rfl)) pa_nil)) (pe_int) (by first | exact nomark _ | rfl)) (pss_one (ps_set (i := 2) sc.nd rfl (Or.inl rfl) (pe_ix ix_list (pe_ix ix_list (pv 0) (pe_int) (fun _ _ => rfl)) (pe_op op_mod (pe_ix ix_list (pv 0) (pe_int) (fun _ _ => rfl)) (pe_callB call_len_seq (by rfl) Z.b_len PySem.boot_len (pa_cons (pe_ix ix_list (pv 0) (pe_int) (fun _ _ => rfl)) pa_nil))) (fun _ _ => rfl)))) (pss_nil)) (pss_cons (ps_asg (pe_op op_add (pe_ix ix_list (pv 0) (pe_int) (fun _ _ => rfl)) (pe_int)) (pg_sub (pv 0) (pe_int) set_list)) (pss_cons (ps_if (PW.pt (pw_or (pt_cmpR op_lt (pv 2) (pe_op op_pow (pe_int) (pe_int)) (by first | exact nomark _ | rfl)) (pw_or1 (pt_cmpR op_gt (pe_ix ix_list (pv 0) (pe_int) (fun _ _ => rfl)) (pe_callB call_len_seq (by rfl) Z.b_len PySem.boot_len (pa_cons (pe_ix ix_list (pv 0) (pe_int) (fun _ _ => rfl)) pa_nil)) (by first | exact nomark _ | rfl))))) (pss_cons (ps_set (i := 3) sc.nd rfl (Or.inl rfl) (pe_op op_mod (pe_op op_mul (pe_op op_add (pe_op op_add (pe_op op_mod (pv 2) (pe_int)) (pe_op op_mul (pe_int) (pe_ix ix_list (pv 0) (pe_int) (fun _ _ => rfl)))) (pe_int)) (pe_int)) (pe_int))) (pss_cons (ps_set (i := 4) sc.nd rfl (Or.inl rfl) (pe_op op_mod (pe_op op_add (pe_op op_mul (pv 3) (pe_op op_add (pe_op op_mod (pv 3) (pe_int)) (pe_ix ix_list (pv 0) (pe_int) (fun _ _ => rfl)))) (pe_op op_mul (pe_int) (pe_ix ix_list (pv 0) (pe_int) (fun _ _ => rfl)))) (pe_int))) (pss_one (ps_ret (pe_op op_mod (pe_op op_fdiv (pv 4) (pe_int)) (pv 1)))))) (pss_nil)) (pss_one (ps_asg (pv 2) (pg_sub (pv 0) (pe_int) set_list))))))) (pss_nil)) (pss_cons (ps_set (i := 5) sc.nd rfl (Or.inl rfl) (pe_op op_mod (pe_ix ix_list (pv 0) (pe_int) (fun _ _ => rfl)) (pv 1))) (pss_cons (ps_asg (pe_op op_fdiv (pe_ix ix_list (pv 0) (pe_int) (fun _ _ => rfl)) (pv 1)) (pg_sub (pv 0) (pe_int) set_list)) (pss_one (ps_ret (pv 5))))))) (pure_law_draw K)

theorem ok_law_all (Z : Facts K mg) : FnC P w K mg base CX0 1 "_law_all" [] (sp_law_all K) :=
  have sc : FnScope N_law_all [] (defScope s_law_all) := ⟨rfl, rfl, rfl, by decide +kernel, rfl, by decide +kernel, by decide +kernel⟩
  fnc0 Z.d_law_all sc (fun _ _ _ _ _ _ us hl => match us, hl with | [], _ => rfl) (len_law_all K) (t_law_all K) (fun cdv f A outer s H E hr => by
    exact pss_cons (ps_set (i := 0) sc.nd rfl (Or.inl rfl) (pe_str)) (pss_one (ps_ret (pe_op op_add_str (pv 0) (pe_str))))) (pure_law_all K)

theorem ok_law_known (Z : Facts K mg) (F_law_all : FnC P w K mg base CX0 1 "_law_all" [] (sp_law_all K)) : FnC P w K mg base CX0 2 "_law_known" ["kind"] (sp_law_known K) :=
  have sc : FnScope N_law_known ["kind"] (defScope s_law_known) := ⟨rfl, rfl, rfl, by decide +kernel, rfl, by decide +kernel, by decide +kernel⟩
  fnc0 Z.d_law_known sc (fun _ _ _ _ _ _ us hl => match us, hl with | [_], _ => rfl) (len_law_known K) (t_law_known K) (fun cdv f A outer s H E hr => by
    exact pss_cons (ps_if (pt_cmpR op_eq (pv 0) (pe_int) (by first | exact nomark _ | rfl)) (pss_one (ps_ret (pe_str))) (pss_nil)) (pss_cons (ps_if (pt_cmpR op_eq (pv 0) (pe_int) (by first | exact nomark _ | rfl)) (pss_one (ps_ret (pe_str))) (pss_nil)) (pss_one (ps_ret (pe_callF0 F_law_all hr pass0))))) (pure_law_known K)

theorem ok_law_shown (Z : Facts K mg) (F_law_known : FnC P w K mg base CX0 2 "_law_known" ["kind"] (sp_law_known K)) : FnC P w K mg base CX0 3 "_law_shown" ["kind", "number", "width"] (sp_law_shown K) :=
  have sc : FnScope N_law_shown ["kind", "number", "width"] (defScope s_law_shown) := ⟨rfl, rfl, rfl, by decide +kernel, rfl, by decide +kernel, by decide +kernel⟩
  fnc0 Z.d_law_shown sc (fun _ _ _ _ _ _ us hl => match us, hl with | [_, _, _], _ => rfl) (len_law_shown K) (t_law_shown K) (fun cdv f A outer s H E hr => by
    exact pss_cons (ps_if (pt_cmpR op_gt (pv 0) (pe_int) (by first | exact nomark _ | rfl)) (pss_one (ps_ret (pe_ix ix_str (pe_callF F_law_known hr pass0 (pa_cons (pv 0) pa_nil)) (pv 1) (fun _ _ => rfl)))) (pss_nil)) (pss_cons (ps_set (i := 3) sc.nd rfl (Or.inl rfl) (pe_callTy call_str_int (by rfl) Z.b_str (by decide +kernel) (pa_cons (pv 1) pa_nil))) (pss_cons (ps_while PassesOwn.never (pt_cmpR op_lt (pe_callB call_len_str (by rfl) Z.b_len PySem.boot_len (pa_cons (pv 3) pa_nil)) (pe_op op_fdiv (pv 2) (pe_int)) (by first | exact nomark _ | rfl)) (pss_one (ps_set (i := 3) sc.nd rfl (Or.inl rfl) (pe_op op_add_str (pe_str) (pv 3))))) (pss_one (ps_ret (pv 3)))))) (pure_law_shown K)

theorem ok_law_value (Z : Facts K mg) : FnC P w K mg base CX0 1 "_law_value" ["bits"] (sp_law_value K) :=
  have sc : FnScope N_law_value ["bits"] (defScope s_law_value) := ⟨rfl, rfl, rfl, by decide +kernel, rfl, by decide +kernel, by decide +kernel⟩
  fnc0 Z.d_law_value sc (fun _ _ _ _ _ _ us hl => match us, hl with | [_], _ => rfl) (len_law_value K) (t_law_value K) (fun cdv f A outer s H E hr => by
    exact pss_cons (ps_set (i := 1) sc.nd rfl (Or.inl rfl) (pe_int)) (pss_cons (ps_for PassesOwn.never rfl (pi_list (pv 0)) (pg_name (i := 2) sc.nd rfl (Or.inl rfl)) (pss_one (ps_set (i := 1) sc.nd rfl (Or.inl rfl) (pe_op op_add (pe_op op_mul (pe_int) (pv 1)) (pv 2))))) (pss_one (ps_ret (pv 1))))) (pure_law_value K)

theorem ok_law_widths (Z : Facts K mg) (F_law_known : FnC P w K mg base CX0 2 "_law_known" ["kind"] (sp_law_known K)) : FnC P w K mg base CX0 3 "_law_widths" ["kind", "count"] (sp_law_widths K) :=
  have sc : FnScope N_law_widths ["kind", "count"] (defScope s_law_widths) := ⟨rfl, rfl, rfl, by decide +kernel, rfl, by decide +kernel, by decide +kernel⟩
  fnc0 Z.d_law_widths sc (fun _ _ _ _ _ _ us hl => match us, hl with | [_, _], _ => rfl) (len_law_widths K) (t_law_widths K) (fun cdv f A outer s H E hr => by
    exact pss_cons (ps_if (pt_cmpR op_gt (pv 0) (pe_int) (by first | exact nomark _ | rfl)) (pss_one (ps_ret (pe_op op_rep (pe_lst (pa_cons (pe_tup (pa_cons (pe_op op_add (pe_op op_mul (pe_int) (pv 0)) (pe_int)) (pa_cons (pe_callB call_len_str (by rfl) Z.b_len PySem.boot_len (pa_cons (pe_callF F_law_known hr pass0 (pa_cons (pv 0) pa_nil)) pa_nil)) pa_nil))) pa_nil)) (pv 1)))) (pss_nil)) (pss_one (ps_ret (pe_op op_cat (pe_op op_rep (pe_lst (pa_cons (pe_tup (pa_cons (pe_int) (pa_cons (pe_int) pa_nil))) pa_nil)) (pe_op op_fdiv (pv 1) (pe_int))) (pe_slice sl_list (pe_lst (pa_cons (pe_tup (pa_cons (pe_int) (pa_cons (pe_int) pa_nil))) (pa_cons (pe_tup (pa_cons (pe_int) (pa_cons (pe_int) pa_nil))) (pa_cons (pe_tup (pa_cons (pe_int) (pa_cons (pe_int) pa_nil))) pa_nil)))) (po_some (pe_op op_mod (pv 1) (pe_int))) (po_some (pe_op op_add (pe_op op_mod (pv 1) (pe_int)) (pe_int)))))))) (pure_law_widths K)

theorem ok_law_piece (Z : Facts K mg) (F_law_shown : FnC P w K mg base CX0 3 "_law_shown" ["kind", "number", "width"] (sp_law_shown K)) (F_law_value : FnC P w K mg base CX0 1 "_law_value" ["bits"] (sp_law_value K)) (F_law_widths : FnC P w K mg base CX0 3 "_law_widths" ["kind", "count"] (sp_law_widths K)) : FnC P w K mg base CX0 4 "_law_piece" ["bits", "at"] (sp_law_piece K) :=
  have sc : FnScope N_law_piece ["bits", "at"] (defScope s_law_piece) := ⟨rfl, rfl, rfl, by decide +kernel, rfl, by decide +kernel, by decide +kernel⟩
  fnc0 Z.d_law_piece sc (fun _ _ _ _ _ _ us hl => match us, hl with | [_, _], _ => rfl) (len_law_piece K) (t_law_piece K) (fun cdv f A outer s H E hr => by
    exact pss_cons (ps_set (i := 2) sc.nd rfl (Or.inl rfl) (pe_callF F_law_value (hr.mono (by decide)) pass0 (pa_cons (pe_slice sl_list (pv 0) (po_some (pv 1)) (po_some (pe_op op_add (pv 1) (pe_int)))) pa_nil))) (pss_cons (ps_if (pt_cmpR op_lt (pe_callB call_len_seq (by rfl) Z.b_len PySem.boot_len (pa_cons (pv 0) pa_nil)) (pe_op op_add (pv 1) (pe_int)) (by first | exact nomark _ | rfl)) (pss_one (ps_ret (pe_non))) (pss_nil)) (pss_cons (ps_set (i := 3) sc.nd rfl (Or.inl rfl) (pe_op op_add (pe_int) (pe_callF F_law_value (hr.mono (by decide)) pass0 (pa_cons (pe_slice sl_list (pv 0) (po_some (pe_op op_add (pv 1) (pe_int))) (po_some (pe_op op_add (pv 1) (pe_int)))) pa_nil)))) (pss_cons (ps_set (i := 1) sc.nd rfl (Or.inl rfl) (pe_op op_add (pv 1) (pe_int))) (pss_cons (ps_set (i := 4) sc.nd rfl (Or.inl rfl) (pe_str)) (pss_cons (ps_for PassesOwn.never rfl (pi_list (pe_callF F_law_widths hr pass0 (pa_cons (pv 2) (pa_cons (pv 3) pa_nil)))) (pg_tup rfl (pgs_cons (pg_name (i := 5) sc.nd rfl (Or.inl rfl)) (pgs_cons (pg_name (i := 6) sc.nd rfl (Or.inl rfl)) (pgs_nil)))) (pss_cons (ps_set (i := 7) sc.nd rfl (Or.inl rfl) (pe_callF F_law_value (hr.mono (by decide)) pass0 (pa_cons (pe_slice sl_list (pv 0) (po_some (pv 1)) (po_some (pe_op op_add (pv 1) (pv 5)))) pa_nil))) (pss_cons (ps_if (PW.pt (pw_or (pt_cmpR op_lt (pe_callB call_len_seq (by rfl) Z.b_len PySem.boot_len (pa_cons (pv 0) pa_nil)) (pe_op op_add (pv 1) (pv 5)) (by first | exact nomark _ | rfl)) (pw_or1 (pt_cmpR op_ge (pv 7) (pv 6) (by first | exact nomark _ | rfl))))) (pss_one (ps_ret (pe_non))) (pss_nil)) (pss_cons (ps_if (pt_cmpR op_gt (pv 5) (pe_int) (by first | exact nomark _ | rfl)) (pss_one (ps_set (i := 4) sc.nd rfl (Or.inl rfl) (pe_op op_add_str (pv 4) (pe_callF F_law_shown hr pass0 (pa_cons (pv 2) (pa_cons (pv 7) (pa_cons (pv 5) pa_nil))))))) (pss_nil)) (pss_one (ps_set (i := 1) sc.nd rfl (Or.inl rfl) (pe_op op_add (pv 1) (pv 5)))))))) (pss_one (ps_ret (pe_tup (pa_cons (pe_tup (pa_cons (pv 2) (pa_cons (pv 4) pa_nil))) (pa_cons (pv 1) pa_nil))))))))))) (pure_law_piece K)

theorem ok_law_due (Z : Facts K mg) (F_law_piece : FnC P w K mg base CX0 4 "_law_piece" ["bits", "at"] (sp_law_piece K)) : FnC P w K mg base CX0 5 "_law_due" ["bits"] (sp_law_due K) :=
  have sc : FnScope N_law_due ["bits"] (defScope s_law_due) := ⟨rfl, rfl, rfl, by decide +kernel, rfl, by decide +kernel, by decide +kernel⟩
  fnc0 Z.d_law_due sc (fun _ _ _ _ _ _ us hl => match us, hl with | [_], _ => rfl) (len_law_due K) (t_law_due K) (fun cdv f A outer s H E hr => by
    exact pss_cons (ps_set (i := 1) sc.nd rfl (Or.inl rfl) (pe_lst (pa_nil))) (pss_cons (ps_set (i := 2) sc.nd rfl (Or.inl rfl) (pe_int)) (pss_cons (ps_while PassesOwn.never (PW.pt (pw_and (pt_cmpR op_ge (pe_callB call_len_seq (by rfl) Z.b_len PySem.boot_len (pa_cons (pv 0) pa_nil)) (pe_op op_add (pv 2) (pe_int)) (by first | exact nomark _ | rfl)) (pw_and1 (pt_cmpR (op_neD hr.units) (pe_slice sl_list (pv 0) (po_some (pv 2)) (po_some (pe_op op_add (pv 2) (pe_int)))) (pe_lst (pa_cons (pe_int) (pa_cons (pe_int) pa_nil))) (by first | exact nomark _ | rfl))))) (pss_cons (ps_set (i := 3) sc.nd rfl (Or.inl rfl) (pe_callF F_law_piece hr pass0 (pa_cons (pv 0) (pa_cons (pv 2) pa_nil)))) (pss_cons (ps_if (pt_cmpR op_isN (pv 3) (pe_non) (by first | exact nomark _ | rfl)) (pss_one (ps_ret (pe_non))) (pss_nil)) (pss_cons (ps_expr (pe_bm PySem.F.plainAttrs_list PySem.F.slot_list_append PySem.F.type_list_append mt_append (pv 1) (pa_cons (pe_ix ix_tup (pv 3) (pe_int) (fun _ _ => rfl)) pa_nil))) (pss_one (ps_set (i := 2) sc.nd rfl (Or.inl rfl) (pe_ix ix_tup (pv 3) (pe_int) (fun _ _ => rfl)))))))) (pss_cons (ps_if (pt_cmpR op_lt (pe_callB call_len_seq (by rfl) Z.b_len PySem.boot_len (pa_cons (pv 0) pa_nil)) (pe_op op_add (pv 2) (pe_int)) (by first | exact nomark _ | rfl)) (pss_one (ps_ret (pe_non))) (pss_nil)) (pss_one (ps_ret (pe_tup (pa_cons (pv 1) (pa_cons (pe_op op_add (pv 2) (pe_int)) pa_nil))))))))) (pure_law_due K)

theorem ok_law_hand (Z : Facts K mg) : FnC P w K mg base CX0 1 "_law_hand" ["script"] (sp_law_hand K) :=
  have sc : FnScope N_law_hand ["script"] (defScope s_law_hand) := ⟨rfl, rfl, rfl, by decide +kernel, rfl, by decide +kernel, by decide +kernel⟩
  fnc0 Z.d_law_hand sc (fun _ _ _ _ _ _ us hl => match us, hl with | [_], _ => rfl) (len_law_hand K) (t_law_hand K) (fun cdv f A outer s H E hr => by
    exact pss_one (ps_ret (pe_lst (pa_cons (pe_lc (own := [("cell", 1)]) rfl sc.nd (pi_list (pe_slice sl_list (pv 0) po_none (po_some (pe_int)))) (blkOk_by (own := [("cell", 1)]) (N := N_law_hand) (sc := defScope s_law_hand) (by decide +kernel)) (fun _ _ _ _ _ => pg_name (i := 1) sc.nd rfl (Or.inl rfl)) (fun _ _ _ _ _ => pts_nil) (fun _ _ _ _ _ => pe_callB call_abs (by rfl) Z.b_abs (by decide +kernel) (pa_cons (pv 1) pa_nil))) (pa_cons (pe_int) (pa_cons (pe_int) (pa_cons (pe_int) pa_nil))))))) (pure_law_hand K)

theorem ok_law_bits (Z : Facts K mg) : FnC P w K mg base CX0 1 "_law_bits" ["number", "width"] (sp_law_bits K) :=
  have sc : FnScope N_law_bits ["number", "width"] (defScope s_law_bits) := ⟨rfl, rfl, rfl, by decide +kernel, rfl, by decide +kernel, by decide +kernel⟩
  fnc0 Z.d_law_bits sc (fun _ _ _ _ _ _ us hl => match us, hl with | [_, _], _ => rfl) (len_law_bits K) (t_law_bits K) (fun cdv f A outer s H E hr => by
    exact pss_cons (ps_set (i := 2) sc.nd rfl (Or.inl rfl) (pe_lst (pa_nil))) (pss_cons (ps_for PassesOwn.never rfl (pi_range1 (by rfl) Z.b_range (pa_cons (pv 1) pa_nil)) (pg_name (i := 3) sc.nd rfl (Or.inl rfl)) (pss_cons (ps_expr (pe_bm PySem.F.plainAttrs_list PySem.F.slot_list_insert PySem.F.type_list_insert mt_insert (pv 2) (pa_cons (pe_int) (pa_cons (pe_op op_mod (pv 0) (pe_int)) pa_nil)))) (pss_one (ps_set (i := 0) sc.nd rfl (Or.inl rfl) (pe_op op_fdiv (pv 0) (pe_int)))))) (pss_one (ps_ret (pv 2))))) (pure_law_bits K)

theorem ok_law_piece_bits (Z : Facts K mg) (F_law_bits : FnC P w K mg base CX0 1 "_law_bits" ["number", "width"] (sp_law_bits K)) (F_law_known : FnC P w K mg base CX0 2 "_law_known" ["kind"] (sp_law_known K)) : FnC P w K mg base CX0 3 "_law_piece_bits" ["kind", "signs"] (sp_law_piece_bits K) :=
  have sc : FnScope N_law_piece_bits ["kind", "signs"] (defScope s_law_piece_bits) := ⟨rfl, rfl, rfl, by decide +kernel, rfl, by decide +kernel, by decide +kernel⟩
  fnc0 Z.d_law_piece_bits sc (fun _ _ _ _ _ _ us hl => match us, hl with | [_, _], _ => rfl) (len_law_piece_bits K) (t_law_piece_bits K) (fun cdv f A outer s H E hr => by
    exact pss_cons (ps_set (i := 2) sc.nd rfl (Or.inl rfl) (pe_op op_cat (pe_callF F_law_bits (hr.mono (by decide)) pass0 (pa_cons (pv 0) (pa_cons (pe_int) pa_nil))) (pe_callF F_law_bits (hr.mono (by decide)) pass0 (pa_cons (pe_op op_sub (pe_callB call_len_str (by rfl) Z.b_len PySem.boot_len (pa_cons (pv 1) pa_nil)) (pe_int)) (pa_cons (pe_int) pa_nil))))) (pss_cons (ps_if (pt_cmpR op_gt (pv 0) (pe_int) (by first | exact nomark _ | rfl)) (pss_cons (ps_for PassesOwn.never rfl (pi_str (pv 1)) (pg_name (i := 3) sc.nd rfl (Or.inl rfl)) (pss_one (ps_set (i := 2) sc.nd rfl (Or.inl rfl) (pe_op op_cat (pv 2) (pe_callF F_law_bits (hr.mono (by decide)) pass0 (pa_cons (pe_bm PySem.F.plainAttrs_str PySem.F.slot_str_find PySem.F.type_str_find mt_find (pe_callF F_law_known hr pass0 (pa_cons (pv 0) pa_nil)) (pa_cons (pv 3) pa_nil)) (pa_cons (pe_op op_add (pe_op op_mul (pe_int) (pv 0)) (pe_int)) pa_nil))))))) (pss_one (ps_ret (pv 2)))) (pss_nil)) (pss_cons (ps_for PassesOwn.never rfl (pi_range3 (by rfl) Z.b_range (pa_cons (pe_int) (pa_cons (pe_callB call_len_str (by rfl) Z.b_len PySem.boot_len (pa_cons (pv 1) pa_nil)) (pa_cons (pe_int) pa_nil)))) (pg_name (i := 4) sc.nd rfl (Or.inl rfl)) (pss_cons (ps_set (i := 5) sc.nd rfl (Or.inl rfl) (pe_slice sl_str (pv 1) (po_some (pv 4)) (po_some (pe_op op_add (pv 4) (pe_int))))) (pss_one (ps_set (i := 2) sc.nd rfl (Or.inl rfl) (pe_op op_cat (pv 2) (pe_callF F_law_bits (hr.mono (by decide)) pass0 (pa_cons (pe_callTy call_int_str (by rfl) Z.b_int (by decide +kernel) (pa_cons (pv 5) pa_nil)) (pa_cons (pe_ix ix_list (pe_lst (pa_cons (pe_int) (pa_cons (pe_int) (pa_cons (pe_int) (pa_cons (pe_int) pa_nil))))) (pe_callB call_len_str (by rfl) Z.b_len PySem.boot_len (pa_cons (pv 5) pa_nil)) (fun _ _ => rfl)) pa_nil)))))))) (pss_one (ps_ret (pv 2)))))) (pure_law_piece_bits K)

theorem ok_law_made (Z : Facts K mg) (F_law_draw : FnC P w K mg base CX0 1 "_law_draw" ["hand", "many"] (sp_law_draw K)) (F_law_known : FnC P w K mg base CX0 2 "_law_known" ["kind"] (sp_law_known K)) (F_law_piece_bits : FnC P w K mg base CX0 3 "_law_piece_bits" ["kind", "signs"] (sp_law_piece_bits K)) : FnC P w K mg base CX0 4 "_law_made" ["hand"] (sp_law_made K) :=
  have sc : FnScope N_law_made ["hand"] (defScope s_law_made) := ⟨rfl, rfl, rfl, by decide +kernel, rfl, by decide +kernel, by decide +kernel⟩
  fnc0 Z.d_law_made sc (fun _ _ _ _ _ _ us hl => match us, hl with | [_], _ => rfl) (len_law_made K) (t_law_made K) (fun cdv f A outer s H E hr => by
    exact pss_cons (ps_par (by rfl) sc.nd rfl rfl (by decide) rfl rfl (pa_cons (pe_ix ix_list (pe_lst (pa_cons (pe_int) (pa_cons (pe_int) (pa_cons (pe_op op_sub (pe_int) (pe_callF F_law_draw (hr.mono (by decide)) pass0 (pa_cons (pv 0) (pa_cons (pe_int) pa_nil)))) (pa_cons (pe_int) pa_nil))))) (pe_callF F_law_draw (hr.mono (by decide)) pass0 (pa_cons (pv 0) (pa_cons (pe_int) pa_nil))) (fun _ _ => rfl)) (pa_cons (pe_ix ix_list (pe_lst (pa_cons (pe_int) (pa_cons (pe_int) (pa_cons (pe_int) pa_nil)))) (pe_callF F_law_draw (hr.mono (by decide)) pass0 (pa_cons (pv 0) (pa_cons (pe_int) pa_nil))) (fun _ _ => rfl)) pa_nil)) (by rfl)) (pss_cons (ps_par (by rfl) sc.nd rfl rfl (by decide) rfl rfl (pa_cons (pe_lst (pa_nil)) (pa_cons (pe_lst (pa_nil)) pa_nil)) (by rfl)) (pss_cons (ps_for PassesOwn.never rfl (pi_range1 (by rfl) Z.b_range (pa_cons (pe_int) pa_nil)) (pg_name (i := 5) sc.nd rfl (Or.inl rfl)) (pss_cons (ps_set (i := 6) sc.nd rfl (Or.inl rfl) (pe_op op_add (pe_int) (pe_callF F_law_draw (hr.mono (by decide)) pass0 (pa_cons (pv 0) (pa_cons (pe_int) pa_nil))))) (pss_cons (ps_set (i := 7) sc.nd rfl (Or.inr rfl) (pe_callF F_law_known (hr.mono (by decide)) pass0 (pa_cons (pv 6) pa_nil))) (pss_cons (ps_set (i := 8) sc.nd rfl (Or.inl rfl) (pe_bm PySem.F.plainAttrs_str PySem.F.slot_str_join PySem.F.type_str_join mt_join (pe_str) (pa_cons (pe_lc (own := [("k", 10)]) rfl sc.nd (pi_range1 (by rfl) Z.b_range (pa_cons (pe_op op_add (pe_int) (pe_callF F_law_draw (hr.mono (by decide)) pass0 (pa_cons (pv 0) (pa_cons (pv 2) pa_nil)))) pa_nil)) (blkOk_by (own := [("k", 10)]) (N := N_law_made) (sc := defScope s_law_made) (by decide +kernel)) (fun _ _ _ _ _ => pg_name (i := 10) sc.nd rfl (Or.inl rfl)) (fun _ _ _ _ _ => pts_nil) (fun _ _ _ _ _ => pe_ix ix_str (pv 7) (pe_callF F_law_draw (hr.mono (by decide)) pass0 (pa_cons (pv 0) (pa_cons (pe_callB call_len_str (by rfl) Z.b_len PySem.boot_len (pa_cons (pv 7) pa_nil)) pa_nil))) (fun _ _ => rfl))) pa_nil))) (pss_cons (ps_set (i := 9) sc.nd rfl (Or.inl rfl) (pe_callF F_law_piece_bits hr pass0 (pa_cons (pv 6) (pa_cons (pv 8) pa_nil)))) (pss_one (ps_if (pt_cmpR op_le (pe_op op_add (pe_callB call_len_seq (by rfl) Z.b_len PySem.boot_len (pa_cons (pv 4) pa_nil)) (pe_callB call_len_seq (by rfl) Z.b_len PySem.boot_len (pa_cons (pv 9) pa_nil))) (pv 1) (by first | exact nomark _ | rfl)) (pss_cons (ps_expr (pe_bm PySem.F.plainAttrs_list PySem.F.slot_list_append PySem.F.type_list_append mt_append (pv 3) (pa_cons (pe_tup (pa_cons (pv 6) (pa_cons (pv 8) pa_nil))) pa_nil))) (pss_one (ps_expr (pe_bm PySem.F.plainAttrs_list PySem.F.slot_list_extend PySem.F.type_list_extend mt_extend (pv 4) (pa_cons (pv 9) pa_nil))))) (pss_nil)))))))) (pss_one (ps_ret (pe_tup (pa_cons (pv 3) (pa_cons (pe_op op_cat (pv 4) (pe_lst (pa_cons (pe_int) (pa_cons (pe_int) pa_nil)))) pa_nil)))))))) (pure_law_made K)

theorem ok_law_spoilt (Z : Facts K mg) (F_law_draw : FnC P w K mg base CX0 1 "_law_draw" ["hand", "many"] (sp_law_draw K)) : FnC P w K mg base CX0 2 "_law_spoilt" ["hand", "bits"] (sp_law_spoilt K) :=
  have sc : FnScope N_law_spoilt ["hand", "bits"] (defScope s_law_spoilt) := ⟨rfl, rfl, rfl, by decide +kernel, rfl, by decide +kernel, by decide +kernel⟩
  fnc0 Z.d_law_spoilt sc (fun _ _ _ _ _ _ us hl => match us, hl with | [_, _], _ => rfl) (len_law_spoilt K) (t_law_spoilt K) (fun cdv f A outer s H E hr => by
    exact pss_cons (ps_par (by rfl) sc.nd rfl rfl (by decide) rfl rfl (pa_cons (pe_callF F_law_draw hr pass0 (pa_cons (pv 0) (pa_cons (pe_callB call_len_seq (by rfl) Z.b_len PySem.boot_len (pa_cons (pv 1) pa_nil)) pa_nil))) (pa_cons (pe_callF F_law_draw hr pass0 (pa_cons (pv 0) (pa_cons (pe_int) pa_nil))) pa_nil)) (by rfl)) (pss_cons (ps_if (pt_cmpR op_eq (pv 3) (pe_int) (by first | exact nomark _ | rfl)) (pss_one (ps_ret (pe_slice sl_list (pv 1) po_none (po_some (pv 2))))) (pss_nil)) (pss_cons (ps_if (pt_cmpR op_eq (pv 3) (pe_int) (by first | exact nomark _ | rfl)) (pss_one (ps_ret (pe_op op_cat (pe_op op_cat (pe_slice sl_list (pv 1) po_none (po_some (pv 2))) (pe_lst (pa_cons (pe_op op_sub (pe_int) (pe_ix ix_list (pv 1) (pv 2) (fun _ _ => rfl))) pa_nil))) (pe_slice sl_list (pv 1) (po_some (pe_op op_add (pv 2) (pe_int))) po_none)))) (pss_nil)) (pss_cons (ps_if (pt_cmpR op_eq (pv 3) (pe_int) (by first | exact nomark _ | rfl)) (pss_one (ps_ret (pe_slice sl_list (pe_op op_cat (pe_op op_cat (pe_slice sl_list (pv 1) po_none (po_some (pv 2))) (pe_lc (own := [("k", 4)]) rfl sc.nd (pi_range1 (by rfl) Z.b_range (pa_cons (pe_op op_add (pe_int) (pe_callF F_law_draw hr pass0 (pa_cons (pv 0) (pa_cons (pe_int) pa_nil)))) pa_nil)) (blkOk_by (own := [("k", 4)]) (N := N_law_spoilt) (sc := defScope s_law_spoilt) (by decide +kernel)) (fun _ _ _ _ _ => pg_name (i := 4) sc.nd rfl (Or.inl rfl)) (fun _ _ _ _ _ => pts_nil) (fun _ _ _ _ _ => pe_callF F_law_draw hr pass0 (pa_cons (pv 0) (pa_cons (pe_int) pa_nil))))) (pe_slice sl_list (pv 1) (po_some (pv 2)) po_none)) po_none (po_some (pe_int))))) (pss_nil)) (pss_cons (ps_if (pt_cmpR op_eq (pv 3) (pe_int) (by first | exact nomark _ | rfl)) (pss_one (ps_ret (pe_op op_cat (pe_slice sl_list (pv 1) po_none (po_some (pv 2))) (pe_slice sl_list (pv 1) (po_some (pe_op op_add (pe_op op_add (pv 2) (pe_int)) (pe_callF F_law_draw hr pass0 (pa_cons (pv 0) (pa_cons (pe_int) pa_nil))))) po_none)))) (pss_nil)) (pss_cons (ps_if (pt_cmpR op_eq (pv 3) (pe_int) (by first | exact nomark _ | rfl)) (pss_one (ps_ret (pe_op op_cat (pe_slice sl_list (pv 1) po_none (po_some (pv 2))) (pe_op op_rep (pe_lst (pa_cons (pe_int) pa_nil)) (pe_op op_sub (pe_callB call_len_seq (by rfl) Z.b_len PySem.boot_len (pa_cons (pv 1) pa_nil)) (pv 2)))))) (pss_nil)) (pss_one (ps_ret (pe_slice sl_list (pe_op op_cat (pe_slice sl_list (pv 1) po_none (po_some (pe_un un_neg (pe_int)))) (pv 1)) po_none (po_some (pe_int))))))))))) (pure_law_spoilt K)

theorem ok_BitRow_init (Z : Facts K mg) : MtC P w K mg base CX0 1 "BitRow" "__init__" ["self", "bits"] (sp_BitRow_init K) :=
  have sc : FnScope N_BitRow_init ["self", "bits"] (defScope s_BitRow_init) := ⟨rfl, rfl, rfl, by decide +kernel, rfl, by decide +kernel, by decide +kernel⟩
  mtc0 Z.d_BitRow_init sc (fun _ _ _ _ _ _ us hl => match us, hl with | [_, _], _ => rfl) (len_BitRow_init K) (t_BitRow_init K) (fun cdv f A outer s H E hr => by
    exact pss_cons (ps_fld (pv 0) (pe_callTy call_list_of (by rfl) Z.b_list (by decide +kernel) (pa_cons (pv 1) pa_nil)) rfl) (pss_one (ps_fld (pv 0) (pe_int) rfl))) (pure_BitRow_init K Z.kB)

theorem ok_number_of (Z : Facts K mg) : FnC P w K mg base CX0 1 "number_of" ["bits"] (sp_number_of K) :=
  have sc : FnScope N_number_of ["bits"] (defScope s_number_of) := ⟨rfl, rfl, rfl, by decide +kernel, rfl, by decide +kernel, by decide +kernel⟩
  fnc0 Z.d_number_of sc (fun _ _ _ _ _ _ us hl => match us, hl with | [_], _ => rfl) (len_number_of K) (t_number_of K) (fun cdv f A outer s H E hr => by
    exact pss_cons (ps_set (i := 1) sc.nd rfl (Or.inl rfl) (pe_int)) (pss_cons (ps_for PassesOwn.never rfl (pi_list (pv 0)) (pg_name (i := 2) sc.nd rfl (Or.inl rfl)) (pss_one (ps_set (i := 1) sc.nd rfl (Or.inl rfl) (pe_op op_or (pe_op op_shl (pv 1) (pe_int)) (pv 2))))) (pss_one (ps_ret (pv 1))))) (pure_number_of K)

theorem ok_BitRow_read_number (Z : Facts K mg) (F_number_of : FnC P w K mg base CX0 1 "number_of" ["bits"] (sp_number_of K)) : MtC P w K mg base (L2.CX P w) 2 "BitRow" "read_number" ["self", "count"] (sp_BitRow_read_number K) :=
  have sc : FnScope N_BitRow_read_number ["self", "count"] (defScope s_BitRow_read_number) := ⟨rfl, rfl, rfl, by decide +kernel, rfl, by decide +kernel, by decide +kernel⟩
  mtcX Z.d_BitRow_read_number sc (fun _ _ _ _ _ _ us hl => match us, hl with | [_, _], _ => rfl) (len_BitRow_read_number K) (t_BitRow_read_number K) (fun cdv f A outer s H E hr => by
    exact pss_cons (ps_set (i := 2) sc.nd rfl (Or.inl rfl) (pe_op op_add (pe_fld (pv 0) rfl) (pv 1))) (pss_cons (ps_if (pt_cmpR op_gt (pv 2) (pe_callB call_len_seq (by rfl) Z.b_len PySem.boot_len (pa_cons (pe_fld (pv 0) rfl) pa_nil)) (by first | exact nomark _ | rfl)) (pss_one (ps_raiseN rfl (takes_of rfl rfl rfl rfl) Z.x_NoText)) (pss_nil)) (pss_cons (ps_set (i := 3) sc.nd rfl (Or.inl rfl) (pe_callF F_number_of hr pass0 (pa_cons (pe_slice sl_list (pe_fld (pv 0) rfl) (po_some (pe_fld (pv 0) rfl)) (po_some (pv 2))) pa_nil))) (pss_cons (ps_fld (pv 0) (pv 2) rfl) (pss_one (ps_ret (pv 3))))))) (pure_BitRow_read_number K Z.kB)

theorem ok_group_bits (Z : Facts K mg) : FnC P w K mg base CX0 1 "group_bits" ["size"] (sp_group_bits K) :=
  have sc : FnScope N_group_bits ["size"] (defScope s_group_bits) := ⟨rfl, rfl, rfl, by decide +kernel, rfl, by decide +kernel, by decide +kernel⟩
  fnc0 Z.d_group_bits sc (fun _ _ _ _ _ _ us hl => match us, hl with | [_], _ => rfl) (len_group_bits K) (t_group_bits K) (fun cdv f A outer s H E hr => by
    exact pss_cons (ps_if (pt_cmpR op_eq (pv 0) (pe_int) (by first | exact nomark _ | rfl)) (pss_one (ps_ret (pe_int))) (pss_nil)) (pss_one (ps_ret (pe_op op_add (pe_op op_mul (pe_int) (pv 0)) (pe_int))))) (pure_group_bits K)

theorem ok_group_sizes (Z : Facts K mg) : FnC P w K mg base CX0 1 "group_sizes" ["count"] (sp_group_sizes K) :=
  have sc : FnScope N_group_sizes ["count"] (defScope s_group_sizes) := ⟨rfl, rfl, rfl, by decide +kernel, rfl, by decide +kernel, by decide +kernel⟩
  fnc0 Z.d_group_sizes sc (fun _ _ _ _ _ _ us hl => match us, hl with | [_], _ => rfl) (len_group_sizes K) (t_group_sizes K) (fun cdv f A outer s H E hr => by
    exact pss_cons (ps_set (i := 1) sc.nd rfl (Or.inl rfl) (pe_op op_rep (pe_lst (pa_cons (pe_int) pa_nil)) (pe_op op_fdiv (pv 0) (pe_int)))) (pss_cons (ps_if (pt_cmpR op_ne (pe_op op_mod (pv 0) (pe_int)) (pe_int) (by first | exact nomark _ | rfl)) (pss_one (ps_expr (pe_bm PySem.F.plainAttrs_list PySem.F.slot_list_append PySem.F.type_list_append mt_append (pv 1) (pa_cons (pe_op op_mod (pv 0) (pe_int)) pa_nil)))) (pss_nil)) (pss_one (ps_ret (pv 1))))) (pure_group_sizes K)

theorem ok_read_figures (Z : Facts K mg) (F_BitRow_read_number : MtC P w K mg base (L2.CX P w) 2 "BitRow" "read_number" ["self", "count"] (sp_BitRow_read_number K)) (F_group_bits : FnC P w K mg base CX0 1 "group_bits" ["size"] (sp_group_bits K)) (F_group_sizes : FnC P w K mg base CX0 1 "group_sizes" ["count"] (sp_group_sizes K)) : FnC P w K mg base (L2.CX P w) 3 "read_figures" ["row", "count"] (sp_read_figures K) :=
  have sc : FnScope N_read_figures ["row", "count"] (defScope s_read_figures) := ⟨rfl, rfl, rfl, by decide +kernel, rfl, by decide +kernel, by decide +kernel⟩
  fncX Z.d_read_figures sc (fun _ _ _ _ _ _ us hl => match us, hl with | [_, _], _ => rfl) (len_read_figures K) (t_read_figures K) (fun cdv f A outer s H E hr => by
    exact pss_cons (ps_set (i := 2) sc.nd rfl (Or.inl rfl) (pe_str)) (pss_cons (ps_for (passes_of rfl) rfl (pi_list (pe_callF F_group_sizes (hr.mono (by decide)) pass0 (pa_cons (pv 1) pa_nil))) (pg_name (i := 3) sc.nd rfl (Or.inl rfl)) (pss_cons (ps_set (i := 4) sc.nd rfl (Or.inl rfl) (pe_callTy call_str_int (by rfl) Z.b_str (by decide +kernel) (pa_cons (pe_methF (pv 0) Z.t_BitRow Z.m_BitRow_read_number F_BitRow_read_number hr (passW (takes_of rfl rfl rfl rfl)) (pa_cons (pe_callF F_group_bits (hr.mono (by decide)) pass0 (pa_cons (pv 3) pa_nil)) pa_nil)) pa_nil))) (pss_cons (ps_if (pt_cmpR op_gt (pe_callB call_len_str (by rfl) Z.b_len PySem.boot_len (pa_cons (pv 4) pa_nil)) (pv 3) (by first | exact nomark _ | rfl)) (pss_one (ps_raiseN rfl (takes_of rfl rfl rfl rfl) Z.x_NoText)) (pss_nil)) (pss_one (ps_aug (i := 2) sc.nd rfl (Or.inl rfl) (pe_bm PySem.F.plainAttrs_str PySem.F.slot_str_zfill PySem.F.type_str_zfill mt_zfill (pv 4) (pa_cons (pv 3) pa_nil)) (ip_of iop_add_str)))))) (pss_one (ps_ret (pv 2))))) (pure_read_figures K)

theorem ok_read_listed (Z : Facts K mg) (F_BitRow_read_number : MtC P w K mg base (L2.CX P w) 2 "BitRow" "read_number" ["self", "count"] (sp_BitRow_read_number K)) : FnC P w K mg base (L2.CX P w) 3 "read_listed" ["row", "count", "known", "width"] (sp_read_listed K) :=
  have sc : FnScope N_read_listed ["row", "count", "known", "width"] (defScope s_read_listed) := ⟨rfl, rfl, rfl, by decide +kernel, rfl, by decide +kernel, by decide +kernel⟩
  fncX Z.d_read_listed sc (fun _ _ _ _ _ _ us hl => match us, hl with | [_, _, _, _], _ => rfl) (len_read_listed K) (t_read_listed K) (fun cdv f A outer s H E hr => by
    exact pss_cons (ps_set (i := 4) sc.nd rfl (Or.inl rfl) (pe_str)) (pss_cons (ps_for (passes_of rfl) rfl (pi_range1 (by rfl) Z.b_range (pa_cons (pv 1) pa_nil)) (pg_name (i := 5) sc.nd rfl (Or.inl rfl)) (pss_cons (ps_set (i := 6) sc.nd rfl (Or.inl rfl) (pe_methF (pv 0) Z.t_BitRow Z.m_BitRow_read_number F_BitRow_read_number hr (passW (takes_of rfl rfl rfl rfl)) (pa_cons (pv 3) pa_nil))) (pss_cons (ps_if (pt_cmpR op_ge (pv 6) (pe_callB call_len_str (by rfl) Z.b_len PySem.boot_len (pa_cons (pv 2) pa_nil)) (by first | exact nomark _ | rfl)) (pss_one (ps_raiseN rfl (takes_of rfl rfl rfl rfl) Z.x_NoText)) (pss_nil)) (pss_one (ps_aug (i := 4) sc.nd rfl (Or.inl rfl) (pe_ix ix_str (pv 2) (pv 6) (fun _ _ => rfl)) (ip_of iop_add_str)))))) (pss_one (ps_ret (pv 4))))) (pure_read_listed K)

theorem ok_read_pieces (Z : Facts K mg) (F_BitRow_init : MtC P w K mg base CX0 1 "BitRow" "__init__" ["self", "bits"] (sp_BitRow_init K)) (F_BitRow_read_number : MtC P w K mg base (L2.CX P w) 2 "BitRow" "read_number" ["self", "count"] (sp_BitRow_read_number K)) (F_read_figures : FnC P w K mg base (L2.CX P w) 3 "read_figures" ["row", "count"] (sp_read_figures K)) (F_read_listed : FnC P w K mg base (L2.CX P w) 3 "read_listed" ["row", "count", "known", "width"] (sp_read_listed K)) : FnC P w K mg base (L2.CX P w) 4 "read_pieces" ["bits"] (sp_read_pieces K) :=
  have sc : FnScope N_read_pieces ["bits"] (defScope s_read_pieces) := ⟨rfl, rfl, rfl, by decide +kernel, rfl, by decide +kernel, by decide +kernel⟩
  fncX Z.d_read_pieces sc (fun _ _ _ _ _ _ us hl => match us, hl with | [_], _ => rfl) (len_read_pieces K) (t_read_pieces K) (fun cdv f A outer s H E hr => by
    exact pss_cons (ps_set (i := 1) sc.nd rfl (Or.inl rfl) (pe_makeF Z.t_BitRow F_BitRow_init (hr.mono (by decide)) pass0 (pa_cons (pv 0) pa_nil))) (pss_cons (ps_set (i := 2) sc.nd rfl (Or.inl rfl) (pe_lst (pa_nil))) (pss_cons (ps_set (i := 3) sc.nd rfl (Or.inl rfl) (pe_methF (pv 1) Z.t_BitRow Z.m_BitRow_read_number F_BitRow_read_number (hr.mono (by decide)) (passW (takes_of rfl rfl rfl rfl)) (pa_cons (pe_globI Z.c_KIND_BITS) pa_nil))) (pss_cons (ps_while (passes_of rfl) (pt_cmpR op_ne (pv 3) (pe_int) (by first | exact nomark _ | rfl)) (pss_cons (ps_set (i := 4) sc.nd rfl (Or.inl rfl) (pe_op op_add (pe_methF (pv 1) Z.t_BitRow Z.m_BitRow_read_number F_BitRow_read_number (hr.mono (by decide)) (passW (takes_of rfl rfl rfl rfl)) (pa_cons (pe_globI Z.c_COUNT_BITS) pa_nil)) (pe_int))) (pss_cons (ps_if (pt_cmpR op_eq (pv 3) (pe_int) (by first | exact nomark _ | rfl)) (pss_one (ps_set (i := 5) sc.nd rfl (Or.inl rfl) (pe_callF F_read_figures hr (passW (takes_of rfl rfl rfl rfl)) (pa_cons (pv 1) (pa_cons (pv 4) pa_nil))))) (pss_one (ps_if (pt_cmpR op_eq (pv 3) (pe_int) (by first | exact nomark _ | rfl)) (pss_one (ps_set (i := 5) sc.nd rfl (Or.inl rfl) (pe_callF F_read_listed hr (passW (takes_of rfl rfl rfl rfl)) (pa_cons (pv 1) (pa_cons (pv 4) (pa_cons (pe_globS Z.c_CAPITALS) (pa_cons (pe_int) pa_nil))))))) (pss_one (ps_set (i := 5) sc.nd rfl (Or.inl rfl) (pe_callF F_read_listed hr (passW (takes_of rfl rfl rfl rfl)) (pa_cons (pv 1) (pa_cons (pv 4) (pa_cons (pe_globS Z.c_SIGNS) (pa_cons (pe_int) pa_nil)))))))))) (pss_cons (ps_expr (pe_bm PySem.F.plainAttrs_list PySem.F.slot_list_append PySem.F.type_list_append mt_append (pv 2) (pa_cons (pe_tup (pa_cons (pv 3) (pa_cons (pv 5) pa_nil))) pa_nil))) (pss_one (ps_set (i := 3) sc.nd rfl (Or.inl rfl) (pe_methF (pv 1) Z.t_BitRow Z.m_BitRow_read_number F_BitRow_read_number (hr.mono (by decide)) (passW (takes_of rfl rfl rfl rfl)) (pa_cons (pe_globI Z.c_KIND_BITS) pa_nil)))))))) (pss_one (ps_ret (pe_tup (pa_cons (pv 2) (pa_cons (pe_fld (pv 1) rfl) pa_nil))))))))) (pure_read_pieces K Z.kB)

theorem ok_law_told (Z : Facts K mg) (F_read_pieces : FnC P w K mg base (L2.CX P w) 4 "read_pieces" ["bits"] (sp_read_pieces K)) : FnC P w K mg base CX0 5 "_law_told" ["bits"] (sp_law_told K) :=
  have sc : FnScope N_law_told ["bits"] (defScope s_law_told) := ⟨rfl, rfl, rfl, by decide +kernel, rfl, by decide +kernel, by decide +kernel⟩
  fnc0 Z.d_law_told sc (fun _ _ _ _ _ _ us hl => match us, hl with | [_], _ => rfl) (len_law_told K) (t_law_told K) (fun cdv f A outer s H E hr => by
    exact pss_cons (ps_asg (pe_tup (pa_cons (pe_non) (pa_cons (pe_non) pa_nil))) (pg_tup rfl (pgs_cons (pg_name (i := 1) sc.nd rfl (Or.inl rfl)) (pgs_cons (pg_name (i := 2) sc.nd rfl (Or.inl rfl)) (pgs_nil))))) (pss_cons (ps_try_kp rfl rfl sc.nd rfl rfl ⟨by rfl, by decide, Or.inl Z.g_SquareError⟩ takes_no (fun W pn xe tk po => pss_one (ps_set (i := 1) sc.nd rfl (Or.inl rfl) (pe_callFS F_read_pieces hr tk (pa_cons (pv 0) pa_nil)))) (fun a pn => pss_one (ps_set (i := 2) sc.nd rfl (Or.inl rfl) (pv 3)))) (pss_cons (ps_if (pt_cmpR op_isN (pv 2) (pe_non) (by first | exact nomark _ | rfl)) (pss_one (ps_ret (pv 1))) (pss_nil)) (pss_cons (ps_set (i := 4) sc.nd rfl (Or.inl rfl) (pe_callB call_isVT (by rfl) Z.b_isinstance (by decide +kernel) (pa_cons (pv 2) (pa_cons (pe_tup (pa_cons (pe_globR Z.g_NoInverse) (pa_cons (pe_globR Z.g_NoLabel) (pa_cons (pe_globR Z.g_NoMarks) (pa_cons (pe_globR Z.g_NoMend) (pa_cons (pe_globR Z.g_NoPicture) (pa_cons (pe_globR Z.g_NoSign) (pa_cons (pe_globR Z.g_NoSquare) (pa_cons (pe_globR Z.g_TooLong) pa_nil))))))))) pa_nil)))) (pss_one (ps_ret (pe_ifExp (PW.pt (pw_and (pt_val (pe_callB call_isV (by rfl) Z.b_isinstance (by decide +kernel) (pa_cons (pv 2) (pa_cons (pe_globR Z.g_NoText) pa_nil)))) (pw_and (pt_val (pe_callB call_isV (by rfl) Z.b_isinstance (by decide +kernel) (pa_cons (pv 2) (pa_cons (pe_bltn (v := .ty "ValueError") (u := .type "ValueError") (by rfl) Z.b_ValueError (by decide +kernel) rfl) pa_nil)))) (pw_and1 (pt_not (pt_val (pv 4))))))) (pe_str) (pe_str)))))))) (pure_law_told K Z.kT)

theorem ok_law (Z : Facts K mg) (F_law_draw : ∀ base, FnC P w K mg base CX0 1 "_law_draw" ["hand", "many"] (sp_law_draw K)) (F_law_due : ∀ base, FnC P w K mg base CX0 5 "_law_due" ["bits"] (sp_law_due K)) (F_law_hand : ∀ base, FnC P w K mg base CX0 1 "_law_hand" ["script"] (sp_law_hand K)) (F_law_made : ∀ base, FnC P w K mg base CX0 4 "_law_made" ["hand"] (sp_law_made K)) (F_law_spoilt : ∀ base, FnC P w K mg base CX0 2 "_law_spoilt" ["hand", "bits"] (sp_law_spoilt K)) (F_law_told : ∀ base, FnC P w K mg base CX0 5 "_law_told" ["bits"] (sp_law_told K)) : ∃ fd, FunD K "law" "law" (defArgs s_law) (defBody s_law) (defScope s_law) [] [] (ga K "law") fd ∧ ∀ base, FnOk P w K mg base CX0 6 (ga K "law") fd ["script"] (sp_law K) :=
  have sc : FnScope N_law ["script"] (defScope s_law) := ⟨rfl, rfl, rfl, by decide +kernel, rfl, by decide +kernel, by decide +kernel⟩
  fncA Z.d_law sc (len_law K) (t_law K) (fun base cdv f A outer s H E hr => by
    have F_law_draw := F_law_draw base
    have F_law_due := F_law_due base
    have F_law_hand := F_law_hand base
    have F_law_made := F_law_made base
    have F_law_spoilt := F_law_spoilt base
    have F_law_told := F_law_told base
    exact pss_cons (ps_set (i := 1) sc.nd rfl (Or.inr rfl) (pe_callF F_law_hand (hr.mono (by decide)) pass0 (pa_cons (pv 0) pa_nil))) (pss_cons (ps_asg (pe_callF F_law_made (hr.mono (by decide)) pass0 (pa_cons (pv 1) pa_nil)) (pg_tup rfl (pgs_cons (pg_name (i := 2) sc.nd rfl (Or.inl rfl)) (pgs_cons (pg_name (i := 3) sc.nd rfl (Or.inl rfl)) (pgs_nil))))) (pss_cons (ps_setLc (i := 4) (own := [("k", 10)]) rfl sc.nd rfl rfl (sw_true rfl rfl rfl (by decide +kernel)) (pi_range1 (by rfl) Z.b_range (pa_cons (pe_callF F_law_draw (hr.mono (by decide)) pass0 (pa_cons (pv 1) (pa_cons (pe_int) pa_nil))) pa_nil)) (blkOk_by (own := [("k", 10)]) (N := N_law) (sc := defScope s_law) (by decide +kernel)) (fun _ _ _ _ _ => pg_name (i := 10) sc.nd rfl (Or.inl rfl)) (fun _ _ _ _ _ => pts_nil) (fun _ _ _ _ _ => pe_callF F_law_draw (hr.mono (by decide)) pass0 (pa_cons (pv 1) (pa_cons (pe_int) pa_nil)))) (pss_cons (ps_set (i := 5) sc.nd rfl (Or.inl rfl) (pe_slice sl_list (pe_op op_cat (pv 3) (pv 4)) po_none (po_some (pe_int)))) (pss_cons (ps_set (i := 6) sc.nd rfl (Or.inl rfl) (pe_callTy call_list_of (by rfl) Z.b_list (by decide +kernel) (pa_cons (pv 5) pa_nil))) (pss_cons (ps_if (PW.pt (pw_or (pt_cmpR (op_neD hr.units) (pe_callF F_law_told hr pass0 (pa_cons (pv 5) pa_nil)) (pe_tup (pa_cons (pv 2) (pa_cons (pe_callB call_len_seq (by rfl) Z.b_len PySem.boot_len (pa_cons (pv 3) pa_nil)) pa_nil))) (by first | exact nomark _ | rfl)) (pw_or1 (pt_cmpR (op_neD hr.units) (pv 5) (pv 6) (by first | exact nomark _ | rfl))))) (pss_one (ps_ret (pe_bl))) (pss_nil)) (pss_cons (ps_for PassesOwn.never rfl (pi_range1 (by rfl) Z.b_range (pa_cons (pe_int) pa_nil)) (pg_name (i := 7) sc.nd rfl (Or.inl rfl)) (pss_cons (ps_set (i := 8) sc.nd rfl (Or.inl rfl) (pe_callF F_law_spoilt (hr.mono (by decide)) pass0 (pa_cons (pv 1) (pa_cons (pv 3) pa_nil)))) (pss_cons (ps_set (i := 9) sc.nd rfl (Or.inl rfl) (pe_callF F_law_due hr pass0 (pa_cons (pv 8) pa_nil))) (pss_one (ps_if (pt_cmpR (op_neD hr.units) (pe_callF F_law_told hr pass0 (pa_cons (pe_callTy call_list_of (by rfl) Z.b_list (by decide +kernel) (pa_cons (pv 8) pa_nil)) pa_nil)) (pe_ifExp (pt_cmpR op_isN (pv 9) (pe_non) (by first | exact nomark _ | rfl)) (pe_str) (pv 9)) (by first | exact nomark _ | rfl)) (pss_one (ps_ret (pe_bl))) (pss_nil)))))) (pss_one (ps_ret (pe_bl)))))))))) (pure_law K)

end

/-! H57 -/
/-! ### facts on K beyond the head's own -/
def excB (K : PySem.W.Frag) (D : Addr) : Bool := He.eqO (PySem.W.findIn K (.ref D) "__getattribute__") (some (some (.builtin "BaseException.__getattribute__"))) && (He.eqO (PySem.W.findIn K (.ref D) "__getattr__") (some none) && (decide (PySem.W.subIn K (.ref D) (.type "BaseException") = some true) && (PySem.W.hasDictIn K D &&
  (He.eqO (PySem.W.findIn K (.ref D) "__class__") (some (some (.builtin "object.__class__"))) && (He.eqO (PySem.W.specialIn K (.builtin "object.__class__") "__get__") (some (some (.builtin "getset_descriptor.__get__"))) && (decide (PySem.W.takesIn K (.builtin "object.__class__") = some true) && decide (PySem.W.mroIn K D (.type "object") = some true)))))))
theorem excB_ok {K : PySem.W.Frag} {D : Addr} (h : excB K D = true) : ExcC K D := by
  obtain ⟨h1, h⟩ := He.ba h
  obtain ⟨h2, h⟩ := He.ba h
  obtain ⟨h3, h⟩ := He.ba h
  obtain ⟨h4, h⟩ := He.ba h
  obtain ⟨h5, h⟩ := He.ba h
  obtain ⟨h6, h⟩ := He.ba h
  obtain ⟨h7, h8⟩ := He.ba h
  exact ⟨He.eqO_ok h1, He.eqO_ok h2, of_decide_eq_true h3, h4, He.eqO_ok h5, He.eqO_ok h6, of_decide_eq_true h7, of_decide_eq_true h8⟩
def ktB (K : PySem.W.Frag) : Bool := decide (PySem.W.exmOne K (.ref (ga K "NoText")) (.ref (ga K "SquareError")) = some true) && (excB K (ga K "NoText") &&
  (decide (PySem.W.kitAny K (.ref (ga K "NoText")) [.ref (ga K "NoInverse"), .ref (ga K "NoLabel"), .ref (ga K "NoMarks"), .ref (ga K "NoMend"), .ref (ga K "NoPicture"), .ref (ga K "NoSign"), .ref (ga K "NoSquare"), .ref (ga K "TooLong")] = some false) &&
  (decide (PySem.W.kitOne K (.ref (ga K "NoText")) (.ref (ga K "NoText")) = some true) && decide (PySem.W.kitOne K (.ref (ga K "NoText")) (.type "ValueError") = some true))))
theorem ktB_ok {K : PySem.W.Frag} (h : ktB K = true) : KtT K := by
  obtain ⟨h1, h⟩ := He.ba h
  obtain ⟨h2, h⟩ := He.ba h
  obtain ⟨h3, h⟩ := He.ba h
  obtain ⟨h4, h5⟩ := He.ba h
  exact ⟨of_decide_eq_true h1, excB_ok h2, of_decide_eq_true h3, of_decide_eq_true h4, of_decide_eq_true h5⟩
def D_law_draw : He.DefD := ⟨("_law_draw", none), "_law_draw", "_law_draw", defArgs s_law_draw, defBody s_law_draw, defScope s_law_draw, [], []⟩
def D_law_all : He.DefD := ⟨("_law_all", none), "_law_all", "_law_all", defArgs s_law_all, defBody s_law_all, defScope s_law_all, [], []⟩
def D_law_known : He.DefD := ⟨("_law_known", none), "_law_known", "_law_known", defArgs s_law_known, defBody s_law_known, defScope s_law_known, [], []⟩
def D_law_shown : He.DefD := ⟨("_law_shown", none), "_law_shown", "_law_shown", defArgs s_law_shown, defBody s_law_shown, defScope s_law_shown, [], []⟩
def D_law_value : He.DefD := ⟨("_law_value", none), "_law_value", "_law_value", defArgs s_law_value, defBody s_law_value, defScope s_law_value, [], []⟩
def D_law_widths : He.DefD := ⟨("_law_widths", none), "_law_widths", "_law_widths", defArgs s_law_widths, defBody s_law_widths, defScope s_law_widths, [], []⟩
def D_law_piece : He.DefD := ⟨("_law_piece", none), "_law_piece", "_law_piece", defArgs s_law_piece, defBody s_law_piece, defScope s_law_piece, [], []⟩
def D_law_due : He.DefD := ⟨("_law_due", none), "_law_due", "_law_due", defArgs s_law_due, defBody s_law_due, defScope s_law_due, [], []⟩
def D_law_hand : He.DefD := ⟨("_law_hand", none), "_law_hand", "_law_hand", defArgs s_law_hand, defBody s_law_hand, defScope s_law_hand, [], []⟩
def D_law_bits : He.DefD := ⟨("_law_bits", none), "_law_bits", "_law_bits", defArgs s_law_bits, defBody s_law_bits, defScope s_law_bits, [], []⟩
def D_law_piece_bits : He.DefD := ⟨("_law_piece_bits", none), "_law_piece_bits", "_law_piece_bits", defArgs s_law_piece_bits, defBody s_law_piece_bits, defScope s_law_piece_bits, [], []⟩
def D_law_made : He.DefD := ⟨("_law_made", none), "_law_made", "_law_made", defArgs s_law_made, defBody s_law_made, defScope s_law_made, [], []⟩
def D_law_spoilt : He.DefD := ⟨("_law_spoilt", none), "_law_spoilt", "_law_spoilt", defArgs s_law_spoilt, defBody s_law_spoilt, defScope s_law_spoilt, [], []⟩
def D_BitRow_init : He.DefD := ⟨("BitRow", some "__init__"), "__init__", "BitRow.__init__", defArgs s_BitRow_init, defBody s_BitRow_init, defScope s_BitRow_init, [], []⟩
def D_number_of : He.DefD := ⟨("number_of", none), "number_of", "number_of", defArgs s_number_of, defBody s_number_of, defScope s_number_of, [], []⟩
def D_BitRow_read_number : He.DefD := ⟨("BitRow", some "read_number"), "read_number", "BitRow.read_number", defArgs s_BitRow_read_number, defBody s_BitRow_read_number, defScope s_BitRow_read_number, [], []⟩
def D_group_bits : He.DefD := ⟨("group_bits", none), "group_bits", "group_bits", defArgs s_group_bits, defBody s_group_bits, defScope s_group_bits, [], []⟩
def D_group_sizes : He.DefD := ⟨("group_sizes", none), "group_sizes", "group_sizes", defArgs s_group_sizes, defBody s_group_sizes, defScope s_group_sizes, [], []⟩
def D_read_figures : He.DefD := ⟨("read_figures", none), "read_figures", "read_figures", defArgs s_read_figures, defBody s_read_figures, defScope s_read_figures, [], []⟩
def D_read_listed : He.DefD := ⟨("read_listed", none), "read_listed", "read_listed", defArgs s_read_listed, defBody s_read_listed, defScope s_read_listed, [], []⟩
def D_read_pieces : He.DefD := ⟨("read_pieces", none), "read_pieces", "read_pieces", defArgs s_read_pieces, defBody s_read_pieces, defScope s_read_pieces, [], []⟩
def D_law_told : He.DefD := ⟨("_law_told", none), "_law_told", "_law_told", defArgs s_law_told, defBody s_law_told, defScope s_law_told, [], []⟩
def D_law : He.DefD := ⟨("law", none), "law", "law", defArgs s_law, defBody s_law, defScope s_law, [], []⟩
def fnL0 : List He.DefD := [D_law_draw, D_law_all, D_law_known, D_law_shown, D_law_value, D_law_widths, D_law_piece, D_law_due, D_law_hand, D_law_bits, D_law_piece_bits, D_law_made, D_law_spoilt, D_BitRow_init, D_number_of, D_BitRow_read_number, D_group_bits, D_group_sizes, D_read_figures, D_read_listed, D_read_pieces, D_law_told, D_law]
def fnL : List He.DefD := fnL0
def faL0 : List He.Fa := [.glo "_law_draw", .glo "_law_all", .glo "_law_known", .glo "_law_shown", .glo "_law_value", .glo "_law_widths", .glo "_law_piece", .glo "_law_due", .glo "_law_hand", .glo "_law_bits", .glo "_law_piece_bits", .glo "_law_made", .glo "_law_spoilt", .glo "number_of", .glo "group_bits", .glo "group_sizes", .glo "read_figures", .glo "read_listed", .glo "read_pieces", .glo "_law_told", .glo "law", .free "len", .free "range", .free "list", .free "int", .free "str", .free "abs", .free "isinstance", .free "ValueError", .glo "SquareError"]
def faL1 : List He.Fa := [.exc "SquareError", .glo "NoSign", .glo "TooLong", .exc "TooLong", .glo "NoText", .exc "NoText", .glo "NoInverse", .exc "NoInverse", .glo "NoMend", .glo "NoLabel", .exc "NoLabel", .glo "NoMarks", .exc "NoMarks", .glo "NoSquare", .exc "NoSquare", .glo "NoPicture", .str "CAPITALS" cCAPITALS, .str "SIGNS" cSIGNS, .int "KIND_BITS" 2, .int "COUNT_BITS" 6, .glo "BitRow", .cls "BitRow", .mkr "BitRow", .meth "BitRow" "read_number", .noat "BitRow" "bits", .noat "BitRow" "place"]
def faL : List He.Fa := faL0 ++ faL1
def looseL0 : List PySem.Str := ["number_of", "SquareError", "NoSign", "TooLong", "NoText", "NoInverse", "NoMend", "NoLabel", "NoMarks", "NoSquare", "NoPicture", "CAPITALS", "SIGNS", "KIND_BITS", "COUNT_BITS", "group_sizes", "group_bits", "BitRow", "read_figures", "read_listed", "read_pieces", "_law_hand", "_law_draw", "_law_all", "_law_known", "_law_bits", "_law_piece_bits", "_law_value", "_law_widths", "_law_shown"]
def looseL1 : List PySem.Str := ["_law_piece", "_law_due", "_law_made", "_law_spoilt", "_law_told"]
def looseL : List PySem.Str := looseL0 ++ looseL1
def exK (K : PySem.W.Frag) : Bool := ktB K
abbrev theRow : PySem.W.OpenRow := PySem.W.OpenLaw.row PySem.Challenge.rw_patchsquare_k57_bits_to_three_thousand
abbrev hkL : PySem.W.Hook := He.hookX 4 faL fnL [] [] exK
def obL (s : PySem.W.SharedT) : He.AlX := He.obsX 4 faL fnL [] [] exK (HandSHeadRun.getT s)
theorem obL_eq (s : PySem.W.SharedT) : obL s = hkL.obs s.abs := He.obsX_eq (HandSHeadRun.getT_eq s)
theorem runL (w : World) : HandSHeadRun.RunEq theRow (PySem.W.view theRow.prog [39]) hkL obL 4000 looseL w := by
  intro os
  kernel_rfl
theorem factsL {w : World} {K : PySem.W.Frag} {h : Heap} {mg : Str → Option Value} (X : K.In h) (G : h.Ns mainGlobals mg) (c : He.SaysX faL fnL [] [] exK w h K) : Facts K mg where
  d_law_draw := ⟨c.t.d.def_ 0 (d := D_law_draw) rfl, He.glo_ok X G (c.t.d.fact 0 (f := .glo "_law_draw") rfl)⟩
  d_law_all := ⟨c.t.d.def_ 1 (d := D_law_all) rfl, He.glo_ok X G (c.t.d.fact 1 (f := .glo "_law_all") rfl)⟩
  d_law_known := ⟨c.t.d.def_ 2 (d := D_law_known) rfl, He.glo_ok X G (c.t.d.fact 2 (f := .glo "_law_known") rfl)⟩
  d_law_shown := ⟨c.t.d.def_ 3 (d := D_law_shown) rfl, He.glo_ok X G (c.t.d.fact 3 (f := .glo "_law_shown") rfl)⟩
  d_law_value := ⟨c.t.d.def_ 4 (d := D_law_value) rfl, He.glo_ok X G (c.t.d.fact 4 (f := .glo "_law_value") rfl)⟩
  d_law_widths := ⟨c.t.d.def_ 5 (d := D_law_widths) rfl, He.glo_ok X G (c.t.d.fact 5 (f := .glo "_law_widths") rfl)⟩
  d_law_piece := ⟨c.t.d.def_ 6 (d := D_law_piece) rfl, He.glo_ok X G (c.t.d.fact 6 (f := .glo "_law_piece") rfl)⟩
  d_law_due := ⟨c.t.d.def_ 7 (d := D_law_due) rfl, He.glo_ok X G (c.t.d.fact 7 (f := .glo "_law_due") rfl)⟩
  d_law_hand := ⟨c.t.d.def_ 8 (d := D_law_hand) rfl, He.glo_ok X G (c.t.d.fact 8 (f := .glo "_law_hand") rfl)⟩
  d_law_bits := ⟨c.t.d.def_ 9 (d := D_law_bits) rfl, He.glo_ok X G (c.t.d.fact 9 (f := .glo "_law_bits") rfl)⟩
  d_law_piece_bits := ⟨c.t.d.def_ 10 (d := D_law_piece_bits) rfl, He.glo_ok X G (c.t.d.fact 10 (f := .glo "_law_piece_bits") rfl)⟩
  d_law_made := ⟨c.t.d.def_ 11 (d := D_law_made) rfl, He.glo_ok X G (c.t.d.fact 11 (f := .glo "_law_made") rfl)⟩
  d_law_spoilt := ⟨c.t.d.def_ 12 (d := D_law_spoilt) rfl, He.glo_ok X G (c.t.d.fact 12 (f := .glo "_law_spoilt") rfl)⟩
  d_BitRow_init := c.t.d.def_ 13 (d := D_BitRow_init) rfl
  d_number_of := ⟨c.t.d.def_ 14 (d := D_number_of) rfl, He.glo_ok X G (c.t.d.fact 13 (f := .glo "number_of") rfl)⟩
  d_BitRow_read_number := c.t.d.def_ 15 (d := D_BitRow_read_number) rfl
  d_group_bits := ⟨c.t.d.def_ 16 (d := D_group_bits) rfl, He.glo_ok X G (c.t.d.fact 14 (f := .glo "group_bits") rfl)⟩
  d_group_sizes := ⟨c.t.d.def_ 17 (d := D_group_sizes) rfl, He.glo_ok X G (c.t.d.fact 15 (f := .glo "group_sizes") rfl)⟩
  d_read_figures := ⟨c.t.d.def_ 18 (d := D_read_figures) rfl, He.glo_ok X G (c.t.d.fact 16 (f := .glo "read_figures") rfl)⟩
  d_read_listed := ⟨c.t.d.def_ 19 (d := D_read_listed) rfl, He.glo_ok X G (c.t.d.fact 17 (f := .glo "read_listed") rfl)⟩
  d_read_pieces := ⟨c.t.d.def_ 20 (d := D_read_pieces) rfl, He.glo_ok X G (c.t.d.fact 18 (f := .glo "read_pieces") rfl)⟩
  d_law_told := ⟨c.t.d.def_ 21 (d := D_law_told) rfl, He.glo_ok X G (c.t.d.fact 19 (f := .glo "_law_told") rfl)⟩
  d_law := ⟨c.t.d.def_ 22 (d := D_law) rfl, He.glo_ok X G (c.t.d.fact 20 (f := .glo "law") rfl)⟩
  b_len := He.free_ok X G (c.t.d.fact 21 (f := .free "len") rfl)
  b_range := He.free_ok X G (c.t.d.fact 22 (f := .free "range") rfl)
  b_list := He.free_ok X G (c.t.d.fact 23 (f := .free "list") rfl)
  b_int := He.free_ok X G (c.t.d.fact 24 (f := .free "int") rfl)
  b_str := He.free_ok X G (c.t.d.fact 25 (f := .free "str") rfl)
  b_abs := He.free_ok X G (c.t.d.fact 26 (f := .free "abs") rfl)
  b_isinstance := He.free_ok X G (c.t.d.fact 27 (f := .free "isinstance") rfl)
  b_ValueError := He.free_ok X G (c.t.d.fact 28 (f := .free "ValueError") rfl)
  g_SquareError := He.glo_ok X G (c.t.d.fact 29 (f := .glo "SquareError") rfl)
  x_SquareError := ⟨He.glo_ok X G (c.t.d.fact 29 (f := .glo "SquareError") rfl), c.t.d.fact 30 (f := .exc "SquareError") rfl⟩
  g_NoSign := He.glo_ok X G (c.t.d.fact 31 (f := .glo "NoSign") rfl)
  g_TooLong := He.glo_ok X G (c.t.d.fact 32 (f := .glo "TooLong") rfl)
  x_TooLong := ⟨He.glo_ok X G (c.t.d.fact 32 (f := .glo "TooLong") rfl), c.t.d.fact 33 (f := .exc "TooLong") rfl⟩
  g_NoText := He.glo_ok X G (c.t.d.fact 34 (f := .glo "NoText") rfl)
  x_NoText := ⟨He.glo_ok X G (c.t.d.fact 34 (f := .glo "NoText") rfl), c.t.d.fact 35 (f := .exc "NoText") rfl⟩
  g_NoInverse := He.glo_ok X G (c.t.d.fact 36 (f := .glo "NoInverse") rfl)
  x_NoInverse := ⟨He.glo_ok X G (c.t.d.fact 36 (f := .glo "NoInverse") rfl), c.t.d.fact 37 (f := .exc "NoInverse") rfl⟩
  g_NoMend := He.glo_ok X G (c.t.d.fact 38 (f := .glo "NoMend") rfl)
  g_NoLabel := He.glo_ok X G (c.t.d.fact 39 (f := .glo "NoLabel") rfl)
  x_NoLabel := ⟨He.glo_ok X G (c.t.d.fact 39 (f := .glo "NoLabel") rfl), c.t.d.fact 40 (f := .exc "NoLabel") rfl⟩
  g_NoMarks := He.glo_ok X G (c.t.d.fact 41 (f := .glo "NoMarks") rfl)
  x_NoMarks := ⟨He.glo_ok X G (c.t.d.fact 41 (f := .glo "NoMarks") rfl), c.t.d.fact 42 (f := .exc "NoMarks") rfl⟩
  g_NoSquare := He.glo_ok X G (c.t.d.fact 43 (f := .glo "NoSquare") rfl)
  x_NoSquare := ⟨He.glo_ok X G (c.t.d.fact 43 (f := .glo "NoSquare") rfl), c.t.d.fact 44 (f := .exc "NoSquare") rfl⟩
  g_NoPicture := He.glo_ok X G (c.t.d.fact 45 (f := .glo "NoPicture") rfl)
  c_CAPITALS := He.str_ok X G (c.t.d.fact 46 (f := .str "CAPITALS" cCAPITALS) rfl)
  c_SIGNS := He.str_ok X G (c.t.d.fact 47 (f := .str "SIGNS" cSIGNS) rfl)
  c_KIND_BITS := He.int_ok X G (c.t.d.fact 48 (f := .int "KIND_BITS" 2) rfl)
  c_COUNT_BITS := He.int_ok X G (c.t.d.fact 49 (f := .int "COUNT_BITS" 6) rfl)
  g_BitRow := He.glo_ok X G (c.t.d.fact 50 (f := .glo "BitRow") rfl)
  t_BitRow := ⟨He.cls_ok (c.t.d.fact 51 (f := .cls "BitRow") rfl), He.mkr_ok (c.t.d.fact 52 (f := .mkr "BitRow") rfl), He.glo_ok X G (c.t.d.fact 50 (f := .glo "BitRow") rfl)⟩
  m_BitRow_read_number := He.meth_ok (c.t.d.fact 53 (f := .meth "BitRow" "read_number") rfl)
  kB := ⟨He.cls_ok (c.t.d.fact 51 (f := .cls "BitRow") rfl), He.noat_ok (c.t.d.fact 54 (f := .noat "BitRow" "bits") rfl), He.noat_ok (c.t.d.fact 55 (f := .noat "BitRow" "place") rfl)⟩
  kT := ktB_ok c.more
theorem allL {P : Program} {w : World} {K : PySem.W.Frag} {mg : Str → Option Value} (Z : Facts K mg) : ∃ fd, FunD K "law" "law" (defArgs s_law) (defBody s_law) (defScope s_law) [] [] (ga K "law") fd ∧ ∀ base, FnOk P w K mg base CX0 6 (ga K "law") fd ["script"] (sp_law K) := by
  have F_law_draw := fun base : Heap => ok_law_draw (P := P) (w := w) (base := base) Z 
  have F_law_all := fun base : Heap => ok_law_all (P := P) (w := w) (base := base) Z 
  have F_law_known := fun base : Heap => ok_law_known (P := P) (w := w) (base := base) Z (F_law_all base)
  have F_law_shown := fun base : Heap => ok_law_shown (P := P) (w := w) (base := base) Z (F_law_known base)
  have F_law_value := fun base : Heap => ok_law_value (P := P) (w := w) (base := base) Z 
  have F_law_widths := fun base : Heap => ok_law_widths (P := P) (w := w) (base := base) Z (F_law_known base)
  have F_law_piece := fun base : Heap => ok_law_piece (P := P) (w := w) (base := base) Z (F_law_shown base) (F_law_value base) (F_law_widths base)
  have F_law_due := fun base : Heap => ok_law_due (P := P) (w := w) (base := base) Z (F_law_piece base)
  have F_law_hand := fun base : Heap => ok_law_hand (P := P) (w := w) (base := base) Z 
  have F_law_bits := fun base : Heap => ok_law_bits (P := P) (w := w) (base := base) Z 
  have F_law_piece_bits := fun base : Heap => ok_law_piece_bits (P := P) (w := w) (base := base) Z (F_law_bits base) (F_law_known base)
  have F_law_made := fun base : Heap => ok_law_made (P := P) (w := w) (base := base) Z (F_law_draw base) (F_law_known base) (F_law_piece_bits base)
  have F_law_spoilt := fun base : Heap => ok_law_spoilt (P := P) (w := w) (base := base) Z (F_law_draw base)
  have F_BitRow_init := fun base : Heap => ok_BitRow_init (P := P) (w := w) (base := base) Z 
  have F_number_of := fun base : Heap => ok_number_of (P := P) (w := w) (base := base) Z 
  have F_BitRow_read_number := fun base : Heap => ok_BitRow_read_number (P := P) (w := w) (base := base) Z (F_number_of base)
  have F_group_bits := fun base : Heap => ok_group_bits (P := P) (w := w) (base := base) Z 
  have F_group_sizes := fun base : Heap => ok_group_sizes (P := P) (w := w) (base := base) Z 
  have F_read_figures := fun base : Heap => ok_read_figures (P := P) (w := w) (base := base) Z (F_BitRow_read_number base) (F_group_bits base) (F_group_sizes base)
  have F_read_listed := fun base : Heap => ok_read_listed (P := P) (w := w) (base := base) Z (F_BitRow_read_number base)
  have F_read_pieces := fun base : Heap => ok_read_pieces (P := P) (w := w) (base := base) Z (F_BitRow_init base) (F_BitRow_read_number base) (F_read_figures base) (F_read_listed base)
  have F_law_told := fun base : Heap => ok_law_told (P := P) (w := w) (base := base) Z (F_read_pieces base)
  exact ok_law Z F_law_draw F_law_due F_law_hand F_law_made F_law_spoilt F_law_told
end Ps
open PySem PySem.W PySem.Calls PyProof.Rows in
theorem PySem.Challenge.cw_patchsquare_k57_bits_to_three_thousand_holds : PySem.Challenge.rw_patchsquare_k57_bits_to_three_thousand.Holds := by
  w_on; o_law
  refine HandSHeadRun.head_any (r := OpenLaw.row PySem.Challenge.rw_patchsquare_k57_bits_to_three_thousand) (q := view (OpenLaw.row PySem.Challenge.rw_patchsquare_k57_bits_to_three_thousand).prog [39]) (H := Ps.hkL) (ob := Ps.obL) (M := 4000) (loose := Ps.looseL) (d := HandSHeadRun.topDef (OpenLaw.row PySem.Challenge.rw_patchsquare_k57_bits_to_three_thousand).prog 39) (kwd := []) Ps.obL_eq
    (by kernel_rfl) (fun s => by kernel_rfl) Ps.runL (by kernel_rfl) (by kernel_rfl) (by kernel_rfl) (by rfl) (by first | assumption | decide +kernel) (by decide +kernel) ⟨rfl, rfl, rfl, rfl, rfl, by decide +kernel⟩ ?hw ?hc
  case hw => w_witness2
  case hc =>
    refine L2.walk_ofE (l := PySem.Challenge.rw_patchsquare_k57_bits_to_three_thousand) (n := 63) (k := 6) (x := "script") (CX := L2.CX0) rfl (by decide) (by kernel_rfl) ⟨rfl, by decide, by decide⟩ ?F (fun _ _ _ _ z => z)
    intro w mg fa h Y G hm
    obtain ⟨K, X, c⟩ := Y
    have Z := Ps.factsL X G c
    obtain ⟨fd, F, ok⟩ := Ps.allL (P := (PySem.Challenge.rw_patchsquare_k57_bits_to_three_thousand).prog) (w := w) Z
    have nL : (HandSHeadRun.topDef (OpenLaw.row PySem.Challenge.rw_patchsquare_k57_bits_to_three_thousand).prog 39).name = ("law" : PySem.Str) := by kernel_rfl
    rw [nL] at hm
    have ef : fa = He.ga K "law" := by
      have q := hm.symm.trans Z.d_law.2
      cases q; rfl
    subst ef
    exact ⟨K, fd, Ps.sp_law K, X, fun s v => L2.FunD.bindsA (ps := ["script"]) F (fun _ _ _ _ _ _ us hl => match us, hl with | [_], _ => rfl) s [v] rfl, fun H a ns hl _ hS => ⟨a, ns, rfl, hS, hl, fun _ => rfl⟩, fun base _ _ => ok base⟩
