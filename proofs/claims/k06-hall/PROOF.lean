import PyProof.Rows.All
import Wide.All
import OpenK.AllK
import Wide.FinOn
import HandS.ForMost
import HandS.ForExc
import HandS.Deep
import HandS.IsInst
import HandS.Wide
import HandS.Zip
import HandS.More
import HandS.SortKw
import KE.SortData
import KE.DataFind
import HandS.Rev
import HandS.RevRange
import HandS.Conv
import KE.GoesRev
import HandS.ExcValue
import HandS.ExcIs
import HandS.TryOnly
import KE.DataMinMax
import PyProof.P3Eq
import PySem.Challenge.RW_passby_k06_hall
set_option Elab.async false
set_option linter.all false
set_option maxRecDepth 100000
set_option maxHeartbeats 4000000
/-! PbBase: short names of readings, calls of defs as facts, heaps that grow. -/
namespace Pb
open PySem PySem.Spec L2

/-! ### readings by short names -/
abbrev rSub : R2 := rI0 fun i j => .int (i - j)
abbrev rMul : R2 := rI CMul fun i j => .int (i * j)
abbrev rDiv : R2 := rI CDivW fun i j => .int (i / j)
abbrev rMod : R2 := rI (fun _ j => 0 < j) fun i j => .int (i % j)
abbrev rAnd : R2 := rI0 fun i j => .int (Builtin.bitAnd i j)
abbrev rOr : R2 := rI0 fun i j => .int (Builtin.bitOr i j)
abbrev rShr : R2 := rI (fun _ j => 0 ≤ j) fun i j => .int (i / 2 ^ j.toNat)
abbrev rShl : R2 := rI CPow fun i j => .int (i * 2 ^ j.toNat)
abbrev rPow : R2 := rI CPow fun i j => .int (i ^ j.toNat)
abbrev rNeg : V → Hp → VK → Prop := rU fun i => .int (-i)
abbrev rLt : R2 := rI0 fun i j => .bl (decide (i < j))
abbrev rLe : R2 := rI0 fun i j => .bl (decide (i ≤ j))
abbrev rGt : R2 := rI0 fun i j => .bl (decide (j < i))
abbrev rGe : R2 := rI0 fun i j => .bl (decide (j ≤ i))
abbrev rIsN : R2 := fun x y H Q => y = .non ∧ Q (.bl (decide (x = .non))) H
abbrev rNotN : R2 := fun x y H Q => y = .non ∧ Q (.bl (!decide (x = .non))) H
def rLen (K : PySem.W.Frag) : List V → Hp → VK → Prop := fun xs H Q => ∃ p ys, xs = [.ref p] ∧ (SqL K H p ys ∨ SqT K H p ys) ∧ Q (.int ys.length) H
def rListOf (K : PySem.W.Frag) : List V → Hp → VK → Prop := fun xs H Q => ∃ p ys, xs = [.ref p] ∧ (SqL K H p ys ∨ SqT K H p ys) ∧ ∀ l, H l = none → Q (.ref l) (upd H l (.lst ys))
def rMax2 : List V → Hp → VK → Prop := fun xs H Q => ∃ i j, xs = [.int i, .int j] ∧ Q (.int (if j > i then j else i)) H
def rInsert : V → List V → Hp → VK → Prop := fun x vs H Q => ∃ (l : Addr) (xs : List V) (i : Int) (y : V), x = .ref l ∧ vs = [.int i, y] ∧ H l = some (.lst xs) ∧ xs.length < sizeLine ∧ 0 ≤ i ∧ i < 2 ^ 63 ∧ Q .non (upd H l (.lst (xs.take i.toNat ++ [y] ++ xs.drop i.toNat)))
/-- a + b: of ints, of lists -/
def rPlus : R2 := fun x y H Q => rI0 (fun i j => .int (i + j)) x y H Q ∨ rCat x y H Q
def rEqA (K : PySem.W.Frag) : R2 := fun x y H Q => rEq x y H Q ∨ rEqD K x y H Q
def rNeA (K : PySem.W.Frag) : R2 := fun x y H Q => rNe x y H Q ∨ rNeD K x y H Q
def rSlA (K : PySem.W.Frag) : V → Option Int → Option Int → Hp → VK → Prop := fun x lo hi H Q => rSlL K x lo hi H Q ∨ rSlT K x lo hi H Q
section
variable {X : Cx}
theorem op_plus : OpR X (binaryOp .Add) rPlus := op_add.or op_cat
theorem op_eqA (hu : X.A.units + 64 < cLine) : OpR X (compareOp .Eq) (rEqA X.K) := op_eq.or (op_eqD hu)
theorem op_neA (hu : X.A.units + 64 < cLine) : OpR X (compareOp .NotEq) (rNeA X.K) := op_ne.or (op_neD hu)
theorem sl_any : SlR X (rSlA X.K) := sl_list.or sl_tup
end
theorem hu65 {A : Around} {k : Nat} (hr : Room k A) : A.units + 65 < cLine := by
  have := hr.un
  omega

/-! ### the built-ins' names -/
theorem bt_len : bootBuiltins "len" = some (.builtin "len") := by decide +kernel
theorem bt_isinstance : bootBuiltins "isinstance" = some (.builtin "isinstance") := by decide +kernel
theorem bt_max : bootBuiltins "max" = some (.builtin "max") := by decide +kernel
theorem bt_min : bootBuiltins "min" = some (.builtin "min") := by decide +kernel
theorem bt_sorted : bootBuiltins "sorted" = some (.builtin "sorted") := by decide +kernel
theorem bt_list : bootBuiltins "list" = some (.type "list") := by decide +kernel
theorem bt_tuple : bootBuiltins "tuple" = some (.type "tuple") := by decide +kernel
theorem bt_int : bootBuiltins "int" = some (.type "int") := by decide +kernel
theorem bt_bool : bootBuiltins "bool" = some (.type "bool") := by decide +kernel
theorem bt_str : bootBuiltins "str" = some (.type "str") := by decide +kernel
theorem bt_dict : bootBuiltins "dict" = some (.type "dict") := by decide +kernel
theorem bt_sum : bootBuiltins "sum" = some (.builtin "sum") := by decide +kernel
theorem bt_ValueError : bootBuiltins "ValueError" = some (.type "ValueError") := by decide +kernel

/-! ### a def of the module, as a fact: what it is called by, its level, what it promises -/
structure Cal (P : Program) (w : World) (K : PySem.W.Frag) (mg : Str → Option Value) (base : Heap) (CX : CXT) (x : Str) (k : Nat) (ps : List Str) (ds : List Value) (sp : Sp) : Prop where
  ex : ∃ (f : Addr) (fd : FuncData), FnOk P w K mg base CX k f fd ps sp ∧ mg x = some (.ref f) ∧ PySem.W.keepIn K (.ref f) = true ∧ Binds K fd ps ds
structure Mth (P : Program) (w : World) (K : PySem.W.Frag) (mg : Str → Option Value) (base : Heap) (CX : CXT) (C : Addr) (m : Str) (k : Nat) (ps : List Str) (sp : Sp) : Prop where
  ex : ∃ (f : Addr) (fd : FuncData), FnOk P w K mg base CX k f fd ps sp ∧ Meth K C m f ∧ Binds K fd ps []
structure Mak (P : Program) (w : World) (K : PySem.W.Frag) (mg : Str → Option Value) (base : Heap) (CX : CXT) (C : Addr) (k : Nat) (ps : List Str) (sp : Sp) : Prop where
  ex : ∃ (f : Addr) (fd : FuncData), FnOk P w K mg base CX k f fd ps sp ∧ Mk K C f ∧ Binds K fd ps []
section
variable {X : Cx} {CX : CXT} {k : Nat} {C : Addr} {ps : List Str} {sp : Sp} {dvs : List V} {ds : List Value} {E : XK} {x m : Str} {p pos apos : Pos} {e o : Expr} {es : List Expr} {ta : TE} {t : TA}
theorem pe_cal (C : Cal X.prog X.w X.K X.mg X.base CX x k ps ds sp) (hr : Room k X.A) (hd : Vals dvs ds) (hg : Gl X x) (hx : Passes CX X E)
    (ha : PA X (e :: es) t) (hdb : (x == ("__debug__" : Str)) = false := by decide) (he : starEach (e :: es) X.env = (false, eval e X.env) :: starEach es X.env := by rfl) (hpl : (backTo pos (starEach es X.env)).any (·.1) = false := by rfl) :
    PE X (.Call (.Name x p) (e :: es) [] pos) (tCall sp dvs E t) := by
  obtain ⟨f, fd, F, hm, hk, hb⟩ := C.ex
  exact pe_call F hr hg hm hk hb hd hx ha hdb he hpl
theorem pe_mth {pl : Sem Bool} (ho : PE X o ta) (c : Cls X.K C) (M : Mth X.prog X.w X.K X.mg X.base CX C m k ps sp) (hr : Room k X.A) (hx : Passes CX X E) (ha : PA X (e :: es) t)
    (hst : starEach (e :: es) X.env = (false, eval e X.env) :: starEach es X.env := by rfl) (hpl : (backTo pos (starEach es X.env)).any (·.1) = false := by rfl)
    (ht : eval (.Call (.Attribute o m apos) (e :: es) [] pos) X.env = (do
      let ov ← eval o X.env
      standAt apos.atName
      let (f, first) ← holding [ov] (getMethod ov m pl)
      callWith pos f first (backTo pos (starEach (e :: es) X.env)) (backToKw pos (keywordEach [] X.env))) := by rfl) :
    PE X (.Call (.Attribute o m apos) (e :: es) [] pos) (tMeth C m sp [] E ta t) := by
  obtain ⟨f, fd, F, hm, hb⟩ := M.ex
  exact pe_meth ho c hm F hr hb .nil hx ha hst hpl ht
theorem pe_mth0 {pl : Sem Bool} (ho : PE X o ta) (c : Cls X.K C) (M : Mth X.prog X.w X.K X.mg X.base CX C m k ps sp) (hr : Room k X.A) (hx : Passes CX X E)
    (ht : eval (.Call (.Attribute o m apos) [] [] pos) X.env = (do
      let ov ← eval o X.env
      standAt apos.atName
      let (f, first) ← holding [ov] (getMethod ov m pl)
      callWith pos f first (backTo pos (starEach [] X.env)) (backToKw pos (keywordEach [] X.env))) := by rfl) :
    PE X (.Call (.Attribute o m apos) [] [] pos) (tMeth C m sp [] E ta tNil) := by
  obtain ⟨f, fd, F, hm, hb⟩ := M.ex
  exact pe_meth0 ho c hm F hr hb .nil hx ht
theorem pe_mk0 (M : Mak X.prog X.w X.K X.mg X.base CX C k ps sp) (hr : Room (k + 1) X.A) (hg : Gl X x) (hm : X.mg x = some (.ref C)) (hx : Passes CX X E) (hdb : (x == ("__debug__" : Str)) = false := by decide) :
    PE X (.Call (.Name x p) [] [] pos) (tMake C sp [] E tNil) := by
  obtain ⟨f, fd, F, M, hb⟩ := M.ex
  exact pe_make0 M F hr hg hm hb .nil hx hdb
theorem pe_const {v : V} (hg : Gl X x) (hm : ∃ u, X.mg x = some u ∧ RelV v u) (hd : (x == ("__debug__" : Str)) = false := by decide) : PE X (.Name x pos) (tC v) := by
  obtain ⟨u, h1, h2⟩ := hm
  exact pe_glob hg h1 h2 hd
end

/-! ### heaps that grow -/
theorem same_upd {H H' : Hp} {p : Addr} {o : HO} (s : Same H H') (h : H p = none) : Same H (upd H' p o) := fun b x e => by
  rw [upd_ne (ne_of_none e h)]
  exact s b x e
theorem same_new {H : Hp} {p : Addr} {o : HO} (h : H p = none) : Same H (upd H p o) := same_upd (Same.refl H) h
/-- a new object: the heap behind it by a letter -/
theorem al {H : Hp} {o : HO} {Q : VK} (h : ∀ (p : Addr) (H1 : Hp), H p = none → Same H H1 → H1 p = some o → Q (.ref p) H1) : ∀ p, H p = none → Q (.ref p) (upd H p o) :=
  fun p hp => h p _ hp (same_new hp) upd_same
/-- an object that H0 doesn't know is changed -/
theorem mu {H0 H : Hp} {p : Addr} {o : HO} {Q : Hp → Prop} (s : Same H0 H) (hp : H0 p = none) (h : ∀ H1 : Hp, Same H0 H1 → H1 p = some o → (∀ b, b ≠ p → H1 b = H b) → Q H1) : Q (upd H p o) :=
  h _ (same_upd s hp) upd_same fun _ n => upd_ne n
theorem sq_t {K : PySem.W.Frag} {H H' : Hp} {a : Addr} {xs : List V} (s : Same H H') (h : SqT K H a xs) : SqT K H' a xs := by
  rcases h with (h | ⟨o, h⟩) | h
  · exact .inl (.inl (s _ _ h))
  · exact .inl (.inr ⟨o, s _ _ h⟩)
  · exact .inr h

/-! ### bits of numbers from nought -/
theorem bnot2 (x : Int) : Builtin.bitNot (Builtin.bitNot x) = x := by
  unfold Builtin.bitNot
  omega
theorem band_nat (a b : Nat) : Builtin.bitAnd (a : Int) (b : Int) = ((a &&& b : Nat) : Int) := rfl
theorem bor_nat (a b : Nat) : Builtin.bitOr (a : Int) (b : Int) = ((a ||| b : Nat) : Int) := by
  have h1 : ¬ (0 : Int) ≤ Builtin.bitNot (a : Int) := by
    unfold Builtin.bitNot
    omega
  have h2 : ¬ (0 : Int) ≤ Builtin.bitNot (b : Int) := by
    unfold Builtin.bitNot
    omega
  unfold Builtin.bitOr Builtin.bitAnd
  rw [decide_eq_false h1, decide_eq_false h2]
  show Builtin.bitNot (Builtin.bitNot (((Builtin.bitNot (Builtin.bitNot (a : Int))).toNat ||| (Builtin.bitNot (Builtin.bitNot (b : Int))).toNat : Nat) : Int)) = _
  rw [bnot2, bnot2, bnot2, Int.toNat_natCast, Int.toNat_natCast]

/-! ### written numbers -/
/-- written powers, divisors, factors -/
theorem cp_of {i j : Int} (h : 0 ≤ j ∧ j ≤ 1000000 ∧ i.natAbs < 2 ^ 64) : CPow i j = True := eq_true h
theorem cp_2_60 : CPow 2 60 = True := cp_of (by decide)
theorem cp_2_61 : CPow 2 61 = True := cp_of (by decide)
theorem cp_10_60 : CPow 10 60 = True := cp_of (by decide)
theorem cp_10_59 : CPow 10 59 = True := cp_of (by decide)
theorem cp_10_50 : CPow 10 50 = True := cp_of (by decide)
theorem cp_10_30 : CPow 10 30 = True := cp_of (by decide)
theorem cp_10_7 : CPow 10 7 = True := cp_of (by decide)
theorem cdw {i j : Int} (h : 0 < j ∧ j.natAbs.log2 < 9000) : CDivW i j = True := eq_true h
theorem cmw {i j : Int} (h : -(2 ^ 64) < i ∧ i < 2 ^ 64) : CMul i j = True := eq_true (.inl h)
theorem cmv {i j : Int} (h : -(2 ^ 64) < j ∧ j < 2 ^ 64) : CMul i j = True := eq_true (.inr h)

theorem cd_2 {i : Int} : CDivW i 2 = True := cdw (by decide +kernel)
theorem cd_3 {i : Int} : CDivW i 3 = True := cdw (by decide +kernel)
theorem cd_4 {i : Int} : CDivW i 4 = True := cdw (by decide +kernel)
theorem cd_6 {i : Int} : CDivW i 6 = True := cdw (by decide +kernel)
theorem cd_7 {i : Int} : CDivW i 7 = True := cdw (by decide +kernel)
theorem cd_8 {i : Int} : CDivW i 8 = True := cdw (by decide +kernel)
theorem cd_9 {i : Int} : CDivW i 9 = True := cdw (by decide +kernel)
theorem cd_10 {i : Int} : CDivW i 10 = True := cdw (by decide +kernel)
theorem cd_24 {i : Int} : CDivW i 24 = True := cdw (by decide +kernel)
theorem cd_36 {i : Int} : CDivW i 36 = True := cdw (by decide +kernel)
theorem cd_48 {i : Int} : CDivW i 48 = True := cdw (by decide +kernel)
theorem cd_56 {i : Int} : CDivW i 56 = True := cdw (by decide +kernel)
theorem cd_60 {i : Int} : CDivW i 60 = True := cdw (by decide +kernel)
theorem cd_61 {i : Int} : CDivW i 61 = True := cdw (by decide +kernel)
theorem cd_180 {i : Int} : CDivW i 180 = True := cdw (by decide +kernel)
theorem cd_183 {i : Int} : CDivW i 183 = True := cdw (by decide +kernel)
theorem cd_540 {i : Int} : CDivW i 540 = True := cdw (by decide +kernel)
theorem cd_3600 {i : Int} : CDivW i 3600 = True := cdw (by decide +kernel)
theorem cd_1152921504606846976 {i : Int} : CDivW i 1152921504606846976 = True := cdw (by decide +kernel)
theorem cm_2 {i : Int} : CMul 2 i = True := cmw (by decide +kernel)
theorem cn_2 {i : Int} : CMul i 2 = True := cmv (by decide +kernel)
theorem cm_3 {i : Int} : CMul 3 i = True := cmw (by decide +kernel)
theorem cn_3 {i : Int} : CMul i 3 = True := cmv (by decide +kernel)
theorem cm_175 {i : Int} : CMul 175 i = True := cmw (by decide +kernel)
theorem cn_175 {i : Int} : CMul i 175 = True := cmv (by decide +kernel)
theorem cm_48271 {i : Int} : CMul 48271 i = True := cmw (by decide +kernel)
theorem cn_48271 {i : Int} : CMul i 48271 = True := cmv (by decide +kernel)
theorem cm_2147483647 {i : Int} : CMul 2147483647 i = True := cmw (by decide +kernel)
theorem cn_2147483647 {i : Int} : CMul i 2147483647 = True := cmv (by decide +kernel)

/-! ### single readings -/
theorem rd_plus {i j : Int} {H : Hp} {Q : VK} (h : Q (.int (i + j)) H) : rPlus (.int i) (.int j) H Q := .inl ⟨_, _, rfl, rfl, h⟩
theorem plus_int {i j : Int} {H : Hp} {Q : VK} : rPlus (.int i) (.int j) H Q = Q (.int (i + j)) H := by
  refine propext ⟨fun h => ?_, rd_plus⟩
  rcases h with ⟨_, _, e, e', h⟩ | ⟨_, _, _, _, e, _⟩
  · cases e
    cases e'
    exact h
  · cases e
theorem ri0_int {g : Int → Int → V} {i j : Int} {H : Hp} {Q : VK} : rI0 g (.int i) (.int j) H Q = Q (g i j) H := propext ⟨fun ⟨_, _, e, e', h⟩ => by cases e; cases e'; exact h, fun h => ⟨_, _, rfl, rfl, h⟩⟩
theorem ri_int {C : Int → Int → Prop} {g : Int → Int → V} {i j : Int} {H : Hp} {Q : VK} : rI C g (.int i) (.int j) H Q = (C i j ∧ Q (g i j) H) := propext ⟨fun ⟨_, _, e, e', h⟩ => by cases e; cases e'; exact h, fun h => ⟨_, _, rfl, rfl, h⟩⟩
theorem ru_int {g : Int → V} {i : Int} {H : Hp} {Q : VK} : rU g (.int i) H Q = Q (g i) H := propext ⟨fun ⟨_, e, h⟩ => by cases e; exact h, fun h => ⟨_, rfl, h⟩⟩
theorem eqv_int (i j : Int) : PyData.eqv (.int i) (.int j) = decide (i = j) := by
  rw [← Bool.beq_eq_decide_eq]
  rfl
theorem eqA_int {K : PySem.W.Frag} {i j : Int} {H : Hp} {Q : VK} : rEqA K (.int i) (.int j) H Q = Q (.bl (decide (i = j))) H := propext ⟨fun h => by
    rcases h with ⟨_, h⟩ | ⟨d, e, h1, h2, _, _, h⟩
    · rw [show decide (V.int i = V.int j) = decide (i = j) from decide_eq_decide.mpr ⟨fun e => by cases e; rfl, fun e => by rw [e]⟩] at h
      exact h
    · cases h1; cases h2
      rw [eqv_int] at h
      exact h, fun h => .inl ⟨rfl, by rw [show decide (V.int i = V.int j) = decide (i = j) from decide_eq_decide.mpr ⟨fun e => by cases e; rfl, fun e => by rw [e]⟩]; exact h⟩⟩
theorem neA_int {K : PySem.W.Frag} {i j : Int} {H : Hp} {Q : VK} : rNeA K (.int i) (.int j) H Q = Q (.bl (!decide (i = j))) H := propext ⟨fun h => by
    rcases h with ⟨_, h⟩ | ⟨d, e, h1, h2, _, _, h⟩
    · rw [show decide (V.int i = V.int j) = decide (i = j) from decide_eq_decide.mpr ⟨fun e => by cases e; rfl, fun e => by rw [e]⟩] at h
      exact h
    · cases h1; cases h2
      rw [eqv_int] at h
      exact h, fun h => .inl ⟨rfl, by rw [show decide (V.int i = V.int j) = decide (i = j) from decide_eq_decide.mpr ⟨fun e => by cases e; rfl, fun e => by rw [e]⟩]; exact h⟩⟩
theorem bl_dec (i j : Bool) : decide (V.bl i = V.bl j) = decide (i = j) := decide_eq_decide.mpr ⟨fun e => by cases e; rfl, fun e => by rw [e]⟩
theorem eqv_bl (i j : Bool) : PyData.eqv (.bool i) (.bool j) = decide (i = j) := by cases i <;> cases j <;> rfl
theorem eqA_bl {K : PySem.W.Frag} {i j : Bool} {H : Hp} {Q : VK} : rEqA K (.bl i) (.bl j) H Q = Q (.bl (decide (i = j))) H := propext ⟨fun h => by
    rcases h with ⟨_, h⟩ | ⟨d, e, h1, h2, _, _, h⟩
    · rw [bl_dec] at h
      exact h
    · cases h1; cases h2
      rw [eqv_bl] at h
      exact h, fun h => .inl ⟨rfl, by rw [bl_dec]; exact h⟩⟩
theorem neA_bl {K : PySem.W.Frag} {i j : Bool} {H : Hp} {Q : VK} : rNeA K (.bl i) (.bl j) H Q = Q (.bl (!decide (i = j))) H := propext ⟨fun h => by
    rcases h with ⟨_, h⟩ | ⟨d, e, h1, h2, _, _, h⟩
    · rw [bl_dec] at h
      exact h
    · cases h1; cases h2
      rw [eqv_bl] at h
      exact h, fun h => .inl ⟨rfl, by rw [bl_dec]; exact h⟩⟩
/-- isinstance(x, a built-in class) -/
theorem isi {K : PySem.W.Frag} {H : Hp} {x : V} {T T' : String} {b : Bool} {Q : VK} (h : TyOf K H x (.type T)) (hk : kitB T T' = some b) (q : Q (.bl b) H) : rIsi K [x, .ty T'] H Q := ⟨x, .ty T', .type T, .type T', b, rfl, .ty _, .base h, kit_ty hk, q⟩
theorem kb_bool_bool : kitB "bool" "bool" = some true := by decide +kernel
theorem kb_int_int : kitB "int" "int" = some true := by decide +kernel
theorem kb_int_bool : kitB "int" "bool" = some false := by decide +kernel
theorem kb_bool_int : kitB "bool" "int" = some true := by decide +kernel
theorem kb_tuple_tuple : kitB "tuple" "tuple" = some true := by decide +kernel
theorem kb_list_list : kitB "list" "list" = some true := by decide +kernel
theorem kb_list_tuple : kitB "list" "tuple" = some false := by decide +kernel
theorem kb_tuple_int : kitB "tuple" "int" = some false := by decide +kernel
theorem kb_list_int : kitB "list" "int" = some false := by decide +kernel
theorem kb_str_str : kitB "str" "str" = some true := by decide +kernel
theorem isi_bl {K : PySem.W.Frag} {H : Hp} {c : Bool} {Q : VK} (q : Q (.bl true) H) : rIsi K [.bl c, .ty "bool"] H Q := isi (.bl c) kb_bool_bool q
theorem isi_int {K : PySem.W.Frag} {H : Hp} {i : Int} {Q : VK} (q : Q (.bl true) H) : rIsi K [.int i, .ty "int"] H Q := isi (.int i) kb_int_int q
theorem isi_intb {K : PySem.W.Frag} {H : Hp} {i : Int} {Q : VK} (q : Q (.bl false) H) : rIsi K [.int i, .ty "bool"] H Q := isi (.int i) kb_int_bool q
theorem isi_tup {K : PySem.W.Frag} {H : Hp} {a : Addr} {xs : List V} {Q : VK} (h : H a = some (.tup xs)) (q : Q (.bl true) H) : rIsi K [.ref a, .ty "tuple"] H Q := isi (.tup h) kb_tuple_tuple q
theorem isi_tupi {K : PySem.W.Frag} {H : Hp} {a : Addr} {xs : List V} {Q : VK} (h : H a = some (.tup xs)) (q : Q (.bl false) H) : rIsi K [.ref a, .ty "int"] H Q := isi (.tup h) kb_tuple_int q
theorem isi_lst {K : PySem.W.Frag} {H : Hp} {a : Addr} {xs : List V} {Q : VK} (h : H a = some (.lst xs)) (q : Q (.bl true) H) : rIsi K [.ref a, .ty "list"] H Q := isi (.lst h) kb_list_list q
theorem isi_lstt {K : PySem.W.Frag} {H : Hp} {a : Addr} {xs : List V} {Q : VK} (h : H a = some (.lst xs)) (q : Q (.bl false) H) : rIsi K [.ref a, .ty "tuple"] H Q := isi (.lst h) kb_list_tuple q
theorem isi_lsti {K : PySem.W.Frag} {H : Hp} {a : Addr} {xs : List V} {Q : VK} (h : H a = some (.lst xs)) (q : Q (.bl false) H) : rIsi K [.ref a, .ty "int"] H Q := isi (.lst h) kb_list_int q
theorem eqA_D {K : PySem.W.Frag} {x y : V} {d e : PyData} {H : Hp} {Q : VK} (hx : Dp K H x d) (hy : Dp K H y e) (h1 : SeqAt.shaped d = true) (h2 : SeqAt.shaped e = true) (h : Q (.bl (PyData.eqv d e)) H) : rEqA K x y H Q :=
  .inr ⟨d, e, hx, hy, h1, h2, h⟩
theorem neA_D {K : PySem.W.Frag} {x y : V} {d e : PyData} {H : Hp} {Q : VK} (hx : Dp K H x d) (hy : Dp K H y e) (h1 : SeqAt.shaped d = true) (h2 : SeqAt.shaped e = true) (h : Q (.bl (!PyData.eqv d e)) H) : rNeA K x y H Q :=
  .inr ⟨d, e, hx, hy, h1, h2, h⟩
/-- an item of a tuple, of a list -/
theorem ix_t {K : PySem.W.Frag} {H : Hp} {p : Addr} {xs : List V} {i : Int} {v : V} {Q : VK} (h : SqT K H p xs) (hv : atI xs i = some v) (q : Q v H) : rIx K (.ref p) (.int i) H Q := .inr (.inl ⟨p, xs, i, v, rfl, rfl, h, hv, q⟩)
theorem ix_l {K : PySem.W.Frag} {H : Hp} {p : Addr} {xs : List V} {i : Int} {v : V} {Q : VK} (h : SqL K H p xs) (hv : atI xs i = some v) (q : Q v H) : rIx K (.ref p) (.int i) H Q := .inl ⟨p, xs, i, v, rfl, rfl, h, hv, q⟩
theorem ix_t' {K : PySem.W.Frag} {H : Hp} {p : Addr} {xs : List V} {i : Int} {v : V} {Q : VK} (h : H p = some (.tup xs)) (hv : atI xs i = some v) (q : Q v H) : rIx K (.ref p) (.int i) H Q := ix_t (.of h) hv q
theorem ix_l' {K : PySem.W.Frag} {H : Hp} {p : Addr} {xs : List V} {i : Int} {v : V} {Q : VK} (h : H p = some (.lst xs)) (hv : atI xs i = some v) (q : Q v H) : rIx K (.ref p) (.int i) H Q := ix_l (.of h) hv q

/-! ### loops: the walked thing's own part apart -/
/-- what holds between two turns, not to be opened on the way -/
def Hold (P : St → Hp → Prop) : St → Hp → Prop := P
/-- the turns of a for -/
def ForW (J : It) (g : TG) (tb : TS) (D : Ends) (σ : St) (H1 : Hp) : Prop := ∃ W : Nat → Nat → St → Hp → Prop, (∃ m, W 0 m σ H1) ∧ ∀ i m σ H, W i m σ H →
  (J.stop i H ∧ D.nx σ H) ∨ (J.go i H ∧ ∃ N : St → Hp → Prop, (∀ σ' H', N σ' H' → ∃ m', m' < m ∧ W (i + 1) m' σ' H') ∧ ∀ x H', J.yld i H x H' → g x σ H' fun σ2 H2 => tb { D with nx := N, ct := N, bk := D.nx } σ2 H2)
def ForL (K : PySem.W.Frag) (g : TG) (tb : TS) (D : Ends) (σ : St) (x : V) (H1 : Hp) : Prop := ∃ a, x = .ref a ∧ (∃ xs, SqL K H1 a xs) ∧ ForW (Itl K a) g tb D σ H1
def ForR1 (g : TG) (tb : TS) (D : Ends) (σ : St) (vs : List V) (H1 : Hp) : Prop := ∃ j : Int, vs = [.int j] ∧ -(2 ^ 62) ≤ j ∧ j < 2 ^ 62 ∧ ForW (Itr 0 j.toNat) g tb D σ H1
def ForR2 (g : TG) (tb : TS) (D : Ends) (σ : St) (vs : List V) (H1 : Hp) : Prop := ∃ i j : Int, vs = [.int i, .int j] ∧ (-(2 ^ 62) ≤ i ∧ i < 2 ^ 62 ∧ -(2 ^ 62) ≤ j ∧ j < 2 ^ 62) ∧ ForW (Itr i (j - i).toNat) g tb D σ H1
def ForR3 (g : TG) (tb : TS) (D : Ends) (σ : St) (vs : List V) (H1 : Hp) : Prop := ∃ (i j c : Int) (n : Nat), vs = [.int i, .int j, .int c] ∧ RgC i j c n ∧ ForW (Itc i c n) g tb D σ H1
def ForZ (K : PySem.W.Frag) (g : TG) (tb : TS) (D : Ends) (σ : St) (vs : List V) (H1 : Hp) : Prop := ∃ a b xs ys, vs = [.ref a, .ref b] ∧
  ((SqL K H1 a xs ∧ SqL K H1 b ys ∧ ForW (Itz K a b) g tb D σ H1) ∨ (SqT K H1 a xs ∧ SqT K H1 b ys ∧ ForW (RZ.ItzT K a b) g tb D σ H1))
section
variable {K : PySem.W.Frag} {g : TG} {tb : TS} {D : Ends} {σ : St} {H H1 : Hp} {tl : TE} {ta : TA}
theorem for_eqL : tFor (iList K tl) g tb D σ H = tl σ H (ForL K g tb D σ) := rfl
theorem for_eqR1 : tFor (iRng1 ta) g tb D σ H = ta σ H (ForR1 g tb D σ) := rfl
theorem for_eqR2 : tFor (iRng2 ta) g tb D σ H = ta σ H (ForR2 g tb D σ) := rfl
theorem for_eqR3 : tFor (iRng3 ta) g tb D σ H = ta σ H (ForR3 g tb D σ) := rfl
theorem for_eqZ : tFor (RZ.iZipA K ta) g tb D σ H = ta σ H (ForZ K g tb D σ) := rfl
theorem forL {a : Addr} {xs : List V} (hS : SqL K H1 a xs) (Pv : Nat → St → Hp → Prop) (h0 : Pv 0 σ H1) (hl : ∀ i σ H, i ≤ xs.length → Pv i σ H → SqL K H a xs)
    (hs : ∀ i x σ H, xs[i]? = some x → Pv i σ H → g x σ H fun σ2 H2 => tb { D with nx := Hold (Pv (i + 1)), ct := Hold (Pv (i + 1)), bk := D.nx } σ2 H2) (hd : ∀ σ H, Pv xs.length σ H → D.nx σ H) : ForL K g tb D σ (.ref a) H1 :=
  ⟨a, rfl, ⟨xs, hS⟩, for_list Pv h0 hl hs hd⟩
theorem forR1 {n : Nat} (Pv : Nat → St → Hp → Prop) (hn : n < 2 ^ 62) (h0 : Pv 0 σ H1)
    (hs : ∀ (i : Nat) σ H, i < n → Pv i σ H → g (.int (i : Int)) σ H fun σ2 H2 => tb { D with nx := Hold (Pv (i + 1)), ct := Hold (Pv (i + 1)), bk := D.nx } σ2 H2) (hd : ∀ σ H, Pv n σ H → D.nx σ H) : ForR1 g tb D σ [.int (n : Int)] H1 := by
  refine ⟨_, rfl, by omega, by omega, ?_⟩
  rw [Int.toNat_natCast]
  exact for_range (lo := 0) (n := n) Pv h0 (fun i σ H hi h => by rw [Int.zero_add]; exact hs i σ H hi h) hd
/-- range(lo, lo + n) -/
theorem forR2 {lo n : Nat} {hi : Int} (e : hi = ((lo + n : Nat) : Int)) (Pv : Nat → St → Hp → Prop) (hn : lo + n < 2 ^ 62) (h0 : Pv 0 σ H1)
    (hs : ∀ (i : Nat) σ H, i < n → Pv i σ H → g (.int ((lo + i : Nat) : Int)) σ H fun σ2 H2 => tb { D with nx := Hold (Pv (i + 1)), ct := Hold (Pv (i + 1)), bk := D.nx } σ2 H2) (hd : ∀ σ H, Pv n σ H → D.nx σ H) : ForR2 g tb D σ [.int (lo : Int), .int hi] H1 := by
  refine ⟨_, _, rfl, by omega, ?_⟩
  rw [show (hi - (lo : Int)).toNat = n by omega]
  exact for_range (lo := (lo : Int)) (n := n) Pv h0 (fun i σ H hi h => by rw [show (lo : Int) + (i : Int) = ((lo + i : Nat) : Int) by omega]; exact hs i σ H hi h) hd
theorem rg4 : ∀ m : Nat, m < 100 → RgC 0 (m : Int) ((4 : Nat) : Int) ((m + 3) / 4) := by
  unfold RgC
  decide +kernel
theorem rg8 : ∀ m : Nat, m < 100 → RgC 0 (m : Int) ((8 : Nat) : Int) ((m + 7) / 8) := by
  unfold RgC
  decide +kernel
theorem forR3 {n c : Nat} {j : Int} (hr : RgC 0 j (c : Int) n) (Pv : Nat → St → Hp → Prop) (h0 : Pv 0 σ H1)
    (hs : ∀ (i : Nat) σ H, i < n → Pv i σ H → g (.int ((i * c : Nat) : Int)) σ H fun σ2 H2 => tb { D with nx := Hold (Pv (i + 1)), ct := Hold (Pv (i + 1)), bk := D.nx } σ2 H2) (hd : ∀ σ H, Pv n σ H → D.nx σ H) : ForR3 g tb D σ [.int 0, .int j, .int (c : Int)] H1 := by
  refine ⟨_, _, _, n, rfl, hr, ?_⟩
  exact for_rangeC (lo := 0) (c := (c : Int)) (n := n) Pv h0 (fun i σ H hi h => by rw [show (0 : Int) + (i : Int) * (c : Int) = ((i * c : Nat) : Int) by rw [Int.zero_add, Int.natCast_mul]]; exact hs i σ H hi h) hd
/-- zip of two lists (any lengths) -/
theorem forZ {a b : Addr} {xs ys : List V} {n : Nat} (en : n = min xs.length ys.length) (hA : SqL K H1 a xs) (hB : SqL K H1 b ys) (Pv : Nat → St → Hp → Prop) (h0 : Pv 0 σ H1) (hq : ∀ i σ H, Pv i σ H → SqL K H a xs ∧ SqL K H b ys)
    (hs : ∀ (i : Nat) (x y : V) (T : Addr) (σ : St) (H H' : Hp), xs[i]? = some x → ys[i]? = some y → Pv i σ H → H T = none → Same H H' → H' T = some (.tup [x, y]) → g (.ref T) σ H' fun σ2 H2 => tb { D with nx := Hold (Pv (i + 1)), ct := Hold (Pv (i + 1)), bk := D.nx } σ2 H2) (hd : ∀ σ H, Pv n σ H → D.nx σ H) :
    ForZ K g tb D σ [.ref a, .ref b] H1 := by
  refine ⟨a, b, xs, ys, rfl, .inl ⟨hA, hB, fun i m σ H => m = n - i ∧ i ≤ n ∧ Pv i σ H, ⟨n, rfl, Nat.zero_le _, h0⟩, ?_⟩⟩
  rintro i m σ H ⟨rfl, hi, p⟩
  obtain ⟨qx, qy⟩ := hq i σ H p
  by_cases hlt : i < n
  · have h1 : i < xs.length := by omega
    have h2 : i < ys.length := by omega
    refine .inr ⟨⟨xs, ys, _, _, qx, qy, List.getElem?_eq_getElem h1, List.getElem?_eq_getElem h2⟩, Pv (i + 1), fun σ' H' p' => ⟨n - (i + 1), by omega, rfl, hlt, p'⟩, fun v H' y => ?_⟩
    obtain ⟨T, x', y', rfl, hT, rfl, f1, f2⟩ := y
    exact hs i x' y' T σ H _ (f1 xs qx) (f2 ys qy) p hT (same_new hT) upd_same
  · have e : i = n := by omega
    subst e
    exact .inl ⟨⟨xs, ys, qx, qy, by omega⟩, hd σ H p⟩
theorem forZT {a b : Addr} {xs ys : List V} {n : Nat} (en : n = min xs.length ys.length) (hA : SqT K H1 a xs) (hB : SqT K H1 b ys) (Pv : Nat → St → Hp → Prop) (h0 : Pv 0 σ H1) (hq : ∀ i σ H, Pv i σ H → SqT K H a xs ∧ SqT K H b ys)
    (hs : ∀ (i : Nat) (x y : V) (T : Addr) (σ : St) (H H' : Hp), xs[i]? = some x → ys[i]? = some y → Pv i σ H → H T = none → Same H H' → H' T = some (.tup [x, y]) → g (.ref T) σ H' fun σ2 H2 => tb { D with nx := Hold (Pv (i + 1)), ct := Hold (Pv (i + 1)), bk := D.nx } σ2 H2) (hd : ∀ σ H, Pv n σ H → D.nx σ H) :
    ForZ K g tb D σ [.ref a, .ref b] H1 := by
  refine ⟨a, b, xs, ys, rfl, .inr ⟨hA, hB, fun i m σ H => m = n - i ∧ i ≤ n ∧ Pv i σ H, ⟨n, rfl, Nat.zero_le _, h0⟩, ?_⟩⟩
  rintro i m σ H ⟨rfl, hi, p⟩
  obtain ⟨qx, qy⟩ := hq i σ H p
  by_cases hlt : i < n
  · have h1 : i < xs.length := by omega
    have h2 : i < ys.length := by omega
    refine .inr ⟨⟨xs, ys, _, _, qx, qy, List.getElem?_eq_getElem h1, List.getElem?_eq_getElem h2⟩, Pv (i + 1), fun σ' H' p' => ⟨n - (i + 1), by omega, rfl, hlt, p'⟩, fun v H' y => ?_⟩
    obtain ⟨T, x', y', rfl, hT, rfl, f1, f2⟩ := y
    exact hs i x' y' T σ H _ (f1 xs qx) (f2 ys qy) p hT (same_new hT) upd_same
  · have e : i = n := by omega
    subst e
    exact .inl ⟨⟨xs, ys, qx, qy, by omega⟩, hd σ H p⟩
end

/-! ### comprehensions -/
def LcW (J : It) (g : TG) (tt : TT) (te : TE) (vs : List Nat) (σ : St) (Q : VK) (H1 : Hp) : Prop := ∀ D, H1 D = none → ∃ W : Nat → Nat → Hp → Prop, (∃ m, W 0 m (upd H1 D (.lst []))) ∧ ∀ i m H, W i m H →
  (J.stop i H ∧ Q (.ref D) H) ∨ (J.go i H ∧ ∃ Nx : Hp → Prop, (∀ H', Nx H' → ∃ m', m' < m ∧ W (i + 1) m' H') ∧ ∀ x H', J.yld i H x H' → g x (wipe σ vs) H' fun σ2 H2 => wipe σ2 vs = wipe σ vs ∧ tt σ2 H2 fun b H3 =>
    if b = true then te σ2 H3 fun y H4 => ∃ acc, H4 D = some (.lst acc) ∧ acc.length < sizeLine ∧ Nx (upd H4 D (.lst (acc ++ [y]))) else Nx H3)
def LcL (K : PySem.W.Frag) (g : TG) (tt : TT) (te : TE) (vs : List Nat) (σ : St) (Q : VK) (x : V) (H1 : Hp) : Prop := ∃ a, x = .ref a ∧ (∃ xs, SqL K H1 a xs) ∧ LcW (Itl K a) g tt te vs σ Q H1
def LcR1 (g : TG) (tt : TT) (te : TE) (vs : List Nat) (σ : St) (Q : VK) (ws : List V) (H1 : Hp) : Prop := ∃ j : Int, ws = [.int j] ∧ -(2 ^ 62) ≤ j ∧ j < 2 ^ 62 ∧ LcW (Itr 0 j.toNat) g tt te vs σ Q H1
def LcZ (K : PySem.W.Frag) (g : TG) (tt : TT) (te : TE) (vs : List Nat) (σ : St) (Q : VK) (ws : List V) (H1 : Hp) : Prop := ∃ a b xs ys, ws = [.ref a, .ref b] ∧
  ((SqL K H1 a xs ∧ SqL K H1 b ys ∧ LcW (Itz K a b) g tt te vs σ Q H1) ∨ (SqT K H1 a xs ∧ SqT K H1 b ys ∧ LcW (RZ.ItzT K a b) g tt te vs σ Q H1))
section
variable {K : PySem.W.Frag} {g : TG} {tt : TT} {te : TE} {vs : List Nat} {σ : St} {H H1 : Hp} {tl : TE} {ta : TA} {Q : VK} {J : It}
theorem lc_eqL : tLc (iList K tl) g tt te vs σ H Q = tl σ H (LcL K g tt te vs σ Q) := rfl
theorem lc_eqR1 : tLc (iRng1 ta) g tt te vs σ H Q = ta σ H (LcR1 g tt te vs σ Q) := rfl
theorem lc_eqZ : tLc (RZ.iZipA K ta) g tt te vs σ H Q = ta σ H (LcZ K g tt te vs σ Q) := rfl
theorem fm_succ {α : Type} (F : Nat → Option α) (i : Nat) : (List.range (i + 1)).filterMap F = (List.range i).filterMap F ++ (F i).toList := by
  rw [List.range_succ, List.filterMap_append]
  cases h : F i with
  | none => simp [h]
  | some y => simp [h]
theorem fm_len {α : Type} (F : Nat → Option α) (i : Nat) : ((List.range i).filterMap F).length ≤ i :=
  Nat.le_trans (List.length_filterMap_le _ _) (by rw [List.length_range]; exact Nat.le_refl _)
/-- n items; item i gives F i, told by itself (numbers, things that stood), or is left out; what is made on the way stays -/
theorem lc_pure {n : Nat} (F : Nat → Option V) (hn : n < sizeLine) (hstop : ∀ H, Same H1 H → J.stop n H) (hgo : ∀ i H, i < n → Same H1 H → J.go i H)
    (turn : ∀ (i : Nat) (x : V) (H H' : Hp), i < n → Same H1 H → J.yld i H x H' → ∀ R : V → Hp → Prop, (∀ y H4, F i = some y → Same H H4 → R y H4) → ∀ R2 : Hp → Prop, (∀ H3, F i = none → Same H H3 → R2 H3) →
      g x (wipe σ vs) H' fun σ2 H2 => wipe σ2 vs = wipe σ vs ∧ tt σ2 H2 fun b H3 => if b = true then te σ2 H3 R else R2 H3)
    (q : ∀ p H', H1 p = none → Same H1 H' → H' p = some (.lst ((List.range n).filterMap F)) → Q (.ref p) H') : LcW J g tt te vs σ Q H1 := by
  intro D hD
  refine ⟨fun i m H => m = n - i ∧ i ≤ n ∧ Same H1 H ∧ H D = some (.lst ((List.range i).filterMap F)), ⟨n, rfl, Nat.zero_le _, same_new hD, upd_same⟩, ?_⟩
  rintro i m H ⟨rfl, hi, s, hd⟩
  by_cases hlt : i < n
  · refine .inr ⟨hgo i H hlt s, fun H' => Same H1 H' ∧ H' D = some (.lst ((List.range (i + 1)).filterMap F)), fun H' h' => ⟨n - (i + 1), by omega, rfl, hlt, h'.1, h'.2⟩, fun x H' hy => ?_⟩
    refine turn i x H H' hlt s hy _ (fun y H4 e s4 => ?_) _ (fun H3 e s3 => ?_)
    · refine ⟨_, s4 _ _ hd, Nat.lt_of_le_of_lt (fm_len F i) (by omega), same_upd (s.trans s4) hD, ?_⟩
      rw [upd_same, fm_succ, e]
      rfl
    · refine ⟨s.trans s3, ?_⟩
      rw [fm_succ, e, s3 _ _ hd]
      simp
  · have e : i = n := by omega
    subst e
    exact .inl ⟨hstop H s, q D H hD s hd⟩
/-- n items, each gives a new object: its content by Ob -/
theorem lc_new {n : Nat} (Ob : Nat → HO → Prop) (hn : n < sizeLine) (hstop : ∀ H, Same H1 H → J.stop n H) (hgo : ∀ i H, i < n → Same H1 H → J.go i H)
    (turn : ∀ (i : Nat) (x : V) (H H' : Hp), i < n → Same H1 H → J.yld i H x H' → ∀ R : V → Hp → Prop, (∀ p o H4, H p = none → H4 p = some o → Ob i o → Same H H4 → R (.ref p) H4) → ∀ R2 : Hp → Prop,
      g x (wipe σ vs) H' fun σ2 H2 => wipe σ2 vs = wipe σ vs ∧ tt σ2 H2 fun b H3 => if b = true then te σ2 H3 R else R2 H3)
    (q : ∀ p H' (as : List Addr), H1 p = none → Same H1 H' → H' p = some (.lst (as.map V.ref)) → as.length = n → as.Nodup → p ∉ as → (∀ i a, as[i]? = some a → H1 a = none ∧ ∃ o, H' a = some o ∧ Ob i o) → Q (.ref p) H') : LcW J g tt te vs σ Q H1 := by
  intro D hD
  refine ⟨fun i m H => m = n - i ∧ i ≤ n ∧ Same H1 H ∧ ∃ as : List Addr, H D = some (.lst (as.map V.ref)) ∧ as.length = i ∧ as.Nodup ∧ D ∉ as ∧ ∀ j a, as[j]? = some a → H1 a = none ∧ ∃ o, H a = some o ∧ Ob j o,
    ⟨n, rfl, Nat.zero_le _, same_new hD, [], upd_same, rfl, List.nodup_nil, by simp, fun j a e => by simp at e⟩, ?_⟩
  rintro i m H ⟨rfl, hi, s, as, hd, hl, hnd, hna, hob⟩
  by_cases hlt : i < n
  · refine .inr ⟨hgo i H hlt s, fun H' => Same H1 H' ∧ ∃ as : List Addr, H' D = some (.lst (as.map V.ref)) ∧ as.length = i + 1 ∧ as.Nodup ∧ D ∉ as ∧ ∀ j a, as[j]? = some a → H1 a = none ∧ ∃ o, H' a = some o ∧ Ob j o,
      fun H' h' => ⟨n - (i + 1), by omega, rfl, hlt, h'.1, h'.2⟩, fun x H' hy => ?_⟩
    refine turn i x H H' hlt s hy _ (fun p o H4 hp ho hb s4 => ?_) _
    have pD : p ≠ D := (ne_of_none hd hp).symm
    have pas : p ∉ as := fun hm => by
      obtain ⟨j, hj⟩ := List.getElem?_of_mem hm
      obtain ⟨_, o', h', _⟩ := hob j p hj
      rw [hp] at h'
      cases h'
    refine ⟨_, s4 _ _ hd, by rw [List.length_map]; omega, same_upd (s.trans s4) hD, as ++ [p], by rw [upd_same, List.map_append]; rfl, by simp [hl], ?_, by simp [hna, pD.symm], fun j a e => ?_⟩
    · rw [List.nodup_append]
      exact ⟨hnd, by simp, fun x hx y hy => by simp at hy; rw [hy]; exact fun e => pas (e ▸ hx)⟩
    · by_cases hj : j < as.length
      · rw [List.getElem?_append_left hj] at e
        obtain ⟨h1, o', h2, h3⟩ := hob j a e
        refine ⟨h1, o', ?_, h3⟩
        have ne : a ≠ D := fun e' => hna (by rw [← e']; exact List.mem_of_getElem? e)
        rw [upd_ne ne]
        exact s4 _ _ h2
      · rw [List.getElem?_append_right (by omega)] at e
        have ej : j = i := by
          have := (List.getElem?_eq_some_iff.mp e).1
          simp at this
          omega
        subst ej
        rw [hl, Nat.sub_self] at e
        have ea : p = a := Option.some.inj e
        subst ea
        exact ⟨s.free hp, o, by rw [upd_ne pD]; exact ho, hb⟩
  · have e : i = n := by omega
    subst e
    exact .inl ⟨hstop H s, q D H as hD s hd hl hnd hna hob⟩
/-- over a list -/
theorem lcL_of {a : Addr} {xs : List V} (hS : SqL K H1 a xs) (h : (∀ H, Same H1 H → (Itl K a).stop xs.length H) → (∀ i H, i < xs.length → Same H1 H → (Itl K a).go i H) →
      (∀ i x H H', Same H1 H → (Itl K a).yld i H x H' → H' = H ∧ xs[i]? = some x) → LcW (Itl K a) g tt te vs σ Q H1) : LcL K g tt te vs σ Q (.ref a) H1 :=
  ⟨a, rfl, ⟨xs, hS⟩, h (fun H s => ⟨xs, s.seq hS, Nat.le_refl _⟩) (fun i H hi s => ⟨xs, _, s.seq hS, List.getElem?_eq_getElem hi⟩) fun i x H H' s y => ⟨y.1, y.2 xs (s.seq hS)⟩⟩
theorem lcL {a : Addr} {xs : List V} (hS : SqL K H1 a xs) (F : Nat → Option V) (hn : xs.length ≤ 1000)
    (turn : ∀ (i : Nat) (x : V) (H : Hp), xs[i]? = some x → Same H1 H → ∀ R : V → Hp → Prop, (∀ y H4, F i = some y → Same H H4 → R y H4) → ∀ R2 : Hp → Prop, (∀ H3, F i = none → Same H H3 → R2 H3) →
      g x (wipe σ vs) H fun σ2 H2 => wipe σ2 vs = wipe σ vs ∧ tt σ2 H2 fun b H3 => if b = true then te σ2 H3 R else R2 H3)
    (q : ∀ p H', H1 p = none → Same H1 H' → H' p = some (.lst ((List.range xs.length).filterMap F)) → Q (.ref p) H') : LcL K g tt te vs σ Q (.ref a) H1 :=
  lcL_of hS fun h1 h2 h3 => lc_pure F (Nat.lt_of_le_of_lt hn (by decide)) h1 h2 (fun i x H H' hi s y R hR R2 hR2 => by
    obtain ⟨rfl, e⟩ := h3 i x H H' s y
    exact turn i x _ e s R hR R2 hR2) q
theorem lcLn {a : Addr} {xs : List V} (hS : SqL K H1 a xs) (Ob : Nat → HO → Prop) (hn : xs.length ≤ 1000)
    (turn : ∀ (i : Nat) (x : V) (H : Hp), xs[i]? = some x → Same H1 H → ∀ R : V → Hp → Prop, (∀ p o H4, H p = none → H4 p = some o → Ob i o → Same H H4 → R (.ref p) H4) → ∀ R2 : Hp → Prop,
      g x (wipe σ vs) H fun σ2 H2 => wipe σ2 vs = wipe σ vs ∧ tt σ2 H2 fun b H3 => if b = true then te σ2 H3 R else R2 H3)
    (q : ∀ p H' (as : List Addr), H1 p = none → Same H1 H' → H' p = some (.lst (as.map V.ref)) → as.length = xs.length → as.Nodup → p ∉ as → (∀ i a, as[i]? = some a → H1 a = none ∧ ∃ o, H' a = some o ∧ Ob i o) → Q (.ref p) H') : LcL K g tt te vs σ Q (.ref a) H1 :=
  lcL_of hS fun h1 h2 h3 => lc_new Ob (Nat.lt_of_le_of_lt hn (by decide)) h1 h2 (fun i x H H' hi s y R hR R2 => by
    obtain ⟨rfl, e⟩ := h3 i x H H' s y
    exact turn i x _ e s R hR R2) q
theorem fm_map {α : Type} (f : V → α) (xs : List V) : (List.range xs.length).filterMap (fun i => (xs[i]?).map f) = xs.map f := by
  apply List.ext_getElem?
  intro i
  have : ∀ n, n ≤ xs.length → (List.range n).filterMap (fun i => (xs[i]?).map f) = (xs.take n).map f := by
    intro n
    induction n with
    | zero => intro _; rfl
    | succ n ih =>
      intro h
      rw [fm_succ, ih (by omega), List.take_add_one, List.map_append]
      cases h : xs[n]? <;> rfl
  rw [this _ (Nat.le_refl _), List.take_length]
/-- [f x for x in xs], nothing made -/
theorem lcMap {a : Addr} {xs : List V} (hS : SqL K H1 a xs) (f : V → V)
    (turn : ∀ (x : V) (H : Hp), x ∈ xs → Same H1 H → ∀ R : V → Hp → Prop, (∀ H4, Same H H4 → R (f x) H4) → ∀ R2 : Hp → Prop,
      g x (wipe σ vs) H fun σ2 H2 => wipe σ2 vs = wipe σ vs ∧ tt σ2 H2 fun b H3 => if b = true then te σ2 H3 R else R2 H3)
    (q : ∀ p H', H1 p = none → Same H1 H' → H' p = some (.lst (xs.map f)) → Q (.ref p) H') (hn : xs.length ≤ 1000 := by simp) : LcL K g tt te vs σ Q (.ref a) H1 :=
  lcL hS (fun i => (xs[i]?).map f) hn (fun i x H hx s R hR R2 hR2 => turn x H (List.mem_of_getElem? hx) s R (fun H4 s4 => hR _ H4 (by rw [hx]; rfl) s4) R2) fun p H' hp s h => q p H' hp s (by rw [fm_map] at h; exact h)
/-- [x for x in xs if c x], nothing made -/
theorem fm_filter (c : V → Bool) (xs : List V) : (List.range xs.length).filterMap (fun i => (xs[i]?).bind fun x => if c x then some x else none) = xs.filter c := by
  have : ∀ n, n ≤ xs.length → (List.range n).filterMap (fun i => (xs[i]?).bind fun x => if c x then some x else none) = (xs.take n).filter c := by
    intro n
    induction n with
    | zero => intro _; rfl
    | succ n ih =>
      intro h
      rw [fm_succ, ih (by omega), List.take_add_one, List.filter_append]
      cases h : xs[n]? with
      | none => rfl
      | some x =>
        cases h2 : c x <;> simp [h2]
  rw [this _ (Nat.le_refl _), List.take_length]
theorem lcFilter {a : Addr} {xs : List V} (hS : SqL K H1 a xs) (c : V → Bool)
    (turn : ∀ (x : V) (H : Hp), x ∈ xs → Same H1 H → ∀ R : V → Hp → Prop, (∀ H4, c x = true → Same H H4 → R x H4) → ∀ R2 : Hp → Prop, (∀ H4, c x = false → Same H H4 → R2 H4) →
      g x (wipe σ vs) H fun σ2 H2 => wipe σ2 vs = wipe σ vs ∧ tt σ2 H2 fun b H3 => if b = true then te σ2 H3 R else R2 H3)
    (q : ∀ p H', H1 p = none → Same H1 H' → H' p = some (.lst (xs.filter c)) → Q (.ref p) H') (hn : xs.length ≤ 1000 := by simp) : LcL K g tt te vs σ Q (.ref a) H1 :=
  lcL hS (fun i => (xs[i]?).bind fun x => if c x then some x else none) hn (fun i x H hx s R hR R2 hR2 => turn x H (List.mem_of_getElem? hx) s R
    (fun H4 hc s4 => hR _ H4 (by rw [hx]; show (if c x then some x else none) = some x; rw [hc]; rfl) s4) R2
    (fun H4 hc s4 => hR2 H4 (by rw [hx]; show (if c x then some x else none) = none; rw [hc]; rfl) s4)) fun p H' hp s h => q p H' hp s (by rw [fm_filter] at h; exact h)
/-- over range(n) -/
theorem lcR1 {n : Nat} (F : Nat → Option V) (hn : n < 1000000)
    (turn : ∀ (i : Nat) (H : Hp), i < n → Same H1 H → ∀ R : V → Hp → Prop, (∀ y H4, F i = some y → Same H H4 → R y H4) → ∀ R2 : Hp → Prop, (∀ H3, F i = none → Same H H3 → R2 H3) →
      g (.int (i : Int)) (wipe σ vs) H fun σ2 H2 => wipe σ2 vs = wipe σ vs ∧ tt σ2 H2 fun b H3 => if b = true then te σ2 H3 R else R2 H3)
    (q : ∀ p H', H1 p = none → Same H1 H' → H' p = some (.lst ((List.range n).filterMap F)) → Q (.ref p) H') : LcR1 g tt te vs σ Q [.int (n : Int)] H1 := by
  refine ⟨_, rfl, by omega, by omega, ?_⟩
  rw [Int.toNat_natCast]
  exact lc_pure F (Nat.lt_of_lt_of_le hn (by decide)) (fun H s => Nat.le_refl n) (fun i H hi s => hi) (fun i x H H' hi s y R hR R2 hR2 => by
    obtain ⟨rfl, rfl⟩ := y
    rw [Int.zero_add]
    exact turn i _ hi s R hR R2 hR2) q
theorem lcR1n {n : Nat} (Ob : Nat → HO → Prop) (hn : n < 1000000)
    (turn : ∀ (i : Nat) (H : Hp), i < n → Same H1 H → ∀ R : V → Hp → Prop, (∀ p o H4, H p = none → H4 p = some o → Ob i o → Same H H4 → R (.ref p) H4) → ∀ R2 : Hp → Prop,
      g (.int (i : Int)) (wipe σ vs) H fun σ2 H2 => wipe σ2 vs = wipe σ vs ∧ tt σ2 H2 fun b H3 => if b = true then te σ2 H3 R else R2 H3)
    (q : ∀ p H' (as : List Addr), H1 p = none → Same H1 H' → H' p = some (.lst (as.map V.ref)) → as.length = n → as.Nodup → p ∉ as → (∀ i a, as[i]? = some a → H1 a = none ∧ ∃ o, H' a = some o ∧ Ob i o) → Q (.ref p) H') : LcR1 g tt te vs σ Q [.int (n : Int)] H1 := by
  refine ⟨_, rfl, by omega, by omega, ?_⟩
  rw [Int.toNat_natCast]
  exact lc_new Ob (Nat.lt_of_lt_of_le hn (by decide)) (fun H s => Nat.le_refl n) (fun i H hi s => hi) (fun i x H H' hi s y R hR R2 => by
    obtain ⟨rfl, rfl⟩ := y
    rw [Int.zero_add]
    exact turn i _ hi s R hR R2) q
end

/-! ### new lists and tuples, by what follows -/
def LstQ (Q : VK) (xs : List V) (H : Hp) : Prop := xs.length ≤ sizeLine ∧ ∀ p, H p = none → Q (.ref p) (upd H p (.lst xs))
def TupQ (Q : VK) (xs : List V) (H : Hp) : Prop := xs.length ≤ sizeLine ∧ ∀ p, H p = none → Q (.ref p) (upd H p (.tup xs))
section
variable {K : PySem.W.Frag} {σ : St} {H : Hp} {ta : TA} {Q : VK} {xs ys : List V} {a b : Addr}
theorem lst_eq : tLst ta σ H Q = ta σ H (LstQ Q) := rfl
theorem tup_eq : tTup ta σ H Q = ta σ H (TupQ Q) := rfl
theorem sz1000 {n : Nat} (h : n ≤ 1000) : n ≤ sizeLine := Nat.le_trans h (by decide)
theorem lstQ (h : ∀ p H1, H p = none → Same H H1 → H1 p = some (.lst xs) → Q (.ref p) H1) (hl : xs.length ≤ 1000 := by simp) : LstQ Q xs H :=
  ⟨sz1000 hl, fun p hp => h p _ hp (same_new hp) upd_same⟩
theorem tupQ (h : ∀ p H1, H p = none → Same H H1 → H1 p = some (.tup xs) → Q (.ref p) H1) (hl : xs.length ≤ 1000 := by simp) : TupQ Q xs H :=
  ⟨sz1000 hl, fun p hp => h p _ hp (same_new hp) upd_same⟩
theorem len_l (h : SqL K H a xs) (q : Q (.int xs.length) H) : rLen K [.ref a] H Q := ⟨a, xs, rfl, .inl h, q⟩
theorem len_t (h : SqT K H a xs) (q : Q (.int xs.length) H) : rLen K [.ref a] H Q := ⟨a, xs, rfl, .inr h, q⟩
theorem len_l' (h : H a = some (.lst xs)) (q : Q (.int xs.length) H) : rLen K [.ref a] H Q := ⟨a, xs, rfl, .inl (.of h), q⟩
theorem len_t' (h : H a = some (.tup xs)) (q : Q (.int xs.length) H) : rLen K [.ref a] H Q := ⟨a, xs, rfl, .inr (.of h), q⟩
theorem listOf (h : SqL K H a xs) (q : ∀ p H1, H p = none → Same H H1 → H1 p = some (.lst xs) → Q (.ref p) H1) : rListOf K [.ref a] H Q :=
  ⟨a, xs, rfl, .inl h, fun p hp => q p _ hp (same_new hp) upd_same⟩
theorem listOfT (h : SqT K H a xs) (q : ∀ p H1, H p = none → Same H H1 → H1 p = some (.lst xs) → Q (.ref p) H1) : rListOf K [.ref a] H Q :=
  ⟨a, xs, rfl, .inr h, fun p hp => q p _ hp (same_new hp) upd_same⟩
theorem max2 {i j : Int} (q : Q (.int (if j > i then j else i)) H) : rMax2 [.int i, .int j] H Q := ⟨i, j, rfl, q⟩
/-- xs + ys -/
theorem cat_l (h : H a = some (.lst xs)) (h' : H b = some (.lst ys)) (hl : xs.length + ys.length ≤ 1000) (q : ∀ p H1, H p = none → Same H H1 → H1 p = some (.lst (xs ++ ys)) → Q (.ref p) H1) : rPlus (.ref a) (.ref b) H Q :=
  .inr ⟨a, b, xs, ys, rfl, rfl, h, h', sz1000 hl, fun p hp => q p _ hp (same_new hp) upd_same⟩
/-- xs[lo:hi] -/
theorem sl_l {lo hi : Option Int} (h : SqL K H a xs) (q : ∀ p H1, H p = none → Same H H1 → H1 p = some (.lst (cutV xs lo hi)) → Q (.ref p) H1) : rSlA K (.ref a) lo hi H Q :=
  .inl ⟨a, xs, rfl, h, fun p hp => q p _ hp (same_new hp) upd_same⟩
/-- xs.append(y), pop(), pop(i), insert, extend on a list that H0 does not know -/
theorem append_r {H0 : Hp} {y : V} (s : Same H0 H) (h0 : H0 a = none) (h : H a = some (.lst xs)) (hl : xs.length ≤ 1000) (q : ∀ H1, Same H0 H1 → H1 a = some (.lst (xs ++ [y])) → (∀ b, b ≠ a → H1 b = H b) → Q .non H1) :
    rAppend (.ref a) [y] H Q := ⟨a, xs, y, rfl, rfl, h, Nat.lt_of_le_of_lt hl (by decide), q _ (same_upd s h0) upd_same fun _ n => upd_ne n⟩
theorem ty_l (h : H a = some (.lst xs)) : tyV K "list" (.ref a) H := .inl ⟨rfl, _, .of h⟩
end
section
variable {K : PySem.W.Frag} {H : Hp} {a : Addr} {xs : List V} {Q : VK}
theorem pop_r {H0 : Hp} {y : V} (s : Same H0 H) (h0 : H0 a = none) (h : H a = some (.lst (xs ++ [y]))) (q : ∀ H1, Same H0 H1 → H1 a = some (.lst xs) → (∀ b, b ≠ a → H1 b = H b) → Q y H1) : rPop (.ref a) [] H Q := by
  refine ⟨a, xs ++ [y], y, rfl, rfl, h, by simp, ?_⟩
  rw [List.dropLast_concat]
  exact q _ (same_upd s h0) upd_same fun _ n => upd_ne n
theorem popAt_r {H0 : Hp} {y : V} {i : Nat} (s : Same H0 H) (h0 : H0 a = none) (h : H a = some (.lst xs)) (hi : xs[i]? = some y) (hb : i < 1000000) (q : ∀ H1, Same H0 H1 → H1 a = some (.lst (xs.eraseIdx i)) → (∀ b, b ≠ a → H1 b = H b) → Q y H1) : rPopAt (.ref a) [.int (i : Int)] H Q := by
  refine ⟨a, xs, (i : Int), i, y, rfl, rfl, h, by omega, by omega, ?_, hi, q _ (same_upd s h0) upd_same fun _ n => upd_ne n⟩
  have hl := (List.getElem?_eq_some_iff.mp hi).1
  exact (ixN_seq (n := xs.length) (i := (i : Int)) (j := i) (by unfold ixN; rw [if_pos (by omega), if_pos (by omega)]; rfl)).1
theorem insert_r {H0 : Hp} {y : V} {i : Nat} (s : Same H0 H) (h0 : H0 a = none) (h : H a = some (.lst xs)) (hl : xs.length ≤ 1000) (hb : i < 1000000) (q : ∀ H1, Same H0 H1 → H1 a = some (.lst (xs.take i ++ [y] ++ xs.drop i)) → (∀ b, b ≠ a → H1 b = H b) → Q .non H1) : rInsert (.ref a) [.int (i : Int), y] H Q :=
  ⟨a, xs, (i : Int), y, rfl, rfl, h, Nat.lt_of_le_of_lt hl (by decide), by omega, by omega, q _ (same_upd s h0) upd_same fun _ n => upd_ne n⟩
theorem extend_r {H0 : Hp} {b : Addr} {ys : List V} (s : Same H0 H) (h0 : H0 a = none) (h : H a = some (.lst xs)) (h' : H b = some (.lst ys)) (hl : xs.length + ys.length ≤ 100000) (q : ∀ H1, Same H0 H1 → H1 a = some (.lst (xs ++ ys)) → (∀ b, b ≠ a → H1 b = H b) → Q .non H1) : rExtend (.ref a) [.ref b] H Q :=
  ⟨a, b, xs, ys, rfl, rfl, h, h', Nat.le_trans hl (by decide), q _ (same_upd s h0) upd_same fun _ n => upd_ne n⟩
/-- xs[i] = v -/
theorem set_r {H0 : Hp} {v : V} {i : Nat} {Q : Hp → Prop} (s : Same H0 H) (h0 : H0 a = none) (h : H a = some (.lst xs)) (hi : i < xs.length) (q : ∀ H1, Same H0 H1 → H1 a = some (.lst (xs.set i v)) → (∀ b, b ≠ a → H1 b = H b) → Q H1) : rSetL (.ref a) (.int (i : Int)) v H Q :=
  ⟨a, xs, (i : Int), i, rfl, rfl, h, by unfold ixN; rw [if_pos (by omega), if_pos (by omega)]; rfl, q _ (same_upd s h0) upd_same fun _ n => upd_ne n⟩
end

/-! ### a statement and the rest, with a word between -/
def tCut (t u : TS) : TS := fun D σ H => ∃ R : St → Hp → Prop, t { D with nx := R } σ H ∧ ∀ σ' H', R σ' H' → u D σ' H'
theorem pss_cutR {X : Cx} {st : Stmt} {rest : List Stmt} {t u : TS} (h1 : PS X st t) (h2 : PSs X rest u) : PSs X (st :: rest) (tCut t u) := by
  refine ⟨fun pins s σ H D I h => ?_⟩
  obtain ⟨R, hr, k⟩ := h
  refine wpAny_execs_cons (thn (h1.run pins s σ H { D with nx := R } I hr) fun f s1 q => ?_)
  cases f with
  | next =>
    obtain ⟨σ', H', I', q⟩ := q
    exact h2.run pins s1 σ' H' D I' (k σ' H' q)
  | ret v => exact q
  | brk => exact q
  | cont => exact q
theorem cut {t u : TS} {D : Ends} {σ : St} {H : Hp} (R : St → Hp → Prop) (h1 : t { D with nx := Hold R } σ H) (h2 : ∀ σ' H', R σ' H' → u D σ' H') : tCut t u D σ H := ⟨R, h1, h2⟩

/-! ### a, b = a tuple, a list -/
section
variable {K : PySem.W.Frag} {H : Hp} {a : Addr} {x y z : V} {g1 g2 g3 : TG} {σ : St} {Q : St → Hp → Prop}
theorem gtup2 (h : H a = some (.tup [x, y])) (q : g1 x σ H fun σ' H' => g2 y σ' H' Q) : gTup K 2 (gCons g1 (gCons g2 gNil)) (.ref a) σ H Q := by
  refine ⟨a, _, rfl, .of h, rfl, ?_⟩
  refine ⟨x, [y], rfl, ?_⟩
  have e : ∀ σ' H', g2 y σ' H' Q = gCons g2 gNil [y] σ' H' Q := fun σ' H' => propext ⟨fun h => ⟨y, [], rfl, by
    have : (fun σ' H' => gNil [] σ' H' Q) = Q := by funext σ H; exact propext ⟨fun h => h.2, fun h => ⟨rfl, h⟩⟩
    rw [this]; exact h⟩, fun ⟨v, r, e, h⟩ => by
    cases e
    have : (fun σ' H' => gNil [] σ' H' Q) = Q := by funext σ H; exact propext ⟨fun h => h.2, fun h => ⟨rfl, h⟩⟩
    rw [this] at h; exact h⟩
  have e2 : (fun σ' H' => g2 y σ' H' Q) = fun σ' H' => gCons g2 gNil [y] σ' H' Q := by funext σ' H'; exact e σ' H'
  rw [e2] at q
  exact q
theorem glst2 (h : H a = some (.lst [x, y])) (q : g1 x σ H fun σ' H' => g2 y σ' H' Q) : gLst K 2 (gCons g1 (gCons g2 gNil)) (.ref a) σ H Q := by
  refine ⟨a, _, rfl, .of h, rfl, ?_⟩
  refine ⟨x, [y], rfl, ?_⟩
  have e : ∀ σ' H', g2 y σ' H' Q = gCons g2 gNil [y] σ' H' Q := fun σ' H' => propext ⟨fun h => ⟨y, [], rfl, by
    have : (fun σ' H' => gNil [] σ' H' Q) = Q := by funext σ H; exact propext ⟨fun h => h.2, fun h => ⟨rfl, h⟩⟩
    rw [this]; exact h⟩, fun ⟨v, r, e, h⟩ => by
    cases e
    have : (fun σ' H' => gNil [] σ' H' Q) = Q := by funext σ H; exact propext ⟨fun h => h.2, fun h => ⟨rfl, h⟩⟩
    rw [this] at h; exact h⟩
  have e2 : (fun σ' H' => g2 y σ' H' Q) = fun σ' H' => gCons g2 gNil [y] σ' H' Q := by funext σ' H'; exact e σ' H'
  rw [e2] at q
  exact q
/-- three names -/
theorem gtup3 {i j k : Nat} (h : H a = some (.tup [x, y, z])) (q : Q (((σ.set i (some x)).set j (some y)).set k (some z)) H) : gTup K 3 (gCons (gName i) (gCons (gName j) (gCons (gName k) gNil))) (.ref a) σ H Q :=
  ⟨a, _, rfl, .of h, rfl, x, [y, z], rfl, y, [z], rfl, z, [], rfl, rfl, q⟩
end
end Pb

open PySem PySem.Spec L2
/-! the readings opened: «rd»; items of known tuples and lists: «go» -/
local macro_rules | `(tactic| walk_at "rd") => `(tactic| simp (config := { failIfUnchanged := false }) only [tSeq, tAsg, tDrop, tRet, tRetN, tIfS, tNext, tTest, tB, tNot, tAnd, tOr, tAndV, tOrV, tNotV, tOp, tUn, tC, tVar, tNil, tCons, tCB, tCall, tCallS, tMeth, gName, gSub, tBM, tBM0, Pb.lst_eq, Pb.tup_eq, tSl, tPart, tNoPart, tChain, tIf, Pb.for_eqL, Pb.for_eqR1, Pb.for_eqR2, Pb.for_eqR3, Pb.for_eqZ, tYes, Pb.lc_eqL, Pb.lc_eqR1, Pb.lc_eqZ, wipe, Pb.band_nat, Pb.bor_nat, eq_self, ite_true, if_true, decide_true, decide_false, Bool.not_true, Bool.not_false, Bool.false_eq_true, ite_false, if_false, Int.reduceToNat, Int.reducePow, Int.reduceLT, Int.reduceSub, Int.reduceAdd, Int.reduceMul, Int.reduceNeg, Pb.cd_2, Pb.cd_3, Pb.cd_4, Pb.cd_6, Pb.cd_7, Pb.cd_8, Pb.cd_9, Pb.cd_10, Pb.cd_24, Pb.cd_36, Pb.cd_48, Pb.cd_56, Pb.cd_60, Pb.cd_61, Pb.cd_180, Pb.cd_183, Pb.cd_540, Pb.cd_3600, Pb.cd_1152921504606846976, Pb.cm_2, Pb.cn_2, Pb.cm_3, Pb.cn_3, Pb.cm_175, Pb.cn_175, Pb.cm_48271, Pb.cn_48271, Pb.cm_2147483647, Pb.cn_2147483647, Pb.cp_2_60, Pb.cp_2_61, Pb.cp_10_60, Pb.cp_10_59, Pb.cp_10_50, Pb.cp_10_30, Pb.cp_10_7, Pb.plus_int, Pb.ri0_int, Pb.ri_int, Pb.ru_int, Pb.eqA_int, Pb.neA_int, Pb.eqA_bl, Pb.neA_bl,
  L2.start, List.map_cons, List.map_nil, List.length_cons, List.length_nil, List.replicate, List.cons_append, List.nil_append, List.set_cons_zero, List.set_cons_succ, List.getElem?_cons_zero, List.getElem?_cons_succ, Nat.reduceAdd, Nat.reduceSub, Option.some.injEq, V.int.injEq, V.ref.injEq, V.bl.injEq, V.str.injEq, V.ty.injEq, List.cons.injEq, and_true, true_and, reduceCtorEq, false_and, and_false, false_or, or_false, exists_eq_left', exists_eq_left, exists_false])
local macro_rules | `(tactic| walk_at "go") => `(tactic| (walk_at "rd"; repeat (first | refine Pb.ix_t' (by assumption) (by rfl) ?_ | refine Pb.ix_l' (by assumption) (by rfl) ?_ | refine Pb.ix_l (by assumption) (by rfl) ?_ | refine Pb.len_l' (by assumption) ?_ | refine Pb.gtup2 (by assumption) ?_ | refine Pb.glst2 (by assumption) ?_ | refine Pb.gtup3 (by assumption) ?_ | refine Pb.isi_bl ?_ | refine Pb.isi_int ?_ | refine Pb.isi_intb ?_ | refine Pb.isi_tup (by assumption) ?_ | refine Pb.isi_lst (by assumption) ?_); walk_at "rd"))
namespace Pb
/-! ### deeds -/
/-- a deed: its name, the boxes looked at, the boxes changed -/
structure Dd where
  n : Int
  l : Nat
  c : Nat
  deriving DecidableEq
abbrev Dd.vs (d : Dd) : List V := [.int d.n, .int (d.l : Int), .int (d.c : Int)]
/-- at a stands the tuple of the deed d -/
abbrev TD (H : Hp) (a : Addr) (d : Dd) : Prop := H a = some (.tup [.int d.n, .int (d.l : Int), .int (d.c : Int)])
def clash (d e : Dd) : Bool := (d.c &&& (e.l ||| e.c) != 0) || (e.c &&& d.l != 0)
theorem clash_bit {d e : Dd} : clash d e = true ↔ ∃ j : Nat, (d.c.testBit j = true ∧ (e.l.testBit j = true ∨ e.c.testBit j = true)) ∨ (e.c.testBit j = true ∧ d.l.testBit j = true) := by
  have key : ∀ x y : Nat, (x &&& y != 0) = true ↔ ∃ j, x.testBit j = true ∧ y.testBit j = true := by
    intro x y
    rw [bne_iff_ne]
    constructor
    · intro h
      obtain ⟨j, hj⟩ := Nat.exists_testBit_of_ne_zero h
      rw [Nat.testBit_and, Bool.and_eq_true] at hj
      exact ⟨j, hj⟩
    · rintro ⟨j, h1, h2⟩ h
      have e : (x &&& y).testBit j = true := by rw [Nat.testBit_and, h1, h2]; rfl
      rw [h, Nat.zero_testBit] at e
      cases e
  unfold clash
  rw [Bool.or_eq_true, key, key]
  constructor
  · rintro (⟨j, h1, h2⟩ | ⟨j, h⟩)
    · rw [Nat.testBit_or, Bool.or_eq_true] at h2
      exact ⟨j, .inl ⟨h1, h2⟩⟩
    · exact ⟨j, .inr h⟩
  · rintro ⟨j, ⟨h1, h2⟩ | h⟩
    · refine .inl ⟨j, h1, ?_⟩
      rw [Nat.testBit_or, Bool.or_eq_true]
      exact h2
    · exact .inr ⟨j, h⟩
theorem clash_comm (d e : Dd) : clash d e = clash e d := by
  have h : clash d e = true ↔ clash e d = true := by
    rw [clash_bit, clash_bit]
    constructor <;> (rintro ⟨j, h⟩; refine ⟨j, ?_⟩; rcases h with ⟨h1, h2 | h2⟩ | ⟨h1, h2⟩)
    · exact .inr ⟨h1, h2⟩
    · exact .inl ⟨h2, .inr h1⟩
    · exact .inl ⟨h1, .inl h2⟩
    · exact .inr ⟨h1, h2⟩
    · exact .inl ⟨h2, .inr h1⟩
    · exact .inl ⟨h1, .inl h2⟩
  cases h1 : clash d e <;> cases h2 : clash e d <;> simp_all

def sp_clash (K : PySem.W.Frag) : Sp := fun vs H Q _ => ∃ a b d e, vs = [.ref a, .ref b] ∧ TD H a d ∧ TD H b e ∧ Q (.bl (clash d e)) H
theorem len_clash {K vs H Q E} (h : sp_clash K vs H Q E) : vs.length = 2 := by
  obtain ⟨a, b, d, e, rfl, _⟩ := h
  rfl
abbrev n_clash : List Str := ["one", "other"]
def t_clash (K : PySem.W.Frag) : TS :=
  (tSeq (tIfS (tTest (tOp (rNeA K) (tOp rAnd (tOp (rIx K) (tVar 0) (tC (.int 2))) (tOp rOr (tOp (rIx K) (tVar 1) (tC (.int 1))) (tOp (rIx K) (tVar 1) (tC (.int 2))))) (tC (.int 0))))
  (tRet (tC (.bl true)))
  tNext)
  (tRet (tOp (rNeA K) (tOp rAnd (tOp (rIx K) (tVar 1) (tC (.int 2))) (tOp (rIx K) (tVar 0) (tC (.int 1)))) (tC (.int 0)))))
theorem nz_bne (x : Nat) : (!decide ((x : Int) = 0)) = (x != 0) := by
  by_cases h : x = 0
  · subst h
    rfl
  · rw [decide_eq_false (by omega), bne_iff_ne.mpr h]
    rfl
theorem r_clash {K vs H Q E} (h : sp_clash K vs H Q E) : t_clash K { nx := fun _ H' => Q .non H', rt := Q } (start n_clash vs) H := by
  obtain ⟨a, b, d, e, rfl, ha, hb, q⟩ := h
  unfold t_clash
  walk_at "go"
  rw [nz_bne]
  unfold clash at q
  refine ite2 (fun h => ?_) (fun h => ?_)
  · rw [h, Bool.true_or] at q
    exact q
  · walk_at "go"
    rw [nz_bne]
    rw [Bool.not_eq_true] at h
    rw [h, Bool.false_or] at q
    exact q

/-! ### a cell of the script -/
def sp_cell_at (K : PySem.W.Frag) : Sp := fun vs H Q _ => ∃ (a : Addr) (ns : List Int) (k : Nat), vs = [.ref a, .int (k : Int)] ∧ SqL K H a (ns.map V.int) ∧ Q (.int (ns.getD k 0)) H
theorem len_cell_at {K vs H Q E} (h : sp_cell_at K vs H Q E) : vs.length = 2 := by
  obtain ⟨a, ns, k, rfl, _⟩ := h
  rfl
abbrev n_cell_at : List Str := ["_law_script", "_law_k"]
def t_cell_at (K : PySem.W.Frag) : TS :=
  (tSeq (tIfS (tTest (tOp rLt (tVar 1) (tCB (rLen K) (tCons (tVar 0) tNil))))
  (tRet (tOp (rIx K) (tVar 0) (tVar 1)))
  tNext)
  (tRet (tC (.int 0))))
theorem r_cell_at {K vs H Q E} (h : sp_cell_at K vs H Q E) : t_cell_at K { nx := fun _ H' => Q .non H', rt := Q } (start n_cell_at vs) H := by
  obtain ⟨a, ns, k, rfl, ha, q⟩ := h
  unfold t_cell_at
  walk_at "go"
  refine len_l ha ?_
  walk_at "rd"
  rw [List.length_map]
  refine ite2 (fun h => ?_) (fun h => ?_)
  · have hk : k < ns.length := by simpa using h
    refine ix_l ha (atI_nat (j := k) (by rw [List.getElem?_map, List.getElem?_eq_getElem hk]; rfl)) ?_
    have e : ns.getD k 0 = ns[k] := by simp [List.getD, hk]
    rw [← e]
    exact q
  · have hk : ns.length ≤ k := by simpa using h
    have e : ns.getD k 0 = 0 := by simp [List.getD, hk]
    rw [e] at q
    exact q
end Pb

namespace Pb
/-! ### what the laws build: a diary of drawn deeds -/
theorem nn_nat {x : Int} (h : 0 ≤ x) : ∃ n : Nat, x = (n : Int) := ⟨x.toNat, by omega⟩
/-- a deed of boxes below sixty -/
def Ok60 (d : Dd) : Prop := d.l < 2 ^ 60 ∧ d.c < 2 ^ 60
theorem cut_ints (ns : List Int) (lo hi : Option Int) : ∃ ms : List Int, cutV (ns.map V.int) lo hi = ms.map V.int ∧ ms.length ≤ ns.length := by
  unfold cutV
  rw [← List.map_drop, ← List.map_take]
  refine ⟨_, rfl, ?_⟩
  rw [List.length_take, List.length_drop]
  omega
/-- the law's promise -/
def sp_law (K : PySem.W.Frag) : Sp := fun vs H Q _ => ∃ (a : Addr) (ns : List Int), vs = [.ref a] ∧ SqL K H a (ns.map V.int) ∧ ns.length ≤ 63 ∧ ∀ H', Q (.bl true) H'
theorem len_law {K vs H Q E} (h : sp_law K vs H Q E) : vs.length = 1 := by
  obtain ⟨a, cs, rfl, _⟩ := h
  rfl
/-- the deeds ds stand at the addresses as -/
def DL (H : Hp) : List Addr → List Dd → Prop
  | [], [] => True
  | a :: as, d :: ds => TD H a d ∧ DL H as ds
  | _, _ => False
theorem DL.mono {H H' : Hp} (s : Same H H') : ∀ {as : List Addr} {ds : List Dd}, DL H as ds → DL H' as ds
  | [], [], _ => trivial
  | a :: as, d :: ds, h => ⟨s _ _ h.1, DL.mono s h.2⟩
  | [], _ :: _, h => h.elim
  | _ :: _, [], h => h.elim
theorem DL.len {H : Hp} : ∀ {as : List Addr} {ds : List Dd}, DL H as ds → as.length = ds.length
  | [], [], _ => rfl
  | a :: as, d :: ds, h => congrArg (· + 1) (DL.len h.2)
  | [], _ :: _, h => h.elim
  | _ :: _, [], h => h.elim
theorem DL.get {H : Hp} : ∀ {as : List Addr} {ds : List Dd} {i : Nat} {a : Addr}, DL H as ds → as[i]? = some a → ∃ d, ds[i]? = some d ∧ TD H a d
  | a :: as, d :: ds, 0, _, h, e => by
    cases e
    exact ⟨d, rfl, h.1⟩
  | a :: as, d :: ds, i + 1, _, h, e => DL.get (i := i) h.2 (by simpa using e)
  | [], [], _, _, _, e => by simp at e
  | [], _ :: _, _, _, h, _ => h.elim
  | _ :: _, [], _, _, h, _ => h.elim
theorem DL.getd {H : Hp} {as : List Addr} {ds : List Dd} {i : Nat} {d : Dd} (h : DL H as ds) (e : ds[i]? = some d) : ∃ a, as[i]? = some a ∧ TD H a d := by
  have hl := (List.getElem?_eq_some_iff.mp e).1
  rw [← h.len] at hl
  obtain ⟨d', e', t⟩ := h.get (List.getElem?_eq_getElem hl)
  rw [e] at e'
  cases e'
  exact ⟨_, List.getElem?_eq_getElem hl, t⟩
theorem DL.app {H : Hp} : ∀ {as bs : List Addr} {ds es : List Dd}, DL H as ds → DL H bs es → DL H (as ++ bs) (ds ++ es)
  | [], _, [], _, _, h => h
  | a :: as, _, d :: ds, _, h, h' => ⟨h.1, DL.app h.2 h'⟩
  | [], _, _ :: _, _, h, _ => h.elim
  | _ :: _, _, [], _, h, _ => h.elim
theorem DL.take {H : Hp} : ∀ {as : List Addr} {ds : List Dd} (n : Nat), DL H as ds → DL H (as.take n) (ds.take n)
  | _, _, 0, _ => trivial
  | [], [], _ + 1, _ => trivial
  | a :: as, d :: ds, n + 1, h => ⟨h.1, DL.take n h.2⟩
  | [], _ :: _, _ + 1, h => h.elim
  | _ :: _, [], _ + 1, h => h.elim
theorem DL.drop {H : Hp} : ∀ {as : List Addr} {ds : List Dd} (n : Nat), DL H as ds → DL H (as.drop n) (ds.drop n)
  | _, _, 0, h => h
  | [], [], _ + 1, _ => trivial
  | a :: as, d :: ds, n + 1, h => DL.drop n h.2
  | [], _ :: _, _ + 1, h => h.elim
  | _ :: _, [], _ + 1, h => h.elim
theorem DL.one {H : Hp} {a : Addr} {d : Dd} (h : TD H a d) : DL H [a] [d] := ⟨h, trivial⟩
/-- a list of deeds at p -/
abbrev LD (H : Hp) (p : Addr) (as : List Addr) (ds : List Dd) : Prop := H p = some (.lst (as.map V.ref)) ∧ DL H as ds
theorem LD.mono {H H' : Hp} {p : Addr} {as : List Addr} {ds : List Dd} (s : Same H H') (h : LD H p as ds) : LD H' p as ds := ⟨s _ _ h.1, h.2.mono s⟩
theorem ref_at {as : List Addr} {i : Nat} {a : Addr} (h : as[i]? = some a) : (as.map V.ref)[i]? = some (.ref a) := by
  rw [List.getElem?_map, h]
  rfl
/-- cuts of lists at numbers -/
theorem cutV_to (xs : List V) (n : Nat) : cutV xs none (some (n : Int)) = xs.take n := by
  unfold cutV
  rw [HT.sIx_nat, HT.sIx_none, List.drop_zero, Nat.sub_zero]
  by_cases h : n ≤ xs.length
  · rw [Nat.min_eq_left h]
  · rw [Nat.min_eq_right (by omega), List.take_length, List.take_of_length_le (by omega)]
theorem cutV_from (xs : List V) (n : Nat) : cutV xs (some (n : Int)) none = xs.drop n := by
  unfold cutV
  rw [HT.sIx_nat, HT.sIx_none]
  by_cases h : n ≤ xs.length
  · rw [Nat.min_eq_left h, List.take_of_length_le (by simp)]
  · rw [Nat.min_eq_right (by omega), Nat.sub_self, List.take_zero, List.drop_of_length_le (by omega)]
theorem cutV_mid (xs : List V) (n m : Nat) : cutV xs (some (n : Int)) (some (m : Int)) = (xs.drop n).take (m - n) := by
  unfold cutV
  rw [HT.sIx_nat, HT.sIx_nat]
  by_cases h : n ≤ xs.length
  · by_cases h2 : m ≤ xs.length
    · rw [Nat.min_eq_left h, Nat.min_eq_left h2]
    · rw [Nat.min_eq_left h, Nat.min_eq_right (by omega), List.take_of_length_le (by simp), List.take_of_length_le (by rw [List.length_drop]; omega)]
  · rw [Nat.min_eq_right (a := n) (by omega), List.drop_of_length_le (by omega), List.drop_of_length_le (by omega), List.take_nil, List.take_nil]

theorem len_lclash {K vs H Q E} (h : sp_clash K vs H Q E) : vs.length = 2 := len_clash h
abbrev n_lclash : List Str := ["_law_one", "_law_other"]
def t_lclash (K : PySem.W.Frag) : TS :=
  (tSeq (tIfS (tTest (tOp (rNeA K) (tOp rAnd (tOp (rIx K) (tVar 0) (tC (.int 2))) (tOp rOr (tOp (rIx K) (tVar 1) (tC (.int 1))) (tOp (rIx K) (tVar 1) (tC (.int 2))))) (tC (.int 0))))
  (tRet (tC (.bl true)))
  tNext)
  (tRet (tOp (rNeA K) (tOp rAnd (tOp (rIx K) (tVar 1) (tC (.int 2))) (tOp (rIx K) (tVar 0) (tC (.int 1)))) (tC (.int 0)))))
theorem r_lclash {K vs H Q E} (h : sp_clash K vs H Q E) : t_lclash K { nx := fun _ H' => Q .non H', rt := Q } (start n_lclash vs) H := r_clash h

def sp_bits (K : PySem.W.Frag) : Sp := fun vs H Q _ => ∃ (a : Addr) (w : Int) (b0 b1 b2 : Nat), vs = [.int w, .ref a] ∧ H a = some (.lst [.int b0, .int b1, .int b2]) ∧ b0 < 60 ∧ b1 < 60 ∧ b2 < 60 ∧ ∀ H' (x : Nat), Same H H' → x < 2 ^ 60 → Q (.int x) H'
theorem len_bits {K vs H Q E} (h : sp_bits K vs H Q E) : vs.length = 2 := by
  obtain ⟨a, w, b0, b1, b2, rfl, _⟩ := h
  rfl
abbrev n_bits : List Str := ["_law_which", "_law_boxes", "_law_found", "_law_k"]
def t_bits (K : PySem.W.Frag) : TS :=
  (tSeq (tAsg (tC (.int 0)) (gName 2))
  (tSeq (tFor (iRng1 (tCons (tC (.int 3)) tNil)) (gName 3)
  (tIfS (tTest (tOp (rEqA K) (tOp rMod (tOp rDiv (tVar 0) (tOp (rIx K) (tLst (tCons (tC (.int 1)) (tCons (tC (.int 2)) (tCons (tC (.int 4)) tNil)))) (tVar 3))) (tC (.int 2))) (tC (.int 1))))
  (tAsg (tOp rOr (tVar 2) (tOp rShl (tC (.int 1)) (tOp (rIx K) (tVar 1) (tVar 3)))) (gName 2))
  tNext))
  (tRet (tVar 2))))
theorem shl1 (b : Nat) : (1 : Int) * 2 ^ ((b : Int)).toNat = ((2 ^ b : Nat) : Int) := by
  rw [Int.toNat_natCast, Int.one_mul]
  simp
theorem r_bits {K vs H Q E} (h : sp_bits K vs H Q E) : t_bits K { nx := fun _ H' => Q .non H', rt := Q } (start n_bits vs) H := by
  obtain ⟨a, w, b0, b1, b2, rfl, ha, h0, h1, h2, q⟩ := h
  unfold t_bits
  walk_at "go"
  refine forR1 (n := 3) (fun i σ H2 => ∃ (x : Nat) (v3 : Option V), σ = [some (.int w), some (.ref a), some (.int (x : Int)), v3] ∧ Same H H2 ∧ x < 2 ^ 60) (by decide) ⟨0, none, rfl, Same.refl _, by decide⟩ ?_ ?_
  · rintro i σ H2 hi ⟨x, v3, rfl, s2, hx⟩
    walk_at "go"
    refine lstQ fun p H3 hp s3 g3 => ?_
    have ga := s3 _ _ (s2 _ _ ha)
    have hc : ∃ c : Int, [V.int 1, V.int 2, V.int 4][i]? = some (.int c) ∧ 0 < c ∧ c.natAbs.log2 < 9000 := by
      rcases (show i = 0 ∨ i = 1 ∨ i = 2 by omega) with rfl | rfl | rfl
      · exact ⟨1, rfl, by decide, by decide⟩
      · exact ⟨2, rfl, by decide, by decide⟩
      · exact ⟨4, rfl, by decide, by decide⟩
    obtain ⟨c, hc, hc0, hc1⟩ := hc
    have hb : ∃ b : Nat, [V.int (b0 : Int), V.int (b1 : Int), V.int (b2 : Int)][i]? = some (.int (b : Int)) ∧ b < 60 := by
      rcases (show i = 0 ∨ i = 1 ∨ i = 2 by omega) with rfl | rfl | rfl
      · exact ⟨b0, rfl, h0⟩
      · exact ⟨b1, rfl, h1⟩
      · exact ⟨b2, rfl, h2⟩
    obtain ⟨b, hb, hb0⟩ := hb
    refine ix_l' g3 (atI_nat (j := i) hc) ?_
    walk_at "go"
    refine ⟨⟨hc0, hc1⟩, ?_⟩
    refine ite2 (fun c => ?_) (fun c => ?_)
    · walk_at "go"
      refine ix_l' ga (atI_nat (j := i) hb) ?_
      walk_at "go"
      refine ⟨⟨by omega, by omega, by decide⟩, ?_⟩
      rw [shl1]
      walk_at "go"
      exact ⟨_, _, rfl, s2.trans s3, Nat.or_lt_two_pow hx (Nat.pow_lt_pow_right (by decide) hb0)⟩
    · exact ⟨_, _, rfl, s2.trans s3, hx⟩
  · rintro σ H2 ⟨x, v3, rfl, s2, hx⟩
    walk_at "go"
    exact q _ _ s2 hx

def sp_far_bits (K : PySem.W.Frag) : Sp := fun vs H Q _ => ∃ c : Int, vs = [.int c] ∧ ∀ x : Nat, x < 2 ^ 60 → Q (.int x) H
theorem len_far_bits {K vs H Q E} (h : sp_far_bits K vs H Q E) : vs.length = 1 := by
  obtain ⟨c, rfl, _⟩ := h
  rfl
abbrev n_far_bits : List Str := ["_law_cell"]
def t_far_bits (K : PySem.W.Frag) : TS :=
  (tSeq (tIfS (tTest (tOp (rEqA K) (tOp rMod (tVar 0) (tC (.int 3))) (tC (.int 0))))
  (tRet (tC (.int 0)))
  tNext)
  (tSeq (tIfS (tTest (tOp (rEqA K) (tOp rMod (tVar 0) (tC (.int 3))) (tC (.int 1))))
  (tRet (tOp rShl (tC (.int 1)) (tOp rMod (tOp rDiv (tVar 0) (tC (.int 3))) (tC (.int 60)))))
  tNext)
  (tRet (tOp rMod (tOp rDiv (tVar 0) (tC (.int 3))) (tOp rPow (tC (.int 2)) (tC (.int 60)))))))
theorem r_far_bits {K vs H Q E} (h : sp_far_bits K vs H Q E) : t_far_bits K { nx := fun _ H' => Q .non H', rt := Q } (start n_far_bits vs) H := by
  obtain ⟨c, rfl, q⟩ := h
  unfold t_far_bits
  walk_at "go"
  obtain ⟨b, hb⟩ := nn_nat (Int.emod_nonneg (c / 3) (show (60 : Int) ≠ 0 by decide))
  obtain ⟨e, he⟩ := nn_nat (Int.emod_nonneg (c / 3) (show (1152921504606846976 : Int) ≠ 0 by decide))
  refine ite2 (fun c => ?_) (fun c => ?_)
  · exact q 0 (by decide)
  · walk_at "go"
    refine ite2 (fun c => ?_) (fun c => ?_)
    · walk_at "go"
      rw [hb]
      refine ⟨⟨by omega, by omega, by decide⟩, ?_⟩
      rw [shl1]
      exact q _ (Nat.pow_lt_pow_right (by decide) (by omega))
    · walk_at "go"
      rw [he]
      exact q _ (by omega)

def sp_names (K : PySem.W.Frag) : Sp := fun vs H Q _ => ∃ c o : Int, vs = [.int c, .int o] ∧ ∀ p H' (n0 n1 n2 : Int), H p = none → Same H H' → H' p = some (.lst [.int n0, .int n1, .int n2]) → Q (.ref p) H'
theorem len_names {K vs H Q E} (h : sp_names K vs H Q E) : vs.length = 2 := by
  obtain ⟨c, o, rfl, _⟩ := h
  rfl
abbrev n_names : List Str := ["_law_cell", "_law_other", "_law_base", "_law_step"]
def t_names (K : PySem.W.Frag) : TS :=
  (tSeq (tAsg (tOp rMod (tVar 0) (tOp rPow (tC (.int 10)) (tC (.int 60)))) (gName 2))
  (tSeq (tAsg (tOp (rIx K) (tLst (tCons (tC (.int 1)) (tCons (tOp rPow (tC (.int 10)) (tC (.int 7))) (tCons (tOp rPow (tC (.int 10)) (tC (.int 30))) (tCons (tOp rPow (tC (.int 10)) (tC (.int 59))) tNil))))) (tOp rMod (tVar 1) (tC (.int 4)))) (gName 3))
  (tRet (tLst (tCons (tVar 2) (tCons (tOp rMod (tOp rPlus (tVar 2) (tVar 3)) (tOp rPow (tC (.int 10)) (tC (.int 60)))) (tCons (tOp rMod (tOp rPlus (tVar 2) (tOp rMul (tC (.int 2)) (tVar 3))) (tOp rPow (tC (.int 10)) (tC (.int 60)))) tNil)))))))
theorem r_names {K vs H Q E} (h : sp_names K vs H Q E) : t_names K { nx := fun _ H' => Q .non H', rt := Q } (start n_names vs) H := by
  obtain ⟨c, o, rfl, q⟩ := h
  unfold t_names
  walk_at "go"
  refine lstQ fun p H1 hp s1 g1 => ?_
  walk_at "go"
  obtain ⟨b, hb⟩ := nn_nat (Int.emod_nonneg o (show (4 : Int) ≠ 0 by decide))
  have hb4 : b < 4 := by omega
  rw [hb]
  obtain ⟨st, hst⟩ : ∃ st : Int, [V.int 1, V.int 10000000, V.int 1000000000000000000000000000000, V.int 100000000000000000000000000000000000000000000000000000000000][b]? = some (.int st) := by
    rcases (show b = 0 ∨ b = 1 ∨ b = 2 ∨ b = 3 by omega) with rfl | rfl | rfl | rfl <;> exact ⟨_, rfl⟩
  refine ix_l' g1 (atI_nat (j := b) hst) ?_
  walk_at "go"
  refine lstQ fun p2 H2 hp2 s2 g2 => ?_
  exact q p2 H2 _ _ _ (s1.free hp2) (s1.trans s2) g2

def sp_near (K : PySem.W.Frag) : Sp := fun vs H Q _ => ∃ (w : Int) (a b : Addr) (n0 n1 n2 : Int) (b0 b1 b2 : Nat), vs = [.int w, .ref a, .ref b] ∧ H a = some (.lst [.int n0, .int n1, .int n2]) ∧ H b = some (.lst [.int b0, .int b1, .int b2]) ∧ b0 < 60 ∧ b1 < 60 ∧ b2 < 60 ∧
  ∀ p H' d, H p = none → Same H H' → TD H' p d → Ok60 d → Q (.ref p) H'
theorem len_near {K vs H Q E} (h : sp_near K vs H Q E) : vs.length = 3 := by
  obtain ⟨w, a, b, n0, n1, n2, b0, b1, b2, rfl, _⟩ := h
  rfl
abbrev n_near : List Str := ["_law_number", "_law_names_here", "_law_boxes", "_law_changes"]
def t_near (K : PySem.W.Frag) : TS :=
  (tSeq (tAsg (tOp (rIx K) (tLst (tCons (tC (.int 0)) (tCons (tC (.int 0)) (tCons (tC (.int 0)) (tCons (tC (.int 0)) (tCons (tC (.int 0)) (tCons (tC (.int 1)) (tCons (tC (.int 2)) (tCons (tC (.int 3)) (tCons (tC (.int 4)) (tCons (tC (.int 5)) (tCons (tC (.int 6)) (tCons (tC (.int 7)) tNil))))))))))))) (tOp rMod (tOp rDiv (tVar 0) (tC (.int 24))) (tC (.int 12)))) (gName 3))
  (tRet (tTup (tCons (tOp (rIx K) (tVar 1) (tOp rMod (tVar 0) (tC (.int 3)))) (tCons (tCall (sp_bits K) [] E0 (tCons (tOp rMod (tOp rDiv (tVar 0) (tC (.int 3))) (tC (.int 8))) (tCons (tVar 2) tNil))) (tCons (tCall (sp_bits K) [] E0 (tCons (tVar 3) (tCons (tVar 2) tNil))) tNil))))))
theorem r_near {K vs H Q E} (h : sp_near K vs H Q E) : t_near K { nx := fun _ H' => Q .non H', rt := Q } (start n_near vs) H := by
  obtain ⟨w, a, b, n0, n1, n2, b0, b1, b2, rfl, ha, hb, h0, h1, h2, q⟩ := h
  unfold t_near
  walk_at "go"
  refine lstQ fun p H1 hp s1 g1 => ?_
  walk_at "go"
  obtain ⟨c, hc⟩ := nn_nat (Int.emod_nonneg (w / 24) (show (12 : Int) ≠ 0 by decide))
  obtain ⟨m, hm⟩ := nn_nat (Int.emod_nonneg w (show (3 : Int) ≠ 0 by decide))
  have hc12 : c < 12 := by omega
  have hm3 : m < 3 := by omega
  rw [hc]
  obtain ⟨st, hst⟩ : ∃ st : Int, [V.int 0, V.int 0, V.int 0, V.int 0, V.int 0, V.int 1, V.int 2, V.int 3, V.int 4, V.int 5, V.int 6, V.int 7][c]? = some (.int st) := by
    rcases (show c = 0 ∨ c = 1 ∨ c = 2 ∨ c = 3 ∨ c = 4 ∨ c = 5 ∨ c = 6 ∨ c = 7 ∨ c = 8 ∨ c = 9 ∨ c = 10 ∨ c = 11 by omega) with rfl | rfl | rfl | rfl | rfl | rfl | rfl | rfl | rfl | rfl | rfl | rfl <;> exact ⟨_, rfl⟩
  refine ix_l' g1 (atI_nat (j := c) hst) ?_
  walk_at "go"
  rw [hm]
  obtain ⟨nm, hnm⟩ : ∃ nm : Int, [V.int n0, V.int n1, V.int n2][m]? = some (.int nm) := by
    rcases (show m = 0 ∨ m = 1 ∨ m = 2 by omega) with rfl | rfl | rfl <;> exact ⟨_, rfl⟩
  refine ix_l' (s1 _ _ ha) (atI_nat (j := m) hnm) ?_
  walk_at "go"
  refine ⟨b, _, b0, b1, b2, rfl, s1 _ _ hb, h0, h1, h2, fun H2 x s2 hx => ?_⟩
  walk_at "go"
  refine ⟨b, _, b0, b1, b2, rfl, s2 _ _ (s1 _ _ hb), h0, h1, h2, fun H3 y s3 hy => ?_⟩
  walk_at "go"
  refine tupQ fun p4 H4 hp4 s4 g4 => ?_
  have s13 := (s1.trans s2).trans s3
  exact q p4 H4 ⟨nm, x, y⟩ (s13.free hp4) (s13.trans s4) g4 ⟨hx, hy⟩
end Pb
namespace Pb
theorem DL.keep {H H1 : Hp} {p : Addr} {xs : List V} (hp : H p = some (.lst xs)) (ne : ∀ b, b ≠ p → H1 b = H b) : ∀ {as : List Addr} {ds : List Dd}, DL H as ds → DL H1 as ds
  | [], [], _ => trivial
  | a :: as, d :: ds, h => ⟨by
      have n : a ≠ p := ne_of h.1 hp (by intro z; cases z)
      show H1 a = _
      rw [ne a n]
      exact h.1, DL.keep hp ne h.2⟩
  | [], _ :: _, h => h.elim
  | _ :: _, [], h => h.elim
theorem DL.ofAll {H : Hp} {P : Dd → Prop} : ∀ {as : List Addr}, (∀ (i : Nat) a, as[i]? = some a → ∃ d, TD H a d ∧ P d) → ∃ ds, DL H as ds ∧ ∀ d ∈ ds, P d
  | [], _ => ⟨[], trivial, by simp⟩
  | a :: as, h => by
    obtain ⟨d, hd, pd⟩ := h 0 a rfl
    obtain ⟨ds, h1, h2⟩ := DL.ofAll (as := as) (P := P) fun i b e => h (i + 1) b (by simpa using e)
    refine ⟨d :: ds, ⟨hd, h1⟩, fun e he => ?_⟩
    rcases List.mem_cons.mp he with rfl | he
    · exact pd
    · exact h2 e he
theorem ints_at {ns : List Int} {i : Nat} (h : i < ns.length) : (ns.map V.int)[i]? = some (.int (ns[i])) := by
  rw [List.getElem?_map, List.getElem?_eq_getElem h]
  rfl
def sp_diary (K : PySem.W.Frag) : Sp := fun vs H Q _ => ∃ (a : Addr) (ns : List Int) (m : Int), vs = [.ref a, .int m] ∧ SqL K H a (ns.map V.int) ∧ ns.length ≤ 63 ∧
  ∀ p H' as ds, H p = none → Same H H' → LD H' p as ds → (∀ d ∈ ds, Ok60 d) → as.length ≤ 63 → Q (.ref p) H'
theorem len_diary {K vs H Q E} (h : sp_diary K vs H Q E) : vs.length = 2 := by
  obtain ⟨a, ns, m, rfl, _⟩ := h
  rfl
abbrev n_diary : List Str := ["_law_script", "_law_most", "_law_cells", "_law_diary_here", "_law_k", "_law_looks", "_law_names_here", "_law_boxes", "_law_cell"]
def t_diary (K : PySem.W.Frag) : TS :=
  (tSeq (tAsg (tSl (rSlA K) (tVar 0) (tPart (tC (.int 6))) (tPart (tVar 1))) (gName 2))
  (tSeq (tIfS (tTest (tOp (rEqA K) (tOp rMod (tCall (sp_cell_at K) [] E0 (tCons (tVar 0) (tCons (tC (.int 0)) tNil))) (tC (.int 3))) (tC (.int 1))))
  (tSeq (tAsg (tLst tNil) (gName 3))
  (tSeq (tFor (iRng1 (tCons (tOp rDiv (tCB (rLen K) (tCons (tVar 2) tNil)) (tC (.int 3))) tNil)) (gName 4)
  (tSeq (tAsg (tCall (sp_far_bits K) [] E0 (tCons (tOp (rIx K) (tVar 2) (tOp rPlus (tOp rMul (tC (.int 3)) (tVar 4)) (tC (.int 1)))) tNil)) (gName 5))
  (tDrop (tBM K "list" rAppend (tVar 3) (tCons (tTup (tCons (tOp rMod (tOp (rIx K) (tVar 2) (tOp rMul (tC (.int 3)) (tVar 4))) (tOp rPow (tC (.int 10)) (tC (.int 60)))) (tCons (tVar 5) (tCons (tCall (sp_far_bits K) [] E0 (tCons (tOp (rIx K) (tVar 2) (tOp rPlus (tOp rMul (tC (.int 3)) (tVar 4)) (tC (.int 2)))) tNil)) tNil)))) tNil)))))
  (tRet (tVar 3))))
  tNext)
  (tSeq (tAsg (tCall (sp_names K) [] E0 (tCons (tCall (sp_cell_at K) [] E0 (tCons (tVar 0) (tCons (tC (.int 1)) tNil))) (tCons (tCall (sp_cell_at K) [] E0 (tCons (tVar 0) (tCons (tC (.int 2)) tNil))) tNil))) (gName 6))
  (tSeq (tAsg (tLc (iRng1 (tCons (tC (.int 3)) tNil)) (gName 4) tYes (tOp rMod (tCall (sp_cell_at K) [] E0 (tCons (tVar 0) (tCons (tOp rPlus (tC (.int 3)) (tVar 4)) tNil))) (tC (.int 60))) [4]) (gName 7))
  (tRet (tLc (iList K (tVar 2)) (gName 8) tYes (tCall (sp_near K) [] E0 (tCons (tOp rMod (tOp rMul (tVar 8) (tC (.int 175))) (tC (.int 288))) (tCons (tVar 6) (tCons (tVar 7) tNil)))) [8]))))))
theorem r_diary {K vs H Q E} (h : sp_diary K vs H Q E) : t_diary K { nx := fun _ H' => Q .non H', rt := Q } (start n_diary vs) H := by
  obtain ⟨a, ns, m, rfl, ha, hl, q⟩ := h
  unfold t_diary
  walk_at "go"
  obtain ⟨ms, em, hm⟩ := cut_ints ns (some 6) (some m)
  refine sl_l ha fun p H1 hp s1 g1 => ?_
  rw [em] at g1
  walk_at "go"
  refine ⟨a, ns, 0, rfl, s1.seq ha, ?_⟩
  walk_at "go"
  refine ite2 (fun c => ?_) (fun c => ?_)
  · walk_at "go"
    refine lstQ fun p2 H2 hp2 s2 g2 => ?_
    have g1' := s2 _ _ g1
    walk_at "go"
    rw [List.length_map, show ((ms.length : Nat) : Int) / 3 = ((ms.length / 3 : Nat) : Int) by omega]
    refine forR1 (n := ms.length / 3) (fun i σ H3 => ∃ (as : List Addr) (ds : List Dd) (v4 v5 v6 v7 v8 : Option V), σ = [some (.ref a), some (.int m), some (.ref p), some (.ref p2), v4, v5, v6, v7, v8] ∧ Same H1 H3 ∧ LD H3 p2 as ds ∧ (∀ d ∈ ds, Ok60 d) ∧ as.length = i) (by omega)
      ⟨[], [], none, none, none, none, none, rfl, s2, ⟨g2, trivial⟩, by simp, rfl⟩ ?_ ?_
    · rintro i σ H3 hi ⟨as, ds, v4, v5, v6, v7, v8, rfl, s3, ⟨gp, hd⟩, hok, hlen⟩
      have g13 := s3 _ _ g1
      walk_at "go"
      rw [show (3 : Int) * (i : Int) + 1 = ((3 * i + 1 : Nat) : Int) by omega]
      refine ix_l' g13 (atI_nat (j := 3 * i + 1) (ints_at (by omega))) ?_
      walk_at "go"
      refine ⟨_, rfl, fun x hx => ?_⟩
      walk_at "go"
      refine ⟨ty_l gp, ?_⟩
      rw [show (3 : Int) * (i : Int) = ((3 * i : Nat) : Int) by omega]
      refine ix_l' g13 (atI_nat (j := 3 * i) (ints_at (by omega))) ?_
      walk_at "go"
      rw [show ((3 * i : Nat) : Int) + 2 = ((3 * i + 2 : Nat) : Int) by omega]
      refine ix_l' g13 (atI_nat (j := 3 * i + 2) (ints_at (by omega))) ?_
      walk_at "go"
      refine ⟨_, rfl, fun y hy => ?_⟩
      walk_at "go"
      refine tupQ fun p4 H4 hp4 s4 g4 => ?_
      walk_at "go"
      refine append_r (s3.trans s4) hp2 (s4 _ _ gp) (by rw [List.length_map]; omega) fun H5 s5 g5 ne5 => ?_
      have hd4 := (hd.mono s4).app (DL.one (a := p4) (d := ⟨_, x, y⟩) g4)
      refine ⟨as ++ [p4], ds ++ [⟨_, x, y⟩], _, _, _, _, _, rfl, s5, ⟨by rw [g5, List.map_append]; rfl, hd4.keep (s4 _ _ gp) ne5⟩, fun d hd => ?_, by simp [hlen]⟩
      rcases List.mem_append.mp hd with hd | hd
      · exact hok d hd
      · rw [List.mem_singleton.mp hd]
        exact ⟨hx, hy⟩
    · rintro σ H3 ⟨as, ds, v4, v5, v6, v7, v8, rfl, s3, hL, hok, hlen⟩
      walk_at "go"
      exact q p2 H3 as ds (s1.free hp2) (s1.trans s3) hL hok (by omega)
  · walk_at "go"
    refine ⟨a, ns, 1, rfl, s1.seq ha, ?_⟩
    walk_at "go"
    refine ⟨a, ns, 2, rfl, s1.seq ha, ?_⟩
    walk_at "go"
    refine ⟨_, _, rfl, fun p2 H2 n0 n1 n2 hp2 s2 g2 => ?_⟩
    walk_at "go"
    refine lcR1 (n := 3) (fun j => some (.int (ns.getD (3 + j) 0 % 60))) (by decide) ?_ ?_
    · intro j H3 hj s3 R hR R2 hR2
      walk_at "go"
      refine ⟨a, ns, 3 + j, by simp, s3.seq (s2.seq (s1.seq ha)), ?_⟩
      walk_at "go"
      exact hR _ _ rfl (Same.refl _)
    intro p3 H3 hp3 s3 g3
    obtain ⟨b0, e0⟩ := nn_nat (Int.emod_nonneg (ns.getD (3 + 0) 0) (show (60 : Int) ≠ 0 by decide))
    obtain ⟨b1, e1⟩ := nn_nat (Int.emod_nonneg (ns.getD (3 + 1) 0) (show (60 : Int) ≠ 0 by decide))
    obtain ⟨b2, e2⟩ := nn_nat (Int.emod_nonneg (ns.getD (3 + 2) 0) (show (60 : Int) ≠ 0 by decide))
    have g3' : H3 p3 = some (.lst [.int (b0 : Int), .int (b1 : Int), .int (b2 : Int)]) := by
      rw [g3]
      show some (HO.lst [.int (ns.getD (3 + 0) 0 % 60), .int (ns.getD (3 + 1) 0 % 60), .int (ns.getD (3 + 2) 0 % 60)]) = _
      rw [e0, e1, e2]
    have g13 := s3 _ _ (s2 _ _ g1)
    have g23 := s3 _ _ g2
    walk_at "go"
    refine lcLn (.of g13) (fun _ o => ∃ d : Dd, o = .tup [.int d.n, .int (d.l : Int), .int (d.c : Int)] ∧ Ok60 d) (by rw [List.length_map]; omega) ?_ ?_
    · intro i x H4 hx s4 R hR R2
      obtain ⟨z, rfl⟩ : ∃ z, x = V.int z := by
        rw [List.getElem?_map] at hx
        cases e : ms[i]? with
        | none => rw [e] at hx; cases hx
        | some z => rw [e] at hx; exact ⟨z, (Option.some.inj hx).symm⟩
      walk_at "go"
      refine ⟨_, p2, p3, n0, n1, n2, b0, b1, b2, rfl, s4 _ _ g23, s4 _ _ g3', by omega, by omega, by omega, fun p5 H5 d hp5 s5 g5 hd => ?_⟩
      exact hR p5 _ H5 hp5 g5 ⟨d, rfl, hd⟩ s5
    intro p4 H4 as hp4 s4 g4 hl4 hnd hna hob
    obtain ⟨ds, hds, hok⟩ := DL.ofAll (H := H4) (P := Ok60) (as := as) fun i b e => by
      obtain ⟨_, o, ho, d, rfl, hd⟩ := hob i b e
      exact ⟨d, ho, hd⟩
    have s13 := (s1.trans s2).trans s3
    exact q p4 H4 as ds (s13.free hp4) (s13.trans s4) ⟨g4, hds⟩ hok (by rw [hl4, List.length_map]; omega)
end Pb

namespace Pb
/-! ### data in the heap -/
theorem ty_sqL {K : PySem.W.Frag} {H : Hp} {a : Addr} {xs : List V} (h : SqL K H a xs) : TyX K H (.ref a) (.type "list") := by
  rcases h with (h | ⟨o, h⟩) | ⟨o, its, n, e, c, _⟩
  · exact .base (.lst h)
  · exact .base (.frz h)
  · exact .kList e c
theorem ty_sqT {K : PySem.W.Frag} {H : Hp} {a : Addr} {xs : List V} (h : SqT K H a xs) : TyX K H (.ref a) (.type "tuple") := by
  rcases h with (h | ⟨o, h⟩) | ⟨o, its, n, e, c, _⟩
  · exact .base (.tup h)
  · exact .fTuple h
  · exact .kTuple e c
theorem isiX {K : PySem.W.Frag} {H : Hp} {x : V} {T T' : String} {b : Bool} {Q : VK} (h : TyX K H x (.type T)) (hk : kitB T T' = some b) (q : Q (.bl b) H) : rIsi K [x, .ty T'] H Q :=
  ⟨x, .ty T', .type T, .type T', b, rfl, .ty _, h, kit_ty hk, q⟩
mutual
theorem Dp.up {K : PySem.W.Frag} {H H' : Hp} (s : Same H H') : ∀ {v : V} {d : PyData}, Dp K H v d → Dp K H' v d
  | _, _, .non => .non
  | _, _, .bl b => .bl b
  | _, _, .int i => .int i
  | _, _, .str x => .str x
  | _, _, .lst h hs => .lst (s.seq h) (DpAll.up s hs)
  | _, _, .tup h hs => .tup (sq_t s h) (DpAll.up s hs)
theorem DpAll.up {K : PySem.W.Frag} {H H' : Hp} (s : Same H H') : ∀ {vs : List V} {ds : List PyData}, DpAll K H vs ds → DpAll K H' vs ds
  | _, _, .nil => .nil
  | _, _, .cons h hs => .cons (Dp.up s h) (DpAll.up s hs)
end
theorem DpAll.len {K : PySem.W.Frag} {H : Hp} : ∀ {vs : List V} {ds : List PyData}, DpAll K H vs ds → vs.length = ds.length
  | _, _, .nil => rfl
  | _, _, .cons _ hs => congrArg (· + 1) (DpAll.len hs)
theorem DpAll.get {K : PySem.W.Frag} {H : Hp} : ∀ {vs : List V} {ds : List PyData} {i : Nat} {v : V}, DpAll K H vs ds → vs[i]? = some v → ∃ d, ds[i]? = some d ∧ Dp K H v d
  | _, _, _, _, .nil, e => by simp at e
  | _, _, 0, _, .cons h _, e => by
    cases e
    exact ⟨_, rfl, h⟩
  | _, _, i + 1, _, .cons _ hs, e => DpAll.get (i := i) hs (by simpa using e)
theorem DpAll.app {K : PySem.W.Frag} {H : Hp} : ∀ {vs ws : List V} {ds es : List PyData}, DpAll K H vs ds → DpAll K H ws es → DpAll K H (vs ++ ws) (ds ++ es)
  | _, _, _, _, .nil, h => h
  | _, _, _, _, .cons a hs, h => .cons a (DpAll.app hs h)
theorem DpAll.ints {K : PySem.W.Frag} {H : Hp} : ∀ ns : List Int, DpAll K H (ns.map V.int) (ns.map PyData.int)
  | [] => .nil
  | n :: r => .cons (.int n) (DpAll.ints r)
/-- whole numbers, lists and tuples of such, at most n deep -/
def okD : Nat → PyData → Prop
  | 0, _ => False
  | _ + 1, .int _ => True
  | n + 1, .list ds => ∀ d ∈ ds, okD n d
  | n + 1, .tuple ds => ∀ d ∈ ds, okD n d
  | _ + 1, _ => False
theorem okD.up {n : Nat} : ∀ {d : PyData}, okD n d → okD (n + 1) d := by
  induction n with
  | zero => exact fun h => h.elim
  | succ n ih =>
    intro d h
    cases d with
    | int _ => trivial
    | list ds => exact fun e he => ih (h e he)
    | tuple ds => exact fun e he => ih (h e he)
    | none => exact h
    | bool _ => exact h
    | str _ => exact h
    | dict _ => exact h
theorem okD.le {n m : Nat} (h : n ≤ m) {d : PyData} (k : okD n d) : okD m d := by
  induction h with
  | refl => exact k
  | step _ ih => exact ih.up
theorem layAll : ∀ {ds : List PyData}, (∀ d ∈ ds, d.canLay0 = true) → PyData.canLayAll0 ds = true
  | [], _ => rfl
  | d :: ds, h => by
    rw [PyData.canLayAll0, h d (by simp), layAll (ds := ds) fun e he => h e (by simp [he])]
    rfl
theorem depAll {n : Nat} : ∀ {ds : List PyData}, (∀ d ∈ ds, d.depth ≤ n) → PyData.depthAll ds ≤ n
  | [], _ => Nat.zero_le _
  | d :: ds, h => by
    rw [PyData.depthAll]
    exact Nat.max_le.mpr ⟨h d (by simp), depAll (ds := ds) fun e he => h e (by simp [he])⟩
theorem okD.lay {n : Nat} : ∀ {d : PyData}, okD n d → d.canLay0 = true ∧ d.depth ≤ n := by
  induction n with
  | zero => exact fun h => h.elim
  | succ n ih =>
    intro d h
    cases d with
    | int _ => exact ⟨rfl, by simp [PyData.depth]⟩
    | list ds =>
      have h' : ∀ d ∈ ds, okD n d := h
      refine ⟨by rw [PyData.canLay0]; exact layAll fun d hd => (ih (h' d hd)).1, ?_⟩
      rw [PyData.depth]
      exact Nat.succ_le_succ (depAll fun e he => (ih (h' e he)).2)
    | tuple ds =>
      have h' : ∀ d ∈ ds, okD n d := h
      refine ⟨by rw [PyData.canLay0]; exact layAll fun d hd => (ih (h' d hd)).1, ?_⟩
      rw [PyData.depth]
      exact Nat.succ_le_succ (depAll fun e he => (ih (h' e he)).2)
    | none => exact h.elim
    | bool _ => exact h.elim
    | str _ => exact h.elim
    | dict _ => exact h.elim
theorem okD.shaped {n : Nat} {d : PyData} (h : okD n d) (hn : n ≤ 64 := by decide) : SeqAt.shaped d = true := by
  show (d.canLay0 && decide (d.depth ≤ 64)) = true
  rw [Bool.and_eq_true]
  exact ⟨h.lay.1, decide_eq_true (Nat.le_trans h.lay.2 hn)⟩
theorem eqvAll_iff {n : Nat} (ih : ∀ {d e : PyData}, okD n d → okD n e → (PyData.eqv d e = true ↔ d = e)) : ∀ {ds es : List PyData}, (∀ d ∈ ds, okD n d) → (∀ d ∈ es, okD n d) → (PyData.eqvAll ds es = true ↔ ds = es)
  | [], [], _, _ => by simp [PyData.eqvAll]
  | [], _ :: _, _, _ => by simp [PyData.eqvAll]
  | _ :: _, [], _, _ => by simp [PyData.eqvAll]
  | d :: ds, e :: es, h, h' => by
    rw [PyData.eqvAll, Bool.and_eq_true, ih (h d (by simp)) (h' e (by simp)), eqvAll_iff ih (ds := ds) (es := es) (fun x hx => h x (by simp [hx])) fun x hx => h' x (by simp [hx])]
    simp
theorem okD.eqv {n : Nat} : ∀ {d e : PyData}, okD n d → okD n e → (PyData.eqv d e = true ↔ d = e) := by
  induction n with
  | zero => exact fun h => h.elim
  | succ n ih =>
    intro d e h h'
    cases d <;> cases e <;> first
      | exact h.elim
      | exact h'.elim
      | (rw [PyData.eqv, eqvAll_iff ih h h']; simp)
      | (rw [PyData.eqv]; simp)
theorem eqA_ok {K : PySem.W.Frag} {n : Nat} {x y : V} {d e : PyData} {H : Hp} {Q : VK} (hx : Dp K H x d) (hy : Dp K H y e) (h1 : okD n d) (h2 : okD n e) (h : ∀ b : Bool, (b = true ↔ d = e) → Q (.bl b) H) (hn : n ≤ 64 := by decide) : rEqA K x y H Q :=
  eqA_D hx hy (h1.shaped hn) (h2.shaped hn) (h _ (h1.eqv h2))
theorem neA_ok {K : PySem.W.Frag} {n : Nat} {x y : V} {d e : PyData} {H : Hp} {Q : VK} (hx : Dp K H x d) (hy : Dp K H y e) (h1 : okD n d) (h2 : okD n e) (h : ∀ b : Bool, (b = true ↔ d ≠ e) → Q (.bl b) H) (hn : n ≤ 64 := by decide) : rNeA K x y H Q :=
  neA_D hx hy (h1.shaped hn) (h2.shaped hn) (h _ (by rw [Bool.not_eq_true', ← Bool.not_eq_true, h1.eqv h2]))
theorem eqA_same {K : PySem.W.Frag} {n : Nat} {x y : V} {d : PyData} {H : Hp} {Q : VK} (hx : Dp K H x d) (hy : Dp K H y d) (h1 : okD n d) (h : Q (.bl true) H) (hn : n ≤ 64 := by decide) : rEqA K x y H Q :=
  eqA_ok hx hy h1 h1 (fun b hb => by rw [hb.mpr rfl]; exact h) hn
theorem neA_same {K : PySem.W.Frag} {n : Nat} {x y : V} {d : PyData} {H : Hp} {Q : VK} (hx : Dp K H x d) (hy : Dp K H y d) (h1 : okD n d) (h : Q (.bl false) H) (hn : n ≤ 64 := by decide) : rNeA K x y H Q :=
  neA_ok hx hy h1 h1 (fun b hb => by rw [show b = false by cases b; rfl; exact absurd rfl (hb.mp rfl)]; exact h) hn
/-- a deed as data -/
def dd (d : Dd) : PyData := .tuple [.int d.n, .int d.l, .int d.c]
theorem dd_dp {K : PySem.W.Frag} {H : Hp} {a : Addr} {d : Dd} (h : TD H a d) : Dp K H (.ref a) (dd d) := .tup (.of h) (.cons (.int _) (.cons (.int _) (.cons (.int _) .nil)))
theorem dds_dp {K : PySem.W.Frag} {H : Hp} : ∀ {as : List Addr} {ds : List Dd}, DL H as ds → DpAll K H (as.map V.ref) (ds.map dd)
  | [], [], _ => .nil
  | a :: as, d :: ds, h => .cons (dd_dp h.1) (dds_dp h.2)
  | [], _ :: _, h => h.elim
  | _ :: _, [], h => h.elim
theorem ld_dp {K : PySem.W.Frag} {H : Hp} {p : Addr} {as : List Addr} {ds : List Dd} (h : LD H p as ds) : Dp K H (.ref p) (.list (ds.map dd)) := .lst (.of h.1) (dds_dp h.2)
theorem dd_ok {d : Dd} : okD 2 (dd d) := fun e he => by
  simp only [List.mem_cons, List.not_mem_nil, or_false] at he
  rcases he with rfl | rfl | rfl <;> trivial
theorem dds_ok (ds : List Dd) : okD 3 (.list (ds.map dd)) := fun e he => by
  obtain ⟨d, _, rfl⟩ := List.mem_map.mp he
  exact dd_ok
theorem ints_ok (ns : List Int) : okD 2 (.list (ns.map PyData.int)) := fun e he => by
  obtain ⟨d, _, rfl⟩ := List.mem_map.mp he
  trivial

def sp_same (n : Nat) (K : PySem.W.Frag) : Sp := fun vs H Q _ => ∃ x y d, vs = [x, y] ∧ Dp K H x d ∧ Dp K H y d ∧ okD n d ∧ ∀ H', Same H H' → Q (.bl true) H'
theorem len_same {n K vs H Q E} (h : sp_same n K vs H Q E) : vs.length = 2 := by
  obtain ⟨x, y, d, rfl, _⟩ := h
  rfl
theorem none_same {K vs H Q E} (h : sp_same 0 K vs H Q E) : False := by
  obtain ⟨x, y, d, rfl, _, _, h, _⟩ := h
  exact h
abbrev n_same : List Str := ["_law_found", "_law_due", "_law_one", "_law_other"]
def t_same (n : Nat) (K : PySem.W.Frag) : TS :=
  (tSeq (tIfS (tB (tCB (rIsi K) (tCons (tVar 1) (tCons (tC (.ty "int")) tNil))))
  (tRet (tAndV (tCB (rIsi K) (tCons (tVar 0) (tCons (tC (.ty "int")) tNil))) (tAndV (tNotV (tCB (rIsi K) (tCons (tVar 0) (tCons (tC (.ty "bool")) tNil)))) (tOp (rEqA K) (tVar 0) (tVar 1)))))
  tNext)
  (tCut (tIfS (tB (tCB (rIsi K) (tCons (tVar 1) (tCons (tC (.ty "tuple")) tNil))))
  (tIfS (tNot (tB (tCB (rIsi K) (tCons (tVar 0) (tCons (tC (.ty "tuple")) tNil)))))
  (tRet (tC (.bl false)))
  tNext)
  (tIfS (tNot (tB (tCB (rIsi K) (tCons (tVar 0) (tCons (tC (.ty "list")) tNil)))))
  (tRet (tC (.bl false)))
  tNext))
  (tSeq (tIfS (tTest (tOp (rNeA K) (tCB (rLen K) (tCons (tVar 0) tNil)) (tCB (rLen K) (tCons (tVar 1) tNil))))
  (tRet (tC (.bl false)))
  tNext)
  (tSeq (tFor (RZ.iZipA K (tCons (tVar 0) (tCons (tVar 1) tNil))) (gTup K 2 (gCons (gName 2) (gCons (gName 3) gNil)))
  (tIfS (tNot (tB (tCall (sp_same n K) [] E0 (tCons (tVar 2) (tCons (tVar 3) tNil)))))
  (tRet (tC (.bl false)))
  tNext))
  (tRet (tC (.bl true)))))))
theorem r_same {n K vs H Q E} (h : sp_same (n + 1) K vs H Q E) : t_same n K { nx := fun _ H' => Q .non H', rt := Q } (start n_same vs) H := by
  obtain ⟨x, y, d, rfl, hx, hy, hd, q⟩ := h
  unfold t_same
  cases d with
  | none => exact hd.elim
  | bool _ => exact hd.elim
  | str _ => exact hd.elim
  | dict _ => exact hd.elim
  | int i =>
    cases hx
    cases hy
    walk_at "go"
    exact q H (Same.refl _)
  | list ds =>
    cases hx with | @lst a xs _ hs ha =>
    cases hy with | @lst b ys _ hs' ha' =>
    walk_at "go"
    refine isiX (ty_sqL hs') kb_list_int ?_
    walk_at "go"
    refine cut (fun σ H' => σ = [some (.ref a), some (.ref b), none, none] ∧ H' = H) ?_ ?_
    · walk_at "go"
      refine isiX (ty_sqL hs') kb_list_tuple ?_
      walk_at "go"
      refine isiX (ty_sqL hs) kb_list_list ?_
      walk_at "go"
      exact ⟨rfl, rfl⟩
    rintro σ H1 ⟨rfl, rfl⟩
    walk_at "go"
    refine len_l hs (len_l hs' ?_)
    walk_at "go"
    rw [DpAll.len ha, DpAll.len ha']
    walk_at "go"
    refine forZ (n := ds.length) (by rw [DpAll.len ha, DpAll.len ha', Nat.min_self]) hs hs' (fun i σ H3 => ∃ (v2 v3 : Option V), σ = [some (.ref a), some (.ref b), v2, v3] ∧ Same H1 H3) ⟨none, none, rfl, Same.refl _⟩ (fun i σ H3 ⟨_, _, _, s⟩ => ⟨s.seq hs, s.seq hs'⟩) ?_ ?_
    · rintro i x' y' T σ H3 H4 hx' hy' ⟨v2, v3, rfl, s3⟩ hT s4 gT
      have s34 := s3.trans s4
      obtain ⟨e, he, hxe⟩ := DpAll.get ha hx'
      obtain ⟨e', he', hye⟩ := DpAll.get ha' hy'
      rw [he] at he'
      cases he'
      walk_at "go"
      refine ⟨x', y', e, rfl, Dp.up s34 hxe, Dp.up s34 hye, hd e (List.mem_of_getElem? he), fun H5 s5 => ?_⟩
      walk_at "go"
      exact ⟨_, _, rfl, s34.trans s5⟩
    · rintro σ H3 ⟨v2, v3, rfl, s3⟩
      walk_at "go"
      exact q H3 s3
  | tuple ds =>
    cases hx with | @tup a xs _ hs ha =>
    cases hy with | @tup b ys _ hs' ha' =>
    walk_at "go"
    refine isiX (ty_sqT hs') kb_tuple_int ?_
    walk_at "go"
    refine cut (fun σ H' => σ = [some (.ref a), some (.ref b), none, none] ∧ H' = H) ?_ ?_
    · walk_at "go"
      refine isiX (ty_sqT hs') kb_tuple_tuple ?_
      walk_at "go"
      refine isiX (ty_sqT hs) kb_tuple_tuple ?_
      walk_at "go"
      exact ⟨rfl, rfl⟩
    rintro σ H1 ⟨rfl, rfl⟩
    walk_at "go"
    refine len_t hs (len_t hs' ?_)
    walk_at "go"
    rw [DpAll.len ha, DpAll.len ha']
    walk_at "go"
    refine forZT (n := ds.length) (by rw [DpAll.len ha, DpAll.len ha', Nat.min_self]) hs hs' (fun i σ H3 => ∃ (v2 v3 : Option V), σ = [some (.ref a), some (.ref b), v2, v3] ∧ Same H1 H3) ⟨none, none, rfl, Same.refl _⟩ (fun i σ H3 ⟨_, _, _, s⟩ => ⟨sq_t s hs, sq_t s hs'⟩) ?_ ?_
    · rintro i x' y' T σ H3 H4 hx' hy' ⟨v2, v3, rfl, s3⟩ hT s4 gT
      have s34 := s3.trans s4
      obtain ⟨e, he, hxe⟩ := DpAll.get ha hx'
      obtain ⟨e', he', hye⟩ := DpAll.get ha' hy'
      rw [he] at he'
      cases he'
      walk_at "go"
      refine ⟨x', y', e, rfl, Dp.up s34 hxe, Dp.up s34 hye, hd e (List.mem_of_getElem? he), fun H5 s5 => ?_⟩
      walk_at "go"
      exact ⟨_, _, rfl, s34.trans s5⟩
    · rintro σ H3 ⟨v2, v3, rfl, s3⟩
      walk_at "go"
      exact q H3 s3
end Pb

namespace Pb
/-! ### heights -/
instance : Inhabited Dd := ⟨⟨0, 0, 0⟩⟩
def hbStep (new : Dd) (h : Nat) (p : Dd × Nat) : Nat := if h ≤ p.2 ∧ clash p.1 new = true then p.2 + 1 else h
/-- the height of a deed behind others, whose heights are told beside them -/
def hb (new : Dd) (l : List (Dd × Nat)) : Nat := l.foldl (hbStep new) 0
/-- the first i heights -/
def htsN (ds : List Dd) : Nat → List Nat
  | 0 => []
  | i + 1 => htsN ds i ++ [hb (ds.getD i default) (ds.zip (htsN ds i))]
def hts (ds : List Dd) : List Nat := htsN ds ds.length
theorem htsN_len (ds : List Dd) : ∀ i, (htsN ds i).length = i
  | 0 => rfl
  | i + 1 => by
    show (htsN ds i ++ _).length = i + 1
    rw [List.length_append, htsN_len ds i]
    rfl
theorem hts_len (ds : List Dd) : (hts ds).length = ds.length := htsN_len ds _
theorem fold_take {α β : Type} (f : β → α → β) (b : β) {l : List α} {i : Nat} {x : α} (h : l[i]? = some x) : (l.take (i + 1)).foldl f b = f ((l.take i).foldl f b) x := by
  rw [List.take_add_one, h, List.foldl_append]
  rfl
/-- numbers from nought, as values -/
abbrev nv (ns : List Nat) : List V := ns.map fun n : Nat => V.int (n : Int)
theorem nv_at {ns : List Nat} {i : Nat} {v : V} (h : (nv ns)[i]? = some v) : ∃ n : Nat, ns[i]? = some n ∧ v = .int (n : Int) := by
  rw [List.getElem?_map] at h
  cases e : ns[i]? with
  | none => rw [e] at h; cases h
  | some n =>
    rw [e] at h
    exact ⟨n, rfl, (Option.some.inj h).symm⟩
theorem nv_get {ns : List Nat} {i n : Nat} (h : ns[i]? = some n) : (nv ns)[i]? = some (.int (n : Int)) := by
  rw [List.getElem?_map, h]
  rfl
theorem ref_get {as : List Addr} {i : Nat} {v : V} (h : (as.map V.ref)[i]? = some v) : ∃ a, as[i]? = some a ∧ v = .ref a := by
  rw [List.getElem?_map] at h
  cases e : as[i]? with
  | none => rw [e] at h; cases h
  | some n =>
    rw [e] at h
    exact ⟨n, rfl, (Option.some.inj h).symm⟩

theorem htsN_take (ds : List Dd) : ∀ {i j : Nat}, i ≤ j → (htsN ds j).take i = htsN ds i
  | i, 0, h => by
    have : i = 0 := by omega
    subst this
    rfl
  | i, j + 1, h => by
    by_cases e : i = j + 1
    · subst e
      exact List.take_of_length_le (by rw [htsN_len]; exact Nat.le_refl _)
    · show (htsN ds j ++ _).take i = _
      rw [List.take_append_of_le_length (by rw [htsN_len]; omega)]
      exact htsN_take ds (by omega)
theorem hts_at {ds : List Dd} {k : Nat} (h : k < ds.length) : (hts ds)[k]? = some (hb (ds.getD k default) (ds.zip (htsN ds k))) := by
  have e : (htsN ds (k + 1))[k]? = some (hb (ds.getD k default) (ds.zip (htsN ds k))) := by
    show (htsN ds k ++ [_])[k]? = _
    rw [List.getElem?_append_right (by rw [htsN_len]; exact Nat.le_refl _), htsN_len, Nat.sub_self]
    rfl
  rw [← htsN_take ds (show k + 1 ≤ ds.length by omega), List.getElem?_take, if_pos (by omega)] at e
  exact e
theorem htsN_at {ds : List Dd} {j k : Nat} (hj : j < k) (h : k ≤ ds.length) : (htsN ds k)[j]? = (hts ds)[j]? := by
  rw [hts, ← htsN_take ds h, List.getElem?_take, if_pos hj]
theorem htsN_pre (ds : List Dd) (m : Nat) : ∀ i, i ≤ m → i ≤ ds.length → htsN (ds.take m) i = htsN ds i
  | 0, _, _ => rfl
  | i + 1, h, h' => by
    have e := htsN_pre ds m i (by omega) (by omega)
    have g : (ds.take m).getD i default = ds.getD i default := by
      rw [List.getD_eq_getElem?_getD, List.getD_eq_getElem?_getD, List.getElem?_take, if_pos (by omega)]
    have z : (ds.take m).zip (htsN ds i) = ds.zip (htsN ds i) := by
      have key : ∀ (ns : List Nat) (ds : List Dd) (m : Nat), ns.length ≤ m → (ds.take m).zip ns = ds.zip ns := by
        intro ns
        induction ns with
        | nil => intro ds m _; simp
        | cons n r ih =>
          intro ds m hm
          cases ds with
          | nil => simp
          | cons d ds =>
            cases m with
            | zero => simp at hm
            | succ m =>
              rw [List.take_succ_cons, List.zip_cons_cons, List.zip_cons_cons, ih ds m (by simpa using hm)]
      exact key _ _ _ (by rw [htsN_len]; omega)
    show htsN (ds.take m) i ++ [_] = htsN ds i ++ [_]
    rw [e, g, z]
theorem hts_take (ds : List Dd) (m : Nat) : hts (ds.take m) = (hts ds).take m := by
  by_cases h : m ≤ ds.length
  · rw [hts, hts, List.length_take, Nat.min_eq_left h, htsN_pre ds m m (Nat.le_refl _) h, htsN_take ds h]
  · rw [List.take_of_length_le (by omega), List.take_of_length_le (by rw [hts_len]; omega)]
theorem nv_ok (ns : List Nat) : okD 2 (.list (ns.map fun n : Nat => PyData.int (n : Int))) := fun e he => by
  obtain ⟨d, _, rfl⟩ := List.mem_map.mp he
  trivial
theorem nv_dp {K : PySem.W.Frag} {H : Hp} {p : Addr} {ns : List Nat} (h : H p = some (.lst (nv ns))) : Dp K H (.ref p) (.list (ns.map fun n : Nat => PyData.int (n : Int))) := by
  refine .lst (.of h) ?_
  clear h
  induction ns with
  | nil => exact .nil
  | cons n r ih => exact .cons (.int _) ih

def sp_height_behind (K : PySem.W.Frag) : Sp := fun vs H Q _ => ∃ a p q d as ds ns, vs = [.ref a, .ref p, .ref q] ∧ TD H a d ∧ LD H p as ds ∧ H q = some (.lst (nv ns)) ∧ ∀ H', Same H H' → Q (.int (hb d (ds.zip ns) : Nat)) H'
theorem len_height_behind {K vs H Q E} (h : sp_height_behind K vs H Q E) : vs.length = 3 := by
  obtain ⟨a, p, q, d, as, ds, ns, rfl, _⟩ := h
  rfl
abbrev n_height_behind : List Str := ["new", "diary", "known", "height", "old", "level"]
def t_height_behind (K : PySem.W.Frag) : TS :=
  (tSeq (tAsg (tC (.int 0)) (gName 3))
  (tSeq (tFor (RZ.iZipA K (tCons (tVar 1) (tCons (tVar 2) tNil))) (gTup K 2 (gCons (gName 4) (gCons (gName 5) gNil)))
  (tIfS (tAnd (tTest (tOp rGe (tVar 5) (tVar 3))) (tB (tCall (sp_clash K) [] E0 (tCons (tVar 4) (tCons (tVar 0) tNil)))))
  (tAsg (tOp rPlus (tVar 5) (tC (.int 1))) (gName 3))
  tNext))
  (tRet (tVar 3))))
theorem r_height_behind {K vs H Q E} (h : sp_height_behind K vs H Q E) : t_height_behind K { nx := fun _ H' => Q .non H', rt := Q } (start n_height_behind vs) H := by
  obtain ⟨a, p, q, d, as, ds, ns, rfl, ha, hp, hq, k⟩ := h
  unfold t_height_behind
  walk_at "go"
  refine forZ (n := min as.length ns.length) (by simp) (.of hp.1) (.of hq) (fun i σ H3 => ∃ (v4 v5 : Option V), σ = [some (.ref a), some (.ref p), some (.ref q), some (.int ((((ds.zip ns).take i).foldl (hbStep d) 0 : Nat) : Int)), v4, v5] ∧ Same H H3)
    ⟨none, none, rfl, Same.refl _⟩ (fun i σ H3 ⟨_, _, _, s⟩ => ⟨s.seq (.of hp.1), s.seq (.of hq)⟩) ?_ ?_
  · rintro i x y T σ H3 H4 hx hy ⟨v4, v5, rfl, s3⟩ hT s4 gT
    have s34 := s3.trans s4
    obtain ⟨b, hb', rfl⟩ := ref_get hx
    obtain ⟨n, hn, rfl⟩ := nv_at hy
    obtain ⟨e, he, hbe⟩ := hp.2.get hb'
    have hz : (ds.zip ns)[i]? = some (e, n) := List.getElem?_zip_eq_some.mpr ⟨he, hn⟩
    have hf := fold_take (hbStep d) 0 hz
    generalize ((ds.zip ns).take i).foldl (hbStep d) 0 = h0 at hf
    walk_at "go"
    refine ite2 (fun c => ?_) (fun c => ?_)
    · walk_at "go"
      refine ⟨b, a, e, d, rfl, s34 _ _ hbe, s34 _ _ ha, ?_⟩
      walk_at "go"
      refine ite2 (fun c2 => ?_) (fun c2 => ?_)
      · refine ⟨some (.ref b), some (.int (n : Int)), ?_, s34⟩
        rw [hf, hbStep, if_pos ⟨by simpa using c, c2⟩]
        rfl
      · refine ⟨some (.ref b), some (.int (n : Int)), ?_, s34⟩
        rw [hf, hbStep, if_neg (fun h => c2 h.2)]
    · refine ⟨some (.ref b), some (.int (n : Int)), ?_, s34⟩
      rw [hf, hbStep, if_neg (fun h => c (by simpa using h.1))]
  · rintro σ H3 ⟨v4, v5, rfl, s3⟩
    walk_at "go"
    have e : (ds.zip ns).take (min as.length ns.length) = ds.zip ns := List.take_of_length_le (by rw [List.length_zip, hp.2.len]; exact Nat.le_refl _)
    rw [e]
    exact k H3 s3

def sp_heights (K : PySem.W.Frag) : Sp := fun vs H Q _ => ∃ p as ds, vs = [.ref p] ∧ LD H p as ds ∧ as.length ≤ 500 ∧ ∀ q H', H q = none → Same H H' → H' q = some (.lst (nv (hts ds))) → Q (.ref q) H'
theorem len_heights {K vs H Q E} (h : sp_heights K vs H Q E) : vs.length = 1 := by
  obtain ⟨p, as, ds, rfl, _⟩ := h
  rfl
abbrev n_heights : List Str := ["diary", "known", "new"]
def t_heights (K : PySem.W.Frag) : TS :=
  (tSeq (tAsg (tLst tNil) (gName 1))
  (tSeq (tFor (iList K (tVar 0)) (gName 2)
  (tDrop (tBM K "list" rAppend (tVar 1) (tCons (tCall (sp_height_behind K) [] E0 (tCons (tVar 2) (tCons (tVar 0) (tCons (tVar 1) tNil)))) tNil))))
  (tRet (tVar 1))))
theorem r_heights {K vs H Q E} (h : sp_heights K vs H Q E) : t_heights K { nx := fun _ H' => Q .non H', rt := Q } (start n_heights vs) H := by
  obtain ⟨p, as, ds, rfl, hp, hl, k⟩ := h
  unfold t_heights
  walk_at "go"
  refine lstQ fun q H1 hq s1 g1 => ?_
  walk_at "go"
  refine forL (.of (s1 _ _ hp.1)) (fun i σ H3 => ∃ (v2 : Option V), σ = [some (.ref p), some (.ref q), v2] ∧ Same H H3 ∧ H3 q = some (.lst (nv (htsN ds i)))) ⟨none, rfl, s1, g1⟩ (fun i σ H3 _ ⟨_, _, s, _⟩ => s.seq (.of hp.1)) ?_ ?_
  · rintro i x σ H3 hx ⟨v2, rfl, s3, g3⟩
    obtain ⟨a, ha, rfl⟩ := ref_get hx
    obtain ⟨d, hd, hTD⟩ := hp.2.get ha
    have hi := (List.getElem?_eq_some_iff.mp ha).1
    walk_at "go"
    refine ⟨ty_l g3, a, p, q, d, as, ds, htsN ds i, rfl, s3 _ _ hTD, hp.mono s3, g3, fun H4 s4 => ?_⟩
    walk_at "go"
    refine append_r (s3.trans s4) hq (s4 _ _ g3) (by rw [List.length_map, htsN_len]; omega) fun H5 s5 g5 _ => ?_
    refine ⟨_, rfl, s5, ?_⟩
    rw [g5]
    have : ds.getD i default = d := by simp [List.getD, hd]
    simp only [htsN, this, List.map_append, List.map_cons, List.map_nil]
  · rintro σ H3 ⟨v2, rfl, s3, g3⟩
    walk_at "go"
    rw [List.length_map, hp.2.len] at g3
    exact k q H3 hq s3 g3
end Pb

namespace Pb
/-! ### heights, in plain words -/
theorem hb_fold (d : Dd) : ∀ (l : List (Dd × Nat)) (h0 : Nat), h0 ≤ l.foldl (hbStep d) h0 ∧ (∀ p ∈ l, clash p.1 d = true → p.2 < l.foldl (hbStep d) h0) ∧ (l.foldl (hbStep d) h0 = h0 ∨ ∃ p ∈ l, clash p.1 d = true ∧ l.foldl (hbStep d) h0 = p.2 + 1)
  | [], h0 => ⟨Nat.le_refl _, by simp, .inl rfl⟩
  | p :: r, h0 => by
    obtain ⟨a, b, c⟩ := hb_fold d r (hbStep d h0 p)
    rw [List.foldl_cons]
    have s1 : h0 ≤ hbStep d h0 p := by
      unfold hbStep
      split
      · omega
      · exact Nat.le_refl _
    have s2 : clash p.1 d = true → p.2 < hbStep d h0 p := fun hc => by
      unfold hbStep
      by_cases h : h0 ≤ p.2
      · rw [if_pos ⟨h, hc⟩]
        omega
      · rw [if_neg (fun q => h q.1)]
        omega
    refine ⟨Nat.le_trans s1 a, fun q hq hc => ?_, ?_⟩
    · rcases List.mem_cons.mp hq with rfl | hq
      · exact Nat.lt_of_lt_of_le (s2 hc) a
      · exact b q hq hc
    · rcases c with c | ⟨q, hq, hc, e⟩
      · by_cases h : h0 ≤ p.2 ∧ clash p.1 d = true
        · refine .inr ⟨p, by simp, h.2, ?_⟩
          rw [c, hbStep, if_pos h]
        · refine .inl ?_
          rw [c, hbStep, if_neg h]
      · exact .inr ⟨q, by simp [hq], hc, e⟩
/-- what heights are: two facts -/
structure IsH (ds : List Dd) (ns : List Nat) : Prop where
  len : ns.length = ds.length
  lt : ∀ (j k : Nat) dj dk nj nk, j < k → ds[j]? = some dj → ds[k]? = some dk → ns[j]? = some nj → ns[k]? = some nk → clash dj dk = true → nj < nk
  pred : ∀ (k : Nat) (dk : Dd) (n : Nat), ds[k]? = some dk → ns[k]? = some (n + 1) → ∃ (j : Nat) (dj : Dd), j < k ∧ ds[j]? = some dj ∧ ns[j]? = some n ∧ clash dj dk = true
theorem hts_isH (ds : List Dd) : IsH ds (hts ds) := by
  have at_ : ∀ (k : Nat) dk nk, ds[k]? = some dk → (hts ds)[k]? = some nk → nk = hb dk (ds.zip (htsN ds k)) := fun k dk nk h1 h2 => by
    have hk := (List.getElem?_eq_some_iff.mp h1).1
    have e := hts_at hk
    rw [h2] at e
    have eg : ds.getD k default = dk := by simp [List.getD, h1]
    rw [eg] at e
    exact Option.some.inj e
  have zip_ : ∀ (k j : Nat) (p : Dd × Nat), k ≤ ds.length → ((ds.zip (htsN ds k))[j]? = some p ↔ j < k ∧ ds[j]? = some p.1 ∧ (hts ds)[j]? = some p.2) := fun k j p hk => by
    rw [List.getElem?_zip_eq_some]
    constructor
    · rintro ⟨a, b⟩
      have hj := (List.getElem?_eq_some_iff.mp b).1
      rw [htsN_len] at hj
      rw [htsN_at hj hk] at b
      exact ⟨hj, a, b⟩
    · rintro ⟨hj, a, b⟩
      rw [htsN_at hj hk]
      exact ⟨a, b⟩
  refine ⟨hts_len ds, fun j k dj dk nj nk hjk h1 h2 h3 h4 hc => ?_, fun k dk n h1 h2 => ?_⟩
  · rw [at_ k dk nk h2 h4]
    have hk := (List.getElem?_eq_some_iff.mp h2).1
    have hm : (dj, nj) ∈ ds.zip (htsN ds k) := List.mem_of_getElem? ((zip_ k j (dj, nj) (by omega)).mpr ⟨hjk, h1, h3⟩)
    exact (hb_fold dk _ 0).2.1 _ hm hc
  · have hk := (List.getElem?_eq_some_iff.mp h1).1
    have e := at_ k dk (n + 1) h1 h2
    rcases (hb_fold dk (ds.zip (htsN ds k)) 0).2.2 with h | ⟨p, hp, hc, h⟩
    · unfold hb at e
      omega
    · obtain ⟨j, hj⟩ := List.getElem?_of_mem hp
      obtain ⟨a, b, c⟩ := (zip_ k j p (by omega)).mp hj
      have : p.2 = n := by
        unfold hb at e
        omega
      exact ⟨j, p.1, a, b, by rw [c, this], hc⟩
/-- the two facts fix the heights -/
theorem IsH.uniq {ds : List Dd} {ns ms : List Nat} (a : IsH ds ns) (b : IsH ds ms) : ns = ms := by
  have key : ∀ (ns ms : List Nat), IsH ds ns → IsH ds ms → ∀ (k : Nat), (∀ j : Nat, j < k → ns[j]? = ms[j]?) → ∀ n m, ns[k]? = some n → ms[k]? = some m → n ≤ m := fun ns ms a b k ih n m h1 h2 => by
    cases n with
    | zero => exact Nat.zero_le _
    | succ n =>
      have hk := (List.getElem?_eq_some_iff.mp h1).1
      rw [a.len] at hk
      obtain ⟨j, dj, hj, e1, e2, e3⟩ := a.pred k _ n (List.getElem?_eq_getElem hk) h1
      exact b.lt j k dj _ n m hj e1 (List.getElem?_eq_getElem hk) (by rw [← ih j hj]; exact e2) h2 e3
  apply List.ext_getElem?
  intro k
  induction k using Nat.strongRecOn with
  | _ k ih =>
    by_cases hk : k < ds.length
    · obtain ⟨n1, h1⟩ : ∃ n, ns[k]? = some n := ⟨_, List.getElem?_eq_getElem (show k < ns.length by rw [a.len]; exact hk)⟩
      obtain ⟨n2, h2⟩ : ∃ n, ms[k]? = some n := ⟨_, List.getElem?_eq_getElem (show k < ms.length by rw [b.len]; exact hk)⟩
      have l1 := key ns ms a b k ih _ _ h1 h2
      have l2 := key ms ns b a k (fun j hj => (ih j hj).symm) _ _ h2 h1
      rw [h1, h2, Nat.le_antisymm l1 l2]
    · rw [List.getElem?_eq_none (by rw [a.len]; omega), List.getElem?_eq_none (by rw [b.len]; omega)]
/-- equal deeds: the later one is no lower -/
theorem IsH.mono {ds : List Dd} {ns : List Nat} (a : IsH ds ns) {j k : Nat} {d : Dd} {nj nk : Nat} (hjk : j ≤ k) (h1 : ds[j]? = some d) (h2 : ds[k]? = some d) (h3 : ns[j]? = some nj) (h4 : ns[k]? = some nk) : nj ≤ nk := by
  cases nj with
  | zero => exact Nat.zero_le _
  | succ n =>
    obtain ⟨i, di, hi, e1, e2, e3⟩ := a.pred j d n h1 h3
    exact a.lt i k di d n nk (by omega) e1 h2 e2 h4 e3
/-- one more than the greatest height -/
def tops (ns : List Nat) : Nat := ns.foldl (fun t h => max t (h + 1)) 0
theorem tops_snoc (ns : List Nat) (h : Nat) : tops (ns ++ [h]) = max (tops ns) (h + 1) := by
  unfold tops
  rw [List.foldl_append]
  rfl
theorem tops_fold : ∀ (ns : List Nat) (t : Nat), t ≤ ns.foldl (fun t h => max t (h + 1)) t ∧ (∀ n ∈ ns, n < ns.foldl (fun t h => max t (h + 1)) t) ∧ (ns.foldl (fun t h => max t (h + 1)) t = t ∨ ∃ n ∈ ns, ns.foldl (fun t h => max t (h + 1)) t = n + 1)
  | [], t => ⟨Nat.le_refl _, by simp, .inl rfl⟩
  | n :: r, t => by
    obtain ⟨a, b, c⟩ := tops_fold r (max t (n + 1))
    rw [List.foldl_cons]
    refine ⟨by omega, fun m hm => ?_, ?_⟩
    · rcases List.mem_cons.mp hm with rfl | hm
      · omega
      · exact b m hm
    · rcases c with c | ⟨m, hm, c⟩
      · by_cases h : t ≤ n
        · exact .inr ⟨n, by simp, by omega⟩
        · exact .inl (by omega)
      · exact .inr ⟨m, by simp [hm], c⟩
theorem tops_lt {ns : List Nat} {n : Nat} (h : n ∈ ns) : n < tops ns := (tops_fold ns 0).2.1 n h
theorem tops_mem {ns : List Nat} (h : tops ns ≠ 0) : ∃ n ∈ ns, tops ns = n + 1 := by
  rcases (tops_fold ns 0).2.2 with e | e
  · exact absurd e h
  · exact e
/-- no height is left out -/
theorem IsH.full {ds : List Dd} {ns : List Nat} (a : IsH ds ns) {h : Nat} (hh : h < tops ns) : ∃ k : Nat, ns[k]? = some h := by
  have key : ∀ (m h : Nat), (∃ k : Nat, ns[k]? = some (h + m)) → ∃ k : Nat, ns[k]? = some h := by
    intro m
    induction m with
    | zero => exact fun h e => e
    | succ m ih =>
      rintro h ⟨k, hk⟩
      have hl := (List.getElem?_eq_some_iff.mp hk).1
      rw [a.len] at hl
      obtain ⟨j, _, _, _, e, _⟩ := a.pred k _ (h + m) (List.getElem?_eq_getElem hl) hk
      exact ih h ⟨j, e⟩
  obtain ⟨n, hn, e⟩ := tops_mem (ns := ns) (by omega)
  obtain ⟨k, hk⟩ := List.getElem?_of_mem hn
  exact key (n - h) h ⟨k, by rw [hk]; congr 1; omega⟩
/-! ### the order of deeds, sorted rows -/
def ltD (a b : Dd) : Bool := decide (a.n < b.n ∨ (a.n = b.n ∧ (a.l < b.l ∨ (a.l = b.l ∧ a.c < b.c))))
def leD (a b : Dd) : Bool := !ltD b a
theorem leD_total (a b : Dd) : (leD a b || leD b a) = true := by
  unfold leD ltD
  rw [Bool.or_eq_true, Bool.not_eq_true', Bool.not_eq_true', decide_eq_false_iff_not, decide_eq_false_iff_not]
  omega
theorem leD_trans (a b c : Dd) (h1 : leD a b = true) (h2 : leD b c = true) : leD a c = true := by
  unfold leD ltD at *
  rw [Bool.not_eq_true', decide_eq_false_iff_not] at *
  omega
theorem leD_anti {a b : Dd} (h1 : leD a b = true) (h2 : leD b a = true) : a = b := by
  unfold leD ltD at *
  rw [Bool.not_eq_true', decide_eq_false_iff_not] at *
  obtain ⟨n, l, c⟩ := a
  obtain ⟨n', l', c'⟩ := b
  simp only at h1 h2
  have e1 : n = n' := by omega
  have e2 : l = l' := by omega
  have e3 : c = c' := by omega
  rw [e1, e2, e3]
def sortD (ds : List Dd) : List Dd := ds.mergeSort leD
theorem sortD_perm (ds : List Dd) : (sortD ds).Perm ds := List.mergeSort_perm ds leD
theorem sortD_pw (ds : List Dd) : (sortD ds).Pairwise fun a b => leD a b = true := List.pairwise_mergeSort leD_trans leD_total ds
theorem pw_uniq : ∀ {l m : List Dd}, l.Perm m → l.Pairwise (fun a b => leD a b = true) → m.Pairwise (fun a b => leD a b = true) → l = m := fun {l m} p h1 h2 => p.eq_of_pairwise (fun a b _ _ ha hb => leD_anti ha hb) h1 h2
theorem sortD_uniq {l m : List Dd} (p : l.Perm m) : sortD l = sortD m := pw_uniq ((sortD_perm l).trans (p.trans (sortD_perm m).symm)) (sortD_pw l) (sortD_pw m)
theorem sortD_id {l : List Dd} (h : l.Pairwise fun a b => leD a b = true) : sortD l = l := pw_uniq (sortD_perm l) (sortD_pw l) h
/-- the deeds of a height, in the diary's order -/
def rowAt (l : List (Dd × Nat)) (h : Nat) : List Dd := (l.filter fun p => p.2 == h).map (·.1)
def rowsN (l : List (Dd × Nat)) (t : Nat) : List (List Dd) := (List.range t).map (rowAt l)
def laidM (ds : List Dd) (ns : List Nat) : List (List Dd) := (rowsN (ds.zip ns) (tops ns)).map sortD
def layersM (ds : List Dd) : List (List Dd) := laidM ds (hts ds)
theorem rowAt_snoc (l : List (Dd × Nat)) (d : Dd) (n h : Nat) : rowAt (l ++ [(d, n)]) h = if n = h then rowAt l h ++ [d] else rowAt l h := by
  unfold rowAt
  rw [List.filter_append, List.map_append]
  by_cases e : n = h
  · rw [if_pos e]
    simp [e]
  · rw [if_neg e]
    simp [e]
theorem rowAt_none {l : List (Dd × Nat)} {h : Nat} (hl : ∀ p ∈ l, p.2 < h) : rowAt l h = [] := by
  unfold rowAt
  rw [List.filter_eq_nil_iff.mpr, List.map_nil]
  intro p hp
  have := hl p hp
  simp
  omega
end Pb

namespace Pb
open PySem PySem.Spec L2
/-! ### sorted(xs), xs of any data -/
/-- the values beside their data, in order -/
def srt (xs : List V) (ds : List PyData) : List V := ((xs.zip ds).mergeSort (PySem.W.dataLe false (·.2))).map (·.1)
def rSortedD (K : PySem.W.Frag) : List V → Hp → VK → Prop := fun vs H Q => ∃ (a : Addr) (xs : List V) (ds : List PyData), vs = [V.ref a] ∧ SqL K H a xs ∧ DpAll K H xs ds ∧ PySem.W.AllAlike ds ∧ PySem.W.Sortable ds ∧ (∀ d ∈ ds, d.depth ≤ 40) ∧
  ∀ p, H p = none → Q (.ref p) (upd H p (.lst (srt xs ds)))
theorem each_zip {h : Heap} : ∀ {xs : List V} {us : List Value} {ds : List PyData} {as : List Addr}, Vals xs us → ReadsAll h us ds as → PySem.W.EachIs (fun (v : Value) (b : V × PyData) => RelV b.1 v) us (xs.zip ds) ∧ PySem.W.EachIs (fun (v : Value) (b : V × PyData) => ∃ bs, Reads h v b.2 bs) us (xs.zip ds)
  | [], _, ds, _, .nil, r => by
    cases r
    exact ⟨.nil, .nil⟩
  | x :: xs, _, ds, _, .cons rx rxs, r => by
    cases r with
    | cons r1 r2 =>
      obtain ⟨h1, h2⟩ := each_zip rxs r2
      exact ⟨.cons rx h1, .cons ⟨_, r1⟩ h2⟩
theorem each_vals : ∀ {us : List Value} {bs : List (V × PyData)}, PySem.W.EachIs (fun (v : Value) (b : V × PyData) => RelV b.1 v) us bs → Vals (bs.map (·.1)) us
  | _, _, .nil => .nil
  | _, _, .cons h t => .cons h (each_vals t)
theorem zip_snd {xs : List V} {ds : List PyData} (h : xs.length = ds.length) : (xs.zip ds).map (·.2) = ds := by
  rw [← List.unzip_snd, List.unzip_zip h]
theorem cr_sortedD {X : Cx} (hu : X.A.units + 64 < cLine) : CallR X (.builtin "sorted") (rSortedD X.K) := by
  intro pins s σ H vs us Q I r h
  obtain ⟨a, xs, ds, rfl, hs, hd, hal, hk, hdep, q⟩ := h
  obtain ⟨its, rv, hl, hz⟩ := I.list hs
  rw [Vals.ref1 r]
  obtain ⟨as, hr⟩ := Dp.readsAll I ds xs its hd rv
  obtain ⟨e1, e2⟩ := each_zip rv hr
  have hlen : xs.length = ds.length := by
    have := e1.length
    rw [List.length_zip, ← rv.length] at this
    have h2 := SeqAt.ReadsAll.length ds its as hr
    rw [← rv.length] at h2
    exact h2
  have eds : (xs.zip ds).map (·.2) = ds := zip_snd hlen
  refine PySem.W.sorted_data (enc := fun b : V × PyData => b.2) (vs := its) hl.isList e1 e2 (by rw [eds]; exact hal) (by rw [eds]; exact hk) (by rw [List.length_zip]; omega) ?_ ?_
  · intro b hb
    have : b.2 ∈ ds := by
      rw [← eds]
      exact List.mem_map_of_mem hb
    have := hdep _ this
    omega
  · intro out ho he
    obtain ⟨ep, he'⟩ := PyProof.Rows.sortedAll_at s.heap its out.toArray
    have hlen2 : (srt xs ds).length ≤ sizeLine := by
      unfold srt
      rw [List.length_map, List.length_mergeSort, List.length_zip]
      omega
    refine ⟨.ref _, upd H (s.heap.objs.size + 1) (.lst (srt xs ds)), I.laid (t' := s.toks) (fun _ _ => PyProof.Rows.sortedAll_old) (Nat.le_succ _) ⟨hlen2, out, ep, each_vals he, ?_⟩, rfl, q _ (I.hok.fresh (Nat.le_succ _))⟩
    simpa using he'
end Pb
namespace Pb
open PySem PySem.Spec L2
/-! ### xs.remove(y), y in xs, of data -/
def rRemD (K : PySem.W.Frag) : V → List V → Hp → VK → Prop := fun x vs H Q => ∃ (l : Addr) (xs : List V) (ds : List PyData) (y : V) (d : PyData) (j : Nat), x = .ref l ∧ vs = [y] ∧ H l = some (.lst xs) ∧ DpAll K H xs ds ∧ Dp K H y d ∧
  SeqAt.shaped (.list ds) = true ∧ SeqAt.shaped d = true ∧ ds.findIdx? (fun z => PyData.eqv z d) = some j ∧ Q .non (upd H l (.lst (xs.eraseIdx j)))
theorem mt_removeD {X : Cx} (hu : X.A.units + 65 < cLine) : MtR X "list.remove" (rRemD X.K) := by
  intro pins s σ H x vs v us Q I rx rvs h
  obtain ⟨l, xs, ds, y, d, j, rfl, rfl, hl, hds, hy, s1, s2, hj, q⟩ := h
  cases rx
  obtain ⟨u, rfl, ry⟩ := rvs.one
  obtain ⟨hz, its, n, rv, hlen, e⟩ := I.lstM hl
  obtain ⟨as, hr⟩ := Dp.readsAll I ds xs its hds rv
  obtain ⟨bs, r1⟩ := Dp.reads I d y u hy ry
  have c1 : PyData.canLayAll0 ds = true := SeqAt.canLay_of_shaped s1
  have c2 : d.canLay0 = true ∧ d.depth ≤ 64 := by
    have : (d.canLay0 && decide (d.depth ≤ 64)) = true := s2
    rw [Bool.and_eq_true] at this
    exact ⟨this.1, of_decide_eq_true this.2⟩
  refine SeqAt.remove_list_data (vs := its.toArray) (xs := ds) ⟨_, e, rfl, n, rfl⟩ hr r1 (PyData.plainAll_of_canLay0 _ c1) (PyData.plain_of_canLay0 _ c2.1) (by omega) hj (by rw [List.size_toArray, ← hlen]; exact hz) ?_
  refine ⟨.non, _, I.lset (ys := xs.eraseIdx j) (its' := its.eraseIdx j) (t' := s.toks) hl e ?_ (rv.eraseIdx j) (Nat.le_trans (L2.len_erase _ _) hz), rfl, q⟩
  simp
end Pb

namespace Pb
open PySem PySem.Spec L2
/-! ### list(an iterator that walks) -/
section
variable {prog : Program} {w : World} {A : Around} {E : Value → Shared → Prop} {s : Shared} {I : Addr} {fp wr : List Addr} {n : Nat} {P : Nat → Value → Prop} {St : Nat → Heap → Prop} {T : String}
/-- what is asked of the iterator besides its walk -/
structure ItSrc (prog : Program) (w : World) (T : String) (I : Addr) (fp wr : List Addr) (n : Nat) (P : Nat → Value → Prop) (St : Nat → Heap → Prop) : Prop where
  walk : ∀ A : Around, A.handled = none → Walks prog w A I fp wr n P St
  mem : I ∈ fp
  wrs : ∀ b ∈ wr, b ∈ fp
  typ : ∀ s : Shared, St 0 s.heap → s.TypeIs (.ref I) T
  notL : (Value.type T == Value.type "list") = false
  notT : (Value.type T == Value.type "tuple") = false
  hint : ∀ (A : Around) (E : Value → Shared → Prop) (s : Shared) (Q : Bool → Shared → Prop), St 0 s.heap → (∀ tk, Q false { s with toks := tk }) → wpAny (model prog w) A (Builtin.List.listLengthHint (.ref I)) Q E s
theorem it_extend {R : Result → Shared → Prop} (K : ItSrc prog w T I fp wr n P St) (hh : A.handled = none) (st : St 0 s.heap) (Z : Addr) (hZ : Z ∉ fp) (res : Value) (c₀ : Nat) (gZ : s.heap.get? Z = some { cls := .type "list", data := .seq #[] c₀ }) (hn : n ≤ sizeLine)
    (hR : ∀ h' tk acc' c', (∀ b o, b ≠ Z → b ∉ wr → s.heap.get? b = some o → h'.get? b = some o) → h'.get? Z = some { cls := .type "list", dict := none, data := .seq acc' c', slots := #[] } → ItemsOf P acc' n → R (.ok (.ret res)) { s with heap := h', toks := tk }) :
    wpAny (model prog w) A.in1 (Builtin.List.listExtendWith (.ref Z) (.ref I) res) (fun fin s' => match fin with | .done f => R (.ok f) s' | .again c' => c'.quiet = true ∧ codeAny (model prog w) A c' R s') (fun e s' => R (.error e) s') s := by
  have W := K.walk A.in1 hh
  have nZI : Z ≠ I := fun e => hZ (by rw [e]; exact K.mem)
  have sameF : Builtin.List.listSameRef (.ref Z) (.ref I) = false := by
    unfold Builtin.List.listSameRef
    simp [nZI]
  unfold Builtin.List.listExtendWith
  refine wpAny_bind (wpAny_typeOf (K.typ s st) ?_)
  simp only [sameF, K.notL, K.notT, Bool.or_false, Bool.false_eq_true, if_false]
  refine wpAny_bind (W.self 0 s _ _ st (wpAny_bind (wpAny_holding (K.hint _ _ _ _ st fun tk => ?_))))
  have done : ∀ (h : Heap) (c₁ tk : Nat), St 0 h → h.get? Z = some { cls := .type "list", data := .seq #[] c₁ } → (∀ b o, b ≠ Z → s.heap.get? b = some o → h.get? b = some o) →
      codeAny (model prog w) A (.builtin "list.extend.loop" ⟨[.ref Z, .ref I, res], []⟩) R { s with heap := h, toks := tk } := fun h c₁ tk st g k => by
    refine codeAny_extend_loopS (R := R) W.toS hn Z hZ res n 0 { s with heap := h, toks := tk } #[] c₁ rfl (Nat.zero_le n) st g (ItemsOf.nil P) fun s' acc' c' hm g hacc => ?_
    rw [Moved.eq_with hm]
    exact hR s'.heap s'.toks acc' c' (fun b o hb hw e => hm.heap b o (fun hmem => (List.mem_cons.mp hmem).elim hb hw) (k b o hb e)) g hacc
  refine wpAny_ite_split (fun _ => wpAny_bind (wpAny_rule (wpAny_bind ?_))) (fun _ => wpAny_pure ⟨plainId_quiet PySem.F.plain_extend_loop _, done s.heap c₀ tk st gZ fun _ _ _ e => e⟩)
  show wpAny _ _ (updateSeq Z (fun xs => xs.push .none) >>= fun _ => updateSeq Z (fun xs => xs.pop)) _ _ _
  refine wpAny_bind (wpAny_updateSeq (s := { s with toks := tk }) gZ rfl ?_)
  have g1 := Heap.get?_update_self (Obj.mapSeq fun xs => xs.push Value.none) gZ rfl
  refine wpAny_updateSeq (hz := by seq_fits) g1 rfl ?_
  have g2 := Heap.get?_update_self (Obj.mapSeq fun xs => xs.pop) g1 rfl
  have k2 : ∀ b o, b ≠ Z → s.heap.get? b = some o → ((s.heap.update Z (Obj.mapSeq fun xs => xs.push Value.none)).update Z (Obj.mapSeq fun xs => xs.pop)).get? b = some o := fun b o hb e =>
    (Heap.get?_update_other _ _ hb.symm).trans ((Heap.get?_update_other _ _ hb.symm).trans e)
  exact wpAny_pure ⟨plainId_quiet PySem.F.plain_extend_loop _, done _ _ tk (W.frame 0 _ _ st fun b hb o e => k2 b o (fun q => hZ (by rw [← q]; exact hb)) e) g2 k2⟩
theorem it_list {Q : Value → Shared → Prop} (K : ItSrc prog w T I fp wr n P St) (hh : A.handled = none) (st : St 0 s.heap) (hfp : ∀ b ∈ fp, b < s.heap.objs.size) (hn : n ≤ sizeLine)
    (hQ : ∀ h' tk acc' c', (∀ b o, b ∉ wr → s.heap.get? b = some o → h'.get? b = some o) → h'.get? s.heap.objs.size = some { cls := .type "list", dict := none, data := .seq acc' c', slots := #[] } → ItemsOf P acc' n → Q (.ref s.heap.objs.size) { s with heap := h', toks := tk }) :
    wpAny (model prog w) A (call (.type "list") [.ref I]) Q E s := by
  have hZ : s.heap.objs.size ∉ fp := fun hm => Nat.lt_irrefl _ (hfp _ hm)
  refine callType_codes (Q₁ := fun obj s1 => obj = Value.ref s.heap.objs.size ∧ s1 = { s with heap := s.heap.push { cls := .type "list", data := .seq #[] } }) PySem.F.called_list (PySem.F.typeCall_list_1 _) PySem.F.entry_list_init (code_list_new _ ⟨rfl, rfl⟩) ?_
  rintro obj s1 ⟨rfl, rfl⟩
  have g0 : (s.heap.push { cls := .type "list", data := .seq #[] }).get? s.heap.objs.size = some { cls := .type "list", data := .seq #[] } := Heap.get?_push_size _ rfl
  have k0 : ∀ b o, s.heap.get? b = some o → (s.heap.push { cls := .type "list", data := .seq #[] }).get? b = some o := fun b o e => Heap.get?_push_of_some _ e
  refine ⟨⟨_, g0, rfl⟩, PySem.F.args_list_init_2 _ _, ?_⟩
  show wpAny _ _ (Builtin.List.listItems (.ref s.heap.objs.size) >>= fun old => Builtin.List.listUpdate (.ref s.heap.objs.size) (fun _ => #[]) >>= fun _ => letGo old.toList.reverse >>= fun _ => Builtin.List.listExtendWith (.ref s.heap.objs.size) (.ref I) .none) _ _ _
  refine wpAny_bind ?_
  unfold Builtin.List.listItems
  refine wpAny_bind (wpAny_seqItems g0 rfl (wpAny_pure (wpAny_bind ?_)))
  show wpAny _ _ (updateSeq s.heap.objs.size fun _ => #[]) _ _ _
  refine wpAny_updateSeq g0 rfl (wpAny_bind (wpAny_letGo ?_))
  have g1 := Heap.get?_update_self (Obj.mapSeq (fun _ => (#[] : Array Value))) g0 rfl
  have k1 : ∀ b o, b ≠ s.heap.objs.size → s.heap.get? b = some o → ((s.heap.push { cls := .type "list", data := .seq #[] }).update s.heap.objs.size (Obj.mapSeq (fun _ => (#[] : Array Value)))).get? b = some o :=
    fun b o hb e => (Heap.get?_update_other _ _ (Ne.symm hb)).trans (k0 b o e)
  refine it_extend (A := A.in1) K hh ?_ _ hZ .none _ g1 hn fun h' tk acc' c' hk g hacc => ?_
  · exact (K.walk A hh).frame 0 _ _ st fun b hb o e => k1 b o (fun q => hZ (by rw [← q]; exact hb)) e
  · refine ⟨rfl, hQ h' tk acc' c' (fun b o hw e => hk b o ?_ hw (k1 b o ?_ e)) g hacc⟩ <;> exact Nat.ne_of_lt (Heap.lt_size e)
theorem rev_hint {it : Addr} {Q : Bool → Shared → Prop} (hT : s.TypeIs (.ref it) "list_reverseiterator") (h : Q false s) : wpAny (model prog w) A (Builtin.List.listLengthHint (.ref it)) Q E s := by
  unfold Builtin.List.listLengthHint
  refine wpAny_bind (wpAny_specialOf hT RT.nolen_lri (wpAny_bind (wpAny_specialOf hT RT.hint_lri ?_)))
  generalize hid : ("list_reverseiterator.__length_hint__" : String) = id0
  wp_delta
  rw [show splitId id0 = some ("list_reverseiterator", "__length_hint__") by subst hid; decide +kernel]
  subst hid
  exact wpAny_bind (wpAny_isInstance (b := true) hT (by rw [isSubtype_type]; kernel_rfl) (wpAny_pure h))
end
end Pb
namespace Pb
open PySem PySem.Spec L2
theorem fin_list {X : Cx} {pins : List (Addr × Obj)} {σ : St} {H1 : Hp} {s1 : Shared} {T : String} {I : Addr} {fp : List Addr} {n : Nat} {P : Nat → Value → Prop} {St : Nat → Heap → Prop} {Q : VK} {xs : List V} (I1 : Inv X pins σ H1 s1) (hc : X.calm = true)
    (K : ItSrc X.prog X.w T I fp [I] n P St) (st : St 0 s1.heap) (hfp : ∀ b ∈ fp, b < s1.heap.objs.size) (hn : n ≤ sizeLine) (fI : FpOk X pins H1 I) (hx : ∀ acc : Array Value, ItemsOf P acc n → Vals xs acc.toList)
    (q : ∀ p, H1 p = none → Q (.ref p) (upd H1 p (.lst xs))) : wpAny (model X.prog X.w) X.A (call (.type "list") [.ref I]) (EP X pins σ Q) X.xe s1 := by
  refine it_list K (I1.ok.hd hc) st hfp hn fun h' tk acc c' hk g hacc => ?_
  obtain ⟨G, g1, g2⟩ := restrict h' fun b => decide (b ≠ s1.heap.objs.size)
  obtain ⟨f0, f1, f2, f3, f4, f5⟩ := fI
  have kG : ∀ b o, b ≠ s1.heap.objs.size → h'.get? b = some o → G.get? b = some o := fun b o hb e => by
    rw [g1 b (decide_eq_true hb)]
    exact e
  have I2 : Inv X pins σ H1 { s1 with heap := G, toks := tk } := I1.turned (it := I) (t' := tk) (fun b o hb e => kG b o (Nat.ne_of_lt (Heap.lt_size e)) (hk b o (by simpa using hb) e)) f0 f1 f3 f4 f5
  have hfree : H1 s1.heap.objs.size = none := I1.hok.fresh (Nat.le_refl _)
  have hxs := hx acc hacc
  have hlen : xs.length ≤ sizeLine := by
    rw [hxs.length, Array.length_toList, hacc.1]
    exact hn
  refine ⟨.ref s1.heap.objs.size, _, I2.laidN (h' := h') (a := s1.heap.objs.size) (o := .lst xs) (t' := tk) (fun b u e => ?_) (g2 _ (decide_eq_false (by simp))) hfree ⟨hlen, acc.toList, c', hxs, by rw [Array.toArray_toList]; exact g⟩, rfl, q _ hfree⟩
  by_cases hb : b = s1.heap.objs.size
  · rw [hb, g2 _ (decide_eq_false (by simp))] at e
    cases e
  · have e' : G.get? b = some u := e
    rw [g1 b (decide_eq_true hb)] at e'
    exact e'
def tListRev (K : PySem.W.Frag) (te : TE) : TE := fun σ H Q => te σ H fun v H1 => ∃ (a : Addr) (xs : List V), v = .ref a ∧ SqL K H1 a xs ∧ ∀ p, H1 p = none → Q (.ref p) (upd H1 p (.lst xs.reverse))
section
variable {X : Cx}
theorem src_rev (prog : Program) (w : World) (I l : Addr) (hne : l ≠ I) (items : Array Value) : ItSrc prog w "list_reverseiterator" I [I, l] [I] items.size (fun i v => items[items.size - 1 - i]? = some v)
    (fun i h => i ≤ items.size ∧ h.IsRevIter I l ((items.size : Int) - 1 - (i : Int)) ∧ h.IsList l items) where
  walk := fun A hh => Walks.listRev hh I l hne items
  mem := by simp
  wrs := by simp
  typ := fun s st => st.2.1.typeIs
  notL := by decide
  notT := by decide
  hint := fun A E s Q st h => rev_hint st.2.1.typeIs (h s.toks)
theorem pe_listRev {e : Expr} {te : TE} {p p2 pos pos2 : Pos} (hc : X.calm = true) (hg : Gl X "list") (hm : X.mg "list" = none) (hg2 : Gl X "reversed") (hm2 : X.mg "reversed" = none) (he : PE X e te)
    (h1 : starEach [e] X.env = (false, eval e X.env) :: starEach [] X.env := by rfl)
    (h2 : starEach [.Call (.Name "reversed" p2) [e] [] pos2] X.env = (false, eval (.Call (.Name "reversed" p2) [e] [] pos2) X.env) :: starEach [] X.env := by rfl) :
    PE X (.Call (.Name "list" p) [.Call (.Name "reversed" p2) [e] [] pos2] [] pos) (tListRev X.K te) := by
  refine ⟨fun pins s σ H Q I h => ?_⟩
  refine PyProof.Rows.Call_ (ld_blt I hg hm bt_list (PyProof.Rows.callWith_type1 (PyProof.Rows.args_cons (PyProof.Rows.Call_ (ld_blt I hg2 hm2 PyProof.Rows.boot_reversed (PyProof.Rows.callWith_type1 (PyProof.Rows.args_cons (thn (he.run pins s σ H _ I h) fun u s1 hq => PyProof.Rows.args_nil ?_) h1) h1 rfl))) h2) h2 rfl))
  obtain ⟨v, H1, I1, r1, a, xs, rfl, hS, q⟩ := hq
  obtain rfl : u = Value.ref a := r1
  obtain ⟨its, rv, pl, hz⟩ := I1.list hS
  have isl := pl.isList
  obtain ⟨ol, hol, _⟩ := id isl
  have hlt := Heap.lt_size hol
  refine call_reversed_list isl (PyProof.Rows.args_nil ?_)
  have kp : ∀ b o, s1.heap.get? b = some o → (s1.heap.push (revObj a ((its.toArray.size : Int) - 1))).get? b = some o := fun b o e => Heap.get?_push_of_some _ e
  have fI := I1.fpOk (H' := H1) (b := s1.heap.objs.size) (Nat.le_refl _) (I1.hok.fresh (Nat.le_refl _))
  have I2 : Inv X pins σ H1 { s1 with heap := s1.heap.push (revObj a ((its.toArray.size : Int) - 1)) } := I1.kept (t' := s1.toks) kp
  have e0 : ((its.toArray.size : Nat) : Int) - 1 - ((0 : Nat) : Int) = (its.toArray.size : Int) - 1 := by omega
  refine fin_list (xs := xs.reverse) I2 hc (src_rev X.prog X.w s1.heap.objs.size a (Nat.ne_of_lt hlt) its.toArray) ⟨Nat.zero_le _, by rw [e0]; exact ⟨_, Heap.get?_push_size _ rfl, rfl, rfl⟩, isl.push _⟩ ?_ (by rw [List.size_toArray, ← rv.length]; exact hz) fI (fun acc hacc => RT.vals_rev rv hacc) q
  intro b hb
  rw [show (({ s1 with heap := s1.heap.push (revObj a ((its.toArray.size : Int) - 1)) } : Shared).heap.objs.size) = s1.heap.objs.size + 1 from Heap.size_push ..]
  rcases List.mem_cons.mp hb with rfl | hb
  · exact Nat.lt_succ_self _
  · rw [List.mem_singleton.mp hb]
    exact Nat.lt_succ_of_lt hlt
end
end Pb
namespace Pb
open PySem PySem.Spec L2
section
variable {prog : Program} {w : World} {A : Around} {E : Value → Shared → Prop} {s : Shared}
theorem rg_hint_call {I : Addr} {x n c : Int} {Q : Value → Shared → Prop} (hI : IsRangeIter s.heap I x n c) (h : ∀ t tk, Q (.int n t) { s with toks := tk }) : wpAny (model prog w) A (call (.builtin "range_iterator.__length_hint__") [.ref I]) Q E s := by
  refine wpAny_call_entry PySem.F.slot_range_iterator_length_hint ⟨_, hI, rfl⟩ PySem.F.entry_range_iterator_length_hint ?_ (PySem.F.args_range_iterator_length_hint_1 _)
  unfold Builtin.«range_iterator.__length_hint__»
  refine wpAny_bind (wpAny_of_eq (a := Value.ref I) rfl (wpAny_bind (wpAny_field hI rfl (x := rawInt n) rfl ?_)))
  exact wpAny_bind (wpAny_mkInt (wpAny_pure ⟨_, rfl, h _ _⟩))
theorem rg_hint {I : Addr} {x c : Int} {n : Nat} {Q : Bool → Shared → Prop} (hI : IsRangeIter s.heap I x (n : Int) c) (hn : n ≤ 2 ^ 20) (h : ∀ tk, Q false { s with toks := tk }) : wpAny (model prog w) A (Builtin.List.listLengthHint (.ref I)) Q E s := by
  have hT : s.TypeIs (.ref I) "range_iterator" := ⟨_, hI, rfl⟩
  unfold Builtin.List.listLengthHint
  refine wpAny_bind (wpAny_specialOf hT PySem.F.nolen_ra (wpAny_bind (wpAny_specialOf hT PySem.F.hint_ra ?_)))
  generalize hid : ("range_iterator.__length_hint__" : String) = id0
  wp_delta
  rw [show splitId id0 = some ("range_iterator", "__length_hint__") by subst hid; decide +kernel]
  subst hid
  refine wpAny_bind (wpAny_isInstance (b := true) hT (by rw [isSubtype_type]; kernel_rfl) ?_)
  show wpAny _ _ (call (.builtin "range_iterator.__length_hint__") [.ref I] >>= _) _ _ _
  refine wpAny_bind (rg_hint_call hI fun t tk => wpAny_bind (m := asInt? (.int (n : Int) t)) (wpAny_pure ?_))
  have hs : Builtin.List.listTooLong ((n : Int).toNat) = false := by
    unfold Builtin.List.listTooLong sizeLine
    simp
    omega
  dsimp only
  rw [if_neg (by rw [hs]; decide)]
  exact wpAny_pure (h tk)
end
theorem src_rg (prog : Program) (w : World) (I : Addr) (a c : Int) (n : Nat) (hn : n ≤ 2 ^ 20) : ItSrc prog w "range_iterator" I [I] [I] n (fun i v => ∃ t, v = .int (a + i * c) t) (fun i h => IsRangeIter h I (a + (i : Nat) * c) ((n : Int) - (i : Nat)) c) where
  walk := fun A hh => Walks.range hh I a c n
  mem := by simp
  wrs := by simp
  typ := fun s st => ⟨_, st, rfl⟩
  notL := by decide
  notT := by decide
  hint := fun A E s Q st h => rg_hint (n := n) (by
    have e : ((n : Nat) : Int) - ((0 : Nat) : Int) = (n : Int) := by omega
    have st' : IsRangeIter s.heap I (a + ((0 : Nat) : Int) * c) ((n : Int) - ((0 : Nat) : Int)) c := st
    rw [e] at st'
    exact st') hn h
def tListRevRg (tr : St → Hp → (Int → Int → Hp → Prop) → Prop) : TE := fun σ H Q => tr σ H fun a b H1 => (0 ≤ a ∧ a ≤ b ∧ b < 2 ^ 20) ∧ ∀ p, H1 p = none → Q (.ref p) (upd H1 p (.lst (rgV a b).reverse))
theorem vals_revrg {a b : Int} (hab : a ≤ b) {acc : Array Value} (h : ItemsOf (fun i v => ∃ t, v = .int ((a + (((b - a).toNat : Nat) : Int) - 1) + i * (-1)) t) acc (b - a).toNat) : Vals (rgV a b).reverse acc.toList := by
  have hl : acc.toList.length = (b - a).toNat := by
    rw [Array.length_toList]
    exact h.1
  have er : (rgV a b).reverse = (List.range acc.toList.length).map fun j : Nat => V.int ((a + (((b - a).toNat : Nat) : Int) - 1) + (j : Int) * (-1)) := by
    rw [hl]
    apply List.ext_getElem?
    intro j
    unfold rgV
    rw [List.getElem?_map]
    by_cases hj : j < (b - a).toNat
    · rw [List.getElem?_reverse (by simpa using hj), List.getElem?_map, List.length_map, List.length_range, List.getElem?_range (by omega), List.getElem?_range hj]
      show some (V.int _) = some (V.int _)
      congr 2
      omega
    · rw [List.getElem?_eq_none (by simp; omega), List.getElem?_eq_none (by simp; omega)]
      rfl
  rw [er]
  refine vals_of_get acc.toList _ fun j u hj => ?_
  have hj' : acc[j]? = some u := by simpa using hj
  exact h.2 j u hj'
theorem pe_listRevRg {X : Cx} {e : Expr} {tr : St → Hp → (Int → Int → Hp → Prop) → Prop} {p p2 pos pos2 : Pos} (hc : X.calm = true) (hg : Gl X "list") (hm : X.mg "list" = none) (hg2 : Gl X "reversed") (hm2 : X.mg "reversed" = none) (he : PRg X e tr)
    (h1 : starEach [e] X.env = (false, eval e X.env) :: starEach [] X.env := by rfl)
    (h2 : starEach [.Call (.Name "reversed" p2) [e] [] pos2] X.env = (false, eval (.Call (.Name "reversed" p2) [e] [] pos2) X.env) :: starEach [] X.env := by rfl) :
    PE X (.Call (.Name "list" p) [.Call (.Name "reversed" p2) [e] [] pos2] [] pos) (tListRevRg tr) := by
  refine ⟨fun pins s σ H Q I h => ?_⟩
  refine PyProof.Rows.Call_ (ld_blt I hg hm bt_list (PyProof.Rows.callWith_type1 (PyProof.Rows.args_cons (PyProof.Rows.Call_ (ld_blt I hg2 hm2 PyProof.Rows.boot_reversed (PyProof.Rows.callWith_type1 (PyProof.Rows.args_cons (thn (he pins s σ H _ I h) fun u s1 hq => PyProof.Rows.args_nil ?_) h1) h1 rfl))) h2) h2 rfl))
  obtain ⟨r, a, b, t, w1, v, H1, rfl, hr, I1, ⟨b1, b2, b3⟩, q⟩ := hq
  have hsm : Builtin.Range.handS_smallRev a b 1 = true := smallRev_one (by omega) (by omega) (by omega) (by omega)
  refine call_reversed_range hr hsm (PyProof.Rows.args_nil ?_)
  have hn : Builtin.Range.rangeSize a b 1 = (((b - a).toNat : Nat) : Int) := PyProof.Rows.rangeSize_nat a b
  have kp : ∀ b' o, s1.heap.get? b' = some o → (s1.heap.push (rngRevObj a b 1)).get? b' = some o := fun b' o e => Heap.get?_push_of_some _ e
  have fI := I1.fpOk (H' := H1) (b := s1.heap.objs.size) (Nat.le_refl _) (I1.hok.fresh (Nat.le_refl _))
  have I2 : Inv X pins σ H1 { s1 with heap := s1.heap.push (rngRevObj a b 1) } := I1.kept (t' := s1.toks) kp
  refine fin_list (xs := (rgV a b).reverse) I2 hc (src_rg X.prog X.w s1.heap.objs.size (a + (((b - a).toNat : Nat) : Int) - 1) (-1) (b - a).toNat (by omega)) ?_ ?_ (by rw [sizeLine_eq]; omega) fI (fun acc hacc => vals_revrg b2 hacc) q
  · have e1 : a + (((b - a).toNat : Nat) : Int) - 1 + ((0 : Nat) : Int) * (-1) = a + (Builtin.Range.rangeSize a b 1 - 1) * 1 := by rw [hn]; omega
    have e2 : (((b - a).toNat : Nat) : Int) - ((0 : Nat) : Int) = Builtin.Range.rangeSize a b 1 := by rw [hn]; omega
    show IsRangeIter _ _ (a + (((b - a).toNat : Nat) : Int) - 1 + ((0 : Nat) : Int) * (-1)) ((((b - a).toNat : Nat) : Int) - ((0 : Nat) : Int)) (-1)
    rw [e1, e2]
    exact Heap.get?_push_size _ rfl
  · intro b' hb
    rw [List.mem_singleton.mp hb, show (({ s1 with heap := s1.heap.push (rngRevObj a b 1) } : Shared).heap.objs.size) = s1.heap.objs.size + 1 from Heap.size_push ..]
    exact Nat.lt_succ_self _
end Pb

namespace Pb
open PySem PySem.Spec L2
/-! ### sorted lists of deeds, of numbers -/
theorem ddLt (a b : Dd) : PySem.W.dataLt (dd a) (dd b) = ltD a b := by
  unfold dd ltD
  have z : PyProof.Rows.lexLt PyProof.Rows.itemOrd (PySem.W.keyToksAll []) (PySem.W.keyToksAll []) = false := PyProof.Rows.lex_irrefl _
  rw [PySem.W.dataLt_tuple, PySem.W.dataLt_cons (by simp [PySem.W.alike]), PySem.W.dataLt_cons (by simp [PySem.W.alike]), PySem.W.dataLt_cons (by simp [PySem.W.alike]), z, PySem.W.dataLt_int, PySem.W.dataLt_int, PySem.W.dataLt_int]
  simp only [PyData.eqv, beq_iff_eq]
  by_cases h1 : a.n = b.n
  · by_cases h2 : a.l = b.l
    · by_cases h3 : a.c = b.c
      · simp [h1, h2, h3]
      · have : ¬ (a.c : Int) = b.c := by omega
        simp [h1, h2, h3, this]
    · have : ¬ (a.l : Int) = b.l := by omega
      simp [h1, h2, this]
  · simp [h1]
theorem DL.ofPairs {H : Hp} : ∀ {l : List (Addr × Dd)}, (∀ p ∈ l, TD H p.1 p.2) → DL H (l.map (·.1)) (l.map (·.2))
  | [], _ => trivial
  | p :: l, h => ⟨h p (by simp), DL.ofPairs (l := l) fun q hq => h q (by simp [hq])⟩
theorem DL.pairs {H : Hp} : ∀ {as : List Addr} {ds : List Dd}, DL H as ds → ∀ p ∈ as.zip ds, TD H p.1 p.2
  | [], [], _, p, hp => by simp at hp
  | a :: as, d :: ds, h, p, hp => by
    rcases List.mem_cons.mp hp with rfl | hp
    · exact h.1
    · exact DL.pairs h.2 p hp
  | [], _ :: _, h, _, _ => h.elim
  | _ :: _, [], h, _, _ => h.elim
theorem zip_map {as : List Addr} {ds : List Dd} : (as.map V.ref).zip (ds.map dd) = (as.zip ds).map fun p => (V.ref p.1, dd p.2) := by
  rw [List.zip_map]
  rfl
theorem srt_deeds {H : Hp} {as : List Addr} {ds : List Dd} (h : DL H as ds) : ∃ bs : List Addr, srt (as.map V.ref) (ds.map dd) = bs.map V.ref ∧ DL H bs (sortD ds) := by
  refine ⟨((as.zip ds).mergeSort fun p q => leD p.2 q.2).map (·.1), ?_, ?_⟩
  · unfold srt
    rw [zip_map, ← List.map_mergeSort (r := fun p q => leD p.2 q.2) (s := PySem.W.dataLe false (·.2)) (f := fun p : Addr × Dd => (V.ref p.1, dd p.2)) (fun p _ q _ => ?_), List.map_map, List.map_map]
    · rfl
    · show leD p.2 q.2 = !PySem.W.dataLt (dd q.2) (dd p.2)
      rw [ddLt]
      rfl
  · have e : sortD ds = ((as.zip ds).mergeSort fun p q => leD p.2 q.2).map (·.2) := by
      rw [List.map_mergeSort (s := leD) (fun p _ q _ => rfl)]
      have : (as.zip ds).map (·.2) = ds := by
        rw [← List.unzip_snd, List.unzip_zip h.len]
      rw [this]
      rfl
    rw [e]
    exact DL.ofPairs fun p hp => h.pairs p (List.mem_mergeSort.mp hp)
theorem dd_depth (d : Dd) : (dd d).depth ≤ 2 := dd_ok.lay.2
/-- sorted(a list of deeds): the same deeds -/
theorem sorted_ld0 {K : PySem.W.Frag} {H0 H : Hp} {p : Addr} {as : List Addr} {ds : List Dd} {Q : VK} (h : H p = some (.lst (as.map V.ref))) (hd : DL H0 as ds) (s : Same H0 H) (q : ∀ p' H1 bs, H p' = none → Same H H1 → H1 p' = some (.lst (bs.map V.ref)) → DL H0 bs (sortD ds) → Q (.ref p') H1) : rSortedD K [.ref p] H Q := by
  obtain ⟨bs, e, hb⟩ := srt_deeds hd
  refine ⟨p, _, ds.map dd, rfl, .of h, dds_dp (hd.mono s), PySem.W.AllAlike.of fun a b => by simp [dd, PySem.W.alike, PySem.W.alikeAll], PySem.W.Sortable.tuples fun d => ⟨_, _, rfl⟩, fun d hd => ?_, fun p' hp => ?_⟩
  · obtain ⟨x, _, rfl⟩ := List.mem_map.mp hd
    exact Nat.le_trans (dd_depth x) (by decide)
  · rw [e]
    exact q p' _ bs hp (same_new hp) upd_same hb
theorem sorted_ld {K : PySem.W.Frag} {H : Hp} {p : Addr} {as : List Addr} {ds : List Dd} {Q : VK} (h : LD H p as ds) (q : ∀ p' H1 bs, H p' = none → Same H H1 → LD H1 p' bs (sortD ds) → Q (.ref p') H1) : rSortedD K [.ref p] H Q :=
  sorted_ld0 h.1 h.2 (Same.refl _) fun p' H1 bs hp s g d => q p' H1 bs hp s ⟨g, d.mono s⟩
theorem nv_all {K : PySem.W.Frag} {H : Hp} : ∀ ns : List Nat, DpAll K H (nv ns) (ns.map fun n : Nat => PyData.int (n : Int))
  | [] => .nil
  | n :: r => .cons (.int _) (nv_all r)
theorem zip_map2 {α β γ : Type} (f : α → β) (g : α → γ) : ∀ l : List α, (l.map f).zip (l.map g) = l.map fun x => (f x, g x)
  | [] => rfl
  | x :: l => by
    rw [List.map_cons, List.map_cons, List.zip_cons_cons, zip_map2 f g l, List.map_cons]
theorem srt_ints {ns : List Nat} (h : ns.Pairwise (· ≤ ·)) : srt (nv ns) (ns.map fun n : Nat => PyData.int (n : Int)) = nv ns := by
  unfold srt nv
  have e : (ns.map fun n : Nat => V.int (n : Int)).zip (ns.map fun n : Nat => PyData.int (n : Int)) = ns.map fun n : Nat => (V.int (n : Int), PyData.int (n : Int)) := zip_map2 _ _ ns
  rw [e]
  have e2 : (ns.map fun n : Nat => (V.int (n : Int), PyData.int (n : Int))).mergeSort (PySem.W.dataLe false (·.2)) = (ns.mergeSort fun a b => decide (a ≤ b)).map fun n : Nat => (V.int (n : Int), PyData.int (n : Int)) := by
    rw [List.map_mergeSort]
    intro a _ b _
    show _ = !PySem.W.dataLt (.int (b : Int)) (.int (a : Int))
    rw [PySem.W.dataLt_int, PySem.W.not_lt_int]
    simp
  rw [e2, List.map_map, List.mergeSort_of_pairwise]
  · rfl
  · exact h.imp fun h => by simpa using h
/-- sorted(numbers that stand in order) -/
theorem sorted_nv {K : PySem.W.Frag} {H : Hp} {p : Addr} {ns : List Nat} {Q : VK} (h : H p = some (.lst (nv ns))) (o : ns.Pairwise (· ≤ ·)) (q : ∀ p' H1, H p' = none → Same H H1 → H1 p' = some (.lst (nv ns)) → Q (.ref p') H1) : rSortedD K [.ref p] H Q := by
  have hd : DpAll K H (nv ns) (ns.map fun n : Nat => PyData.int (n : Int)) := nv_all ns
  refine ⟨p, _, ns.map fun n : Nat => PyData.int (n : Int), rfl, .of h, hd, PySem.W.AllAlike.of fun a b => by simp [PySem.W.alike], PySem.W.Sortable.others fun d => ⟨by simp, by simp⟩, fun d hd => ?_, fun p' hp => ?_⟩
  · obtain ⟨x, _, rfl⟩ := List.mem_map.mp hd
    simp [PyData.depth]
  · rw [srt_ints o]
    exact q p' _ hp (same_new hp) upd_same
/-! ### while -/
def WhB (tb : TS) (D : Ends) (Pv : Nat → St → Hp → Prop) (m : Nat) (σ : St) (H1 : Hp) : Prop := ∃ N : St → Hp → Prop, (∀ σ' H', N σ' H' → ∃ m', m' < m ∧ Pv m' σ' H') ∧ tb { D with nx := N, ct := N, bk := D.nx } σ H1
theorem whl {c : TT} {tb : TS} {D : Ends} {σ : St} {H : Hp} (Pv : Nat → St → Hp → Prop) (m : Nat) (h0 : Pv m σ H) (hs : ∀ m σ H, Pv m σ H → c σ H fun b H1 => if b = true then WhB tb D Pv m σ H1 else D.nx σ H1) : tWhile c tb D σ H :=
  ⟨Pv, ⟨m, h0⟩, fun m σ H h => hs m σ H h⟩
theorem whb {tb : TS} {D : Ends} {Pv : Nat → St → Hp → Prop} {m : Nat} {σ : St} {H1 : Hp} (h : tb { D with nx := Hold fun σ' H' => ∃ m', m' < m ∧ Pv m' σ' H', ct := Hold fun σ' H' => ∃ m', m' < m ∧ Pv m' σ' H', bk := D.nx } σ H1) : WhB tb D Pv m σ H1 :=
  ⟨_, fun _ _ h => h, h⟩
end Pb

namespace Pb
/-! ### layers read back, chains: plain words -/
theorem rowAt_cons (d : Dd) (n : Nat) (l : List (Dd × Nat)) (k : Nat) : rowAt ((d, n) :: l) k = if n = k then d :: rowAt l k else rowAt l k := by
  unfold rowAt
  rw [List.filter_cons]
  by_cases h : n = k
  · simp [h]
  · simp [h]
theorem mem_rowAt {l : List (Dd × Nat)} {k : Nat} {d : Dd} : d ∈ rowAt l k ↔ (d, k) ∈ l := by
  unfold rowAt
  rw [List.mem_map]
  constructor
  · rintro ⟨p, hp, rfl⟩
    rw [List.mem_filter] at hp
    have : p.2 = k := by simpa using hp.2
    rw [← this]
    exact hp.1
  · intro h
    exact ⟨(d, k), by rw [List.mem_filter]; exact ⟨h, by simp⟩, rfl⟩
theorem rowAt_len (l : List (Dd × Nat)) (k : Nat) : (rowAt l k).length ≤ l.length := by
  unfold rowAt
  rw [List.length_map]
  exact List.length_filter_le _ _
theorem ce_perm : ∀ {l : List Dd} {j : Nat} {d : Dd}, l[j]? = some d → (d :: l.eraseIdx j).Perm l
  | [], _, _, h => by simp at h
  | x :: l, 0, d, h => by
    cases h
    exact .refl _
  | x :: l, j + 1, d, h => by
    rw [List.eraseIdx_cons_succ]
    exact (List.Perm.swap x d _).trans ((ce_perm (l := l) (j := j) (by simpa using h)).cons x)
theorem erase_perm {l : List Dd} {r : List Dd} {d : Dd} {j : Nat} (p : l.Perm (d :: r)) (h : l[j]? = some d) : (l.eraseIdx j).Perm r :=
  List.Perm.cons_inv ((ce_perm h).trans p)
/-- the least place -/
def IsFst (p : Nat → Bool) (k : Nat) : Prop := p k = true ∧ ∀ j : Nat, j < k → p j = false
theorem IsFst.uniq {p : Nat → Bool} {j k : Nat} (a : IsFst p j) (b : IsFst p k) : j = k := by
  rcases Nat.lt_trichotomy j k with h | h | h
  · have := b.2 j h
    rw [a.1] at this
    cases this
  · exact h
  · have := a.2 k h
    rw [b.1] at this
    cases this
theorem IsFst.le {p : Nat → Bool} {j k : Nat} (a : IsFst p k) (h : p j = true) : k ≤ j := by
  rcases Nat.lt_or_ge j k with h2 | h2
  · have := a.2 j h2
    rw [h] at this
    cases this
  · exact h2
def hitAt (ds : List Dd) (ns : List Nat) (h : Nat) : Option Nat → Nat → Bool
  | none, k => ns[k]? == some h
  | some a, k => ns[k]? == some h && clash (ds.getD k default) (ds.getD a default)
/-- the last m of the chain, from the top down -/
inductive IsCh (ds : List Dd) (ns : List Nat) (top : Nat) : Nat → List Nat → Prop
  | nil : IsCh ds ns top 0 []
  | cons {m k c} : IsCh ds ns top m c → IsFst (hitAt ds ns (top - 1 - m) c.head?) k → IsCh ds ns top (m + 1) (k :: c)
theorem IsCh.uniq {ds ns top m c c'} (a : IsCh ds ns top m c) (b : IsCh ds ns top m c') : c = c' := by
  induction a generalizing c' with
  | nil => cases b; rfl
  | cons a1 a2 ih =>
    cases b with
    | cons b1 b2 =>
      have e := ih b1
      subst e
      rw [a2.uniq b2]
theorem IsCh.len {ds ns top m c} (a : IsCh ds ns top m c) : c.length = m := by
  induction a with
  | nil => rfl
  | cons _ _ ih => rw [List.length_cons, ih]
theorem hit_at {ds ns h o k} (a : hitAt ds ns h o k = true) : ns[k]? = some h := by
  cases o with
  | none => simpa [hitAt] using a
  | some _ => 
    rw [hitAt, Bool.and_eq_true] at a
    simpa using a.1
theorem IsCh.head {ds ns top m k c} (a : IsCh ds ns top (m + 1) (k :: c)) : ns[k]? = some (top - 1 - m) := by
  cases a with
  | cons _ h => exact hit_at h.1
/-- a place below is there -/
theorem IsCh.next {ds : List Dd} {ns : List Nat} (i : IsH ds ns) {m : Nat} {c : List Nat} (a : IsCh ds ns (tops ns) m c) (hm : m < tops ns) : ∃ j : Nat, j < ds.length ∧ hitAt ds ns (tops ns - 1 - m) c.head? j = true ∧ ∀ x, c.head? = some x → j < x := by
  cases a with
  | nil =>
    obtain ⟨n, hn, e⟩ := tops_mem (ns := ns) (by omega)
    obtain ⟨j, hj⟩ := List.getElem?_of_mem hn
    refine ⟨j, by rw [← i.len]; exact (List.getElem?_eq_some_iff.mp hj).1, ?_, by simp⟩
    show (ns[j]? == some (tops ns - 1 - 0)) = true
    rw [hj, e]
    simp
  | @cons m k c a1 a2 =>
    have hk := hit_at a2.1
    have hl := (List.getElem?_eq_some_iff.mp hk).1
    rw [i.len] at hl
    have e : tops ns - 1 - m = (tops ns - 1 - (m + 1)) + 1 := by omega
    rw [e] at hk
    obtain ⟨j, dj, hj, e1, e2, e3⟩ := i.pred k _ _ (List.getElem?_eq_getElem hl) hk
    refine ⟨j, by omega, ?_, fun x hx => by cases hx; exact hj⟩
    show (ns[j]? == some (tops ns - 1 - (m + 1)) && clash (ds.getD j default) (ds.getD k default)) = true
    have g1 : ds.getD j default = dj := by simp [List.getD, e1]
    have g2 : ds.getD k default = ds[k] := by simp [List.getD, hl]
    rw [e2, g1, g2, e3]
    simp
theorem IsCh.inc {ds : List Dd} {ns : List Nat} (i : IsH ds ns) {m : Nat} {c : List Nat} (a : IsCh ds ns (tops ns) m c) (hm : m ≤ tops ns) : c.Pairwise (· < ·) := by
  induction a with
  | nil => exact .nil
  | @cons m k c a1 a2 ih =>
    have p := ih (by omega)
    cases c with
    | nil => simp
    | cons x c =>
      obtain ⟨j, _, h1, h2⟩ := IsCh.next i a1 (by omega)
      have hk : k < x := Nat.lt_of_le_of_lt (a2.le h1) (h2 x rfl)
      rw [List.pairwise_cons] at p ⊢
      refine ⟨fun y hy => ?_, List.pairwise_cons.mpr p⟩
      rcases List.mem_cons.mp hy with rfl | hy
      · exact hk
      · exact Nat.lt_trans hk (p.1 y hy)
theorem IsCh.lt {ds : List Dd} {ns : List Nat} (i : IsH ds ns) {m : Nat} {c : List Nat} (a : IsCh ds ns (tops ns) m c) : ∀ k ∈ c, k < ds.length := by
  induction a with
  | nil => simp
  | cons a1 a2 ih =>
    intro x hx
    rcases List.mem_cons.mp hx with rfl | hx
    · have := (List.getElem?_eq_some_iff.mp (hit_at a2.1)).1
      rw [i.len] at this
      exact this
    · exact ih x hx
theorem tops_nil {ns : List Nat} (h : tops ns = 0) : ns = [] := by
  cases ns with
  | nil => rfl
  | cons n r =>
    have := tops_lt (ns := n :: r) (n := n) (by simp)
    omega
end Pb

namespace Pb
open PySem PySem.Spec L2
/-! ### a list of new lists of deeds -/
structure RA (H0 H : Hp) (r : Addr) (rs : List Addr) (t : Nat) (R : Nat → List Dd) : Prop where
  lst : H r = some (.lst (rs.map V.ref))
  nr : H0 r = none
  len : rs.length = t
  nd : rs.Nodup
  rn : r ∉ rs
  row : ∀ (k : Nat) a, rs[k]? = some a → H0 a = none ∧ ∃ cs, LD H a cs (R k)
theorem nd_inj {l : List Addr} (h : l.Nodup) {i j : Nat} {a : Addr} (hi : l[i]? = some a) (hj : l[j]? = some a) : i = j := by
  obtain ⟨h1, e1⟩ := List.getElem?_eq_some_iff.mp hi
  obtain ⟨h2, e2⟩ := List.getElem?_eq_some_iff.mp hj
  have p := List.pairwise_iff_getElem.mp h
  rcases Nat.lt_trichotomy i j with q | q | q
  · exact absurd (e1.trans e2.symm) (p i j h1 h2 q)
  · exact q
  · exact absurd (e2.trans e1.symm) (p j i h2 h1 q)
theorem RA.mono {H0 H H' r rs t R} (h : RA H0 H r rs t R) (s : Same H H') : RA H0 H' r rs t R :=
  ⟨s _ _ h.lst, h.nr, h.len, h.nd, h.rn, fun k a e => ⟨(h.row k a e).1, (h.row k a e).2.elim fun cs c => ⟨cs, c.mono s⟩⟩⟩
theorem RA.cong {H0 H r rs t R R'} (h : RA H0 H r rs t R) (e : ∀ k, k < t → R k = R' k) : RA H0 H r rs t R' :=
  ⟨h.lst, h.nr, h.len, h.nd, h.rn, fun k a e' => by
    have := (List.getElem?_eq_some_iff.mp e').1
    rw [h.len] at this
    rw [← e k this]
    exact h.row k a e'⟩
theorem RA.base {H0 H1 H r rs t R} (s : Same H0 H1) (h : RA H1 H r rs t R) : RA H0 H r rs t R :=
  ⟨h.lst, s.free h.nr, h.len, h.nd, h.rn, fun k a e => ⟨s.free (h.row k a e).1, (h.row k a e).2⟩⟩
theorem RA.at_ {H0 H r rs t R} (h : RA H0 H r rs t R) {k : Nat} (hk : k < t) : ∃ a cs, rs[k]? = some a ∧ H0 a = none ∧ LD H a cs (R k) := by
  have : k < rs.length := by rw [h.len]; exact hk
  obtain ⟨n, cs, c⟩ := h.row k _ (List.getElem?_eq_getElem this)
  exact ⟨_, cs, List.getElem?_eq_getElem this, n, c⟩
/-- a deed is put to a row -/
theorem RA.push {H0 H H6 r rs t R n x cs b d} (h : RA H0 H r rs t R) (hx : rs[n]? = some x) (c : LD H x cs (R n)) (td : TD H b d) (g : H6 x = some (.lst ((cs ++ [b]).map V.ref))) (ne : ∀ b, b ≠ x → H6 b = H b) :
    RA H0 H6 r rs t fun k => if n = k then R k ++ [d] else R k := by
  refine ⟨?_, h.nr, h.len, h.nd, h.rn, fun k a e => ⟨(h.row k a e).1, ?_⟩⟩
  · rw [ne r (fun e => h.rn (e ▸ List.mem_of_getElem? hx))]
    exact h.lst
  · by_cases hk : n = k
    · subst hk
      rw [hx] at e
      cases e
      rw [if_pos rfl]
      exact ⟨cs ++ [b], g, (c.2.app (DL.one td)).keep c.1 ne⟩
    · rw [if_neg hk]
      obtain ⟨_, cs', c'⟩ := h.row k a e
      have na : a ≠ x := fun q => hk (nd_inj h.nd hx (q ▸ e))
      exact ⟨cs', by rw [ne a na]; exact c'.1, c'.2.keep c.1 ne⟩
/-- a row is opened -/
theorem RA.more {H0 H H1 H6 r rs t R b} (h : RA H0 H r rs t R) (hb : H b = none) (s : Same H H1) (gb : H1 b = some (.lst [])) (h0b : H0 b = none) (g : H6 r = some (.lst ((rs ++ [b]).map V.ref))) (ne : ∀ b, b ≠ r → H6 b = H1 b) (e : R t = []) : RA H0 H6 r (rs ++ [b]) (t + 1) R := by
  have nbr : b ≠ r := (ne_of_none h.lst hb).symm
  have nb : b ∉ rs := fun hm => by
    obtain ⟨j, hj⟩ := List.getElem?_of_mem hm
    obtain ⟨_, cs, c⟩ := h.row j b hj
    have := c.1
    rw [hb] at this
    cases this
  refine ⟨g, h.nr, by rw [List.length_append, h.len]; rfl, ?_, ?_, fun k a e' => ?_⟩
  · rw [List.nodup_append]
    exact ⟨h.nd, by simp, fun x hx y hy => by simp at hy; rw [hy]; exact fun e => nb (e ▸ hx)⟩
  · simp [h.rn, nbr.symm]
  · by_cases hk : k < rs.length
    · rw [List.getElem?_append_left hk] at e'
      obtain ⟨n, cs, c⟩ := h.row k a e'
      have na : a ≠ r := fun q => h.rn (q ▸ List.mem_of_getElem? e')
      have c1 := c.mono s
      exact ⟨n, cs, by rw [ne a na]; exact c1.1, c1.2.keep (s _ _ h.lst) ne⟩
    · rw [List.getElem?_append_right (by omega)] at e'
      have ej : k = t := by
        have := (List.getElem?_eq_some_iff.mp e').1
        rw [← h.len]
        simp at this
        omega
      subst ej
      rw [h.len, Nat.sub_self] at e'
      have ea : b = a := Option.some.inj e'
      subst ea
      rw [e]
      exact ⟨h0b, [], by rw [ne b nbr]; exact gb, trivial⟩
theorem zip_take {α β : Type} (xs : List α) (ys : List β) (i : Nat) : (xs.zip ys).take i = (xs.take i).zip (ys.take i) := by
  rw [List.zip, List.take_zipWith]
theorem zip_tops {ds : List Dd} {ns : List Nat} (e : ns.length = ds.length) (i : Nat) : ∀ p ∈ (ds.zip ns).take i, p.2 < tops (ns.take i) := fun p hp => by
  rw [zip_take] at hp
  exact tops_lt (List.of_mem_zip hp).2
theorem rowAt_len2 (l : List (Dd × Nat)) (k i : Nat) (h : l.length ≤ i) : (rowAt l k).length ≤ i := Nat.le_trans (rowAt_len l k) h

def sp_laid (K : PySem.W.Frag) : Sp := fun vs H Q _ => ∃ p q as ds ns, vs = [.ref p, .ref q] ∧ LD H p as ds ∧ H q = some (.lst (nv ns)) ∧ ns.length = ds.length ∧ ds.length ≤ 500 ∧ (∀ n ∈ ns, n < 500) ∧
  ∀ r H' rs, Same H H' → RA H H' r rs (tops ns) (fun k => sortD (rowAt (ds.zip ns) k)) → Q (.ref r) H'
theorem len_laid {K vs H Q E} (h : sp_laid K vs H Q E) : vs.length = 2 := by
  obtain ⟨p, q, as, ds, ns, rfl, _⟩ := h
  rfl
abbrev n_laid : List Str := ["diary", "known", "found", "one", "level", "row"]
def t_laid (K : PySem.W.Frag) : TS :=
  (tSeq (tAsg (tLst tNil) (gName 2))
  (tSeq (tFor (RZ.iZipA K (tCons (tVar 0) (tCons (tVar 1) tNil))) (gTup K 2 (gCons (gName 3) (gCons (gName 4) gNil)))
  (tSeq (tWhile (tTest (tOp rLe (tCB (rLen K) (tCons (tVar 2) tNil)) (tVar 4)))
  (tDrop (tBM K "list" rAppend (tVar 2) (tCons (tLst tNil) tNil))))
  (tDrop (tBM K "list" rAppend (tOp (rIx K) (tVar 2) (tVar 4)) (tCons (tVar 3) tNil)))))
  (tRet (tLc (iList K (tVar 2)) (gName 5) tYes (tCB (rSortedD K) (tCons (tVar 5) tNil)) [5]))))
theorem r_laid {K vs H Q E} (h : sp_laid K vs H Q E) : t_laid K { nx := fun _ H' => Q .non H', rt := Q } (start n_laid vs) H := by
  obtain ⟨p, q, as, ds, ns, rfl, hp, hq, hln, hl, hn, k⟩ := h
  have hlen := hp.2.len
  unfold t_laid
  walk_at "go"
  refine lstQ fun r H1 hr s1 g1 => ?_
  walk_at "go"
  refine forZ (n := ds.length) (by simp [hlen, hln]) (.of (s1 _ _ hp.1)) (.of (s1 _ _ hq)) (fun i σ H3 => ∃ (v3 v4 v5 : Option V) (rs : List Addr), σ = [some (.ref p), some (.ref q), some (.ref r), v3, v4, v5] ∧ Same H H3 ∧ RA H H3 r rs (tops (ns.take i)) (rowAt ((ds.zip ns).take i)))
    ⟨none, none, none, [], rfl, s1, g1, hr, rfl, .nil, by simp, fun k a e => by simp at e⟩ (fun i σ H3 ⟨_, _, _, _, _, s, _⟩ => ⟨.of (s _ _ hp.1), .of (s _ _ hq)⟩) ?_ ?_
  · rintro i x y T σ H3 H4 hx hy ⟨v3, v4, v5, rs, rfl, s3, ra⟩ hT s4 gT
    have s34 := s3.trans s4
    obtain ⟨b, hb', rfl⟩ := ref_get hx
    obtain ⟨n, hn', rfl⟩ := nv_at hy
    obtain ⟨d, hd, tb⟩ := hp.2.get hb'
    have hz : (ds.zip ns)[i]? = some (d, n) := List.getElem?_zip_eq_some.mpr ⟨hd, hn'⟩
    have hn5 := hn n (List.mem_of_getElem? hn')
    have hi := (List.getElem?_eq_some_iff.mp hd).1
    walk_at "go"
    refine whl (fun m σ H5 => ∃ (t : Nat) (rs : List Addr), σ = [some (.ref p), some (.ref q), some (.ref r), some (.ref b), some (.int (n : Int)), v5] ∧ Same H H5 ∧ RA H H5 r rs t (rowAt ((ds.zip ns).take i)) ∧ tops (ns.take i) ≤ t ∧ t ≤ max (tops (ns.take i)) (n + 1) ∧ m = n + 1 - t) _
      ⟨_, rs, rfl, s34, ra.mono s4, Nat.le_refl _, Nat.le_max_left _ _, rfl⟩ ?_
    rintro m σ H5 ⟨t, rs5, rfl, s5, ra5, ht1, ht2, rfl⟩
    have g5 := ra5.lst
    have gl5 := ra5.len
    walk_at "go"
    rw [List.length_map, gl5]
    refine ite2 (fun c => whb ?_) (fun c => ?_)
    · have c : t ≤ n := by simpa using c
      walk_at "go"
      refine ⟨ty_l g5, ?_⟩
      refine lstQ fun b6 H6 hb6 s6 g6 => ?_
      refine append_r (s5.trans s6) hr (s6 _ _ g5) (by rw [List.length_map]; omega) fun H7 s7 g7 ne7 => ?_
      refine ⟨n + 1 - (t + 1), by omega, t + 1, rs5 ++ [b6], rfl, s7, ?_, by omega, by omega, rfl⟩
      refine ra5.more hb6 s6 g6 (s5.free hb6) (by rw [g7, List.map_append]; rfl) ne7 ?_
      exact rowAt_none fun p hp => Nat.lt_of_lt_of_le (zip_tops hln i p hp) ht1
    · have c : n < t := by simpa using c
      have et : t = tops (ns.take (i + 1)) := by
        rw [List.take_add_one, hn', Option.toList, tops_snoc]
        omega
      obtain ⟨x, cs, hx5, hx0, cx⟩ := ra5.at_ c
      have gx := cx.1
      walk_at "go"
      refine ix_l' g5 (atI_nat (j := n) (ref_at hx5)) ?_
      walk_at "go"
      refine ⟨ty_l gx, ?_⟩
      have hcl : cs.length ≤ 500 := by
        rw [cx.2.len]
        exact rowAt_len2 _ _ _ (by rw [List.length_take, List.length_zip]; omega)
      refine append_r s5 hx0 gx (by rw [List.length_map]; omega) fun H7 s7 g7 ne7 => ?_
      refine ⟨_, _, _, rs5, rfl, s7, ?_⟩
      rw [← et]
      refine (ra5.push hx5 cx (s5 _ _ tb) (by rw [g7, List.map_append]; rfl) ne7).cong fun k hk => ?_
      rw [List.take_add_one, hz, Option.toList, rowAt_snoc]
  · rintro σ H3 ⟨v3, v4, v5, rs, rfl, s3, ra⟩
    have e1 : (ds.zip ns).take ds.length = ds.zip ns := List.take_of_length_le (by rw [List.length_zip]; omega)
    have e2 : ns.take ds.length = ns := List.take_of_length_le (by omega)
    rw [e1, e2] at ra
    have g3 := ra.lst
    have htop : tops ns ≤ 500 := by
      rcases Nat.eq_zero_or_pos (tops ns) with e | e
      · omega
      · obtain ⟨n, hm, e'⟩ := tops_mem (ns := ns) (by omega)
        have := hn n hm
        omega
    walk_at "go"
    refine lcLn (.of g3) (fun i o => ∃ cs : List Addr, o = .lst (cs.map V.ref) ∧ DL H3 cs (sortD (rowAt (ds.zip ns) i))) (by rw [List.length_map, ra.len]; omega) ?_ ?_
    · intro i x H4 hx s4 R hR R2
      obtain ⟨a, ha, rfl⟩ := ref_get hx
      obtain ⟨_, cs, c⟩ := ra.row i a ha
      have g4 := s4 _ _ c.1
      walk_at "go"
      exact sorted_ld0 g4 c.2 s4 fun p5 H5 bs hp5 s5 g5 hb => hR p5 _ H5 hp5 g5 ⟨bs, rfl, hb⟩ s5
    intro p4 H4 rs4 hp4 s4 g4 hl4 hnd hna hob
    refine k p4 H4 rs4 (s3.trans s4) ⟨g4, s3.free hp4, by rw [hl4, List.length_map, ra.len], hnd, hna, fun k a e => ?_⟩
    obtain ⟨h0, o, ho, cs, rfl, hcs⟩ := hob k a e
    exact ⟨s3.free h0, cs, ho, hcs.mono s4⟩
theorem hts_lt (ds : List Dd) : ∀ (k n : Nat), (hts ds)[k]? = some n → n ≤ k := by
  intro k
  induction k using Nat.strongRecOn with
  | _ k ih =>
    intro n h
    cases n with
    | zero => exact Nat.zero_le _
    | succ n =>
      have hk := (List.getElem?_eq_some_iff.mp h).1
      rw [hts_len] at hk
      obtain ⟨j, _, hj, _, e, _⟩ := (hts_isH ds).pred k _ n (List.getElem?_eq_getElem hk) h
      have := ih j hj n e
      omega
theorem hts_small {ds : List Dd} : ∀ n ∈ hts ds, n < ds.length := fun n hn => by
  obtain ⟨k, hk⟩ := List.getElem?_of_mem hn
  have := hts_lt ds k n hk
  have h2 := (List.getElem?_eq_some_iff.mp hk).1
  rw [hts_len] at h2
  omega
theorem tops_le {ds : List Dd} : tops (hts ds) ≤ ds.length := by
  rcases Nat.eq_zero_or_pos (tops (hts ds)) with e | e
  · omega
  · obtain ⟨n, hm, e'⟩ := tops_mem (ns := hts ds) (by omega)
    have := hts_small n hm
    omega
/-- the layers of a diary -/
abbrev layR (ds : List Dd) (k : Nat) : List Dd := sortD (rowAt (ds.zip (hts ds)) k)
def sp_layers (K : PySem.W.Frag) : Sp := fun vs H Q _ => ∃ p as ds, vs = [.ref p] ∧ LD H p as ds ∧ ds.length ≤ 400 ∧ ∀ r H' rs, Same H H' → RA H H' r rs (tops (hts ds)) (layR ds) → Q (.ref r) H'
theorem len_layers {K vs H Q E} (h : sp_layers K vs H Q E) : vs.length = 1 := by
  obtain ⟨p, as, ds, rfl, _⟩ := h
  rfl
abbrev n_layers : List Str := ["diary"]
def t_layers (K : PySem.W.Frag) : TS :=
  (tRet (tCall (sp_laid K) [] E0 (tCons (tVar 0) (tCons (tCall (sp_heights K) [] E0 (tCons (tVar 0) tNil)) tNil))))
theorem r_layers {K vs H Q E} (h : sp_layers K vs H Q E) : t_layers K { nx := fun _ H' => Q .non H', rt := Q } (start n_layers vs) H := by
  obtain ⟨p, as, ds, rfl, hp, hl, k⟩ := h
  unfold t_layers
  walk_at "go"
  refine ⟨p, as, ds, rfl, hp, by rw [hp.2.len]; omega, fun q H1 hq s1 g1 => ?_⟩
  walk_at "go"
  refine ⟨p, q, as, ds, hts ds, rfl, hp.mono s1, g1, hts_len ds, by omega, fun n hn => by have := hts_small n hn; omega, fun r H2 rs s2 ra => ?_⟩
  exact k r H2 rs (s1.trans s2) (ra.base s1)

def sp_beneath (K : PySem.W.Frag) : Sp := fun vs H Q _ => ∃ p q as ds ns x h, vs = [.ref p, .ref q, .int (x : Nat)] ∧ LD H p as ds ∧ H q = some (.lst (nv ns)) ∧ ns.length = ds.length ∧ ns[x]? = some (h + 1) ∧ (∃ j, j < ds.length ∧ hitAt ds ns h (some x) j = true) ∧
  ∀ k : Nat, IsFst (hitAt ds ns h (some x)) k → k < ds.length → Q (.int k) H
theorem len_beneath {K vs H Q E} (h : sp_beneath K vs H Q E) : vs.length = 3 := by
  obtain ⟨p, q, as, ds, ns, x, h, rfl, _⟩ := h
  rfl
abbrev n_beneath : List Str := ["diary", "known", "at", "place"]
def t_beneath (K : PySem.W.Frag) : TS :=
  (tSeq (tAsg (tC (.int 0)) (gName 3))
  (tSeq (tWhile (tOr (tTest (tOp (rNeA K) (tOp (rIx K) (tVar 1) (tVar 3)) (tOp rSub (tOp (rIx K) (tVar 1) (tVar 2)) (tC (.int 1))))) (tNot (tB (tCall (sp_clash K) [] E0 (tCons (tOp (rIx K) (tVar 0) (tVar 3)) (tCons (tOp (rIx K) (tVar 0) (tVar 2)) tNil))))))
  (tAsg (tOp rPlus (tVar 3) (tC (.int 1))) (gName 3)))
  (tRet (tVar 3))))
theorem r_beneath {K vs H Q E} (h : sp_beneath K vs H Q E) : t_beneath K { nx := fun _ H' => Q .non H', rt := Q } (start n_beneath vs) H := by
  obtain ⟨p, q, as, ds, ns, x, h, rfl, hp, hq, hln, hx, ⟨j, hj, hit⟩, k⟩ := h
  have gp := hp.1
  unfold t_beneath
  walk_at "go"
  refine whl (fun m σ H1 => ∃ i : Nat, σ = [some (.ref p), some (.ref q), some (.int (x : Int)), some (.int (i : Int))] ∧ H1 = H ∧ i ≤ j ∧ (∀ l : Nat, l < i → hitAt ds ns h (some x) l = false) ∧ m = j - i) _
    ⟨0, rfl, rfl, Nat.zero_le _, fun l hl => absurd hl (Nat.not_lt_zero _), rfl⟩ ?_
  rintro m σ H1 ⟨i, rfl, rfl, hi, hno, rfl⟩
  obtain ⟨n, hn⟩ : ∃ n, ns[i]? = some n := ⟨_, List.getElem?_eq_getElem (by omega)⟩
  obtain ⟨d, hd⟩ : ∃ d, ds[i]? = some d := ⟨_, List.getElem?_eq_getElem (by omega)⟩
  have hxl := (List.getElem?_eq_some_iff.mp hx).1
  obtain ⟨dx, hdx⟩ : ∃ d, ds[x]? = some d := ⟨_, List.getElem?_eq_getElem (by omega)⟩
  obtain ⟨a, ha, ta⟩ := hp.2.getd hd
  obtain ⟨ax, hax, tax⟩ := hp.2.getd hdx
  have e1 : ds.getD i default = d := by simp [List.getD, hd]
  have e2 : ds.getD x default = dx := by simp [List.getD, hdx]
  have hv : hitAt ds ns h (some x) i = (decide (n = h) && clash d dx) := by
    rw [hitAt, hn, e1, e2]
    rfl
  have step : hitAt ds ns h (some x) i = false → i + 1 ≤ j ∧ ∀ l : Nat, l < i + 1 → hitAt ds ns h (some x) l = false := fun hf => by
    refine ⟨?_, fun l hl => ?_⟩
    · rcases Nat.lt_or_ge i j with q | q
      · omega
      · have : i = j := by omega
        rw [this, hit] at hf
        cases hf
    · rcases Nat.lt_or_ge l i with q | q
      · exact hno l q
      · have : l = i := by omega
        rw [this]
        exact hf
  walk_at "go"
  refine ix_l' hq (atI_nat (j := i) (nv_get hn)) ?_
  walk_at "go"
  refine ix_l' hq (atI_nat (j := x) (nv_get hx)) ?_
  walk_at "go"
  have ec : (decide ((n : Int) = ((h + 1 : Nat) : Int) - 1)) = decide (n = h) := decide_eq_decide.mpr (by omega)
  rw [ec]
  by_cases c : n = h
  · rw [decide_eq_true c]
    walk_at "go"
    refine ix_l' gp (atI_nat (j := i) (ref_at ha)) ?_
    refine ix_l' gp (atI_nat (j := x) (ref_at hax)) ?_
    refine ⟨a, ax, d, dx, rfl, ta, tax, ?_⟩
    walk_at "go"
    cases c2 : clash d dx with
    | true =>
      walk_at "go"
      exact k i ⟨by rw [hv, c2, decide_eq_true c]; rfl, hno⟩ (by omega)
    | false =>
      walk_at "go"
      refine whb ?_
      walk_at "go"
      have st := step (by rw [hv, c2, Bool.and_false])
      exact ⟨j - (i + 1), by omega, i + 1, rfl, rfl, st.1, st.2, rfl⟩
  · rw [decide_eq_false c]
    walk_at "go"
    refine whb ?_
    walk_at "go"
    have st := step (by rw [hv, decide_eq_false c]; rfl)
    exact ⟨j - (i + 1), by omega, i + 1, rfl, rfl, st.1, st.2, rfl⟩

def sp_chain (K : PySem.W.Frag) : Sp := fun vs H Q _ => ∃ p as ds, vs = [.ref p] ∧ LD H p as ds ∧ ds.length ≤ 400 ∧ ∀ r H' c, H r = none → Same H H' → H' r = some (.lst (nv c)) → IsCh ds (hts ds) (tops (hts ds)) (tops (hts ds)) c → Q (.ref r) H'
theorem len_chain {K vs H Q E} (h : sp_chain K vs H Q E) : vs.length = 1 := by
  obtain ⟨p, as, ds, rfl, _⟩ := h
  rfl
theorem atI_last {xs : List V} {v : V} : atI (xs ++ [v]) (-1) = some v := by
  have h : ixN (xs ++ [v]).length (-1) = some xs.length := by
    unfold ixN
    rw [List.length_append]
    simp
    omega
  unfold atI
  rw [h]
  simp
theorem fst_ex {p : Nat → Bool} : ∀ (j : Nat), p j = true → ∃ k : Nat, k ≤ j ∧ IsFst p k := by
  intro j
  induction j using Nat.strongRecOn with
  | _ j ih =>
    intro h
    by_cases e : ∃ i : Nat, i < j ∧ p i = true
    · obtain ⟨i, hi, pi⟩ := e
      obtain ⟨k, hk, f⟩ := ih i hi pi
      exact ⟨k, by omega, f⟩
    · refine ⟨j, Nat.le_refl _, h, fun i hi => ?_⟩
      cases c : p i with
      | false => rfl
      | true => exact absurd ⟨i, hi, c⟩ e
theorem nv_flat (ns : List Nat) : (nv ns).all flatV = true := by
  rw [List.all_eq_true]
  intro v hv
  obtain ⟨n, _, rfl⟩ := List.mem_map.mp hv
  rfl
theorem index_nv {K : PySem.W.Frag} {H : Hp} {q : Addr} {ns : List Nat} {h : Nat} {Q : VK} (g : H q = some (.lst (nv ns))) (hm : h ∈ ns) (k : ∀ j : Nat, IsFst (fun j => ns[j]? == some h) j → Q (.int (j : Nat)) H) : rIndex K (.ref q) [.int (h : Int)] H Q := by
  obtain ⟨j0, hj0⟩ := List.getElem?_of_mem hm
  obtain ⟨j, _, f⟩ := fst_ex (p := fun j => ns[j]? == some h) j0 (by simp [hj0])
  have hj : ns[j]? = some h := by simpa using f.1
  refine ⟨q, _, _, j, .int (h : Int), rfl, rfl, .of g, rfl, nv_flat ns, nv_get hj, by simp [eqV], fun m z hm hz => ?_, k j f⟩
  obtain ⟨n, hn, rfl⟩ := nv_at hz
  have := f.2 m hm
  simp only [hn] at this
  show ((n : Int) == (h : Int)) = false
  rw [beq_eq_false_iff_ne]
  intro e
  have : n = h := by omega
  subst this
  simp_all
theorem max_nv {K : PySem.W.Frag} {H : Hp} {q : Addr} {ns : List Nat} {Q : VK} (g : H q = some (.lst (nv ns))) (hn : ns ≠ []) (k : Q (.int ((tops ns - 1 : Nat) : Int)) H) : rMax K [.ref q] H Q := by
  refine ⟨q, ns.map fun n : Nat => (n : Int), rfl, .of (by rw [g, List.map_map]; rfl), ?_, fun m hm hy => ?_⟩
  · rw [List.length_map]
    exact List.length_pos_iff.mpr hn
  · obtain ⟨n, hn', rfl⟩ := List.mem_map.mp hm
    have h0 := tops_lt hn'
    obtain ⟨n1, h1, e1⟩ := tops_mem (ns := ns) (by omega)
    have h2 := hy _ (List.mem_map_of_mem h1)
    rw [show tops ns - 1 = n by omega] at k
    exact k
abbrev n_chain : List Str := ["diary", "known", "found"]
def t_chain (K : PySem.W.Frag) : TS :=
  (tSeq (tAsg (tCall (sp_heights K) [] E0 (tCons (tVar 0) tNil)) (gName 1))
  (tSeq (tIfS (tTest (tOp (rEqA K) (tVar 1) (tLst tNil)))
  (tRet (tLst tNil))
  tNext)
  (tSeq (tAsg (tLst (tCons (tBM K "list" (rIndex K) (tVar 1) (tCons (tCB (rMax K) (tCons (tVar 1) tNil)) tNil)) tNil)) (gName 2))
  (tSeq (tWhile (tTest (tOp rGt (tOp (rIx K) (tVar 1) (tOp (rIx K) (tVar 2) (tUn rNeg (tC (.int 1))))) (tC (.int 0))))
  (tDrop (tBM K "list" rAppend (tVar 2) (tCons (tCall (sp_beneath K) [] E0 (tCons (tVar 0) (tCons (tVar 1) (tCons (tOp (rIx K) (tVar 2) (tUn rNeg (tC (.int 1)))) tNil)))) tNil))))
  (tRet (tListRev K (tVar 2)))))))
theorem r_chain {K vs H Q E} (h : sp_chain K vs H Q E) : t_chain K { nx := fun _ H' => Q .non H', rt := Q } (start n_chain vs) H := by
  obtain ⟨p, as, ds, rfl, hp, hl, k⟩ := h
  have hI := hts_isH ds
  unfold t_chain
  walk_at "go"
  refine ⟨p, as, ds, rfl, hp, by rw [hp.2.len]; omega, fun q H1 hq s1 g1 => ?_⟩
  walk_at "go"
  refine lstQ fun e H2 he s2 g2 => ?_
  have g12 := s2 _ _ g1
  refine eqA_ok (nv_dp g12) (nv_dp (ns := []) g2) (nv_ok _) (nv_ok []) fun b hb => ?_
  have gq := g12
  walk_at "go"
  refine ite2 (fun c => ?_) (fun c => ?_)
  · have e0 : hts ds = [] := by
      have := hb.mp c
      simpa using this
    walk_at "go"
    refine lstQ fun r H3 hr s3 g3 => ?_
    refine k r H3 [] ((s1.trans s2).free hr) ((s1.trans s2).trans s3) g3 ?_
    rw [e0]
    exact .nil
  · have e0 : hts ds ≠ [] := fun e => c (hb.mpr (by rw [e]))
    have ht : 0 < tops (hts ds) := by
      rcases Nat.eq_zero_or_pos (tops (hts ds)) with e | e
      · exact absurd (tops_nil e) e0
      · exact e
    obtain ⟨n1, h1, e1⟩ := tops_mem (ns := hts ds) (by omega)
    walk_at "go"
    refine ⟨ty_l gq, ?_⟩
    refine max_nv gq e0 ?_
    refine index_nv gq (by rw [e1]; exact h1) fun j hj => ?_
    refine lstQ fun r H3 hr s3 g3 => ?_
    walk_at "go"
    have hr0 := (s1.trans s2).free hr
    refine whl (fun m σ H5 => ∃ (j x : Nat) (c : List Nat), σ = [some (.ref p), some (.ref q), some (.ref r)] ∧ Same H2 H5 ∧ H5 r = some (.lst (nv c.reverse ++ [.int (x : Int)])) ∧ IsCh ds (hts ds) (tops (hts ds)) (j + 1) (x :: c) ∧ j + 1 ≤ tops (hts ds) ∧ m = tops (hts ds) - (j + 1)) _
      ⟨0, j, [], rfl, s3, g3, .cons .nil hj, ht, rfl⟩ ?_
    rintro m σ H5 ⟨i, x, c, rfl, s5, g5, ch, hi, rfl⟩
    have gq5 := s5 _ _ gq
    have gp5 := s5 _ _ (s2 _ _ (s1 _ _ hp.1))
    have hx := ch.head
    walk_at "go"
    refine ix_l' g5 atI_last ?_
    refine ix_l' gq5 (atI_nat (j := x) (nv_get hx)) ?_
    walk_at "go"
    refine ite2 (fun cc => whb ?_) (fun cc => ?_)
    · have cc : 0 < tops (hts ds) - 1 - i := by simpa using cc
      walk_at "go"
      refine ⟨ty_l g5, ?_⟩
      refine ix_l' g5 atI_last ?_
      obtain ⟨j2, hj2, hit, _⟩ := ch.next hI (by omega)
      refine ⟨p, q, as, ds, hts ds, x, tops (hts ds) - 1 - (i + 1), rfl, hp.mono ((s1.trans s2).trans s5), gq5, hts_len ds, by rw [hx]; congr 1; omega, ⟨j2, hj2, hit⟩, fun k2 f2 hk2 => ?_⟩
      walk_at "go"
      have hlt := ch.len
      have htl := tops_le (ds := ds)
      refine append_r s5 hr g5 (by simp at hlt ⊢; omega) fun H6 s6 g6 ne6 => ?_
      refine ⟨tops (hts ds) - (i + 1 + 1), by omega, i + 1, k2, x :: c, rfl, s6, ?_, .cons ch f2, by omega, rfl⟩
      rw [g6, List.reverse_cons]
      simp only [nv, List.map_append, List.map_cons, List.map_nil]
    · have cc : tops (hts ds) - 1 - i = 0 := by
        rcases Nat.eq_zero_or_pos (tops (hts ds) - 1 - i) with q | q
        · exact q
        · exact absurd (by simpa using q) cc
      walk_at "go"
      unfold tListRev
      walk_at "go"
      refine ⟨r, _, rfl, .of g5, fun r2 hr2 => ?_⟩
      have s15 := (s1.trans s2).trans s5
      have e : i + 1 = tops (hts ds) := by omega
      refine k r2 _ (x :: c) (s15.free hr2) (s15.trans (same_new hr2)) ?_ (by rw [e] at ch; exact ch)
      rw [upd_same]
      simp
theorem rows_ok (R : Nat → List Dd) (t : Nat) : okD 4 (.list ((List.range t).map fun k => PyData.list ((R k).map dd))) := fun e he => by
  obtain ⟨k, _, rfl⟩ := List.mem_map.mp he
  exact dds_ok _
theorem RA.dp {K : PySem.W.Frag} {H0 H : Hp} {r rs t R} (h : RA H0 H r rs t R) : Dp K H (.ref r) (.list ((List.range t).map fun k => PyData.list ((R k).map dd))) := by
  refine .lst (.of h.lst) ?_
  have key : ∀ (l : List Addr) (n i : Nat), (∀ (k : Nat) a, l[k]? = some a → ∃ cs, LD H a cs (R (i + k))) → l.length = n → DpAll K H (l.map V.ref) ((List.range' i n).map fun k => PyData.list ((R k).map dd)) := by
    intro l
    induction l with
    | nil =>
      intro n i _ e
      subst e
      exact .nil
    | cons a l ih =>
      intro n i h e
      subst e
      rw [List.length_cons, List.range'_succ, List.map_cons, List.map_cons]
      obtain ⟨cs, c⟩ := h 0 a rfl
      refine .cons (ld_dp c) (ih _ _ (fun k b e => ?_) rfl)
      obtain ⟨cs', c'⟩ := h (k + 1) b (by simpa using e)
      exact ⟨cs', by rw [show i + 1 + k = i + (k + 1) by omega]; exact c'⟩
  have := key rs t 0 (fun k a e => by rw [Nat.zero_add]; exact (h.row k a e).2) h.len
  rw [List.range_eq_range']
  exact this
end Pb

namespace Pb
open PySem PySem.Spec L2
/-! ### a diary done -/
theorem bit_at (b k : Nat) : (Builtin.bitAnd ((b : Int) / 2 ^ ((k : Int)).toNat) 1 = 1) ↔ b.testBit k = true := by
  have e : ((b : Int) / 2 ^ ((k : Int)).toNat) = ((b / 2 ^ k : Nat) : Int) := by
    rw [Int.toNat_natCast]
    simp
  rw [e, show (1 : Int) = ((1 : Nat) : Int) from rfl, band_nat, Nat.testBit, Nat.shiftRight_eq_div_pow, Nat.and_comm, Nat.one_and_eq_mod_two]
  have h2 : b / 2 ^ k % 2 < 2 := Nat.mod_lt _ (by decide)
  simp only [bne_iff_ne]
  omega
theorem bit_dec (b k : Nat) : decide (Builtin.bitAnd ((b : Int) / 2 ^ ((k : Int)).toNat) 1 = 1) = b.testBit k := by
  rw [Bool.eq_iff_iff, decide_eq_true_iff]
  exact bit_at b k
/-- the boxes below n that b tells -/
def bx (n b : Nat) : List Nat := (List.range n).filter fun k => b.testBit k
theorem mem_bx {n b k : Nat} : k ∈ bx n b ↔ k < n ∧ b.testBit k = true := by
  unfold bx
  rw [List.mem_filter, List.mem_range]
theorem bx_lt {n b k m : Nat} (h : k ∈ bx n b) (hb : b < 2 ^ m) : k < m := by
  rcases Nat.lt_or_ge k m with q | q
  · exact q
  · have := Nat.testBit_lt_two_pow (Nat.lt_of_lt_of_le hb (Nat.pow_le_pow_right (by decide) q))
    rw [(mem_bx.mp h).2] at this
    cases this
theorem bx_cut {n m b : Nat} (h : n ≤ m) (hb : b < 2 ^ n) : bx m b = bx n b := by
  unfold bx
  obtain ⟨d, rfl⟩ := Nat.exists_eq_add_of_le h
  rw [List.range_add, List.filter_append]
  have : ((List.range d).map (n + ·)).filter (fun k => b.testBit k) = [] := by
    rw [List.filter_eq_nil_iff]
    intro k hk
    obtain ⟨j, _, rfl⟩ := List.mem_map.mp hk
    rw [Nat.testBit_lt_two_pow (Nat.lt_of_lt_of_le hb (Nat.pow_le_pow_right (by decide) (Nat.le_add_right n j)))]
    decide
  rw [this, List.append_nil]
def saidM (d : Dd) (held : List Int) : Int := (bx 60 d.l).foldl (fun (t : Int) (k : Nat) => t + ((k : Int) + 1) * held.getD k 0) d.n
def setM (said : Int) (held : List Int) (ks : List Nat) : List Int := ks.foldl (fun h k => h.set k (said + k)) held
def stepM (st : List Int × List Int) (d : Dd) : List Int × List Int := (st.1 ++ [saidM d st.2], setM (saidM d st.2) st.2 (bx 60 d.c))
def doneM (ds : List Dd) (held : List Int) : List Int × List Int := ds.foldl stepM ([], held)
theorem setM_len (said : Int) : ∀ (ks : List Nat) (held : List Int), (setM said held ks).length = held.length
  | [], _ => rfl
  | k :: ks, held => by
    unfold setM
    rw [List.foldl_cons]
    exact (setM_len said ks _).trans (List.length_set ..)
theorem foldM_len : ∀ (ds : List Dd) (st : List Int × List Int), (ds.foldl stepM st).1.length = st.1.length + ds.length ∧ (ds.foldl stepM st).2.length = st.2.length
  | [], st => ⟨rfl, rfl⟩
  | d :: ds, st => by
    rw [List.foldl_cons]
    obtain ⟨a, b⟩ := foldM_len ds (stepM st d)
    refine ⟨?_, ?_⟩
    · rw [a]
      simp [stepM]
      omega
    · rw [b]
      exact setM_len _ _ _
theorem doneM_len (ds : List Dd) (held : List Int) : (doneM ds held).1.length = ds.length ∧ (doneM ds held).2.length = held.length := by
  obtain ⟨a, b⟩ := foldM_len ds ([], held)
  exact ⟨by rw [doneM, a]; simp, b⟩
/-- a deed of boxes below n -/
def Fits (n : Nat) (d : Dd) : Prop := d.l ||| d.c < 2 ^ n
instance (n : Nat) (d : Dd) : Decidable (Fits n d) := inferInstanceAs (Decidable (d.l ||| d.c < 2 ^ n))
theorem fits_l {n : Nat} {d : Dd} (h : Fits n d) : d.l < 2 ^ n := Nat.lt_of_le_of_lt Nat.left_le_or h
theorem fits_c {n : Nat} {d : Dd} (h : Fits n d) : d.c < 2 ^ n := Nat.lt_of_le_of_lt Nat.right_le_or h
/-- whole numbers, as values -/
abbrev iv (ns : List Int) : List V := ns.map V.int

def sp_boxes_of (K : PySem.W.Frag) : Sp := fun vs H Q _ => ∃ b : Nat, vs = [.int b] ∧ ∀ p H', H p = none → Same H H' → H' p = some (.lst (nv (bx 60 b))) → Q (.ref p) H'
theorem len_boxes_of {K vs H Q E} (h : sp_boxes_of K vs H Q E) : vs.length = 1 := by
  obtain ⟨b, rfl, _⟩ := h
  rfl
abbrev n_boxes_of : List Str := ["bits", "k"]
def t_boxes_of (K : PySem.W.Frag) : TS :=
  (tRet (tLc (iRng1 (tCons (tC (.int 60)) tNil)) (gName 1) (tTest (tOp (rEqA K) (tOp rAnd (tOp rShr (tVar 0) (tVar 1)) (tC (.int 1))) (tC (.int 1)))) (tVar 1) [1]))
theorem fm_nv (c : Nat → Bool) : ∀ l : List Nat, l.filterMap (fun k => if c k = true then some (V.int (k : Int)) else none) = nv (l.filter c)
  | [] => rfl
  | k :: l => by
    rw [List.filterMap_cons, List.filter_cons]
    cases h : c k
    · simp [fm_nv c l]
    · simp [fm_nv c l]
theorem r_boxes_of {K vs H Q E} (h : sp_boxes_of K vs H Q E) : t_boxes_of K { nx := fun _ H' => Q .non H', rt := Q } (start n_boxes_of vs) H := by
  obtain ⟨b, rfl, q⟩ := h
  unfold t_boxes_of
  walk_at "go"
  refine lcR1 (n := 60) (fun k => if b.testBit k = true then some (.int (k : Int)) else none) (by decide) ?_ ?_
  · intro k H3 hk s3 R hR R2 hR2
    walk_at "go"
    refine ⟨by omega, ?_⟩
    rw [bit_dec]
    cases c : b.testBit k with
    | true =>
      walk_at "go"
      exact hR _ _ (by rw [c]; rfl) (Same.refl _)
    | false =>
      walk_at "go"
      exact hR2 _ (by rw [c]; rfl) (Same.refl _)
  · intro p H' hp s g
    rw [fm_nv] at g
    exact q p H' hp s g

def sp_said_by (K : PySem.W.Frag) : Sp := fun vs H Q _ => ∃ a q d cs, vs = [.ref a, .ref q] ∧ TD H a d ∧ H q = some (.lst (iv cs)) ∧ d.l < 2 ^ cs.length ∧ ∀ H', Same H H' → Q (.int (saidM d cs)) H'
theorem len_said_by {K vs H Q E} (h : sp_said_by K vs H Q E) : vs.length = 2 := by
  obtain ⟨a, q, d, cs, rfl, _⟩ := h
  rfl
abbrev n_said_by : List Str := ["deed", "held", "total", "k"]
def t_said_by (K : PySem.W.Frag) : TS :=
  (tSeq (tAsg (tOp (rIx K) (tVar 0) (tC (.int 0))) (gName 2))
  (tSeq (tFor (iList K (tCall (sp_boxes_of K) [] E0 (tCons (tOp (rIx K) (tVar 0) (tC (.int 1))) tNil))) (gName 3)
  (tAsg (tOp rPlus (tVar 2) (tOp rMul (tOp rPlus (tVar 3) (tC (.int 1))) (tOp (rIx K) (tVar 1) (tVar 3)))) (gName 2)))
  (tRet (tVar 2))))
theorem iv_get {ns : List Int} {i : Nat} (h : i < ns.length) : (iv ns)[i]? = some (.int (ns.getD i 0)) := by
  rw [List.getElem?_map, List.getElem?_eq_getElem h]
  simp [List.getD, h]
theorem r_said_by {K vs H Q E} (h : sp_said_by K vs H Q E) : t_said_by K { nx := fun _ H' => Q .non H', rt := Q } (start n_said_by vs) H := by
  obtain ⟨a, q, d, cs, rfl, ha, hq, hl, k⟩ := h
  unfold t_said_by
  walk_at "go"
  refine ⟨d.l, rfl, fun p H1 hp s1 g1 => ?_⟩
  refine forL (.of g1) (fun i σ H3 => ∃ (v3 : Option V), σ = [some (.ref a), some (.ref q), some (.int (((bx 60 d.l).take i).foldl (fun (t : Int) (k : Nat) => t + ((k : Int) + 1) * cs.getD k 0) d.n)), v3] ∧ H3 = H1) ⟨none, rfl, rfl⟩ (fun i σ H3 _ ⟨_, _, e⟩ => by rw [e]; exact .of g1) ?_ ?_
  · rintro i x σ H3 hx ⟨v3, rfl, rfl⟩
    obtain ⟨n, hn, rfl⟩ := nv_at hx
    have hb := bx_lt (List.mem_of_getElem? hn) hl
    have hf := fold_take (fun (t : Int) (k : Nat) => t + ((k : Int) + 1) * cs.getD k 0) d.n hn
    have h60 := (mem_bx.mp (List.mem_of_getElem? hn)).1
    have gq := s1 _ _ hq
    walk_at "go"
    refine ix_l' gq (atI_nat (j := n) (iv_get hb)) ?_
    walk_at "go"
    exact ⟨of_eq_true (cmw ⟨by omega, by omega⟩), some (.int (n : Int)), by rw [hf], rfl⟩
  · rintro σ H3 ⟨v3, rfl, rfl⟩
    walk_at "go"
    rw [List.length_map, List.take_length]
    exact k H3 s1

def sp_done (K : PySem.W.Frag) (G : Str → Addr) : Sp := fun vs H Q E => ∃ p q as ds cs, vs = [.ref p, .ref q] ∧ LD H p as ds ∧ H q = some (.lst (iv cs)) ∧ cs.length ≤ 60 ∧ ds.length ≤ 100 ∧
  ((∃ d ∈ ds, ¬ Fits cs.length d) → ∀ H', Same H H' → E (.ref (G "NoBox")) none H') ∧
  ((∀ d ∈ ds, Fits cs.length d) → ∀ t u v H', Same H H' → H t = none → H u = none → H v = none → u ≠ v → H' t = some (.tup [.ref u, .ref v]) → H' u = some (.lst (iv (doneM ds cs).1)) → H' v = some (.lst (iv (doneM ds cs).2)) → Q (.ref t) H')
theorem len_done {K G vs H Q E} (h : sp_done K G vs H Q E) : vs.length = 2 := by
  obtain ⟨p, q, as, ds, cs, rfl, _⟩ := h
  rfl
abbrev n_done : List Str := ["diary", "contents", "held", "told", "deed", "said", "k"]
def t_done (K : PySem.W.Frag) (G : Str → Addr) (E : XK) : TS :=
  (tSeq (tAsg (tCB (rListOf K) (tCons (tVar 1) tNil)) (gName 2))
  (tSeq (tAsg (tLst tNil) (gName 3))
  (tSeq (tFor (iList K (tVar 0)) (gName 4)
  (tSeq (tIfS (tTest (tOp (rNeA K) (tOp rShr (tOp rOr (tOp (rIx K) (tVar 4) (tC (.int 1))) (tOp (rIx K) (tVar 4) (tC (.int 2)))) (tCB (rLen K) (tCons (tVar 2) tNil))) (tC (.int 0))))
  (fun _ _ H => E (.ref (G "NoBox")) none H)
  tNext)
  (tSeq (tAsg (tCall (sp_said_by K) [] E0 (tCons (tVar 4) (tCons (tVar 2) tNil))) (gName 5))
  (tSeq (tFor (iList K (tCall (sp_boxes_of K) [] E0 (tCons (tOp (rIx K) (tVar 4) (tC (.int 2))) tNil))) (gName 6)
  (tAsg (tOp rPlus (tVar 5) (tVar 6)) (gSub (tVar 2) (tVar 6) rSetL)))
  (tDrop (tBM K "list" rAppend (tVar 3) (tCons (tVar 5) tNil)))))))
  (tRet (tTup (tCons (tVar 3) (tCons (tVar 2) tNil)))))))
theorem iv_set {cs : List Int} {k : Nat} {x : Int} : (iv cs).set k (.int x) = iv (cs.set k x) := by
  rw [iv, iv, List.map_set]
theorem iv_snoc {cs : List Int} {x : Int} : iv cs ++ [.int x] = iv (cs ++ [x]) := by
  simp [iv]
theorem shr_dec (x n : Nat) : (!decide (((x : Nat) : Int) / 2 ^ ((n : Nat) : Int).toNat = 0)) = decide (¬ x < 2 ^ n) := by
  have e : ((x : Int) / 2 ^ ((n : Int)).toNat) = ((x / 2 ^ n : Nat) : Int) := by
    rw [Int.toNat_natCast]
    simp
  rw [e]
  have h : x / 2 ^ n = 0 ↔ x < 2 ^ n := Nat.div_eq_zero_iff_lt (Nat.two_pow_pos n)
  by_cases c : x < 2 ^ n
  · rw [decide_eq_true (by rw [h.mpr c]; rfl), decide_eq_false (fun q => q c)]
    rfl
  · rw [decide_eq_false (fun q => c (h.mp (by omega))), decide_eq_true c]
    rfl
theorem r_done {K G vs H Q E} (h : sp_done K G vs H Q E) : t_done K G E { nx := fun _ H' => Q .non H', rt := Q } (start n_done vs) H := by
  obtain ⟨p, q, as, ds, cs, rfl, hp, hq, hcl, hdl, kE, kQ⟩ := h
  unfold t_done
  walk_at "go"
  refine listOf (.of hq) fun v H1 hv s1 g1 => ?_
  walk_at "go"
  refine lstQ fun u H2 hu s2 g2 => ?_
  have nuv : u ≠ v := (ne_of_none g1 hu).symm
  have hu0 := s1.free hu
  walk_at "go"
  refine forL (.of ((s1.trans s2) _ _ hp.1)) (fun i σ H3 => ∃ (v4 v5 v6 : Option V), σ = [some (.ref p), some (.ref q), some (.ref v), some (.ref u), v4, v5, v6] ∧ Same H H3 ∧ H3 u = some (.lst (iv (doneM (ds.take i) cs).1)) ∧ H3 v = some (.lst (iv (doneM (ds.take i) cs).2)) ∧ ∀ d ∈ ds.take i, Fits cs.length d)
    ⟨none, none, none, rfl, s1.trans s2, g2, s2 _ _ g1, by simp⟩ (fun i σ H3 _ ⟨_, _, _, _, s, _⟩ => s.seq (.of hp.1)) ?_ ?_
  · rintro i x σ H3 hx ⟨v4, v5, v6, rfl, s3, gu, gv, hfit⟩
    obtain ⟨a, ha, rfl⟩ := ref_get hx
    obtain ⟨d, hd, td⟩ := hp.2.get ha
    have hi := (List.getElem?_eq_some_iff.mp hd).1
    obtain ⟨l1, l2⟩ := doneM_len (ds.take i) cs
    have hf : doneM (ds.take (i + 1)) cs = stepM (doneM (ds.take i) cs) d := fold_take stepM _ hd
    have htk : ds.take (i + 1) = ds.take i ++ [d] := by rw [List.take_add_one, hd]; rfl
    generalize doneM (ds.take i) cs = st at *
    have td3 := s3 _ _ td
    walk_at "go"
    rw [List.length_map, l2]
    refine ⟨by omega, ?_⟩
    rw [shr_dec, show decide (¬ d.l ||| d.c < 2 ^ cs.length) = decide (¬ Fits cs.length d) from rfl]
    by_cases c : Fits cs.length d
    · rw [decide_eq_false (fun q => q c)]
      walk_at "go"
      refine ⟨a, v, d, st.2, rfl, td3, gv, by rw [l2]; exact fits_l c, fun H4 s4 => ?_⟩
      have td4 := s4 _ _ td3
      walk_at "go"
      refine ⟨d.c, rfl, fun b H5 hb s5 g5 => ?_⟩
      have s05 := (s3.trans s4).trans s5
      have gv5 := s5 _ _ (s4 _ _ gv)
      have gu5 := s5 _ _ (s4 _ _ gu)
      have nvb : v ≠ b := ne_of_none (s4 _ _ gv) hb
      refine forL (.of g5) (fun j σ H6 => ∃ (v6 : Option V), σ = [some (.ref p), some (.ref q), some (.ref v), some (.ref u), some (.ref a), some (.int (saidM d st.2)), v6] ∧ Same H H6 ∧ H6 u = some (.lst (iv st.1)) ∧ H6 v = some (.lst (iv (setM (saidM d st.2) st.2 ((bx 60 d.c).take j)))) ∧ H6 b = some (.lst (nv (bx 60 d.c))))
        ⟨v6, rfl, s05, gu5, gv5, g5⟩ (fun j σ H6 _ ⟨_, _, _, _, _, g⟩ => .of g) ?_ ?_
      · rintro j x σ H6 hx ⟨v6, rfl, s6, gu6, gv6, g6⟩
        obtain ⟨n, hn, rfl⟩ := nv_at hx
        have hb' := bx_lt (List.mem_of_getElem? hn) (fits_c c)
        have hf2 : setM (saidM d st.2) st.2 ((bx 60 d.c).take (j + 1)) = (setM (saidM d st.2) st.2 ((bx 60 d.c).take j)).set n (saidM d st.2 + n) := fold_take _ _ hn
        walk_at "go"
        refine set_r s6 hv gv6 (by rw [List.length_map, setM_len, l2]; exact hb') fun H7 s7 g7 ne7 => ?_
        refine ⟨_, rfl, s7, (ne7 u nuv).trans gu6, ?_, (ne7 b nvb.symm).trans g6⟩
        rw [g7, iv_set, hf2]
      · rintro σ H6 ⟨v6, rfl, s6, gu6, gv6, g6⟩
        rw [List.length_map, List.take_length] at gv6
        walk_at "go"
        refine ⟨ty_l gu6, ?_⟩
        refine append_r s6 hu0 gu6 (by rw [List.length_map, l1, List.length_take]; omega) fun H7 s7 g7 ne7 => ?_
        refine ⟨_, _, _, rfl, s7, ?_, ?_, fun e he => ?_⟩
        · rw [g7, hf, iv_snoc]
          rfl
        · rw [ne7 v nuv.symm, gv6, hf]
          rfl
        · rw [htk] at he
          rcases List.mem_append.mp he with he | he
          · exact hfit e he
          · rw [List.mem_singleton.mp he]
            exact c
    · rw [decide_eq_true c]
      walk_at "go"
      exact kE ⟨d, List.mem_of_getElem? hd, c⟩ H3 s3
  · rintro σ H3 ⟨v4, v5, v6, rfl, s3, gu, gv, hfit⟩
    have e : ds.take (as.map V.ref).length = ds := List.take_of_length_le (by rw [List.length_map, hp.2.len]; exact Nat.le_refl _)
    rw [e] at gu gv hfit
    walk_at "go"
    refine tupQ fun t H4 ht s4 g4 => ?_
    exact kQ hfit t u v H4 (s3.trans s4) (s3.free ht) hu0 hv nuv g4 (s4 _ _ gu) (s4 _ _ gv)
end Pb

namespace Pb
open PySem PySem.Spec L2
/-! ### errors of the program's own classes -/
def tWhen (p : Prop) (t : TS) : TS := fun D σ H => p ∧ t D σ H
theorem pss_when {X : Cx} {p : Prop} {bs : List Stmt} {t : TS} (h : p → PSs X bs t) : PSs X bs (tWhen p t) := ⟨fun pins s σ H D I z => (h z.1).run pins s σ H D I z.2⟩
abbrev errNames : List Str := ["NoDeed", "NoPass", "Nothing", "NoBox"]
/-- what the class c says of itself and of the others -/
structure XF (K : PySem.W.Frag) (G : Str → Addr) (c : Str) : Prop where
  ex : ExcC K (G c)
  es : PySem.W.exmOne K (.ref (G c)) (.ref (G c)) = some true
  eb : PySem.W.exmOne K (.ref (G c)) (.ref (G "PassbyError")) = some true
  kv : PySem.W.kitOne K (.ref (G c)) (.type "ValueError") = some true
  ks : PySem.W.kitOne K (.ref (G c)) (.ref (G c)) = some true
  ko : ∀ x ∈ errNames, x ≠ c → PySem.W.kitOne K (.ref (G c)) (.ref (G x)) = some false
theorem cls_isSome {K : PySem.W.Frag} {D : Addr} (h : PySem.W.hasDictIn K D = true) : (PySem.W.clsIn K D).isSome = true := by
  obtain ⟨cd, hc, _⟩ := PySem.W.any_some h
  rw [hc]
  rfl
theorem kit_cls_own {K : PySem.W.Frag} {t : Value} {D : Addr} {b : Bool} (hd : PySem.W.hasDictIn K D = true) (ht : PySem.W.typeIn K (.ref D) = some (.type "type")) (h : PySem.W.subIn K t (.ref D) = some b) : PySem.W.kitCls K t (.ref D) = some b := by
  have e : ((PySem.W.clsIn K D).isSome && PySem.W.typeIn K (.ref D) == some (.type "type")) = true := by
    rw [cls_isSome hd, ht]
    rfl
  show (if ((PySem.W.clsIn K D).isSome && PySem.W.typeIn K (.ref D) == some (.type "type")) = true then PySem.W.subIn K t (.ref D) else none) = some b
  rw [if_pos e]
  exact h
theorem kit_yes {K : PySem.W.Frag} {C D : Addr} (hd : PySem.W.hasDictIn K D = true) (ht : PySem.W.typeIn K (.ref D) = some (.type "type")) (h : PySem.W.subIn K (.ref C) (.ref D) = some true) : PySem.W.kitOne K (.ref C) (.ref D) = some true := by
  unfold PySem.W.kitOne
  split
  · rfl
  · exact kit_cls_own hd ht h
theorem kit_no {K : PySem.W.Frag} {C D : Addr} (hd : PySem.W.hasDictIn K D = true) (ht : PySem.W.typeIn K (.ref D) = some (.type "type")) (h : PySem.W.subIn K (.ref C) (.ref D) = some false) (hc : PySem.W.subIn K (.ref C) (.ref C) = some true) : PySem.W.kitOne K (.ref C) (.ref D) = some false := by
  unfold PySem.W.kitOne
  split
  · rename_i e
    have e2 : C = D := Value.ref.inj (beq_iff_eq.mp e)
    rw [e2] at hc h
    rw [h] at hc
    cases hc
  · exact kit_cls_own hd ht h
theorem kit_ve {K : PySem.W.Frag} {C : Addr} (h : PySem.W.subIn K (.ref C) (.type "ValueError") = some true) : PySem.W.kitOne K (.ref C) (.type "ValueError") = some true := by
  unfold PySem.W.kitOne
  split
  · rfl
  · have e : PySem.W.kitMeta "ValueError" = true := by decide +kernel
    show (if PySem.W.kitMeta "ValueError" = true then PySem.W.subIn K (.ref C) (.type "ValueError") else none) = some true
    rw [if_pos e]
    exact h
theorem at_inst {h : Heap} {a D : Addr} {oe : Obj} (g : h.get? a = some oe) (hz : Zc (.ref D) none oe) (hf : ∃ vs, oe.data = .fields vs) : PySem.W.InstAt h a oe D none := by
  obtain ⟨vs, hv⟩ := hf
  cases oe with
  | mk c d t sl =>
    obtain ⟨z1, z2⟩ := hz
    simp only at z1 z2 hv
    subst z1
    subst z2
    subst hv
    exact ⟨g, rfl, rfl, trivial⟩
/-- isinstance(e, (c, ..)), e the error in hand -/
def rIsET (K : PySem.W.Frag) (D a : Addr) : List V → Hp → VK → Prop := fun xs H Q => ∃ (tp : Addr) (cs : List V) (us : List Value) (b : Bool), xs = [.ref a, .ref tp] ∧ H tp = some (.tup cs) ∧ Paired ClsV cs us ∧ PySem.W.kitAny K (.ref D) us = some b ∧ Q (.bl b) H
theorem isE {K : PySem.W.Frag} {D a C : Addr} {b : Bool} {H : Hp} {Q : VK} (h : PySem.W.kitOne K (.ref D) (.ref C) = some b) (q : Q (.bl b) H) : rIsE K D a [.ref a, .ref C] H Q := ⟨_, _, b, rfl, fun _ r => r, h, q⟩
theorem isEv {K : PySem.W.Frag} {D a : Addr} {H : Hp} {Q : VK} (h : PySem.W.kitOne K (.ref D) (.type "ValueError") = some true) (q : Q (.bl true) H) : rIsE K D a [.ref a, .ty "ValueError"] H Q := ⟨_, _, true, rfl, fun _ r => r, h, q⟩
section
variable {X : Cx}
theorem call_isEP {a D : Addr} (C : ExcC X.K D) (hp : ∃ oe, (a, oe) ∈ X.pn ∧ Zc (.ref D) none oe ∧ ∃ vs, oe.data = .fields vs) : CallR X (.builtin "isinstance") (rIsE X.K D a) := by
  intro pins s σ H xs us Q I r h
  obtain ⟨oe, hm, hz, hf⟩ := hp
  obtain ⟨c, cv, b, rfl, hcv, e, q⟩ := h
  obtain ⟨u1, u2, rfl, r1, r2⟩ := vals2 r
  cases (show u1 = Value.ref a from r1)
  cases hcv _ r2
  have J := at_inst (I.pin (a, oe) (List.mem_append_left _ hm)).1 hz hf
  exact PySem.W.kia_one (PySem.W.handS_kitx_exc C.hg C.hk C.hs C.hd C.ha C.hn C.ht C.hm) I.kIn J e (fun z => nomatch z) fun tk => ⟨.bl b, H, I.tok tk, rfl, q⟩
theorem call_isETP {a D : Addr} (C : ExcC X.K D) (hp : ∃ oe, (a, oe) ∈ X.pn ∧ Zc (.ref D) none oe ∧ ∃ vs, oe.data = .fields vs) : CallR X (.builtin "isinstance") (rIsET X.K D a) := by
  intro pins s σ H xs us Q I r h
  obtain ⟨oe, hm, hz, hf⟩ := hp
  obtain ⟨tp, cs, ws, b, rfl, hT, k, e, q⟩ := h
  obtain ⟨u1, u2, rfl, r1, r2⟩ := vals2 r
  cases (show u1 = Value.ref a from r1)
  cases (show u2 = Value.ref tp from r2)
  have J := at_inst (I.pin (a, oe) (List.mem_append_left _ hm)).1 hz hf
  have hok : ObjOk X.prog X.w H s.heap tp (.tup cs) := I.hok tp _ hT
  obtain ⟨_, its, rv, o, g1, g2, n, g3⟩ := hok
  cases ClsV.all k rv
  cases o with
  | mk oc od dt sl =>
    simp only at g2 g3
    subst g2
    subst g3
    exact PySem.W.kia_tup (PySem.W.handS_kitx_exc C.hg C.hk C.hs C.hd C.ha C.hn C.ht C.hm) I.kIn J g1 e (fun z => nomatch z) fun tk => ⟨.bl b, H, I.tok tk, rfl, q⟩
theorem pe_calS {CX : CXT} {k : Nat} {ps : List Str} {sp : Sp} {E : St → XK} {x : Str} {p pos : Pos} {e : Expr} {es : List Expr} {t : TA} (C : Cal X.prog X.w X.K X.mg X.base CX x k ps [] sp) (hr : Room k X.A) (hg : Gl X x) (hx : ∀ σ, PassesAt CX X σ (E σ))
    (ha : PA X (e :: es) t) (hdb : (x == ("__debug__" : Str)) = false := by decide) (he : starEach (e :: es) X.env = (false, eval e X.env) :: starEach es X.env := by rfl) (hpl : (backTo pos (starEach es X.env)).any (·.1) = false := by rfl) :
    PE X (.Call (.Name x p) (e :: es) [] pos) (tCallS sp E t) := by
  obtain ⟨f, fd, F, hm, hk, hb⟩ := C.ex
  exact pe_callS F hr hg hm hk hb hx ha hdb he hpl
end
end Pb

namespace Pb
open PySem PySem.Spec L2
/-! ### an error kept behind its except clause -/
/-- an error of the class cls stands at a -/
def ExV (cls : Value) (a : Addr) : HO := .ext fun h => ∃ (oe : Obj) (vs : Array Value), h.get? a = some oe ∧ Zc cls none oe ∧ oe.data = .fields vs
theorem exV_ok {P : Program} {w : World} {H : Hp} {h : Heap} {a : Addr} {cls : Value} {oe : Obj} {vs : Array Value} (e : h.get? a = some oe) (z : Zc cls none oe) (d : oe.data = .fields vs) : ObjOk P w H h a (ExV cls a) :=
  ⟨⟨oe, vs, e, z, d⟩, ⟨oe, e⟩, fun _ _ ⟨o, v, g1, g2, g3⟩ k => ⟨o, v, k o g1, g2, g3⟩⟩
section
variable {X : Cx} {pins : List (Addr × Obj)} {σ : St} {H : Hp} {s : Shared}
/-- a pinned thing is known from here on -/
theorem inv_known {a : Addr} {oe : Obj} {vs : Array Value} {cls : Value} (I : Inv X ((a, oe) :: pins) σ H s) (z : Zc cls none oe) (d : oe.data = .fields vs) (n0 : X.s_0.heap.get? a = none) (hd : ∀ p ∈ X.pn ++ pins, p.1 ≠ a) : Inv X pins σ (upd H a (ExV cls a)) s := by
  obtain ⟨ga, na, nL, nF, _⟩ := I.pin (a, oe) (List.mem_append_right _ List.mem_cons_self)
  have ga : s.heap.get? a = some oe := ga
  have na : H a = none := na
  refine { I with base := ?_, free := ?_, freeC := ?_, pin := ?_, hok := ?_ }
  · exact { I.base with
      free := fun b o e n hx => by
        have q : b ≠ a := fun q => by
          subst q
          rw [n0] at e
          cases e
        rw [upd_ne q]
        exact I.base.free b o e n hx
      tups := fun b xs e => by
        have q := I.base.tups b xs e
        rw [upd_ne (ne_of_none q na)]
        exact q
      frzs := fun b o u e => by
        have q := I.base.frzs b o u e
        rw [upd_ne (ne_of_none q na)]
        exact q
      tbls := fun b ps e => by
        obtain ⟨more, q⟩ := I.base.tbls b ps e
        exact ⟨more, by rw [upd_ne (ne_of_none q na)]; exact q⟩ }
  · rw [upd_ne (fun q => nL q.symm)]
    exact I.free
  · intro x c e
    have q : c ≠ a := fun q => by
      obtain ⟨v, o, ho, hv⟩ := I.cell x c e
      rw [q, ga] at ho
      cases ho
      rw [d] at hv
      cases hv
    rw [upd_ne q]
    exact I.freeC x c e
  · intro p hp
    have hp2 : p ∈ X.pn ++ ((a, oe) :: pins) := by
      rw [List.mem_append] at hp ⊢
      rcases hp with hp | hp
      · exact .inl hp
      · exact .inr (List.mem_cons_of_mem _ hp)
    obtain ⟨q1, q2, q3⟩ := I.pin p hp2
    exact ⟨q1, by rw [upd_ne (hd p hp)]; exact q2, q3⟩
  · intro b u e
    by_cases q : b = a
    · subst q
      rw [upd_same] at e
      cases e
      exact exV_ok ga z d
    · rw [upd_ne q] at e
      exact (I.hok b u e).stay (fun _ _ _ g => g) (fun c g => by rw [upd_ne (ne_of_none g na)]; exact g) fun c xs g => by rw [upd_ne (ne_of_none g na)]; exact g
end

/-- what is wished of the error: it stands at slot j's value behind the clause, too -/
def wKeep (K : PySem.W.Frag) (c : Value) (i : Nat) (ts : Addr → Value → Option Addr → TS) (D : Ends) : WX := fun cls d σ H => PySem.W.exmOne K cls c = some true ∧ d = none ∧ ∀ a, H a = none →
  ts a cls d { nx := fun σ' H' => D.nx (σ'.set i none) (upd H' a (ExV cls a)), rt := fun _ _ => False, bk := fun _ _ => False, ct := fun _ _ => False } (σ.set i (some (.ref a))) H
section
variable {X : Cx} {x n : Str} {c : Value} {i : Nat} {body suite : List Stmt} {b0 : Stmt} {np pos pos' : Pos} {tb : WX → TS} {ts : Addr → Value → Option Addr → TS}
theorem ps_try_keep (k1 : X.stack = X.env :: X.outer) (k2 : X.env.frame = some X.env.locals) (k3 : X.N.Nodup) (k4 : X.N[i]? = some n) (k5 : X.env.kindOf n = some .local) (kc : Names X x c) (kex : X.ex = [])
    (kb : ∀ (W : WX) (pn : List (Addr × Obj)) (xe : Value → Shared → Prop), Takes (X.tr pn xe) W → PassesOwn (model X.prog X.w) X.A X.env xe → PSs (X.tr pn xe) body (tb W))
    (ks : ∀ (a : Addr) (oe : Obj) (cls : Value) (d : Option Addr) (pn : List (Addr × Obj)), Zc cls d oe → (∃ vs, oe.data = .fields vs) → PSs (X.suite a ((a, oe) :: pn)) (b0 :: suite) (ts a cls d)) :
    PS X (.Try body [.ExceptHandler (some (.Name x np)) (some n) (b0 :: suite) pos'] [] [] pos) (fun D σ H => tb (wKeep X.K c i ts D) D σ H) := by
  refine ⟨fun pins s σ H D I ht => ?_⟩
  have frs_ : X.A.frames = some (X.env :: X.outer) := I.ok.frames.trans (congrArg some k1)
  refine wpAny_Try_except (wpAny_mono ((kb (wKeep X.K c i ts D) (X.pn ++ pins) _ ?_ PassesOwn.looking).run [] s σ H D (I.toTry _) ht) (fun fl s1 q => ?_) fun _ _ q => q)
  · intro u s2 air
    obtain ⟨a, B, s3, pins3, σ3, H3, cls, d, rfl, J, hB, hup, sky, na, hos, hag, hyes, rfl, go⟩ := air
    replace J : Inv X pins σ3 H3 s3 := J.ofTry I.ok
    refine Sky.land Zc.steady frs_ k2 (by rw [← k1]; exact sky) fun h4 F4 up4 => ?_
    have I4 : Inv X pins σ3 H3 { s2 with heap := h4 } := J.landed hB F4.1 (hup.trans up4) hos hag
    obtain ⟨o4, v4, g4, z4, d4⟩ := F4.there
    have out : a ∉ frs (X.env :: X.outer) := fun hm => by
      obtain ⟨_, o5, g5, n5⟩ := F4.2.2.1.mem hm
      rw [g4] at g5
      cases g5
      exact n5 _ d4
    have aL : a ≠ X.env.locals := fun q => out (List.mem_filterMap.mpr ⟨_, List.mem_cons_self, k2.trans (congrArg some q.symm)⟩)
    have aF : a ∉ X.fs := fun hm => out (by
      obtain ⟨v, hv, q⟩ := List.mem_filterMap.mp hm
      exact List.mem_filterMap.mpr ⟨v, List.mem_cons_of_mem _ hv, q⟩)
    have a3 : s3.heap.get? a = none := by
      cases q : s3.heap.get? a with
      | none => rfl
      | some o =>
        have r := hB a o q (by rw [k1]; exact out)
        rw [F4.2.1] at r
        cases r
    have a0 : X.s_0.heap.get? a = none := by
      cases q : X.s_0.heap.get? a with
      | none => rfl
      | some o =>
        obtain ⟨o6, g6⟩ := J.base.there a o q (by rw [kex]; exact fun z => nomatch z)
        rw [a3] at g6
        cases g6
    have apin : ∀ p ∈ X.pn ++ pins, p.1 ≠ a := fun p hp q => by
      have r := (J.pin p hp).1
      rw [q, a3] at r
      cases r
    have T4 := I4.suite g4 d4 na aL aF
    refine wpAny_handleBy_cons (codeAny_handlers_test ?_) (fun q => nomatch q)
    have ty4 : PySem.W.Looks (model X.prog X.w) h4 (typeOf (.ref a)) cls := fun _ _ _ _ keeps q => wpAny_typeOf_ref (keeps _ _ g4) (z4.1.symm ▸ q)
    have fits := PySem.W.exm_one (M := model X.prog X.w) I4.kIn ty4 hyes
    have look : ∀ {Q' : Value → Shared → Prop} {E' : Value → Shared → Prop}, Q' c { s2 with heap := h4 } → wpAny (model X.prog X.w) (X.A.mark (some (.ref a))) (eval (.Name x np) X.env) Q' E' { s2 with heap := h4 } := fun {Q' E'} q => by
      obtain ⟨c1, c2, c3 | ⟨c3, c4, c5⟩⟩ := kc
      · exact ld_glob (X := X.suite a ((a, o4) :: (X.pn ++ pins))) T4 c1 c3 q c2
      · exact ld_blt (X := X.suite a ((a, o4) :: (X.pn ++ pins))) T4 c1 c3 c4 q c5 c2
    refine look (fits.here (codeAny_handlers_suite_as (HandSPX.lands_againZ F4 fun h5 F5 up5 => ?_)))
    have I5 : Inv X pins σ3 H3 { s2 with heap := h5 } := J.landed hB F5.1 ((hup.trans up4).trans up5) hos hag
    obtain ⟨o5, v5, g5, z5, d5⟩ := F5.there
    refine store_ok (X := X.suite a ((a, o5) :: (X.pn ++ pins))) (v := .ref a) (I5.suite g5 d5 na aL aF) k3 k4 (.inl k5) rfl (fun s6 T6 => ?_) (.inr k5)
    refine wpAny_mono ((ks a o5 cls none (X.pn ++ pins) z5 ⟨v5, d5⟩).run [] s6 _ H3 _ T6 (go a na)) (fun fl s7 q => ?_) fun _ _ z => z.elim
    cases fl with
    | next =>
      obtain ⟨σ7, H7, T7, q7⟩ := q
      have J7 := T7.unsuite I.ok
      have pin7 : ∀ p ∈ X.pn ++ ((a, o5) :: pins), s7.heap.get? p.1 = some p.2 ∧ H7 p.1 = none ∧ p.1 ≠ X.env.locals ∧ p.1 ∉ X.fs ∧ ∀ v, p.2.data ≠ .cell v := fun p hp => by
        refine T7.pin p ?_
        show p ∈ ((a, o5) :: (X.pn ++ pins)) ++ []
        rw [List.append_nil, List.mem_cons, List.mem_append]
        rcases List.mem_append.mp hp with r | r
        · exact .inr (.inl r)
        · rcases List.mem_cons.mp r with r | r
          · exact .inl r
          · exact .inr (.inr r)
      have P7 : Inv X ((a, o5) :: pins) σ7 H7 s7 := ⟨J7.ok, J7.os, J7.bare, J7.base, J7.loc, J7.cell, J7.free, J7.freeC, pin7, J7.hok, J7.len⟩
      exact gone_ok P7 k3 k4 k5 fun s8 P8 => ⟨_, _, inv_known P8 z5 d5 a0 apin, q7⟩
    | brk =>
      obtain ⟨_, _, _, q7⟩ := q
      exact q7.elim
    | cont =>
      obtain ⟨_, _, _, q7⟩ := q
      exact q7.elim
    | ret u =>
      obtain ⟨_, _, _, _, _, q7⟩ := q
      exact q7.elim
  · cases fl with
    | next =>
      obtain ⟨σ2, H2, J2, q2⟩ := q
      exact wpAny_execs_nil ⟨_, _, J2.ofTry I.ok, q2⟩
    | brk =>
      obtain ⟨σ2, H2, J2, q2⟩ := q
      exact ⟨_, _, J2.ofTry I.ok, q2⟩
    | cont =>
      obtain ⟨σ2, H2, J2, q2⟩ := q
      exact ⟨_, _, J2.ofTry I.ok, q2⟩
    | ret u =>
      obtain ⟨v2, σ2, H2, J2, r2, q2⟩ := q
      exact ⟨_, _, _, J2.ofTry I.ok, r2, q2⟩
end
/-- isinstance(x, c), x an error that was kept -/
def rIsV (K : PySem.W.Frag) : List V → Hp → VK → Prop := fun xs H Q => ∃ (a D : Addr) (c : V) (cv : Value) (b : Bool), xs = [.ref a, c] ∧ H a = some (ExV (.ref D) a) ∧ ExcC K D ∧ ClsV c cv ∧ PySem.W.kitOne K (.ref D) cv = some b ∧ Q (.bl b) H
theorem call_isV {X : Cx} : CallR X (.builtin "isinstance") (rIsV X.K) := by
  intro pins s σ H xs us Q I r h
  obtain ⟨a, D, c, cv, b, rfl, ha, C, k, e, q⟩ := h
  obtain ⟨u1, u2, rfl, r1, r2⟩ := vals2 r
  cases (show u1 = Value.ref a from r1)
  have e2 := k.eq r2
  subst e2
  obtain ⟨⟨oe, vs, g, z, d⟩, _, _⟩ := (show ObjOk X.prog X.w H s.heap a (ExV (.ref D) a) from I.hok a _ ha)
  have J := at_inst g z ⟨vs, d⟩
  exact PySem.W.kia_one (PySem.W.handS_kitx_exc C.hg C.hk C.hs C.hd C.ha C.hn C.ht C.hm) I.kIn J e (fun z => nomatch z) fun tk => ⟨.bl b, H, I.tok tk, rfl, q⟩
theorem isV {K : PySem.W.Frag} {H : Hp} {a D C : Addr} {b : Bool} {Q : VK} (g : H a = some (ExV (.ref D) a)) (x : ExcC K D) (h : PySem.W.kitOne K (.ref D) (.ref C) = some b) (q : Q (.bl b) H) : rIsV K [.ref a, .ref C] H Q := ⟨a, D, _, _, b, rfl, g, x, .own C, h, q⟩
theorem isVv {K : PySem.W.Frag} {H : Hp} {a D : Addr} {Q : VK} (g : H a = some (ExV (.ref D) a)) (x : ExcC K D) (h : PySem.W.kitOne K (.ref D) (.type "ValueError") = some true) (q : Q (.bl true) H) : rIsV K [.ref a, .ty "ValueError"] H Q := ⟨a, D, _, _, true, rfl, g, x, .ty _, h, q⟩
end Pb

namespace Pb
open PySem PySem.Spec L2
/-! ### min of a list of data; max of whole numbers with a default -/
def rMinD (K : PySem.W.Frag) : List V → Hp → VK → Prop := fun vs H Q => ∃ (a : Addr) (xs : List V) (e : PyData) (es : List PyData), vs = [.ref a] ∧ SqL K H a xs ∧ DpAll K H xs (e :: es) ∧ PySem.W.AlikeAll (e :: es) ∧ (∀ d ∈ e :: es, okD 5 d) ∧
  ∀ (i : Nat) (v : V), xs[i]? = some v → (e :: es)[i]? = some (PySem.W.minD e es) → Q v H
theorem vals_at : ∀ {xs : List V} {us : List Value} {i : Nat} {u : Value}, Vals xs us → us[i]? = some u → ∃ x, xs[i]? = some x ∧ RelV x u
  | _, _, _, _, .nil, e => by simp at e
  | _, _, 0, _, .cons r _, e => by
    cases e
    exact ⟨_, rfl, r⟩
  | _, _, i + 1, _, .cons _ t, e => by
    obtain ⟨x, h1, h2⟩ := vals_at (i := i) t (by simpa using e)
    exact ⟨x, by simpa using h1, h2⟩
theorem cr_minD {X : Cx} (hu : X.A.units + 64 < cLine) (hc : X.calm = true) : CallR X (.builtin "min") (rMinD X.K) := by
  intro pins s σ H vs us Q I r h
  obtain ⟨a, xs, e, es, rfl, hs, hd, hal, hok, q⟩ := h
  obtain ⟨its, rv, hl, hz⟩ := I.list hs
  rw [Vals.ref1 r]
  obtain ⟨as, hr⟩ := Dp.readsAll I (e :: es) xs its hd rv
  have hdep : PyData.depthAll (e :: es) ≤ 5 := depAll fun d hd => (hok d hd).lay.2
  refine PySem.W.min_list_data (I.ok.hd hc) hl.isList (by rw [List.toList_toArray]; exact hr) hal (by omega) fun i v h' tk bs hi hrd hk => ?_
  have hi2 : its[i]? = some v := by simpa using hi
  obtain ⟨x, hx, rx⟩ := vals_at rv hi2
  obtain ⟨b0, r0, il, hm, _⟩ := PySem.W.readsAll_at hr i v hi2
  have eq := SeqAt.Reads.unique _ _ v _ _ (hok _ hm).lay.1 (PySem.W.reads_keeps hk r0) hrd
  refine ⟨x, H, I.kept (t' := tk) hk, rx, q i x hx ?_⟩
  rw [← eq, List.getElem?_eq_getElem il, List.getD_eq_getElem?_getD, List.getElem?_eq_getElem il]
  rfl
def maxOr (d : Int) : List Int → Int
  | [] => d
  | n :: r => r.foldl max n
def rMaxDef (K : PySem.W.Frag) : List V → List V → Hp → VK → Prop := fun xs zs H Q => ∃ (a : Addr) (ns : List Int) (d : Int), xs = [.ref a] ∧ zs = [.int d] ∧ SqL K H a (ns.map V.int) ∧ Q (.int (maxOr d ns)) H
theorem crk_max {X : Cx} (hu : X.A.units + 64 < cLine) (hc : X.calm = true) : CallRK X (.builtin "max") ["default"] (rMaxDef X.K) := by
  intro pins s σ H xs zs us ws Q I r rz h
  obtain ⟨a, ns, d, rfl, rfl, hs, q⟩ := h
  obtain ⟨its, rv, hl, hz⟩ := I.list hs
  rw [Vals.ref1 r]
  obtain ⟨w, rfl, rw'⟩ := rz.one
  have hd : DpAll X.K H (ns.map V.int) (ns.map PyData.int) := DpAll.ints ns
  obtain ⟨as, hr⟩ := Dp.readsAll I _ _ its hd rv
  have hok : ∀ e ∈ ns.map PyData.int, okD 1 e := fun e he => by
    obtain ⟨n, _, rfl⟩ := List.mem_map.mp he
    trivial
  have hdep : PyData.depthAll (ns.map PyData.int) ≤ 1 := depAll fun d hd => (hok d hd).lay.2
  have hal : PySem.W.AlikeAll (ns.map PyData.int) := ⟨fun x hx y hy => by
    obtain ⟨n, _, rfl⟩ := List.mem_map.mp hx
    obtain ⟨m, _, rfl⟩ := List.mem_map.mp hy
    rfl, fun x hx => by
    obtain ⟨n, _, rfl⟩ := List.mem_map.mp hx
    exact fun z => nomatch z⟩
  refine PySem.W.max_list_default (d := w) (I.ok.hd hc) hl.isList (by rw [List.toList_toArray]; exact hr) hal (by omega) (fun he h' tk hk => ?_) fun y ys i v h' tk bs he hi hrd hk => ?_
  · have : ns = [] := List.map_eq_nil_iff.mp he
    subst this
    exact ⟨.int d, H, I.kept (t' := tk) hk, rw', q⟩
  · cases ns with
    | nil => cases he
    | cons n r =>
      rw [List.map_cons, List.cons.injEq] at he
      obtain ⟨rfl, rfl⟩ := he
      rw [PySem.W.maxD_ints] at hrd
      cases hrd
      exact ⟨.int (maxOr d (n :: r)), H, I.kept (t' := tk) hk, ⟨_, rfl⟩, q⟩
theorem maxOr_ge {d : Int} {ns : List Int} {n : Int} (h : n ∈ ns) : n ≤ maxOr d ns := by
  have key : ∀ (l : List Int) (m : Int), m ≤ l.foldl max m ∧ ∀ x ∈ l, x ≤ l.foldl max m := by
    intro l
    induction l with
    | nil => intro m; simp
    | cons a l ih =>
      intro m
      obtain ⟨h1, h2⟩ := ih (max m a)
      rw [List.foldl_cons]
      refine ⟨by omega, fun x hx => ?_⟩
      rcases List.mem_cons.mp hx with rfl | hx
      · omega
      · exact h2 x hx
  cases ns with
  | nil => cases h
  | cons a l =>
    obtain ⟨h1, h2⟩ := key l a
    rcases List.mem_cons.mp h with rfl | h
    · exact h1
    · exact h2 n h
theorem maxOr_mem {d : Int} {ns : List Int} : maxOr d ns = d ∨ maxOr d ns ∈ ns := by
  have key : ∀ (l : List Int) (m : Int), l.foldl max m = m ∨ l.foldl max m ∈ l := by
    intro l
    induction l with
    | nil => intro m; simp
    | cons a l ih =>
      intro m
      rw [List.foldl_cons]
      rcases ih (max m a) with h | h
      · rw [h]
        rcases Int.le_total m a with q | q
        · right
          rw [Int.max_eq_right q]
          simp
        · left
          exact Int.max_eq_left q
      · right
        exact List.mem_cons_of_mem _ h
  cases ns with
  | nil => exact .inl rfl
  | cons a l =>
    right
    rcases key l a with h | h
    · rw [maxOr, h]
      simp
    · exact List.mem_cons_of_mem _ h
theorem minD_deeds : ∀ (ds : List Dd) (d : Dd), ∃ m, PySem.W.minD (dd d) (ds.map dd) = dd m ∧ m ∈ d :: ds ∧ ∀ e ∈ d :: ds, leD m e = true
  | [], d => ⟨d, rfl, by simp, fun e he => by
    rw [List.mem_singleton.mp he]
    have := leD_total d d
    simpa using this⟩
  | x :: ds, d => by
    have e : PySem.W.minD (dd d) ((x :: ds).map dd) = PySem.W.minD (dd (if ltD x d = true then x else d)) (ds.map dd) := by
      unfold PySem.W.minD
      rw [List.map_cons, List.foldl_cons, ddLt]
      congr 1
      split <;> rfl
    obtain ⟨m, h1, h2, h3⟩ := minD_deeds ds (if ltD x d = true then x else d)
    refine ⟨m, e.trans h1, ?_, fun y hy => ?_⟩
    · rcases List.mem_cons.mp h2 with q | q
      · rw [q]
        split <;> simp
      · simp [q]
    · have hm := h3 _ (List.mem_cons_self)
      by_cases c : ltD x d = true
      · rw [if_pos c] at hm h3
        rw [List.mem_cons, List.mem_cons] at hy
        rcases hy with rfl | rfl | hy
        · refine leD_trans _ _ _ hm ?_
          rcases Bool.or_eq_true_iff.mp (leD_total x y) with q | q
          · exact q
          · unfold leD at q
            rw [c] at q
            cases q
        · exact hm
        · exact h3 y (by simp [hy])
      · rw [if_neg c] at hm h3
        rw [List.mem_cons, List.mem_cons] at hy
        rcases hy with rfl | rfl | hy
        · exact hm
        · refine leD_trans _ _ _ hm ?_
          unfold leD
          rw [Bool.not_eq_true] at c
          rw [c]
          rfl
        · exact h3 y (by simp [hy])
end Pb

namespace Pb
open PySem PySem.Spec L2
/-! ### halls: levels -/
/-- all outside S stays -/
def Chg (S : List Addr) (H H' : Hp) : Prop := ∀ b o, b ∉ S → H b = some o → H' b = some o
theorem Chg.of {S : List Addr} {H H' : Hp} (s : Same H H') : Chg S H H' := fun b o _ e => s b o e
theorem Chg.rf {S : List Addr} {H : Hp} : Chg S H H := fun b o _ e => e
theorem Chg.trans {S : List Addr} {H H1 H2 : Hp} (a : Chg S H H1) (b : Chg S H1 H2) : Chg S H H2 := fun c o n e => b c o n (a c o n e)
theorem Chg.sub {S S' : List Addr} {H H' : Hp} (a : Chg S H H') (h : ∀ b ∈ S, b ∈ S') : Chg S' H H' := fun c o n e => a c o (fun q => n (h c q)) e
theorem chg_upd {S : List Addr} {H : Hp} {a : Addr} {o : HO} (h : a ∈ S) : Chg S H (upd H a o) := fun b u n e => by
  rw [upd_ne (fun q : b = a => n (by rw [q]; exact h))]
  exact e
/-- all of S are lists -/
def ZL (H : Hp) (S : List Addr) : Prop := ∀ b ∈ S, ∃ xs, H b = some (.lst xs)
theorem ZL.out {H : Hp} {S : List Addr} (z : ZL H S) {a : Addr} {o : HO} (e : H a = some o) (n : ∀ xs, o ≠ .lst xs) : a ∉ S := fun h => by
  obtain ⟨xs, q⟩ := z a h
  rw [q] at e
  cases e
  exact n xs rfl
theorem Chg.td {S : List Addr} {H H' : Hp} (c : Chg S H H') (z : ZL H S) {a : Addr} {d : Dd} (t : TD H a d) : TD H' a d := c a _ (z.out t (fun xs q => by cases q)) t
theorem Chg.dl {S : List Addr} {H H' : Hp} (c : Chg S H H') (z : ZL H S) : ∀ {as : List Addr} {ds : List Dd}, DL H as ds → DL H' as ds
  | [], [], _ => trivial
  | a :: as, d :: ds, h => ⟨c.td z h.1, c.dl z h.2⟩
  | [], _ :: _, h => h.elim
  | _ :: _, [], h => h.elim
/-- the facts of the two classes -/
structure LF (K : PySem.W.Frag) (G : Str → Addr) : Prop where
  l : Cls K (G "Levels")
  lr : NoAttr K (G "Levels") "rows"
  h : Cls K (G "Hall")
  hd : NoAttr K (G "Hall") "deeds"
  hk : NoAttr K (G "Hall") "known"
  ht : NoAttr K (G "Hall") "touched"
  hc : NoAttr K (G "Hall") "changed"
theorem fld {K : PySem.W.Frag} {σ : St} {H : Hp} {i : Nat} {a C dx : Addr} {fs : List (Str × V)} {f : Str} {v : V} {Q : VK} (e : σ[i]? = some (some (.ref a))) (g : H a = some (.ins C dx fs)) (c : Cls K C) (n : NoAttr K C f) (l : fs.lookup f = some v) (q : Q v H) : tFld K (tVar i) f σ H Q :=
  ⟨_, e, a, C, dx, fs, v, rfl, g, c, n, l, q⟩
/-- what was the greatest at a box, from the first on -/
def lastN (st : List Nat) : Nat := st.getLastD 0
def stepB (bits : Dd → Nat) (k : Nat) (st : List Nat) (p : Dd × Nat) : List Nat := if (bits p.1).testBit k = true then st ++ [max (p.2 + 1) (lastN st)] else st
def stk (bits : Dd → Nat) (k : Nat) (ps : List (Dd × Nat)) : List Nat := ps.foldl (stepB bits k) [0]
theorem stk_snoc (bits : Dd → Nat) (k : Nat) (ps : List (Dd × Nat)) (p : Dd × Nat) : stk bits k (ps ++ [p]) = stepB bits k (stk bits k ps) p := by
  unfold stk
  rw [List.foldl_append]
  rfl
theorem snocRec6 {α : Type} {P : List α → Prop} (h0 : P []) (h1 : ∀ l a, P l → P (l ++ [a])) : ∀ l, P l := fun l => by
  have key : ∀ m : List α, P m.reverse := by
    intro m
    induction m with
    | nil => exact h0
    | cons a m ih =>
      rw [List.reverse_cons]
      exact h1 _ a ih
  have := key l.reverse
  rwa [List.reverse_reverse] at this
theorem lastN_snoc (l : List Nat) (x : Nat) : lastN (l ++ [x]) = x := by
  unfold lastN
  simp
theorem stk_spec (bits : Dd → Nat) (k : Nat) : ∀ ps : List (Dd × Nat), (∀ p ∈ ps, (bits p.1).testBit k = true → p.2 + 1 ≤ lastN (stk bits k ps)) ∧ (lastN (stk bits k ps) = 0 ∨ ∃ p ∈ ps, (bits p.1).testBit k = true ∧ lastN (stk bits k ps) = p.2 + 1) ∧ stk bits k ps ≠ [] ∧ (stk bits k ps).length ≤ ps.length + 1 := by
  refine snocRec6 ⟨by simp, .inl rfl, by simp [stk], Nat.le_refl _⟩ fun ps p ⟨h1, h2, h3, h4⟩ => ?_
  rw [stk_snoc, stepB]
  by_cases c : (bits p.1).testBit k = true
  · rw [if_pos c, lastN_snoc]
    refine ⟨fun q hq hc => ?_, ?_, by simp, by rw [List.length_append, List.length_append]; simp; omega⟩
    · rcases List.mem_append.mp hq with hq | hq
      · have := h1 q hq hc
        omega
      · rw [List.mem_singleton.mp hq]
        omega
    · rcases Nat.le_total (p.2 + 1) (lastN (stk bits k ps)) with q | q
      · rw [Nat.max_eq_right q]
        rcases h2 with h2 | ⟨r, hr, hc, e⟩
        · exact .inl h2
        · exact .inr ⟨r, by simp [hr], hc, e⟩
      · rw [Nat.max_eq_left q]
        exact .inr ⟨p, by simp, c, rfl⟩
  · rw [if_neg c]
    refine ⟨fun q hq hc => ?_, ?_, h3, by rw [List.length_append]; omega⟩
    · rcases List.mem_append.mp hq with hq | hq
      · exact h1 q hq hc
      · rw [List.mem_singleton.mp hq] at hc
        exact absurd hc c
    · rcases h2 with h2 | ⟨r, hr, hc, e⟩
      · exact .inl h2
      · exact .inr ⟨r, by simp [hr], hc, e⟩
theorem last_split {l : List Nat} (h : l ≠ []) : ∃ m, l = m ++ [lastN l] := by
  refine ⟨l.dropLast, ?_⟩
  unfold lastN
  rw [List.getLastD_eq_getLast?, List.getLast?_eq_some_getLast h]
  exact (List.dropLast_concat_getLast h).symm
/-- the levels at l: their lists F -/
def LevAt (G : Str → Addr) (H : Hp) (l : Addr) (F : List Addr) (bits : Dd → Nat) (ps : List (Dd × Nat)) : Prop :=
  ∃ dx r rs, H l = some (.ins (G "Levels") dx [("rows", .ref r)]) ∧ H r = some (.lst (rs.map V.ref)) ∧ rs.length = 60 ∧ F = r :: rs ∧ F.Nodup ∧ ∀ (k : Nat) a, rs[k]? = some a → H a = some (.lst (nv (stk bits k ps)))
theorem LevAt.zl {G : Str → Addr} {H : Hp} {l : Addr} {F : List Addr} {bits : Dd → Nat} {ps : List (Dd × Nat)} (h : LevAt G H l F bits ps) : ZL H F := fun b hb => by
  obtain ⟨dx, r, rs, _, g2, _, rfl, _, g3⟩ := h
  rcases List.mem_cons.mp hb with rfl | hb
  · exact ⟨_, g2⟩
  · obtain ⟨k, hk⟩ := List.getElem?_of_mem hb
    exact ⟨_, g3 k b hk⟩
theorem LevAt.chg {G : Str → Addr} {H H' : Hp} {S : List Addr} {l : Addr} {F : List Addr} {bits : Dd → Nat} {ps : List (Dd × Nat)} (h : LevAt G H l F bits ps) (c : Chg S H H') (z : ZL H S) (d : ∀ b ∈ F, b ∉ S) : LevAt G H' l F bits ps := by
  obtain ⟨dx, r, rs, g1, g2, g3, rfl, g4, g5⟩ := h
  exact ⟨dx, r, rs, c l _ (z.out g1 fun xs q => by cases q) g1, c r _ (d r (by simp)) g2, g3, rfl, g4, fun k a e => c a _ (d a (List.mem_cons_of_mem _ (List.mem_of_getElem? e))) (g5 k a e)⟩

def sp_lev_init (K : PySem.W.Frag) (G : Str → Addr) : Sp := fun vs H Q _ => ∃ x dx, vs = [.ref x] ∧ H x = some (.ins (G "Levels") dx []) ∧ ∀ H' F, Chg [x] H H' → (∀ bits, LevAt G H' x F bits []) → (∀ b ∈ F, H b = none) → Q .non H'
theorem len_lev_init {K G vs H Q E} (h : sp_lev_init K G vs H Q E) : vs.length = 1 := by
  obtain ⟨x, dx, rfl, _⟩ := h
  rfl
abbrev n_lev_init : List Str := ["self", "k"]
def t_lev_init (K : PySem.W.Frag) (G : Str → Addr) : TS :=
  (sFld K (tVar 0) (tLc (iRng1 (tCons (tC (.int 60)) tNil)) (gName 1) tYes (tLst (tCons (tC (.int 0)) tNil)) [1]) "rows")
theorem r_lev_init {K G vs H Q E} (F : LF K G) (h : sp_lev_init K G vs H Q E) : t_lev_init K G { nx := fun _ H' => Q .non H', rt := Q } (start n_lev_init vs) H := by
  obtain ⟨x, dx, rfl, hx, k⟩ := h
  unfold t_lev_init sFld
  walk_at "go"
  refine lcR1n (n := 60) (fun _ o => o = .lst [.int 0]) (by decide) ?_ ?_
  · intro i H3 hi s3 R hR R2
    walk_at "go"
    exact lstQ fun q4 H4 hq4 s4 g4 => hR q4 _ H4 hq4 g4 rfl s4
  intro r H1 rs hr s1 g1 hl hnd hna hob
  have gx := s1 _ _ hx
  have nxr : x ≠ r := ne_of_none hx hr
  refine ⟨x, _, _, _, rfl, gx, F.l, F.lr, by decide, ?_⟩
  have hrs : ∀ (k : Nat) a, rs[k]? = some a → H a = none ∧ H1 a = some (.lst [.int 0]) := fun k a e => by
    obtain ⟨h0, o, ho, rfl⟩ := hob k a e
    exact ⟨h0, ho⟩
  refine k _ (r :: rs) (fun b o n e => ?_) (fun bits => ⟨dx, r, rs, upd_same, (upd_ne nxr.symm).trans g1, hl, rfl, List.nodup_cons.mpr ⟨hna, hnd⟩, fun k a e => ?_⟩) fun b hb => ?_
  · rw [upd_ne (fun q => n (by rw [q]; simp))]
    exact s1 _ _ e
  · obtain ⟨h0, h1⟩ := hrs k a e
    have na : a ≠ x := fun q => by
      rw [q, hx] at h0
      cases h0
    rw [upd_ne na]
    exact h1
  · rcases List.mem_cons.mp hb with rfl | hb
    · exact hr
    · obtain ⟨k, hk⟩ := List.getElem?_of_mem hb
      exact (hrs k b hk).1

def sp_lev_at (K : PySem.W.Frag) (G : Str → Addr) : Sp := fun vs H Q _ => ∃ l b F bits ps ks, vs = [.ref l, .ref b] ∧ LevAt G H l F bits ps ∧ H b = some (.lst (nv ks)) ∧ (∀ k ∈ ks, k < 60) ∧ ks.length ≤ 100 ∧ ∀ H', Same H H' → Q (.int (maxOr 0 (ks.map fun k => ((lastN (stk bits k ps) : Nat) : Int)))) H'
theorem len_lev_at {K G vs H Q E} (h : sp_lev_at K G vs H Q E) : vs.length = 2 := by
  obtain ⟨l, b, F, bits, ps, ks, rfl, _⟩ := h
  rfl
theorem atI_last6 {m : List Nat} {x : Nat} : atI (nv (m ++ [x])) (-1) = some (.int (x : Nat)) := by
  have h : ixN (nv (m ++ [x])).length (-1) = some m.length := by
    unfold ixN
    rw [List.length_map, List.length_append]
    simp
    omega
  unfold atI
  rw [h]
  simp
theorem fm_mapN {α β : Type} (f : α → β) (L : List α) : (List.range L.length).filterMap (fun i => (L[i]?).map f) = L.map f := by
  have : ∀ n, n ≤ L.length → (List.range n).filterMap (fun i => (L[i]?).map f) = (L.take n).map f := by
    intro n
    induction n with
    | zero => intro _; rfl
    | succ n ih =>
      intro h
      rw [fm_succ, ih (by omega), List.take_add_one, List.map_append]
      cases h : L[n]? <;> rfl
  rw [this _ (Nat.le_refl _), List.take_length]
abbrev n_lev_at : List Str := ["self", "boxes", "k"]
def t_lev_at (K : PySem.W.Frag) (G : Str → Addr) : TS :=
  (tRet (tCKw (rMaxDef K) (tCons (tLc (iList K (tVar 1)) (gName 2) tYes (tOp (rIx K) (tOp (rIx K) (tFld K (tVar 0) "rows") (tVar 2)) (tUn rNeg (tC (.int 1)))) [2]) tNil) (tCons (tC (.int 0)) tNil)))
theorem r_lev_at {K G vs H Q E} (F0 : LF K G) (h : sp_lev_at K G vs H Q E) : t_lev_at K G { nx := fun _ H' => Q .non H', rt := Q } (start n_lev_at vs) H := by
  obtain ⟨l, b, F, bits, ps, ks, rfl, hl, hb, hk, hlen, k⟩ := h
  obtain ⟨dx, r, rs, g1, g2, g3, rfl, g4, g5⟩ := hl
  unfold t_lev_at tCKw
  walk_at "go"
  refine lcL (.of hb) (fun i => (ks[i]?).map fun k => V.int ((lastN (stk bits k ps) : Nat) : Int)) (by rw [List.length_map]; omega) ?_ ?_
  · intro i x H3 hx s3 R hR R2 hR2
    obtain ⟨n, hn, rfl⟩ := nv_at hx
    have hn60 := hk n (List.mem_of_getElem? hn)
    obtain ⟨a, ha⟩ : ∃ a, rs[n]? = some a := ⟨_, List.getElem?_eq_getElem (by omega)⟩
    have ga := s3 _ _ (g5 n a ha)
    obtain ⟨m, hm⟩ := last_split (stk_spec bits n ps).2.2.1
    walk_at "go"
    refine fld rfl (s3 _ _ g1) F0.l F0.lr rfl ?_
    walk_at "go"
    refine ix_l' (s3 _ _ g2) (atI_nat (j := n) (ref_at ha)) ?_
    refine ix_l' ga (by rw [hm]; exact atI_last6) ?_
    exact hR _ _ (by rw [hn]; rfl) (Same.refl _)
  intro p2 H2 hp2 s2 gp2
  rw [List.length_map, fm_mapN] at gp2
  walk_at "go"
  refine ⟨p2, ks.map fun k => ((lastN (stk bits k ps) : Nat) : Int), 0, rfl, rfl, .of (by rw [gp2, List.map_map]; rfl), k H2 s2⟩
end Pb

namespace Pb
open PySem PySem.Spec L2
/-! ### halls: levels raised, lowered -/
theorem app_raw {H : Hp} {a : Addr} {xs : List V} {y : V} {Q : VK} (h : H a = some (.lst xs)) (hl : xs.length ≤ 1000) (q : ∀ H1 : Hp, H1 a = some (.lst (xs ++ [y])) → (∀ b, b ≠ a → H1 b = H b) → Q .non H1) : rAppend (.ref a) [y] H Q :=
  ⟨a, xs, y, rfl, rfl, h, Nat.lt_of_le_of_lt hl (by decide), q _ upd_same fun _ n => upd_ne n⟩
theorem pop_raw {H : Hp} {a : Addr} {xs : List V} {y : V} {Q : VK} (h : H a = some (.lst (xs ++ [y]))) (q : ∀ H1 : Hp, H1 a = some (.lst xs) → (∀ b, b ≠ a → H1 b = H b) → Q y H1) : rPop (.ref a) [] H Q := by
  refine ⟨a, xs ++ [y], y, rfl, rfl, h, by simp, ?_⟩
  rw [List.dropLast_concat]
  exact q _ upd_same fun _ n => upd_ne n
theorem bx_nd (n b : Nat) : (bx n b).Nodup := List.Pairwise.filter _ List.nodup_range
theorem nd_notin {l : List Nat} (h : l.Nodup) {i k : Nat} (e : l[i]? = some k) : k ∉ l.take i := fun hm => by
  obtain ⟨j, hj⟩ := List.getElem?_of_mem hm
  rw [List.getElem?_take] at hj
  split at hj
  · rename_i hlt
    obtain ⟨l1, e1⟩ := List.getElem?_eq_some_iff.mp hj
    obtain ⟨l2, e2⟩ := List.getElem?_eq_some_iff.mp e
    exact List.pairwise_iff_getElem.mp h j i l1 l2 hlt (e1.trans e2.symm)
  · cases hj
theorem nd_get {l : List Addr} (h : l.Nodup) {i j : Nat} {a : Addr} (hi : l[i]? = some a) (hj : l[j]? = some a) : i = j := by
  obtain ⟨h1, e1⟩ := List.getElem?_eq_some_iff.mp hi
  obtain ⟨h2, e2⟩ := List.getElem?_eq_some_iff.mp hj
  have p := List.pairwise_iff_getElem.mp h
  rcases Nat.lt_trichotomy i j with q | q | q
  · exact absurd (e1.trans e2.symm) (p i j h1 h2 q)
  · exact q
  · exact absurd (e2.trans e1.symm) (p j i h2 h1 q)
def sp_raised (K : PySem.W.Frag) (G : Str → Addr) : Sp := fun vs H Q _ => ∃ l b F bits ps d n, vs = [.ref l, .ref b, .int ((n + 1 : Nat) : Int)] ∧ LevAt G H l F bits ps ∧ H b = some (.lst (nv (bx 60 (bits d)))) ∧ b ∉ F ∧ ps.length ≤ 200 ∧ ∀ H', Chg F H H' → LevAt G H' l F bits (ps ++ [(d, n)]) → Q .non H'
theorem len_raised {K G vs H Q E} (h : sp_raised K G vs H Q E) : vs.length = 3 := by
  obtain ⟨l, b, F, bits, ps, d, n, rfl, _⟩ := h
  rfl
abbrev n_raised : List Str := ["self", "boxes", "level", "k"]
def t_raised (K : PySem.W.Frag) (G : Str → Addr) : TS :=
  (tFor (iList K (tVar 1)) (gName 3)
  (tDrop (tBM K "list" rAppend (tOp (rIx K) (tFld K (tVar 0) "rows") (tVar 3)) (tCons (tCB rMax2 (tCons (tVar 2) (tCons (tOp (rIx K) (tOp (rIx K) (tFld K (tVar 0) "rows") (tVar 3)) (tUn rNeg (tC (.int 1)))) tNil))) tNil))))
theorem r_raised {K G vs H Q E} (F0 : LF K G) (h : sp_raised K G vs H Q E) : t_raised K G { nx := fun _ H' => Q .non H', rt := Q } (start n_raised vs) H := by
  obtain ⟨l, b, F, bits, ps, d, n, rfl, hl, hb, hbF, hps, k⟩ := h
  obtain ⟨dx, r, rs, g1, g2, g3, rfl, g4, g5⟩ := hl
  have hks := bx_nd 60 (bits d)
  have hmem : ∀ k, k ∈ bx 60 (bits d) ↔ k < 60 ∧ (bits d).testBit k = true := fun k => mem_bx
  generalize bx 60 (bits d) = ks at hb hks hmem
  have hrs := (List.nodup_cons.mp g4)
  unfold t_raised
  walk_at "go"
  refine forL (.of hb) (fun i σ H3 => ∃ v3 : Option V, σ = [some (.ref l), some (.ref b), some (.int ((n + 1 : Nat) : Int)), v3] ∧ Chg (r :: rs) H H3 ∧ H3 l = H l ∧ H3 r = H r ∧ H3 b = H b ∧ ∀ (k : Nat) a, rs[k]? = some a → H3 a = some (.lst (nv (if k ∈ ks.take i then stk bits k (ps ++ [(d, n)]) else stk bits k ps))))
    ⟨none, rfl, Chg.rf, rfl, rfl, rfl, fun k a e => by simpa using g5 k a e⟩ (fun i σ H3 _ ⟨_, _, _, _, _, e, _⟩ => .of (e.trans hb)) ?_ ?_
  · rintro i x σ H3 hx ⟨v3, rfl, c3, e1, e2, e3, h3⟩
    obtain ⟨m, hm, rfl⟩ := nv_at hx
    have hmk := (hmem m).mp (List.mem_of_getElem? hm)
    obtain ⟨a, ha⟩ : ∃ a, rs[m]? = some a := ⟨_, List.getElem?_eq_getElem (by omega)⟩
    have ga := h3 m a ha
    rw [if_neg (nd_notin hks hm)] at ga
    obtain ⟨sp1, sp2, sp3, sp4⟩ := stk_spec bits m ps
    obtain ⟨y, hy⟩ := last_split sp3
    have g3l : H3 l = _ := e1.trans g1
    have g3r : H3 r = _ := e2.trans g2
    have nal : a ≠ l := ne_of ga g3l (by intro z; cases z)
    have nar : a ≠ r := fun q => hrs.1 (q ▸ List.mem_of_getElem? ha)
    have nab : a ≠ b := fun q => hbF (q ▸ List.mem_cons_of_mem _ (List.mem_of_getElem? ha))
    walk_at "go"
    refine fld rfl g3l F0.l F0.lr rfl ?_
    walk_at "go"
    refine ix_l' g3r (atI_nat (j := m) (ref_at ha)) ?_
    refine ⟨ty_l ga, ?_⟩
    refine fld rfl g3l F0.l F0.lr rfl ?_
    walk_at "go"
    refine ix_l' g3r (atI_nat (j := m) (ref_at ha)) ?_
    refine ix_l' ga (by rw [hy]; exact atI_last6) ?_
    refine max2 ?_
    refine app_raw ga (by rw [List.length_map]; omega) fun H4 g4' ne4 => ?_
    refine ⟨_, rfl, fun c o hc ho => ?_, (ne4 l nal.symm).trans e1, (ne4 r nar.symm).trans e2, (ne4 b nab.symm).trans e3, fun k a' e => ?_⟩
    · have : c ≠ a := fun q => hc (q ▸ List.mem_cons_of_mem _ (List.mem_of_getElem? ha))
      rw [ne4 c this]
      exact c3 c o hc ho
    · by_cases q : k = m
      · subst q
        rw [ha] at e
        cases e
        have hin : k ∈ ks.take (i + 1) := by
          rw [List.take_add_one, hm]
          simp
        rw [g4', if_pos hin, stk_snoc, stepB, if_pos hmk.2]
        have : (if ((lastN (stk bits k ps) : Nat) : Int) > ((n + 1 : Nat) : Int) then ((lastN (stk bits k ps) : Nat) : Int) else ((n + 1 : Nat) : Int)) = ((max (n + 1) (lastN (stk bits k ps)) : Nat) : Int) := by
          split <;> omega
        rw [this]
        simp [nv]
      · have na : a' ≠ a := fun z => q (nd_get hrs.2 (z ▸ e) ha)
        rw [ne4 a' na, h3 k a' e]
        congr 4
        rw [List.take_add_one, hm]
        simp [q]
  · rintro σ H3 ⟨v3, rfl, c3, e1, e2, e3, h3⟩
    rw [List.length_map, List.take_length] at h3
    refine k H3 c3 ⟨dx, r, rs, e1.trans g1, e2.trans g2, g3, rfl, g4, fun k a e => ?_⟩
    rw [h3 k a e]
    by_cases c1 : k ∈ ks
    · rw [if_pos c1]
    · rw [if_neg c1, stk_snoc, stepB, if_neg]
      intro hbit
      have hk60 := (List.getElem?_eq_some_iff.mp e).1
      exact c1 ((hmem k).mpr ⟨by omega, hbit⟩)

def sp_lowered (K : PySem.W.Frag) (G : Str → Addr) : Sp := fun vs H Q _ => ∃ l b F bits ps d n, vs = [.ref l, .ref b] ∧ LevAt G H l F bits (ps ++ [(d, n)]) ∧ H b = some (.lst (nv (bx 60 (bits d)))) ∧ b ∉ F ∧ ∀ H', Chg F H H' → LevAt G H' l F bits ps → Q .non H'
theorem len_lowered {K G vs H Q E} (h : sp_lowered K G vs H Q E) : vs.length = 2 := by
  obtain ⟨l, b, F, bits, ps, d, n, rfl, _⟩ := h
  rfl
abbrev n_lowered : List Str := ["self", "boxes", "k"]
def t_lowered (K : PySem.W.Frag) (G : Str → Addr) : TS :=
  (tFor (iList K (tVar 1)) (gName 2)
  (tDrop (tBM0 K "list" rPop (tOp (rIx K) (tFld K (tVar 0) "rows") (tVar 2)))))
theorem r_lowered {K G vs H Q E} (F0 : LF K G) (h : sp_lowered K G vs H Q E) : t_lowered K G { nx := fun _ H' => Q .non H', rt := Q } (start n_lowered vs) H := by
  obtain ⟨l, b, F, bits, ps, d, n, rfl, hl, hb, hbF, k⟩ := h
  obtain ⟨dx, r, rs, g1, g2, g3, rfl, g4, g5⟩ := hl
  have hks := bx_nd 60 (bits d)
  have hmem : ∀ k, k ∈ bx 60 (bits d) ↔ k < 60 ∧ (bits d).testBit k = true := fun k => mem_bx
  generalize bx 60 (bits d) = ks at hb hks hmem
  have hrs := (List.nodup_cons.mp g4)
  unfold t_lowered
  walk_at "go"
  refine forL (.of hb) (fun i σ H3 => ∃ v3 : Option V, σ = [some (.ref l), some (.ref b), v3] ∧ Chg (r :: rs) H H3 ∧ H3 l = H l ∧ H3 r = H r ∧ H3 b = H b ∧ ∀ (k : Nat) a, rs[k]? = some a → H3 a = some (.lst (nv (if k ∈ ks.take i then stk bits k ps else stk bits k (ps ++ [(d, n)])))))
    ⟨none, rfl, Chg.rf, rfl, rfl, rfl, fun k a e => by simpa using g5 k a e⟩ (fun i σ H3 _ ⟨_, _, _, _, _, e, _⟩ => .of (e.trans hb)) ?_ ?_
  · rintro i x σ H3 hx ⟨v3, rfl, c3, e1, e2, e3, h3⟩
    obtain ⟨m, hm, rfl⟩ := nv_at hx
    have hmk := (hmem m).mp (List.mem_of_getElem? hm)
    obtain ⟨a, ha⟩ : ∃ a, rs[m]? = some a := ⟨_, List.getElem?_eq_getElem (by omega)⟩
    have ga := h3 m a ha
    rw [if_neg (nd_notin hks hm), stk_snoc, stepB, if_pos hmk.2] at ga
    have ga2 : H3 a = some (.lst (nv (stk bits m ps) ++ [.int ((max (n + 1) (lastN (stk bits m ps)) : Nat) : Int)])) := by
      rw [ga]
      simp [nv]
    have g3l : H3 l = _ := e1.trans g1
    have g3r : H3 r = _ := e2.trans g2
    have nal : a ≠ l := ne_of ga g3l (by intro z; cases z)
    have nar : a ≠ r := fun q => hrs.1 (q ▸ List.mem_of_getElem? ha)
    have nab : a ≠ b := fun q => hbF (q ▸ List.mem_cons_of_mem _ (List.mem_of_getElem? ha))
    walk_at "go"
    refine fld rfl g3l F0.l F0.lr rfl ?_
    walk_at "go"
    refine ix_l' g3r (atI_nat (j := m) (ref_at ha)) ?_
    refine ⟨ty_l ga, ?_⟩
    refine pop_raw ga2 fun H4 g4' ne4 => ?_
    refine ⟨_, rfl, fun c o hc ho => ?_, (ne4 l nal.symm).trans e1, (ne4 r nar.symm).trans e2, (ne4 b nab.symm).trans e3, fun k a' e => ?_⟩
    · have : c ≠ a := fun q => hc (q ▸ List.mem_cons_of_mem _ (List.mem_of_getElem? ha))
      rw [ne4 c this]
      exact c3 c o hc ho
    · by_cases q : k = m
      · subst q
        rw [ha] at e
        cases e
        have hin : k ∈ ks.take (i + 1) := by
          rw [List.take_add_one, hm]
          simp
        rw [g4', if_pos hin]
      · have na : a' ≠ a := fun z => q (nd_get hrs.2 (z ▸ e) ha)
        rw [ne4 a' na, h3 k a' e]
        congr 4
        rw [List.take_add_one, hm]
        simp [q]
  · rintro σ H3 ⟨v3, rfl, c3, e1, e2, e3, h3⟩
    rw [List.length_map, List.take_length] at h3
    refine k H3 c3 ⟨dx, r, rs, e1.trans g1, e2.trans g2, g3, rfl, g4, fun k a e => ?_⟩
    rw [h3 k a e]
    by_cases c1 : k ∈ ks
    · rw [if_pos c1]
    · rw [if_neg c1, stk_snoc, stepB, if_neg]
      intro hbit
      have hk60 := (List.getElem?_eq_some_iff.mp e).1
      exact c1 ((hmem k).mpr ⟨by omega, hbit⟩)
end Pb

namespace Pb
open PySem PySem.Spec L2
/-! ### halls: put, back, rounds, many -/
abbrev bT (d : Dd) : Nat := d.l ||| d.c
abbrev bC (d : Dd) : Nat := d.c
abbrev zh (ds : List Dd) : List (Dd × Nat) := ds.zip (hts ds)
theorem hts_snoc (ds : List Dd) (d : Dd) : hts (ds ++ [d]) = hts ds ++ [hb d (zh ds)] := by
  have e1 : htsN (ds ++ [d]) ds.length = hts ds := by
    have := htsN_pre (ds ++ [d]) ds.length ds.length (Nat.le_refl _) (by simp)
    rw [List.take_left'] at this
    · exact this.symm
    · rfl
  have e2 : (ds ++ [d]).getD ds.length default = d := by
    rw [List.getD_eq_getElem?_getD, List.getElem?_append_right (Nat.le_refl _), Nat.sub_self]
    rfl
  have e3 : (ds ++ [d]).zip (hts ds) = zh ds := by
    have := List.zip_append (l₁ := ds) (r₁ := [d]) (l₂ := hts ds) (r₂ := []) (by rw [hts_len])
    simpa using this
  rw [hts, List.length_append, List.length_singleton]
  show htsN (ds ++ [d]) ds.length ++ [hb ((ds ++ [d]).getD ds.length default) ((ds ++ [d]).zip (htsN (ds ++ [d]) ds.length))] = _
  rw [e1, e2, e3]
theorem zh_snoc (ds : List Dd) (d : Dd) : zh (ds ++ [d]) = zh ds ++ [(d, hb d (zh ds))] := by
  unfold zh
  rw [hts_snoc, List.zip_append (by rw [hts_len])]
  rfl
theorem zh_len (ds : List Dd) : (zh ds).length = ds.length := by
  rw [List.length_zip, hts_len, Nat.min_self]
theorem bit60 {b k : Nat} (h : b.testBit k = true) (hb : b < 2 ^ 60) : k < 60 := by
  rcases Nat.lt_or_ge k 60 with q | q
  · exact q
  · rw [Nat.testBit_lt_two_pow (Nat.lt_of_lt_of_le hb (Nat.pow_le_pow_right (by decide) q))] at h
    cases h
/-- what put computes is the height -/
theorem height_is {d : Dd} (hd : Ok60 d) (ps : List (Dd × Nat)) :
    (let a := maxOr 0 ((bx 60 d.l).map fun k => ((lastN (stk bC k ps) : Nat) : Int)); let b := maxOr 0 ((bx 60 d.c).map fun k => ((lastN (stk bT k ps) : Nat) : Int)); (if b > a then b else a)) = ((hb d ps : Nat) : Int) := by
  obtain ⟨_, f1, f2⟩ := hb_fold d ps 0
  have f1 : ∀ p ∈ ps, clash p.1 d = true → p.2 < hb d ps := f1
  have f2 : hb d ps = 0 ∨ ∃ p ∈ ps, clash p.1 d = true ∧ hb d ps = p.2 + 1 := f2
  have upC : maxOr 0 ((bx 60 d.l).map fun k => ((lastN (stk bC k ps) : Nat) : Int)) ≤ ((hb d ps : Nat) : Int) := by
    rcases maxOr_mem (d := 0) (ns := (bx 60 d.l).map fun k => ((lastN (stk bC k ps) : Nat) : Int)) with e | e
    · rw [e]
      omega
    · obtain ⟨k, hk, e⟩ := List.mem_map.mp e
      rw [← e]
      rcases (stk_spec bC k ps).2.1 with z | ⟨p, hp, hc, z⟩
      · omega
      · have := f1 p hp (clash_bit.mpr ⟨k, .inl ⟨hc, .inl (mem_bx.mp hk).2⟩⟩)
        omega
  have upT : maxOr 0 ((bx 60 d.c).map fun k => ((lastN (stk bT k ps) : Nat) : Int)) ≤ ((hb d ps : Nat) : Int) := by
    rcases maxOr_mem (d := 0) (ns := (bx 60 d.c).map fun k => ((lastN (stk bT k ps) : Nat) : Int)) with e | e
    · rw [e]
      omega
    · obtain ⟨k, hk, e⟩ := List.mem_map.mp e
      rw [← e]
      rcases (stk_spec bT k ps).2.1 with z | ⟨p, hp, hc, z⟩
      · omega
      · have hc' : (p.1.l ||| p.1.c).testBit k = true := hc
        rw [Nat.testBit_or, Bool.or_eq_true] at hc'
        have hdk := (mem_bx.mp hk).2
        have := f1 p hp (clash_bit.mpr ⟨k, hc'.elim (fun q => .inr ⟨hdk, q⟩) fun q => .inl ⟨q, .inr hdk⟩⟩)
        omega
  have nnC : 0 ≤ maxOr 0 ((bx 60 d.l).map fun k => ((lastN (stk bC k ps) : Nat) : Int)) := by
    rcases maxOr_mem (d := 0) (ns := (bx 60 d.l).map fun k => ((lastN (stk bC k ps) : Nat) : Int)) with e | e
    · omega
    · obtain ⟨k, _, e⟩ := List.mem_map.mp e
      omega
  have low : ((hb d ps : Nat) : Int) ≤ maxOr 0 ((bx 60 d.l).map fun k => ((lastN (stk bC k ps) : Nat) : Int)) ∨ ((hb d ps : Nat) : Int) ≤ maxOr 0 ((bx 60 d.c).map fun k => ((lastN (stk bT k ps) : Nat) : Int)) := by
    rcases f2 with z | ⟨p, hp, hc, z⟩
    · left
      omega
    · obtain ⟨k, hk⟩ := clash_bit.mp hc
      have cl : p.1.c.testBit k = true → d.l.testBit k = true → ((hb d ps : Nat) : Int) ≤ maxOr 0 ((bx 60 d.l).map fun k => ((lastN (stk bC k ps) : Nat) : Int)) := fun h1 h2 => by
        have g := maxOr_ge (d := 0) (List.mem_map_of_mem (f := fun k => ((lastN (stk bC k ps) : Nat) : Int)) (mem_bx.mpr ⟨bit60 h2 hd.1, h2⟩))
        have := (stk_spec bC k ps).1 p hp h1
        omega
      have ct : (p.1.l.testBit k = true ∨ p.1.c.testBit k = true) → d.c.testBit k = true → ((hb d ps : Nat) : Int) ≤ maxOr 0 ((bx 60 d.c).map fun k => ((lastN (stk bT k ps) : Nat) : Int)) := fun h1 h2 => by
        have g := maxOr_ge (d := 0) (List.mem_map_of_mem (f := fun k => ((lastN (stk bT k ps) : Nat) : Int)) (mem_bx.mpr ⟨bit60 h2 hd.2, h2⟩))
        have := (stk_spec bT k ps).1 p hp (by
          show (p.1.l ||| p.1.c).testBit k = true
          rw [Nat.testBit_or, Bool.or_eq_true]
          exact h1)
        omega
      rcases hk with ⟨h1, h2 | h2⟩ | ⟨h1, h2⟩
      · exact .inl (cl h1 h2)
      · exact .inr (ct (.inr h1) h2)
      · exact .inr (ct (.inl h2) h1)
  show (if _ > _ then _ else _) = _
  split <;> omega
/-- the hall at h: its lists F -/
def HallAt (G : Str → Addr) (H : Hp) (h : Addr) (F : List Addr) (ds : List Dd) : Prop :=
  ∃ dx d kn lt lc Ft Fc as, H h = some (.ins (G "Hall") dx [("deeds", .ref d), ("known", .ref kn), ("touched", .ref lt), ("changed", .ref lc)]) ∧ LD H d as ds ∧ H kn = some (.lst (nv (hts ds))) ∧ LevAt G H lt Ft bT (zh ds) ∧ LevAt G H lc Fc bC (zh ds) ∧ F = d :: kn :: (Ft ++ Fc) ∧ F.Nodup
theorem HallAt.zl {G : Str → Addr} {H : Hp} {h : Addr} {F : List Addr} {ds : List Dd} (k : HallAt G H h F ds) : ZL H F := fun b hb => by
  obtain ⟨dx, d, kn, lt, lc, Ft, Fc, as, _, g2, g3, g4, g5, rfl, _⟩ := k
  rw [List.mem_cons, List.mem_cons, List.mem_append] at hb
  rcases hb with rfl | rfl | hb | hb
  · exact ⟨_, g2.1⟩
  · exact ⟨_, g3⟩
  · exact g4.zl b hb
  · exact g5.zl b hb
theorem HallAt.chg {G : Str → Addr} {H H' : Hp} {S : List Addr} {h : Addr} {F : List Addr} {ds : List Dd} (k : HallAt G H h F ds) (c : Chg S H H') (z : ZL H S) (dj : ∀ b ∈ F, b ∉ S) : HallAt G H' h F ds := by
  obtain ⟨dx, d, kn, lt, lc, Ft, Fc, as, g1, g2, g3, g4, g5, rfl, g6⟩ := k
  exact ⟨dx, d, kn, lt, lc, Ft, Fc, as, c h _ (z.out g1 fun xs q => by cases q) g1, ⟨c d _ (dj d (by simp)) g2.1, c.dl z g2.2⟩, c kn _ (dj kn (by simp)) g3, g4.chg c z fun b hb => dj b (by simp [hb]), g5.chg c z fun b hb => dj b (by simp [hb]), rfl, g6⟩

theorem LevAt.keepNe {G : Str → Addr} {H H' : Hp} {x l : Addr} {F : List Addr} {bits : Dd → Nat} {ps : List (Dd × Nat)} (h : LevAt G H l F bits ps) (k : ∀ b o, b ≠ x → H b = some o → H' b = some o) (nl : l ≠ x) (nF : ∀ b ∈ F, b ≠ x) : LevAt G H' l F bits ps := by
  obtain ⟨dx, r, rs, g1, g2, g3, rfl, g4, g5⟩ := h
  exact ⟨dx, r, rs, k l _ nl g1, k r _ (nF r (by simp)) g2, g3, rfl, g4, fun j a e => k a _ (nF a (List.mem_cons_of_mem _ (List.mem_of_getElem? e))) (g5 j a e)⟩
theorem putF_len (f : Str) (v : V) : ∀ fs : List (Str × V), (putF f v fs).length ≤ fs.length + 1
  | [] => Nat.le_refl _
  | (g, x) :: r => by
    rw [putF]
    split
    · simp
    · have := putF_len f v r
      simp
      exact this
theorem put1 (d : V) : putF "deeds" d [] = [(("deeds" : Str), d)] := rfl
theorem put2 (d k : V) : putF "known" k [(("deeds" : Str), d)] = [(("deeds" : Str), d), (("known" : Str), k)] := by
  rw [putF, if_neg (by decide), putF]
theorem put3 (d k t : V) : putF "touched" t [(("deeds" : Str), d), (("known" : Str), k)] = [(("deeds" : Str), d), (("known" : Str), k), (("touched" : Str), t)] := by
  rw [putF, if_neg (by decide), putF, if_neg (by decide), putF]
theorem put4 (d k t c : V) : putF "changed" c [(("deeds" : Str), d), (("known" : Str), k), (("touched" : Str), t)] = [(("deeds" : Str), d), (("known" : Str), k), (("touched" : Str), t), (("changed" : Str), c)] := by
  rw [putF, if_neg (by decide), putF, if_neg (by decide), putF, if_neg (by decide), putF]
def sp_hall_init (K : PySem.W.Frag) (G : Str → Addr) : Sp := fun vs H Q _ => ∃ x dx, vs = [.ref x] ∧ H x = some (.ins (G "Hall") dx []) ∧ ∀ H' F, Chg [x] H H' → HallAt G H' x F [] → (∀ b ∈ F, H b = none) → Q .non H'
theorem len_hall_init {K G vs H Q E} (h : sp_hall_init K G vs H Q E) : vs.length = 1 := by
  obtain ⟨x, dx, rfl, _⟩ := h
  rfl
abbrev n_hall_init : List Str := ["self"]
def t_hall_init (K : PySem.W.Frag) (G : Str → Addr) : TS :=
  (tSeq (sFld K (tVar 0) (tLst tNil) "deeds")
  (tSeq (sFld K (tVar 0) (tLst tNil) "known")
  (tSeq (sFld K (tVar 0) (tMake (G "Levels") (sp_lev_init K G) [] E0 tNil) "touched")
  (sFld K (tVar 0) (tMake (G "Levels") (sp_lev_init K G) [] E0 tNil) "changed"))))
theorem r_hall_init {K G vs H Q E} (F0 : LF K G) (h : sp_hall_init K G vs H Q E) : t_hall_init K G { nx := fun _ H' => Q .non H', rt := Q } (start n_hall_init vs) H := by
  obtain ⟨x, dx, rfl, hx, k⟩ := h
  unfold t_hall_init sFld tMake
  walk_at "go"
  refine lstQ fun d H1 hd s1 g1 => ?_
  have nxd : x ≠ d := ne_of_none hx hd
  refine ⟨x, _, _, _, rfl, s1 _ _ hx, F0.h, F0.hd, by decide, ?_⟩
  rw [put1]
  have c1 : ∀ b o, b ≠ x → H b = some o → (upd H1 x (.ins (G "Hall") dx [("deeds", .ref d)])) b = some o := fun b o n e => (upd_ne n).trans (s1 b o e)
  have g1' := (upd_ne (H := H1) (o := .ins (G "Hall") dx [("deeds", .ref d)]) nxd.symm).trans g1
  have gx1 : (upd H1 x (.ins (G "Hall") dx [("deeds", .ref d)])) x = _ := upd_same
  generalize upd H1 x (.ins (G "Hall") dx [("deeds", .ref d)]) = H2 at c1 g1' gx1
  refine lstQ fun kn H3 hkn s3 g3 => ?_
  have nxk : x ≠ kn := ne_of_none gx1 hkn
  have ndk : d ≠ kn := ne_of_none g1' hkn
  refine ⟨x, _, _, _, rfl, s3 _ _ gx1, F0.h, F0.hk, by simp, ?_⟩
  rw [put2]
  have c2 : ∀ b o, b ≠ x → H2 b = some o → (upd H3 x (.ins (G "Hall") dx [("deeds", .ref d), ("known", .ref kn)])) b = some o := fun b o n e => (upd_ne n).trans (s3 b o e)
  have g3' := (upd_ne (H := H3) (o := .ins (G "Hall") dx [("deeds", .ref d), ("known", .ref kn)]) nxk.symm).trans g3
  have gx2 : (upd H3 x (.ins (G "Hall") dx [("deeds", .ref d), ("known", .ref kn)])) x = _ := upd_same
  have g1'' := c2 d _ nxd.symm g1'
  generalize upd H3 x (.ins (G "Hall") dx [("deeds", .ref d), ("known", .ref kn)]) = H4 at c2 g3' gx2 g1''
  intro lt dxt hlt hdt nt
  have stm := (same_new (o := .own lt) hdt).trans (same_new (H := upd H4 dxt (.own lt)) (o := .ins (G "Levels") dxt []) (by rw [upd_ne nt.symm]; exact hlt))
  refine ⟨lt, dxt, rfl, upd_same, fun H5 Ft c5 Lt0 hFt => ⟨rfl, ?_⟩⟩
  have fr5 : ∀ b o, H4 b = some o → H5 b = some o := fun b o e => c5 b o (by simpa using ne_of_none e hlt) (stm b o e)
  have fFt : ∀ b ∈ Ft, H4 b = none := fun b hb => stm.free (hFt b hb)
  have nxlt : lt ≠ x := (ne_of_none gx2 hlt).symm
  have nxFt : ∀ b ∈ Ft, b ≠ x := fun b hb => (ne_of_none gx2 (fFt b hb)).symm
  refine ⟨x, _, _, _, rfl, fr5 _ _ gx2, F0.h, F0.ht, by simp, ?_⟩
  rw [put3]
  have c6 : ∀ b o, b ≠ x → H5 b = some o → (upd H5 x (.ins (G "Hall") dx [("deeds", .ref d), ("known", .ref kn), ("touched", .ref lt)])) b = some o := fun b o n e => (upd_ne n).trans e
  have gx6 : (upd H5 x (.ins (G "Hall") dx [("deeds", .ref d), ("known", .ref kn), ("touched", .ref lt)])) x = _ := upd_same
  generalize upd H5 x (.ins (G "Hall") dx [("deeds", .ref d), ("known", .ref kn), ("touched", .ref lt)]) = H6 at c6 gx6
  have Lt6 := (Lt0 bT).keepNe c6 nxlt nxFt
  intro lc dxc hlc hdc nc
  have stm2 := (same_new (o := .own lc) hdc).trans (same_new (H := upd H6 dxc (.own lc)) (o := .ins (G "Levels") dxc []) (by rw [upd_ne nc.symm]; exact hlc))
  refine ⟨lc, dxc, rfl, upd_same, fun H7 Fc c7 Lc0 hFc => ⟨rfl, ?_⟩⟩
  have fr7 : ∀ b o, H6 b = some o → H7 b = some o := fun b o e => c7 b o (by simpa using ne_of_none e hlc) (stm2 b o e)
  have fFc : ∀ b ∈ Fc, H6 b = none := fun b hb => stm2.free (hFc b hb)
  have nxlc : lc ≠ x := (ne_of_none gx6 hlc).symm
  have nxFc : ∀ b ∈ Fc, b ≠ x := fun b hb => (ne_of_none gx6 (fFc b hb)).symm
  refine ⟨x, _, _, _, rfl, fr7 _ _ gx6, F0.h, F0.hc, by simp, ?_⟩
  rw [put4]
  have c8 : ∀ b o, b ≠ x → H7 b = some o → (upd H7 x (.ins (G "Hall") dx [("deeds", .ref d), ("known", .ref kn), ("touched", .ref lt), ("changed", .ref lc)])) b = some o := fun b o n e => (upd_ne n).trans e
  have gx8 : (upd H7 x (.ins (G "Hall") dx [("deeds", .ref d), ("known", .ref kn), ("touched", .ref lt), ("changed", .ref lc)])) x = _ := upd_same
  generalize upd H7 x (.ins (G "Hall") dx [("deeds", .ref d), ("known", .ref kn), ("touched", .ref lt), ("changed", .ref lc)]) = H8 at c8 gx8
  have Lc8 := (Lc0 bC).keepNe c8 nxlc nxFc
  have Lt8 := Lt6.keepNe (fun b o n e => c8 b o n (fr7 b o e)) nxlt nxFt
  have k46 : ∀ b o, b ≠ x → H4 b = some o → H6 b = some o := fun b o n e => c6 b o n (fr5 b o e)
  have k48 : ∀ b o, b ≠ x → H4 b = some o → H8 b = some o := fun b o n e => c8 b o n (fr7 b o (k46 b o n e))
  have kx : ∀ b o, b ≠ x → H b = some o → H4 b = some o := fun b o n e => c2 b o n (c1 b o n e)
  have free4 : ∀ b, H4 b = none → b ≠ x → H b = none := fun b e n => by
    cases q : H b with
    | none => rfl
    | some o =>
      rw [kx b o n q] at e
      cases e
  have free6 : ∀ b, H6 b = none → b ≠ x → H4 b = none := fun b e n => by
    cases q : H4 b with
    | none => rfl
    | some o =>
      rw [k46 b o n q] at e
      cases e
  have ndFt := (show Ft.Nodup from by
    obtain ⟨_, _, _, _, _, _, rfl, g, _⟩ := Lt6
    exact g)
  have ndFc := (show Fc.Nodup from by
    obtain ⟨_, _, _, _, _, _, rfl, g, _⟩ := Lc8
    exact g)
  have zt := Lt6.zl
  refine k H8 (d :: kn :: (Ft ++ Fc)) (fun b o n e => k48 b o (by simpa using n) (kx b o (by simpa using n) e)) ⟨dx, d, kn, lt, lc, Ft, Fc, [], gx8, ⟨k48 d _ nxd.symm g1'', trivial⟩, k48 kn _ nxk.symm g3', Lt8, Lc8, rfl, ?_⟩ fun b hb => ?_
  · have dFt : d ∉ Ft := fun h => by
      have := fFt d h
      rw [g1''] at this
      cases this
    have kFt : kn ∉ Ft := fun h => by
      have := fFt kn h
      rw [g3'] at this
      cases this
    have dFc : d ∉ Fc := fun h => by
      have := free6 d (fFc d h) nxd.symm
      rw [g1''] at this
      cases this
    have kFc : kn ∉ Fc := fun h => by
      have := free6 kn (fFc kn h) nxk.symm
      rw [g3'] at this
      cases this
    have tc : ∀ a ∈ Ft, ∀ b ∈ Fc, a ≠ b := fun a ha b hb q => by
      obtain ⟨xs, g⟩ := zt a ha
      have := fFc b hb
      rw [← q, g] at this
      cases this
    rw [List.nodup_cons, List.nodup_cons, List.nodup_append]
    exact ⟨by simp [ndk, dFt, dFc], by simp [kFt, kFc], ndFt, ndFc, tc⟩
  · rw [List.mem_cons, List.mem_cons, List.mem_append] at hb
    rcases hb with rfl | rfl | hb | hb
    · exact hd
    · cases q : H b with
      | none => rfl
      | some o =>
        rw [c1 b o nxk.symm q] at hkn
        cases hkn
    · exact free4 b (fFt b hb) (nxFt b hb)
    · exact free4 b (free6 b (fFc b hb) (nxFc b hb)) (nxFc b hb)
end Pb

namespace Pb
open PySem PySem.Spec L2
/-! ### halls: put -/
theorem Chg.same {S : List Addr} {H H1 H' : Hp} (s : Same H H1) (c : Chg S H1 H') : Chg S H H' := fun b o n e => c b o n (s b o e)
theorem Chg.then {S : List Addr} {H H1 H' : Hp} (c : Chg S H H1) (s : Same H1 H') : Chg S H H' := fun b o n e => s b o (c b o n e)
theorem LevAt.mono {G : Str → Addr} {H H' : Hp} {l : Addr} {F : List Addr} {bits : Dd → Nat} {ps : List (Dd × Nat)} (h : LevAt G H l F bits ps) (s : Same H H') : LevAt G H' l F bits ps := by
  obtain ⟨dx, r, rs, g1, g2, g3, rfl, g4, g5⟩ := h
  exact ⟨dx, r, rs, s _ _ g1, s _ _ g2, g3, rfl, g4, fun k a e => s _ _ (g5 k a e)⟩
theorem LevAt.obj {G : Str → Addr} {H : Hp} {l : Addr} {F : List Addr} {bits : Dd → Nat} {ps : List (Dd × Nat)} (h : LevAt G H l F bits ps) : ∃ dx r, H l = some (.ins (G "Levels") dx [(("rows" : Str), .ref r)]) := by
  obtain ⟨dx, r, rs, g1, _⟩ := h
  exact ⟨dx, r, g1⟩
theorem ZL.none {H : Hp} {S : List Addr} (z : ZL H S) {a : Addr} (e : H a = none) : a ∉ S := fun h => by
  obtain ⟨xs, q⟩ := z a h
  rw [e] at q
  cases q
theorem ZL.mono {H H' : Hp} {S : List Addr} (z : ZL H S) (s : Same H H') : ZL H' S := fun b hb => by
  obtain ⟨xs, q⟩ := z b hb
  exact ⟨xs, s _ _ q⟩
theorem bx_le (n b : Nat) : (bx n b).length ≤ n := by
  have := List.length_filter_le (fun k => b.testBit k) (List.range n)
  rw [List.length_range] at this
  exact this
def sp_put (K : PySem.W.Frag) (G : Str → Addr) : Sp := fun vs H Q _ => ∃ h a F ds d, vs = [.ref h, .ref a] ∧ HallAt G H h F ds ∧ TD H a d ∧ Ok60 d ∧ ds.length ≤ 100 ∧ ∀ H', Chg F H H' → HallAt G H' h F (ds ++ [d]) → Q (.int ((hb d (zh ds) : Nat) : Int)) H'
theorem len_put {K G vs H Q E} (h : sp_put K G vs H Q E) : vs.length = 2 := by
  obtain ⟨h, a, F, ds, d, rfl, _⟩ := h
  rfl
abbrev n_put : List Str := ["self", "deed", "looked", "turned", "height"]
def t_put (K : PySem.W.Frag) (G : Str → Addr) : TS :=
  (tSeq (tAsg (tCall (sp_boxes_of K) [] E0 (tCons (tOp (rIx K) (tVar 1) (tC (.int 1))) tNil)) (gName 2))
  (tSeq (tAsg (tCall (sp_boxes_of K) [] E0 (tCons (tOp (rIx K) (tVar 1) (tC (.int 2))) tNil)) (gName 3))
  (tSeq (tAsg (tCB rMax2 (tCons (tMeth (G "Levels") "at" (sp_lev_at K G) [] E0 (tFld K (tVar 0) "changed") (tCons (tVar 2) tNil)) (tCons (tMeth (G "Levels") "at" (sp_lev_at K G) [] E0 (tFld K (tVar 0) "touched") (tCons (tVar 3) tNil)) tNil))) (gName 4))
  (tSeq (tDrop (tMeth (G "Levels") "raised" (sp_raised K G) [] E0 (tFld K (tVar 0) "changed") (tCons (tVar 3) (tCons (tOp rPlus (tVar 4) (tC (.int 1))) tNil))))
  (tSeq (tDrop (tMeth (G "Levels") "raised" (sp_raised K G) [] E0 (tFld K (tVar 0) "touched") (tCons (tCall (sp_boxes_of K) [] E0 (tCons (tOp rOr (tOp (rIx K) (tVar 1) (tC (.int 1))) (tOp (rIx K) (tVar 1) (tC (.int 2)))) tNil)) (tCons (tOp rPlus (tVar 4) (tC (.int 1))) tNil))))
  (tSeq (tDrop (tBM K "list" rAppend (tFld K (tVar 0) "deeds") (tCons (tVar 1) tNil)))
  (tSeq (tDrop (tBM K "list" rAppend (tFld K (tVar 0) "known") (tCons (tVar 4) tNil)))
  (tRet (tVar 4)))))))))
theorem r_put {K G vs H Q E} (F0 : LF K G) (h : sp_put K G vs H Q E) : t_put K G { nx := fun _ H' => Q .non H', rt := Q } (start n_put vs) H := by
  obtain ⟨h, a, F, ds, d, rfl, ⟨dx, dl, kn, lt, lc, Ft, Fc, as, g1, g2, g3, g4, g5, rfl, g6⟩, td, ok, hlen, k⟩ := h
  have hzl := zh_len ds
  have zc := g5.zl
  have zt := g4.zl
  have hnd := g6
  rw [List.nodup_cons, List.nodup_cons, List.nodup_append] at hnd
  obtain ⟨n1, n2, n3, n4, n5⟩ := hnd
  unfold t_put
  walk_at "go"
  refine ⟨d.l, rfl, fun lk H1 hlk s1 glk => ?_⟩
  have td1 := s1 _ _ td
  walk_at "go"
  refine ⟨d.c, rfl, fun tn H2 htn s2 gtn => ?_⟩
  have s12 := s1.trans s2
  walk_at "go"
  refine fld rfl (s12 _ _ g1) F0.h F0.hc rfl ?_
  obtain ⟨dxc, rc, gc⟩ := (g5.mono s12).obj
  refine ⟨lc, dxc, _, rfl, gc, rfl, ?_⟩
  refine ⟨lc, lk, Fc, bC, zh ds, bx 60 d.l, rfl, g5.mono s12, s2 _ _ glk, fun k hk => (mem_bx.mp hk).1, ?_, fun H3 s3 => ?_⟩
  · exact Nat.le_trans (bx_le 60 _) (by decide)
  have s13 := s12.trans s3
  walk_at "go"
  refine fld rfl (s13 _ _ g1) F0.h F0.ht rfl ?_
  obtain ⟨dxt, rt, gt⟩ := (g4.mono s13).obj
  refine ⟨lt, dxt, _, rfl, gt, rfl, ?_⟩
  refine ⟨lt, tn, Ft, bT, zh ds, bx 60 d.c, rfl, g4.mono s13, s3 _ _ gtn, fun k hk => (mem_bx.mp hk).1, ?_, fun H4 s4 => ?_⟩
  · exact Nat.le_trans (bx_le 60 _) (by decide)
  have s14 := s13.trans s4
  refine max2 ?_
  have hh := height_is ok (zh ds)
  dsimp only at hh
  rw [hh]
  clear hh
  have stn : Same H2 H4 := s3.trans s4
  walk_at "go"
  refine fld rfl (s14 _ _ g1) F0.h F0.hc rfl ?_
  obtain ⟨dxc4, rc4, gc4⟩ := (g5.mono s14).obj
  refine ⟨lc, dxc4, _, rfl, gc4, rfl, ?_⟩
  refine ⟨lc, tn, Fc, bC, zh ds, d, hb d (zh ds), rfl, g5.mono s14, stn _ _ gtn, (zc.mono s1).none htn, by omega, fun H5 c5 L5 => ?_⟩
  have c5' := c5.same s14
  have g1' := c5' _ _ (zc.out g1 fun xs q => by cases q) g1
  have td5 := c5'.td zc td
  have Lt5 := (g4.mono s14).chg c5 (zc.mono s14) fun b hb hb2 => n5 b hb b hb2 rfl
  walk_at "go"
  refine fld rfl g1' F0.h F0.ht rfl ?_
  obtain ⟨dxt5, rt5, gt5⟩ := Lt5.obj
  refine ⟨lt, dxt5, _, rfl, gt5, rfl, ?_⟩
  walk_at "go"
  refine ⟨d.l ||| d.c, rfl, fun bo H6 hbo s6 gbo => ?_⟩
  walk_at "go"
  have Lt6 := Lt5.mono s6
  refine ⟨lt, bo, Ft, bT, zh ds, d, hb d (zh ds), rfl, Lt6, gbo, Lt5.zl.none hbo, by omega, fun H7 c7 L7 => ?_⟩
  have zt7 := Lt6.zl
  have L5' := (L5.mono s6).chg c7 zt7 fun b hb hb2 => n5 b hb2 b hb rfl
  have g17 := c7 _ _ (zt7.out (s6 _ _ g1') fun xs q => by cases q) (s6 _ _ g1')
  have dFc : dl ∉ Fc := fun q => n1 (by simp [q])
  have dFt : dl ∉ Ft := fun q => n1 (by simp [q])
  have kFc : kn ∉ Fc := fun q => n2 (by simp [q])
  have kFt : kn ∉ Ft := fun q => n2 (by simp [q])
  have ndk : dl ≠ kn := fun q => n1 (by simp [q])
  have gd7 := c7 _ _ dFt (s6 _ _ (c5' _ _ dFc g2.1))
  have gk7 := c7 _ _ kFt (s6 _ _ (c5' _ _ kFc g3))
  have cAll : ∀ b o, b ∉ dl :: kn :: (Ft ++ Fc) → H b = some o → H7 b = some o := fun b o n e => c7 b o (fun q => n (by simp [q])) (s6 b o (c5' b o (fun q => n (by simp [q])) e))
  walk_at "go"
  refine fld rfl g17 F0.h F0.hd rfl ?_
  walk_at "go"
  have hal := g2.2.len
  refine ⟨ty_l gd7, ?_⟩
  refine app_raw gd7 (by rw [List.length_map]; omega) fun H8 g8 ne8 => ?_
  have nhd : h ≠ dl := ne_of g17 gd7 (by intro z; cases z)
  have nhk : h ≠ kn := ne_of g17 gk7 (by intro z; cases z)
  walk_at "go"
  refine fld rfl ((ne8 _ nhd).trans g17) F0.h F0.hk rfl ?_
  walk_at "go"
  have gk8 := (ne8 _ ndk.symm).trans gk7
  refine ⟨ty_l gk8, ?_⟩
  refine app_raw gk8 (by rw [List.length_map, hts_len]; omega) fun H9 g9 ne9 => ?_
  have g19 := (ne9 _ nhk).trans ((ne8 _ nhd).trans g17)
  have k79 : ∀ b, b ≠ dl → b ≠ kn → H9 b = H7 b := fun b q1 q2 => (ne9 b q2).trans (ne8 b q1)
  have ch79 : Chg [dl, kn] H7 H9 := fun b o n e => by
    rw [k79 b (fun q => n (by simp [q])) (fun q => n (by simp [q]))]
    exact e
  have z79 : ZL H7 [dl, kn] := fun b hb => by
    rcases List.mem_cons.mp hb with rfl | hb
    · exact ⟨_, gd7⟩
    · rw [List.mem_singleton.mp hb]
      exact ⟨_, gk7⟩
  have zAll : ZL H (dl :: kn :: (Ft ++ Fc)) := HallAt.zl ⟨dx, dl, kn, lt, lc, Ft, Fc, as, g1, g2, g3, g4, g5, rfl, g6⟩
  have cEnd : Chg (dl :: kn :: (Ft ++ Fc)) H H9 := fun b o n e => ch79 b o (fun q => n (by
    rcases List.mem_cons.mp q with rfl | q
    · simp
    · rw [List.mem_singleton.mp q]
      simp)) (cAll b o n e)
  walk_at "go"
  refine k H9 cEnd ⟨dx, dl, kn, lt, lc, Ft, Fc, as ++ [a], g19, ⟨?_, ?_⟩, ?_, ?_, ?_, rfl, g6⟩
  · rw [ne9 _ ndk, g8]
    simp
  · exact (cEnd.dl zAll g2.2).app (.one (cEnd.td zAll td))
  · rw [g9, hts_snoc]
    simp [nv]
  · rw [zh_snoc]
    exact L7.chg ch79 z79 fun b hb q => by
      rcases List.mem_cons.mp q with rfl | q
      · exact dFt hb
      · rw [List.mem_singleton.mp q] at hb
        exact kFt hb
  · rw [zh_snoc]
    exact L5'.chg ch79 z79 fun b hb q => by
      rcases List.mem_cons.mp q with rfl | q
      · exact dFc hb
      · rw [List.mem_singleton.mp q] at hb
        exact kFc hb
end Pb

namespace Pb
open PySem PySem.Spec L2
/-! ### halls: back, rounds, many -/
theorem DL.unsnoc {H : Hp} : ∀ {as : List Addr} {ds : List Dd} {d : Dd}, DL H as (ds ++ [d]) → ∃ bs a, as = bs ++ [a] ∧ DL H bs ds ∧ TD H a d
  | [], [], _, h => h.elim
  | [], _ :: _, _, h => h.elim
  | [a], [], _, h => ⟨[], a, rfl, trivial, h.1⟩
  | _ :: _ :: _, [], _, h => h.2.elim
  | a :: as, e :: ds, d, h => by
    obtain ⟨bs, b, e1, h1, h2⟩ := DL.unsnoc (as := as) (ds := ds) h.2
    exact ⟨a :: bs, b, by rw [e1]; rfl, ⟨h.1, h1⟩, h2⟩
def sp_back (K : PySem.W.Frag) (G : Str → Addr) : Sp := fun vs H Q E => ∃ h F ds0, vs = [.ref h] ∧ HallAt G H h F ds0 ∧ (ds0 = [] → ∀ H', Same H H' → E (.ref (G "Nothing")) none H') ∧ ∀ ds d, ds0 = ds ++ [d] → ∀ x H', Chg F H H' → HallAt G H' h F ds → TD H' x d → Q (.ref x) H'
theorem len_back {K G vs H Q E} (h : sp_back K G vs H Q E) : vs.length = 1 := by
  obtain ⟨h, F, ds0, rfl, _⟩ := h
  rfl
abbrev n_back : List Str := ["self", "deed"]
def t_back (K : PySem.W.Frag) (G : Str → Addr) (E : XK) : TS :=
  (tSeq (tIfS (tTest (tOp (rEqA K) (tFld K (tVar 0) "deeds") (tLst tNil)))
  (fun _ _ H => E (.ref (G "Nothing")) none H)
  tNext)
  (tSeq (tAsg (tBM0 K "list" rPop (tFld K (tVar 0) "deeds")) (gName 1))
  (tSeq (tDrop (tBM0 K "list" rPop (tFld K (tVar 0) "known")))
  (tSeq (tDrop (tMeth (G "Levels") "lowered" (sp_lowered K G) [] E0 (tFld K (tVar 0) "changed") (tCons (tCall (sp_boxes_of K) [] E0 (tCons (tOp (rIx K) (tVar 1) (tC (.int 2))) tNil)) tNil)))
  (tSeq (tDrop (tMeth (G "Levels") "lowered" (sp_lowered K G) [] E0 (tFld K (tVar 0) "touched") (tCons (tCall (sp_boxes_of K) [] E0 (tCons (tOp rOr (tOp (rIx K) (tVar 1) (tC (.int 1))) (tOp (rIx K) (tVar 1) (tC (.int 2)))) tNil)) tNil)))
  (tRet (tVar 1)))))))
theorem r_back {K G vs H Q E} (F0 : LF K G) (h : sp_back K G vs H Q E) : t_back K G E { nx := fun _ H' => Q .non H', rt := Q } (start n_back vs) H := by
  obtain ⟨h, F, ds0, rfl, ⟨dx, dl, kn, lt, lc, Ft, Fc, as, g1, g2, g3, g4, g5, rfl, g6⟩, kE, kQ⟩ := h
  have hzl := zh_len ds0
  have zc := g5.zl
  have zt := g4.zl
  have zAll : ZL H (dl :: kn :: (Ft ++ Fc)) := HallAt.zl ⟨dx, dl, kn, lt, lc, Ft, Fc, as, g1, g2, g3, g4, g5, rfl, g6⟩
  have hnd := g6
  rw [List.nodup_cons, List.nodup_cons, List.nodup_append] at hnd
  obtain ⟨n1, n2, n3, n4, n5⟩ := hnd
  have dFc : dl ∉ Fc := fun q => n1 (by simp [q])
  have dFt : dl ∉ Ft := fun q => n1 (by simp [q])
  have kFc : kn ∉ Fc := fun q => n2 (by simp [q])
  have kFt : kn ∉ Ft := fun q => n2 (by simp [q])
  have ndk : dl ≠ kn := fun q => n1 (by simp [q])
  unfold t_back
  walk_at "go"
  refine fld rfl g1 F0.h F0.hd rfl ?_
  refine lstQ fun e H1 he s1 ge => ?_
  refine eqA_ok (ld_dp ⟨s1 _ _ g2.1, g2.2.mono s1⟩) (nv_dp (ns := []) ge) (dds_ok _) ((nv_ok []).up) fun b hbe => ?_
  have hb' : b = true ↔ ds0 = [] := hbe.trans (by
    cases ds0 with
    | nil => simp
    | cons x r => simp)
  refine ⟨b, rfl, ?_⟩
  cases b with
  | true =>
    exact kE (hb'.mp rfl) H1 s1
  | false =>
    have hne : ds0 ≠ [] := fun q => by
      have := hb'.mpr q
      cases this
    obtain ⟨ds, d, rfl⟩ : ∃ ds d, ds0 = ds ++ [d] := ⟨ds0.dropLast, ds0.getLast hne, (List.dropLast_concat_getLast hne).symm⟩
    obtain ⟨bs, a, rfl, dlb, tda⟩ := g2.2.unsnoc
    have e3 : nv (hts (ds ++ [d])) = nv (hts ds) ++ [.int ((hb d (zh ds) : Nat) : Int)] := by
      rw [hts_snoc]
      simp [nv]
    rw [e3] at g3
    rw [zh_snoc] at g4 g5
    have gd1 := s1 _ _ g2.1
    rw [List.map_append] at gd1
    walk_at "go"
    refine fld rfl (s1 _ _ g1) F0.h F0.hd rfl ?_
    refine ⟨ty_l gd1, ?_⟩
    refine pop_raw gd1 fun H2 g2' ne2 => ?_
    have gk1 := s1 _ _ g3
    have nhd : h ≠ dl := ne_of g1 g2.1 (by intro z; cases z)
    have nhk : h ≠ kn := ne_of g1 g3 (by intro z; cases z)
    walk_at "go"
    refine fld rfl ((ne2 _ nhd).trans (s1 _ _ g1)) F0.h F0.hk rfl ?_
    have gk2 := (ne2 _ ndk.symm).trans gk1
    refine ⟨ty_l gk2, ?_⟩
    refine pop_raw gk2 fun H3 g3' ne3 => ?_
    have k13 : ∀ b, b ≠ dl → b ≠ kn → H3 b = H1 b := fun b q1 q2 => (ne3 b q2).trans (ne2 b q1)
    have c13 : Chg [dl, kn] H H3 := fun b o n e => by
      rw [k13 b (fun q => n (by simp [q])) (fun q => n (by simp [q]))]
      exact s1 _ _ e
    have z13 : ZL H [dl, kn] := fun b hb => by
      rcases List.mem_cons.mp hb with rfl | hb
      · exact ⟨_, g2.1⟩
      · rw [List.mem_singleton.mp hb]
        exact ⟨_, g3⟩
    have out2 : ∀ {L : List Addr}, dl ∉ L → kn ∉ L → ∀ b ∈ L, b ∉ [dl, kn] := fun q1 q2 b hb q => by
      rcases List.mem_cons.mp q with rfl | q
      · exact q1 hb
      · rw [List.mem_singleton.mp q] at hb
        exact q2 hb
    have g13 := c13 _ _ (z13.out g1 fun xs q => by cases q) g1
    have td3 := c13.td z13 tda
    have Lc3 := g5.chg c13 z13 (out2 dFc kFc)
    have Lt3 := g4.chg c13 z13 (out2 dFt kFt)
    have gd3 := (ne3 _ ndk).trans g2'
    have db3 := c13.dl z13 dlb
    walk_at "go"
    refine fld rfl g13 F0.h F0.hc rfl ?_
    obtain ⟨dxc, rc, gc⟩ := Lc3.obj
    refine ⟨lc, dxc, _, rfl, gc, rfl, ?_⟩
    walk_at "go"
    refine ⟨d.c, rfl, fun tn H4 htn s4 gtn => ?_⟩
    walk_at "go"
    have Lc4 := Lc3.mono s4
    refine ⟨lc, tn, Fc, bC, zh ds, d, hb d (zh ds), rfl, Lc4, gtn, Lc3.zl.none htn, fun H5 c5 L5 => ?_⟩
    have zc4 := Lc4.zl
    have Lt5 := (Lt3.mono s4).chg c5 zc4 fun b hb hb2 => n5 b hb b hb2 rfl
    have g15 := c5 _ _ (zc4.out (s4 _ _ g13) fun xs q => by cases q) (s4 _ _ g13)
    have td5 := c5.td zc4 (s4 _ _ td3)
    walk_at "go"
    refine fld rfl g15 F0.h F0.ht rfl ?_
    obtain ⟨dxt, rt, gt⟩ := Lt5.obj
    refine ⟨lt, dxt, _, rfl, gt, rfl, ?_⟩
    walk_at "go"
    refine ⟨d.l ||| d.c, rfl, fun bo H6 hbo s6 gbo => ?_⟩
    walk_at "go"
    have Lt6 := Lt5.mono s6
    refine ⟨lt, bo, Ft, bT, zh ds, d, hb d (zh ds), rfl, Lt6, gbo, Lt5.zl.none hbo, fun H7 c7 L7 => ?_⟩
    have zt6 := Lt6.zl
    have L57 := (L5.mono s6).chg c7 zt6 fun b hb hb2 => n5 b hb2 b hb rfl
    have c37 : Chg (Ft ++ Fc) H3 H7 := fun b o n e => c7 b o (fun q => n (by simp [q])) (s6 b o (c5 b o (fun q => n (by simp [q])) (s4 b o e)))
    have c07 : Chg (dl :: kn :: (Ft ++ Fc)) H H7 := fun b o n e => c37 b o (fun q => n (by
      rw [List.mem_cons, List.mem_cons]
      exact .inr (.inr q))) (c13 b o (fun q => n (by
      rcases List.mem_cons.mp q with rfl | q
      · simp
      · rw [List.mem_singleton.mp q]
        simp)) e)
    have nd2 : dl ∉ Ft ++ Fc := fun q => (List.mem_append.mp q).elim dFt dFc
    have nk2 : kn ∉ Ft ++ Fc := fun q => (List.mem_append.mp q).elim kFt kFc
    walk_at "go"
    refine kQ ds d rfl a H7 c07 ⟨dx, dl, kn, lt, lc, Ft, Fc, bs, c07 _ _ (zAll.out g1 fun xs q => by cases q) g1, ⟨c37 _ _ nd2 gd3, c07.dl zAll dlb⟩, c37 _ _ nk2 g3', L7, L57, rfl, g6⟩ (c07.td zAll tda)

def sp_rounds (K : PySem.W.Frag) (G : Str → Addr) : Sp := fun vs H Q _ => ∃ h F ds, vs = [.ref h] ∧ HallAt G H h F ds ∧ ds.length ≤ 100 ∧ ∀ r H' rs, Same H H' → RA H H' r rs (tops (hts ds)) (layR ds) → Q (.ref r) H'
theorem len_rounds {K G vs H Q E} (h : sp_rounds K G vs H Q E) : vs.length = 1 := by
  obtain ⟨h, F, ds, rfl, _⟩ := h
  rfl
abbrev n_rounds : List Str := ["self"]
def t_rounds (K : PySem.W.Frag) (G : Str → Addr) : TS :=
  (tRet (tCall (sp_laid K) [] E0 (tCons (tFld K (tVar 0) "deeds") (tCons (tFld K (tVar 0) "known") tNil))))
theorem r_rounds {K G vs H Q E} (F0 : LF K G) (h : sp_rounds K G vs H Q E) : t_rounds K G { nx := fun _ H' => Q .non H', rt := Q } (start n_rounds vs) H := by
  obtain ⟨h, F, ds, rfl, ⟨dx, dl, kn, lt, lc, Ft, Fc, as, g1, g2, g3, g4, g5, rfl, g6⟩, hl, k⟩ := h
  unfold t_rounds
  walk_at "go"
  refine fld rfl g1 F0.h F0.hd rfl ?_
  refine fld rfl g1 F0.h F0.hk rfl ?_
  exact ⟨dl, kn, as, ds, hts ds, rfl, g2, g3, hts_len ds, by omega, fun n hn => by have := hts_small n hn; omega, fun r H' rs s R => k r H' rs s R⟩

def sp_many (K : PySem.W.Frag) (G : Str → Addr) : Sp := fun vs H Q _ => ∃ h F ds, vs = [.ref h] ∧ HallAt G H h F ds ∧ Q (.int (ds.length : Nat)) H
theorem len_many {K G vs H Q E} (h : sp_many K G vs H Q E) : vs.length = 1 := by
  obtain ⟨h, F, ds, rfl, _⟩ := h
  rfl
abbrev n_many : List Str := ["self"]
def t_many (K : PySem.W.Frag) (G : Str → Addr) : TS :=
  (tRet (tCB (rLen K) (tCons (tFld K (tVar 0) "deeds") tNil)))
theorem r_many {K G vs H Q E} (F0 : LF K G) (h : sp_many K G vs H Q E) : t_many K G { nx := fun _ H' => Q .non H', rt := Q } (start n_many vs) H := by
  obtain ⟨h, F, ds, rfl, ⟨dx, dl, kn, lt, lc, Ft, Fc, as, g1, g2, g3, g4, g5, rfl, g6⟩, k⟩ := h
  unfold t_many
  walk_at "go"
  refine fld rfl g1 F0.h F0.hd rfl ?_
  refine Pb.len_l' g2.1 ?_
  rw [List.length_map, g2.2.len]
  exact k
end Pb

namespace Pb
open PySem PySem.Spec L2
/-! ### the law's own: deeds with numbers, rows with heights -/
/-- t is a pair of a number below 48 and a deed -/
def StepO (H : Hp) (t : Addr) : Prop := ∃ (k : Nat) (a : Addr) (d : Dd), H t = some (.tup [.int (k : Int), .ref a]) ∧ TD H a d ∧ Ok60 d ∧ k < 48
theorem StepO.mono {H H' : Hp} {t : Addr} (h : StepO H t) (s : Same H H') : StepO H' t := by
  obtain ⟨k, a, d, g, td, ok, hk⟩ := h
  exact ⟨k, a, d, s _ _ g, s _ _ td, ok, hk⟩
theorem StepO.keep {H H1 : Hp} {p : Addr} {xs : List V} {t : Addr} (hp : H p = some (.lst xs)) (ne : ∀ b, b ≠ p → H1 b = H b) (h : StepO H t) : StepO H1 t := by
  obtain ⟨k, a, d, g, td, ok, hk⟩ := h
  exact ⟨k, a, d, (ne t (ne_of g hp (by intro z; cases z))).trans g, (ne a (ne_of td hp (by intro z; cases z))).trans td, ok, hk⟩
def sp_deeds6 (K : PySem.W.Frag) : Sp := fun vs H Q _ => ∃ (a : Addr) (ns : List Int) (m : Int), vs = [.ref a, .int m] ∧ SqL K H a (ns.map V.int) ∧ ns.length ≤ 63 ∧
  ∀ p H' (ts : List Addr), H p = none → Same H H' → H' p = some (.lst (ts.map V.ref)) → (∀ t ∈ ts, StepO H' t) → ts.length ≤ 63 → Q (.ref p) H'
theorem len_deeds6 {K vs H Q E} (h : sp_deeds6 K vs H Q E) : vs.length = 2 := by
  obtain ⟨a, ns, m, rfl, _⟩ := h
  rfl
abbrev n_deeds6 : List Str := ["_law_script", "_law_most", "_law_cells", "_law_far", "_law_k", "_law_looks", "_law_one", "_law_names_here", "_law_boxes", "_law_some", "_law_cell", "_law_number"]
def t_deeds6 (K : PySem.W.Frag) : TS :=
  (tSeq (tAsg (tSl (rSlA K) (tVar 0) (tPart (tC (.int 6))) (tPart (tVar 1))) (gName 2))
  (tSeq (tIfS (tTest (tOp (rEqA K) (tOp rMod (tCall (sp_cell_at K) [] E0 (tCons (tVar 0) (tCons (tC (.int 0)) tNil))) (tC (.int 3))) (tC (.int 1))))
  (tSeq (tAsg (tLst tNil) (gName 3))
  (tSeq (tFor (iRng1 (tCons (tOp rDiv (tCB (rLen K) (tCons (tVar 2) tNil)) (tC (.int 3))) tNil)) (gName 4)
  (tSeq (tAsg (tCall (sp_far_bits K) [] E0 (tCons (tOp (rIx K) (tVar 2) (tOp rPlus (tOp rMul (tC (.int 3)) (tVar 4)) (tC (.int 1)))) tNil)) (gName 5))
  (tSeq (tAsg (tTup (tCons (tOp rMod (tOp rDiv (tOp (rIx K) (tVar 2) (tOp rMul (tC (.int 3)) (tVar 4))) (tC (.int 48))) (tOp rPow (tC (.int 10)) (tC (.int 60)))) (tCons (tVar 5) (tCons (tCall (sp_far_bits K) [] E0 (tCons (tOp (rIx K) (tVar 2) (tOp rPlus (tOp rMul (tC (.int 3)) (tVar 4)) (tC (.int 2)))) tNil)) tNil)))) (gName 6))
  (tDrop (tBM K "list" rAppend (tVar 3) (tCons (tTup (tCons (tOp rMod (tOp (rIx K) (tVar 2) (tOp rMul (tC (.int 3)) (tVar 4))) (tC (.int 48))) (tCons (tVar 6) tNil))) tNil))))))
  (tRet (tVar 3))))
  tNext)
  (tSeq (tAsg (tCall (sp_names K) [] E0 (tCons (tCall (sp_cell_at K) [] E0 (tCons (tVar 0) (tCons (tC (.int 1)) tNil))) (tCons (tCall (sp_cell_at K) [] E0 (tCons (tVar 0) (tCons (tC (.int 2)) tNil))) tNil))) (gName 7))
  (tSeq (tAsg (tLc (iRng1 (tCons (tC (.int 3)) tNil)) (gName 4) tYes (tOp rMod (tCall (sp_cell_at K) [] E0 (tCons (tVar 0) (tCons (tOp rPlus (tC (.int 3)) (tVar 4)) tNil))) (tC (.int 60))) [4]) (gName 8))
  (tSeq (tAsg (tLst tNil) (gName 9))
  (tSeq (tFor (iList K (tVar 2)) (gName 10)
  (tSeq (tAsg (tOp rMod (tOp rPlus (tOp rMul (tVar 10) (tC (.int 175))) (tOp rDiv (tVar 10) (tC (.int 48)))) (tC (.int 288))) (gName 11))
  (tDrop (tBM K "list" rAppend (tVar 9) (tCons (tTup (tCons (tOp rMod (tVar 10) (tC (.int 48))) (tCons (tCall (sp_near K) [] E0 (tCons (tVar 11) (tCons (tVar 7) (tCons (tVar 8) tNil)))) tNil))) tNil)))))
  (tRet (tVar 9))))))))
theorem r_deeds6 {K vs H Q E} (h : sp_deeds6 K vs H Q E) : t_deeds6 K { nx := fun _ H' => Q .non H', rt := Q } (start n_deeds6 vs) H := by
  obtain ⟨a, ns, m, rfl, ha, hl, q⟩ := h
  unfold t_deeds6
  walk_at "go"
  obtain ⟨ms, em, hm⟩ := cut_ints ns (some 6) (some m)
  refine sl_l ha fun p H1 hp s1 g1 => ?_
  rw [em] at g1
  walk_at "go"
  refine ⟨a, ns, 0, rfl, s1.seq ha, ?_⟩
  walk_at "go"
  refine ite2 (fun c => ?_) (fun c => ?_)
  · walk_at "go"
    refine lstQ fun p2 H2 hp2 s2 g2 => ?_
    have g1' := s2 _ _ g1
    walk_at "go"
    rw [List.length_map, show ((ms.length : Nat) : Int) / 3 = ((ms.length / 3 : Nat) : Int) by omega]
    refine forR1 (n := ms.length / 3) (fun i σ H3 => ∃ (ts : List Addr) (v4 v5 v6 v7 v8 v9 v10 v11 : Option V), σ = [some (.ref a), some (.int m), some (.ref p), some (.ref p2), v4, v5, v6, v7, v8, v9, v10, v11] ∧ Same H1 H3 ∧ H3 p2 = some (.lst (ts.map V.ref)) ∧ (∀ t ∈ ts, StepO H3 t) ∧ ts.length = i) (by omega)
      ⟨[], none, none, none, none, none, none, none, none, rfl, s2, g2, by simp, rfl⟩ ?_ ?_
    · rintro i σ H3 hi ⟨ts, v4, v5, v6, v7, v8, v9, v10, v11, rfl, s3, gp, hst, hlen⟩
      have g13 := s3 _ _ g1
      walk_at "go"
      rw [show (3 : Int) * (i : Int) + 1 = ((3 * i + 1 : Nat) : Int) by omega]
      refine ix_l' g13 (atI_nat (j := 3 * i + 1) (ints_at (by omega))) ?_
      walk_at "go"
      refine ⟨_, rfl, fun x hx => ?_⟩
      walk_at "go"
      rw [show (3 : Int) * (i : Int) = ((3 * i : Nat) : Int) by omega]
      refine ix_l' g13 (atI_nat (j := 3 * i) (ints_at (by omega))) ?_
      walk_at "go"
      rw [show ((3 * i : Nat) : Int) + 2 = ((3 * i + 2 : Nat) : Int) by omega]
      refine ix_l' g13 (atI_nat (j := 3 * i + 2) (ints_at (by omega))) ?_
      walk_at "go"
      refine ⟨_, rfl, fun y hy => ?_⟩
      walk_at "go"
      refine tupQ fun p4 H4 hp4 s4 g4 => ?_
      have s34 := s3.trans s4
      have gp4 := s4 _ _ gp
      walk_at "go"
      refine ⟨ty_l gp4, ?_⟩
      refine ix_l' (s4 _ _ g13) (atI_nat (j := 3 * i) (ints_at (by omega))) ?_
      walk_at "go"
      obtain ⟨k, hk⟩ := nn_nat (Int.emod_nonneg (ms[3 * i]'(by omega)) (show (48 : Int) ≠ 0 by decide))
      refine tupQ fun p5 H5 hp5 s5 g5 => ?_
      rw [hk] at g5
      walk_at "go"
      refine append_r (s34.trans s5) hp2 (s5 _ _ gp4) (by rw [List.length_map]; omega) fun H6 s6 g6 ne6 => ?_
      refine ⟨ts ++ [p5], _, _, _, _, _, _, _, _, rfl, s6, by rw [g6, List.map_append]; rfl, fun t ht => ?_, by simp [hlen]⟩
      refine StepO.keep (s5 _ _ gp4) ne6 ?_
      rcases List.mem_append.mp ht with ht | ht
      · exact (hst t ht).mono (s4.trans s5)
      · rw [List.mem_singleton.mp ht]
        exact ⟨k, p4, ⟨_, x, y⟩, g5, s5 _ _ g4, ⟨hx, hy⟩, by omega⟩
    · rintro σ H3 ⟨ts, v4, v5, v6, v7, v8, v9, v10, v11, rfl, s3, gp, hst, hlen⟩
      walk_at "go"
      exact q p2 H3 ts (s1.free hp2) (s1.trans s3) gp hst (by omega)
  · walk_at "go"
    refine ⟨a, ns, 1, rfl, s1.seq ha, ?_⟩
    walk_at "go"
    refine ⟨a, ns, 2, rfl, s1.seq ha, ?_⟩
    walk_at "go"
    refine ⟨_, _, rfl, fun p2 H2 n0 n1 n2 hp2 s2 g2 => ?_⟩
    walk_at "go"
    refine lcR1 (n := 3) (fun j => some (.int (ns.getD (3 + j) 0 % 60))) (by decide) ?_ ?_
    · intro j H3 hj s3 R hR R2 hR2
      walk_at "go"
      refine ⟨a, ns, 3 + j, by simp, s3.seq (s2.seq (s1.seq ha)), ?_⟩
      walk_at "go"
      exact hR _ _ rfl (Same.refl _)
    intro p3 H3 hp3 s3 g3
    obtain ⟨b0, e0⟩ := nn_nat (Int.emod_nonneg (ns.getD (3 + 0) 0) (show (60 : Int) ≠ 0 by decide))
    obtain ⟨b1, e1⟩ := nn_nat (Int.emod_nonneg (ns.getD (3 + 1) 0) (show (60 : Int) ≠ 0 by decide))
    obtain ⟨b2, e2⟩ := nn_nat (Int.emod_nonneg (ns.getD (3 + 2) 0) (show (60 : Int) ≠ 0 by decide))
    have g3' : H3 p3 = some (.lst [.int (b0 : Int), .int (b1 : Int), .int (b2 : Int)]) := by
      rw [g3]
      show some (HO.lst [.int (ns.getD (3 + 0) 0 % 60), .int (ns.getD (3 + 1) 0 % 60), .int (ns.getD (3 + 2) 0 % 60)]) = _
      rw [e0, e1, e2]
    have g13 := s3 _ _ (s2 _ _ g1)
    have g23 := s3 _ _ g2
    walk_at "go"
    refine lstQ fun p4 H4 hp4 s4 g4 => ?_
    have s14 := (s2.trans s3).trans s4
    walk_at "go"
    refine forL (.of (s4 _ _ g13)) (fun i σ H5 => ∃ (ts : List Addr) (v10 v11 : Option V), σ = [some (.ref a), some (.int m), some (.ref p), none, none, none, none, some (.ref p2), some (.ref p3), some (.ref p4), v10, v11] ∧ Same H3 H5 ∧ H5 p4 = some (.lst (ts.map V.ref)) ∧ (∀ t ∈ ts, StepO H5 t) ∧ ts.length = i)
      ⟨[], none, none, rfl, s4, g4, by simp, rfl⟩ (fun i σ H5 _ ⟨_, _, _, _, s, _⟩ => s.seq (.of g13)) ?_ ?_
    · rintro i x σ H5 hx ⟨ts, v10, v11, rfl, s5, gp, hst, hlen⟩
      have hi := (List.getElem?_eq_some_iff.mp hx).1
      rw [List.length_map] at hi
      obtain ⟨z, rfl⟩ : ∃ z, x = V.int z := by
        rw [List.getElem?_map] at hx
        cases e : ms[i]? with
        | none => rw [e] at hx; cases hx
        | some z => rw [e] at hx; exact ⟨z, (Option.some.inj hx).symm⟩
      obtain ⟨k, hk⟩ := nn_nat (Int.emod_nonneg z (show (48 : Int) ≠ 0 by decide))
      walk_at "go"
      refine ⟨ty_l gp, ?_⟩
      refine ⟨_, p2, p3, n0, n1, n2, b0, b1, b2, rfl, s5 _ _ g23, s5 _ _ g3', by omega, by omega, by omega, fun p6 H6 d hp6 s6 g6 hd => ?_⟩
      walk_at "go"
      refine tupQ fun p7 H7 hp7 s7 g7 => ?_
      rw [hk] at g7
      have gp7 := s7 _ _ (s6 _ _ gp)
      walk_at "go"
      refine append_r ((s5.trans s6).trans s7) hp4 gp7 (by rw [List.length_map]; omega) fun H8 s8 g8 ne8 => ?_
      refine ⟨ts ++ [p7], _, _, rfl, s8, by rw [g8, List.map_append]; rfl, fun t ht => ?_, by simp [hlen]⟩
      refine StepO.keep gp7 ne8 ?_
      rcases List.mem_append.mp ht with ht | ht
      · exact (hst t ht).mono (s6.trans s7)
      · rw [List.mem_singleton.mp ht]
        exact ⟨k, p6, d, g7, s7 _ _ g6, hd, by omega⟩
    · rintro σ H5 ⟨ts, v10, v11, rfl, s5, gp, hst, hlen⟩
      walk_at "go"
      rw [List.length_map] at hlen
      have s15 := (s1.trans (s2.trans s3)).trans s5
      exact q p4 H5 ts (s1.free (s2.free (s3.free hp4))) s15 gp hst (by omega)
end Pb

namespace Pb
open PySem PySem.Spec L2
/-! ### rows of deeds with heights, told by rounds -/
def RwL (H : Hp) : List Addr → List (Dd × Nat) → Prop
  | [], [] => True
  | t :: ts, p :: ps => (∃ a, H t = some (.tup [.ref a, .int (p.2 : Nat)]) ∧ TD H a p.1) ∧ RwL H ts ps
  | _, _ => False
theorem RwL.mono {H H' : Hp} (s : Same H H') : ∀ {ts : List Addr} {ps : List (Dd × Nat)}, RwL H ts ps → RwL H' ts ps
  | [], [], _ => trivial
  | t :: ts, p :: ps, h => ⟨by
      obtain ⟨a, g, td⟩ := h.1
      exact ⟨a, s _ _ g, s _ _ td⟩, RwL.mono s h.2⟩
  | [], _ :: _, h => h.elim
  | _ :: _, [], h => h.elim
theorem RwL.chg {S : List Addr} {H H' : Hp} (c : Chg S H H') (z : ZL H S) : ∀ {ts : List Addr} {ps : List (Dd × Nat)}, RwL H ts ps → RwL H' ts ps
  | [], [], _ => trivial
  | t :: ts, p :: ps, h => ⟨by
      obtain ⟨a, g, td⟩ := h.1
      exact ⟨a, c _ _ (z.out g fun xs q => by cases q) g, c.td z td⟩, RwL.chg c z h.2⟩
  | [], _ :: _, h => h.elim
  | _ :: _, [], h => h.elim
theorem RwL.len {H : Hp} : ∀ {ts : List Addr} {ps : List (Dd × Nat)}, RwL H ts ps → ts.length = ps.length
  | [], [], _ => rfl
  | t :: ts, p :: ps, h => by
    rw [List.length_cons, List.length_cons, RwL.len h.2]
  | [], _ :: _, h => h.elim
  | _ :: _, [], h => h.elim
theorem RwL.get {H : Hp} : ∀ {ts : List Addr} {ps : List (Dd × Nat)} {i : Nat} {t : Addr}, RwL H ts ps → ts[i]? = some t → ∃ p a, ps[i]? = some p ∧ H t = some (.tup [.ref a, .int (p.2 : Nat)]) ∧ TD H a p.1
  | [], [], _, _, _, e => by simp at e
  | t :: ts, p :: ps, 0, _, h, e => by
    cases e
    obtain ⟨a, g, td⟩ := h.1
    exact ⟨p, a, rfl, g, td⟩
  | t :: ts, p :: ps, i + 1, _, h, e => by
    obtain ⟨q, a, h1, h2⟩ := RwL.get (i := i) h.2 (by simpa using e)
    exact ⟨q, a, by simpa using h1, h2⟩
  | [], _ :: _, _, _, h, _ => h.elim
  | _ :: _, [], _, _, h, _ => h.elim
theorem RwL.app {H : Hp} : ∀ {ts us : List Addr} {ps qs : List (Dd × Nat)}, RwL H ts ps → RwL H us qs → RwL H (ts ++ us) (ps ++ qs)
  | [], _, [], _, _, h => h
  | t :: ts, _, p :: ps, _, h, h2 => ⟨h.1, RwL.app h.2 h2⟩
  | [], _, _ :: _, _, h, _ => h.elim
  | _ :: _, _, [], _, h, _ => h.elim
theorem RwL.unsnoc {H : Hp} : ∀ {ts : List Addr} {ps : List (Dd × Nat)} {p : Dd × Nat}, RwL H ts (ps ++ [p]) → ∃ us t a, ts = us ++ [t] ∧ RwL H us ps ∧ H t = some (.tup [.ref a, .int (p.2 : Nat)]) ∧ TD H a p.1
  | [], [], _, h => h.elim
  | [], _ :: _, _, h => h.elim
  | [t], [], _, h => by
    obtain ⟨a, g, td⟩ := h.1
    exact ⟨[], t, a, rfl, trivial, g, td⟩
  | _ :: _ :: _, [], _, h => h.2.elim
  | t :: ts, q :: ps, p, h => by
    obtain ⟨us, u, a, e1, h1, h2⟩ := RwL.unsnoc (ts := ts) (ps := ps) h.2
    exact ⟨t :: us, u, a, by rw [e1]; rfl, ⟨h.1, h1⟩, h2⟩
theorem tops_max (hs : List Nat) : maxOr (-1) (hs.map fun n : Nat => (n : Int)) + 1 = ((tops hs : Nat) : Int) := by
  have up : ((tops hs : Nat) : Int) ≤ maxOr (-1) (hs.map fun n : Nat => (n : Int)) + 1 := by
    by_cases c : tops hs = 0
    · rcases maxOr_mem (d := -1) (ns := hs.map fun n : Nat => (n : Int)) with e | e
      · omega
      · obtain ⟨n, _, e⟩ := List.mem_map.mp e
        omega
    · obtain ⟨n, hn, e⟩ := tops_mem c
      have := maxOr_ge (d := -1) (List.mem_map_of_mem (f := fun n : Nat => (n : Int)) hn)
      omega
  rcases maxOr_mem (d := -1) (ns := hs.map fun n : Nat => (n : Int)) with e | e
  · omega
  · obtain ⟨n, hn, e⟩ := List.mem_map.mp e
    have := tops_lt hn
    omega
def sp_lrounds (K : PySem.W.Frag) : Sp := fun vs H Q _ => ∃ r ts ps, vs = [.ref r] ∧ H r = some (.lst (ts.map V.ref)) ∧ RwL H ts ps ∧ ps.length ≤ 200 ∧ (∀ p ∈ ps, p.2 < 200) ∧
  ∀ x H' rs, Same H H' → RA H H' x rs (tops (ps.map (·.2))) (fun k => sortD (rowAt ps k)) → Q (.ref x) H'
theorem len_lrounds {K vs H Q E} (h : sp_lrounds K vs H Q E) : vs.length = 1 := by
  obtain ⟨r, ts, ps, rfl, _⟩ := h
  rfl
abbrev n_lrounds : List Str := ["_law_row", "_law_rounds_here", "_law_one", "_law_high", "_law_k", "_law_some"]
def t_lrounds (K : PySem.W.Frag) : TS :=
  (tSeq (tAsg (tLc (iRng1 (tCons (tOp rPlus (tCKw (rMaxDef K) (tCons (tLc (iList K (tVar 0)) (gTup K 2 (gCons (gName 2) (gCons (gName 3) gNil))) tYes (tVar 3) [2, 3]) tNil) (tCons (tUn rNeg (tC (.int 1))) tNil)) (tC (.int 1))) tNil)) (gName 4) tYes (tLst tNil) [4]) (gName 1))
  (tSeq (tFor (iList K (tVar 0)) (gTup K 2 (gCons (gName 2) (gCons (gName 3) gNil)))
  (tDrop (tBM K "list" rAppend (tOp (rIx K) (tVar 1) (tVar 3)) (tCons (tVar 2) tNil))))
  (tRet (tLc (iList K (tVar 1)) (gName 5) tYes (tCB (rSortedD K) (tCons (tVar 5) tNil)) [5]))))
theorem r_lrounds {K vs H Q E} (h : sp_lrounds K vs H Q E) : t_lrounds K { nx := fun _ H' => Q .non H', rt := Q } (start n_lrounds vs) H := by
  obtain ⟨r, ts, ps, rfl, hr, hp, hl, hn, k⟩ := h
  have hlen := hp.len
  have htop : tops (ps.map (·.2)) ≤ 200 := by
    rcases Nat.eq_zero_or_pos (tops (ps.map (·.2))) with e | e
    · omega
    · obtain ⟨n, hm, e'⟩ := tops_mem (ns := ps.map (·.2)) (by omega)
      obtain ⟨p, hpm, rfl⟩ := List.mem_map.mp hm
      have := hn p hpm
      omega
  unfold t_lrounds tCKw
  walk_at "go"
  refine lcL (.of hr) (fun i => (ps[i]?).map fun p => V.int ((p.2 : Nat) : Int)) (by rw [List.length_map]; omega) ?_ ?_
  · intro i x H3 hx s3 R hR R2 hR2
    obtain ⟨t, ht, rfl⟩ := ref_get hx
    obtain ⟨p, a, e, gt, td⟩ := hp.get ht
    have gt3 := s3 _ _ gt
    walk_at "go"
    exact hR _ _ (by rw [e]; rfl) (Same.refl _)
  intro p2 H2 hp2 s2 gp2
  rw [List.length_map, hlen, fm_mapN] at gp2
  walk_at "go"
  refine ⟨p2, ps.map fun p => ((p.2 : Nat) : Int), -1, rfl, rfl, .of (by rw [gp2, List.map_map]; rfl), ?_⟩
  walk_at "go"
  have em := tops_max (ps.map (·.2))
  rw [List.map_map] at em
  have em : maxOr (-1) (ps.map fun p => ((p.2 : Nat) : Int)) + 1 = _ := em
  rw [em]
  generalize ht : tops (ps.map (·.2)) = t at k htop em
  refine lcR1n (n := t) (fun _ o => o = .lst []) (by omega) ?_ ?_
  · intro i H3 hi s3 R hR R2
    walk_at "go"
    exact lstQ fun q4 H4 hq4 s4 g4 => hR q4 _ H4 hq4 g4 rfl s4
  intro x H3 rs hx s3 g3 hl3 hnd hna hob
  have s13 := s2.trans s3
  have ra0 : RA H H3 x rs t (rowAt (ps.take 0)) := ⟨g3, s2.free hx, hl3, hnd, hna, fun k a e => by
    obtain ⟨h0, o, ho, rfl⟩ := hob k a e
    exact ⟨s2.free h0, [], ho, trivial⟩⟩
  have hr3 := s13 _ _ hr
  walk_at "go"
  refine forL (.of hr3) (fun i σ H4 => ∃ (v2 v3 v4 v5 : Option V), σ = [some (.ref r), some (.ref x), v2, v3, v4, v5] ∧ Same H H4 ∧ RA H H4 x rs t (rowAt (ps.take i)))
    ⟨_, _, _, _, rfl, s13, ra0⟩ (fun i σ H4 _ ⟨_, _, _, _, _, s, _⟩ => s.seq (.of hr)) ?_ ?_
  · rintro i y σ H4 hy ⟨v2, v3, v4, v5, rfl, s4, ra⟩
    obtain ⟨u, hu, rfl⟩ := ref_get hy
    obtain ⟨p, a, e, gt, td⟩ := hp.get hu
    have gt4 := s4 _ _ gt
    have hpt : p.2 < t := by
      rw [← ht]
      exact tops_lt (List.mem_map_of_mem (f := (·.2)) (List.mem_of_getElem? e))
    obtain ⟨z, cs, hz, hz0, cz⟩ := ra.at_ hpt
    have gz := cz.1
    have g4 := ra.lst
    have hi := (List.getElem?_eq_some_iff.mp e).1
    walk_at "go"
    refine ix_l' g4 (atI_nat (j := p.2) (ref_at hz)) ?_
    refine ⟨ty_l gz, ?_⟩
    have hcl : cs.length ≤ 500 := by
      rw [cz.2.len]
      exact rowAt_len2 _ _ _ (by rw [List.length_take]; omega)
    refine append_r s4 hz0 gz (by rw [List.length_map]; omega) fun H7 s7 g7 ne7 => ?_
    refine ⟨_, _, _, _, rfl, s7, ?_⟩
    refine (ra.push hz cz (s4 _ _ td) (by rw [g7, List.map_append]; rfl) ne7).cong fun k hk => ?_
    rw [List.take_add_one, e, Option.toList, rowAt_snoc]
  · rintro σ H4 ⟨v2, v3, v4, v5, rfl, s4, ra⟩
    rw [List.length_map, hlen, List.take_length] at ra
    have g4 := ra.lst
    walk_at "go"
    refine lcLn (.of g4) (fun i o => ∃ cs : List Addr, o = .lst (cs.map V.ref) ∧ DL H4 cs (sortD (rowAt ps i))) (by rw [List.length_map, ra.len]; omega) ?_ ?_
    · intro i y H5 hy s5 R hR R2
      obtain ⟨a, ha, rfl⟩ := ref_get hy
      obtain ⟨_, cs, c⟩ := ra.row i a ha
      have g5 := s5 _ _ c.1
      walk_at "go"
      exact sorted_ld0 g5 c.2 s5 fun p5 H6 bs hp5 s6 g6 hb => hR p5 _ H6 hp5 g6 ⟨bs, rfl, hb⟩ s6
    intro p4 H5 rs4 hp4 s5 g5 hl4 hnd hna hob
    refine k p4 H5 rs4 (s4.trans s5) ⟨g5, s4.free hp4, by rw [hl4, List.length_map, ra.len], hnd, hna, fun k a e => ?_⟩
    obtain ⟨h0, o, ho, cs, rfl, hcs⟩ := hob k a e
    exact ⟨s4.free h0, cs, ho, hcs.mono s5⟩
end Pb

namespace Pb
open PySem PySem.Spec L2
/-! ### a hall that refuses -/
/-- o.m(..), its exceptions as the state wants them -/
def tMethW (C : Addr) (m : Str) (sp : Sp) (E : St → XK) (ta : TE) (t : TA) : TE := fun σ H Q => ta σ H fun x H1 => ∃ a dx fs, x = .ref a ∧ H1 a = some (.ins C dx fs) ∧ fs.lookup m = none ∧ t σ H1 fun vs H2 => sp (x :: vs) H2 Q (E σ)
theorem pe_mthS0 {X : Cx} {CX : CXT} {k : Nat} {C : Addr} {ps : List Str} {sp : Sp} {E : St → XK} {m : Str} {pos apos : Pos} {o : Expr} {ta : TE} {pl : Sem Bool} (ho : PE X o ta) (c : Cls X.K C) (M : Mth X.prog X.w X.K X.mg X.base CX C m k ps sp) (hr : Room k X.A) (hx : ∀ σ, PassesAt CX X σ (E σ))
    (ht : eval (.Call (.Attribute o m apos) [] [] pos) X.env = (do
      let ov ← eval o X.env
      standAt apos.atName
      let (f, first) ← holding [ov] (getMethod ov m pl)
      callWith pos f first (backTo pos (starEach [] X.env)) (backToKw pos (keywordEach [] X.env))) := by rfl) :
    PE X (.Call (.Attribute o m apos) [] [] pos) (tMethW C m sp E ta tNil) := by
  obtain ⟨f, fd, F, hm, hb⟩ := M.ex
  refine ⟨fun pins s σ H Q I h => ?_⟩
  refine PySem.W.methodCall_KW (pl := pl) (thn (ho.run pins s σ H _ I h) fun u s1 ⟨x, H1, I1, rx, a, dx, fs, ex, ea, l, q⟩ => ?_) ht
  subst ex
  obtain rfl : u = Value.ref a := rx
  refine getmeth_ok I1 ea c hm l ?_
  exact PySem.W.callWith_K0 (first := [.ref a]) I1.kIn hm.kp (run_fnS (us := [.ref a]) (vs := [.ref a]) F hr hb (hx σ) I1 (.cons rfl .nil) q)
def sp_refused_k06 (K : PySem.W.Frag) (G : Str → Addr) : Sp := fun vs H Q _ => ∃ h F, vs = [.ref h] ∧ HallAt G H h F [] ∧ ∀ H', Same H H' → Q (.bl true) H'
theorem len_refused_k06 {K G vs H Q E} (h : sp_refused_k06 K G vs H Q E) : vs.length = 1 := by
  obtain ⟨h, F, rfl, _⟩ := h
  rfl
abbrev n_refused_k06 : List Str := ["_law_hall", "_law_error", "e"]
def t_refused_k06 (K : PySem.W.Frag) (G : Str → Addr) : TS :=
  (tSeq (tAsg (tC .non) (gName 1))
  (tSeq (fun D σ H => (fun W => (tDrop (tMethW (G "Hall") "back" (sp_back K G) (WE W) (tVar 0) tNil))) (wKeep K (.ref (G "PassbyError")) 2 (fun a cls d => (tAsg (tVar 2) (gName 1))) D) D σ H)
  (tSeq (tIfS (tOr (tNot (tB (tCB (rIsV K) (tCons (tVar 1) (tCons (tC (.ref (G "Nothing"))) tNil))))) (tNot (tB (tCB (rIsV K) (tCons (tVar 1) (tCons (tC (.ty "ValueError")) tNil))))))
  (tRet (tC (.bl false)))
  tNext)
  (tSeq (tIfS (tOr (tB (tCB (rIsV K) (tCons (tVar 1) (tCons (tC (.ref (G "NoDeed"))) tNil)))) (tB (tCB (rIsV K) (tCons (tVar 1) (tCons (tC (.ref (G "NoPass"))) tNil)))))
  (tRet (tC (.bl false)))
  tNext)
  (tRet (tNotV (tCB (rIsV K) (tCons (tVar 1) (tCons (tC (.ref (G "NoBox"))) tNil)))))))))
theorem r_refused_k06 {K G vs H Q E} (X : XF K G "Nothing") (h : sp_refused_k06 K G vs H Q E) : t_refused_k06 K G { nx := fun _ H' => Q .non H', rt := Q } (start n_refused_k06 vs) H := by
  obtain ⟨h, F, rfl, hh, k⟩ := h
  have hh' := hh
  obtain ⟨dx, d, kn, lt, lc, Ft, Fc, as, g1, _⟩ := hh'
  unfold t_refused_k06
  walk_at "go"
  unfold tMethW
  walk_at "go"
  refine ⟨h, dx, _, rfl, g1, rfl, ?_⟩
  refine ⟨h, F, [], rfl, hh, fun _ H1 s1 => ⟨X.eb, rfl, fun a ha => ?_⟩, fun ds d e => by simp at e⟩
  walk_at "go"
  have g : (upd H1 a (ExV (.ref (G "Nothing")) a)) a = some (ExV (.ref (G "Nothing")) a) := upd_same
  refine isV g X.ex X.ks ?_
  walk_at "go"
  refine isVv g X.ex X.kv ?_
  walk_at "go"
  refine isV g X.ex (X.ko _ (by decide) (by decide)) ?_
  walk_at "go"
  refine isV g X.ex (X.ko _ (by decide) (by decide)) ?_
  walk_at "go"
  refine isV g X.ex (X.ko _ (by decide) (by decide)) ?_
  walk_at "go"
  exact k _ (s1.trans (same_new ha))
end Pb

namespace Pb
open PySem PySem.Spec L2
/-! ### the law: one deed put in, one taken back -/
/-- the row at r -/
def RowAt (H : Hp) (r : Addr) (ds : List Dd) : Prop := ∃ ts : List Addr, H r = some (.lst (ts.map V.ref)) ∧ RwL H ts (zh ds)
theorem RowAt.lst {H : Hp} {r : Addr} {ds : List Dd} (h : RowAt H r ds) : ∃ xs, H r = some (.lst xs) := by
  obtain ⟨ts, g, _⟩ := h
  exact ⟨_, g⟩
theorem RowAt.chg {S : List Addr} {H H' : Hp} {r : Addr} {ds : List Dd} (h : RowAt H r ds) (c : Chg S H H') (z : ZL H S) (n : r ∉ S) : RowAt H' r ds := by
  obtain ⟨ts, g, k⟩ := h
  exact ⟨ts, c _ _ n g, k.chg c z⟩
theorem RowAt.mono {H H' : Hp} {r : Addr} {ds : List Dd} (h : RowAt H r ds) (s : Same H H') : RowAt H' r ds := by
  obtain ⟨ts, g, k⟩ := h
  exact ⟨ts, s _ _ g, k.mono s⟩
theorem rw_dp {K : PySem.W.Frag} {H : Hp} : ∀ {ts : List Addr} {ps : List (Dd × Nat)}, RwL H ts ps → DpAll K H (ts.map V.ref) (ps.map fun p => PyData.tuple [dd p.1, .int (p.2 : Nat)])
  | [], [], _ => .nil
  | t :: ts, p :: ps, h => by
    obtain ⟨a, g, td⟩ := h.1
    exact .cons (.tup (.of g) (.cons (dd_dp td) (.cons (.int _) .nil))) (rw_dp h.2)
  | [], _ :: _, h => h.elim
  | _ :: _, [], h => h.elim
theorem rw_ok (ps : List (Dd × Nat)) : okD 4 (.list (ps.map fun p => PyData.tuple [dd p.1, .int (p.2 : Nat)])) := fun e he => by
  obtain ⟨p, _, rfl⟩ := List.mem_map.mp he
  intro f hf
  rcases List.mem_cons.mp hf with rfl | hf
  · exact dd_ok
  · rw [List.mem_singleton.mp hf]
    trivial
theorem HallAt.mono {G : Str → Addr} {H H' : Hp} {h : Addr} {F : List Addr} {ds : List Dd} (k : HallAt G H h F ds) (s : Same H H') : HallAt G H' h F ds := by
  obtain ⟨dx, d, kn, lt, lc, Ft, Fc, as, g1, g2, g3, g4, g5, rfl, g6⟩ := k
  exact ⟨dx, d, kn, lt, lc, Ft, Fc, as, s _ _ g1, ⟨s _ _ g2.1, g2.2.mono s⟩, s _ _ g3, g4.mono s, g5.mono s, rfl, g6⟩
theorem HallAt.obj {G : Str → Addr} {H : Hp} {h : Addr} {F : List Addr} {ds : List Dd} (k : HallAt G H h F ds) : ∃ dx d kn lt lc, H h = some (.ins (G "Hall") dx [(("deeds" : Str), .ref d), (("known" : Str), .ref kn), (("touched" : Str), .ref lt), (("changed" : Str), .ref lc)]) := by
  obtain ⟨dx, d, kn, lt, lc, Ft, Fc, as, g1, _⟩ := k
  exact ⟨dx, d, kn, lt, lc, g1⟩
theorem zl1 {H : Hp} {r : Addr} {xs : List V} (g : H r = some (.lst xs)) : ZL H [r] := fun b hb => by
  rw [List.mem_singleton.mp hb]
  exact ⟨_, g⟩
def sp_lput (K : PySem.W.Frag) (G : Str → Addr) : Sp := fun vs H Q _ => ∃ h r a F ds d, vs = [.ref h, .ref r, .ref a] ∧ HallAt G H h F ds ∧ RowAt H r ds ∧ r ∉ F ∧ TD H a d ∧ Ok60 d ∧ ds.length ≤ 100 ∧
  ∀ H', Chg (r :: F) H H' → HallAt G H' h F (ds ++ [d]) → RowAt H' r (ds ++ [d]) → Q (.bl true) H'
theorem len_lput {K G vs H Q E} (h : sp_lput K G vs H Q E) : vs.length = 3 := by
  obtain ⟨h, r, a, F, ds, d, rfl, _⟩ := h
  rfl
abbrev n_lput : List Str := ["_law_hall", "_law_row", "_law_one", "_law_due", "_law_other", "_law_high"]
def t_lput (K : PySem.W.Frag) (G : Str → Addr) : TS :=
  (tSeq (tAsg (tC (.int 0)) (gName 3))
  (tSeq (tFor (iList K (tVar 1)) (gTup K 2 (gCons (gName 4) (gCons (gName 5) gNil)))
  (tIfS (tAnd (tTest (tOp rGe (tVar 5) (tVar 3))) (tB (tCall (sp_clash K) [] E0 (tCons (tVar 2) (tCons (tVar 4) tNil)))))
  (tAsg (tOp rPlus (tVar 5) (tC (.int 1))) (gName 3))
  tNext))
  (tSeq (tDrop (tBM K "list" rAppend (tVar 1) (tCons (tTup (tCons (tVar 2) (tCons (tVar 3) tNil))) tNil)))
  (tRet (tCall (sp_same 4 K) [] E0 (tCons (tMeth (G "Hall") "put" (sp_put K G) [] E0 (tVar 0) (tCons (tVar 2) tNil)) (tCons (tVar 3) tNil)))))))
theorem r_lput {K G vs H Q E} (h : sp_lput K G vs H Q E) : t_lput K G { nx := fun _ H' => Q .non H', rt := Q } (start n_lput vs) H := by
  obtain ⟨h, r, a, F, ds, d, rfl, hh, ⟨ts, hr, hrw⟩, nrF, td, ok, hl, k⟩ := h
  have hlen := hrw.len
  have hzl := zh_len ds
  unfold t_lput
  walk_at "go"
  refine forL (.of hr) (fun i σ H3 => ∃ (v4 v5 : Option V), σ = [some (.ref h), some (.ref r), some (.ref a), some (.int (((zh ds).take i).foldl (hbStep d) 0 : Nat)), v4, v5] ∧ H3 = H)
    ⟨none, none, rfl, rfl⟩ (fun i σ H3 _ ⟨_, _, _, e⟩ => by rw [e]; exact .of hr) ?_ ?_
  · rintro i x σ H3 hx ⟨v4, v5, rfl, rfl⟩
    obtain ⟨t, ht, rfl⟩ := ref_get hx
    obtain ⟨p, b, e, gt, tb⟩ := hrw.get ht
    have hf := fold_take (hbStep d) 0 e
    generalize ((zh ds).take i).foldl (hbStep d) 0 = h0 at hf
    walk_at "go"
    refine ite2 (fun c => ?_) (fun c => ?_)
    · walk_at "go"
      refine ⟨a, b, d, p.1, rfl, td, tb, ?_⟩
      walk_at "go"
      refine ite2 (fun c2 => ?_) (fun c2 => ?_)
      · refine ⟨some (.ref b), some (.int (p.2 : Int)), ?_, rfl⟩
        rw [hf, hbStep, if_pos ⟨by simpa using c, by rw [clash_comm]; exact c2⟩]
        rfl
      · refine ⟨some (.ref b), some (.int (p.2 : Int)), ?_, rfl⟩
        rw [hf, hbStep, if_neg (fun h => c2 (by rw [clash_comm]; exact h.2))]
    · refine ⟨some (.ref b), some (.int (p.2 : Int)), ?_, rfl⟩
      rw [hf, hbStep, if_neg (fun h => c (by simpa using h.1))]
  · rintro σ H3 ⟨v4, v5, rfl, rfl⟩
    rw [List.length_map, hlen, List.take_length, show (zh ds).foldl (hbStep d) 0 = hb d (zh ds) from rfl]
    walk_at "go"
    refine ⟨ty_l hr, ?_⟩
    refine tupQ fun t H1 ht s1 gt => ?_
    refine app_raw (s1 _ _ hr) (by rw [List.length_map]; omega) fun H2 g2 ne2 => ?_
    have c2 : Chg [r] H3 H2 := fun b o n e => by
      rw [ne2 b (fun q => n (by simp [q]))]
      exact s1 _ _ e
    have z2 := zl1 hr
    have hh2 := hh.chg c2 z2 fun b hb hb2 => nrF (List.mem_singleton.mp hb2 ▸ hb)
    have td2 := c2.td z2 td
    have rw2 := hrw.chg c2 z2
    have gt2 := (ne2 t (ne_of_none hr ht).symm).trans gt
    obtain ⟨dx, d', kn, lt, lc, go⟩ := hh2.obj
    walk_at "go"
    refine ⟨h, dx, _, rfl, go, rfl, ?_⟩
    walk_at "go"
    refine ⟨h, a, F, ds, d, rfl, hh2, td2, ok, hl, fun H4 c4 hh4 => ?_⟩
    walk_at "go"
    refine ⟨_, _, _, rfl, .int _, .int _, trivial, fun H5 s5 => ?_⟩
    have zF := hh2.zl
    refine k H5 (fun b o n e => s5 _ _ (c4 b o (fun q => n (List.mem_cons_of_mem _ q)) (c2 b o (fun q => n (by rw [List.mem_singleton.mp q]; simp)) e))) (hh4.mono s5) ⟨ts ++ [t], ?_, ?_⟩
    · rw [s5 _ _ (c4 _ _ nrF g2)]
      simp
    · rw [zh_snoc]
      refine ((rw2.chg c4 zF).app (ts := ts) (us := [t]) (qs := [(d, hb d (zh ds))]) ⟨⟨a, c4 _ _ (zF.out gt2 fun xs q => by cases q) gt2, c4.td zF td2⟩, trivial⟩).mono s5

def sp_lback (K : PySem.W.Frag) (G : Str → Addr) : Sp := fun vs H Q _ => ∃ h r F ds, vs = [.ref h, .ref r] ∧ HallAt G H h F ds ∧ RowAt H r ds ∧ r ∉ F ∧ (∀ ds' d, ds = ds' ++ [d] → ∀ H', Chg (r :: F) H H' → HallAt G H' h F ds' → RowAt H' r ds' → Q (.bl true) H') ∧ (ds = [] → ∀ H', Same H H' → Q (.bl true) H')
theorem len_lback {K G vs H Q E} (h : sp_lback K G vs H Q E) : vs.length = 2 := by
  obtain ⟨h, r, F, ds, rfl, _⟩ := h
  rfl
abbrev n_lback : List Str := ["_law_hall", "_law_row", "_law_one", "_law_high"]
def t_lback (K : PySem.W.Frag) (G : Str → Addr) : TS :=
  (tSeq (tIfS (tTest (tOp (rEqA K) (tVar 1) (tLst tNil)))
  (tRet (tCall (sp_refused_k06 K G) [] E0 (tCons (tVar 0) tNil)))
  tNext)
  (tSeq (tAsg (tBM0 K "list" rPop (tVar 1)) (gTup K 2 (gCons (gName 2) (gCons (gName 3) gNil))))
  (tRet (tCall (sp_same 4 K) [] E0 (tCons (tMeth (G "Hall") "back" (sp_back K G) [] E0 (tVar 0) tNil) (tCons (tVar 2) tNil))))))
theorem r_lback {K G vs H Q E} (h : sp_lback K G vs H Q E) : t_lback K G { nx := fun _ H' => Q .non H', rt := Q } (start n_lback vs) H := by
  obtain ⟨h, r, F, ds0, rfl, hh, ⟨ts, hr, hrw⟩, nrF, k1, k0⟩ := h
  unfold t_lback
  walk_at "go"
  refine lstQ fun e H1 he s1 ge => ?_
  refine eqA_ok (.lst (.of (s1 _ _ hr)) (rw_dp (hrw.mono s1))) (nv_dp (ns := []) ge) (rw_ok _) ((nv_ok []).le (by decide)) fun b hbe => ?_
  have hb' : b = true ↔ ds0 = [] := hbe.trans (by
    have := zh_len ds0
    cases ds0 with
    | nil => simp [zh, hts, htsN]
    | cons x r =>
      cases hz : zh (x :: r) with
      | nil =>
        rw [hz] at this
        cases this
      | cons p q => simp)
  refine ⟨b, rfl, ?_⟩
  cases b with
  | true =>
    have e0 := hb'.mp rfl
    subst e0
    walk_at "go"
    exact ⟨h, F, rfl, hh.mono s1, fun H2 s2 => k0 rfl H2 (s1.trans s2)⟩
  | false =>
    have hne : ds0 ≠ [] := fun q => by
      have := hb'.mpr q
      cases this
    obtain ⟨ds, d, rfl⟩ : ∃ ds d, ds0 = ds ++ [d] := ⟨ds0.dropLast, ds0.getLast hne, (List.dropLast_concat_getLast hne).symm⟩
    rw [zh_snoc] at hrw
    obtain ⟨us, t, a, rfl, rus, gt, td⟩ := hrw.unsnoc
    have hr1 := s1 _ _ hr
    rw [List.map_append] at hr1
    walk_at "go"
    refine ⟨ty_l hr1, ?_⟩
    refine pop_raw hr1 fun H2 g2 ne2 => ?_
    have c2 : Chg [r] H H2 := fun b o n e => by
      rw [ne2 b (fun q => n (by simp [q]))]
      exact s1 _ _ e
    have z2 := zl1 hr
    have hh2 := hh.chg c2 z2 fun b hb hb2 => nrF (List.mem_singleton.mp hb2 ▸ hb)
    have td2 := c2.td z2 td
    have gt2 := c2 _ _ (z2.out gt fun xs q => by cases q) gt
    have rw2 := rus.chg c2 z2
    obtain ⟨dx, d', kn, lt, lc, go⟩ := hh2.obj
    walk_at "go"
    refine ⟨h, dx, _, rfl, go, rfl, ?_⟩
    refine ⟨h, F, ds ++ [d], rfl, hh2, fun q => absurd q hne, fun ds' d' ed x H4 c4 hh4 tx => ?_⟩
    obtain ⟨rfl, ed2⟩ := List.append_inj' ed rfl
    cases ed2
    walk_at "go"
    have zF := hh2.zl
    refine ⟨_, _, _, rfl, dd_dp tx, dd_dp (c4.td zF td2), dd_ok.up.up, fun H5 s5 => ?_⟩
    refine k1 _ _ rfl H5 (fun b o n e => s5 _ _ (c4 b o (fun q => n (List.mem_cons_of_mem _ q)) (c2 b o (fun q => n (by rw [List.mem_singleton.mp q]; simp)) e))) (hh4.mono s5) ⟨us, s5 _ _ (c4 _ _ nrF g2), (rw2.chg c4 zF).mono s5⟩
end Pb

namespace Pb
open PySem PySem.Spec L2
/-! ### the law: a look at a hall -/
theorem RA.chg {H0 H H' : Hp} {r : Addr} {rs : List Addr} {t : Nat} {R : Nat → List Dd} {S : List Addr} (h : RA H0 H r rs t R) (c : Chg S H H') (z : ZL H S) (n : ∀ b ∈ r :: rs, b ∉ S) : RA H0 H' r rs t R :=
  ⟨c _ _ (n r List.mem_cons_self) h.lst, h.nr, h.len, h.nd, h.rn, fun k a e => ⟨(h.row k a e).1, (h.row k a e).2.elim fun cs q => ⟨cs, c _ _ (n a (List.mem_cons_of_mem _ (List.mem_of_getElem? e))) q.1, c.dl z q.2⟩⟩⟩
theorem RA.fresh {H0 H : Hp} {r : Addr} {rs : List Addr} {t : Nat} {R : Nat → List Dd} (h : RA H0 H r rs t R) : ∀ b ∈ r :: rs, H0 b = none := fun b hb => by
  rcases List.mem_cons.mp hb with rfl | hb
  · exact h.nr
  · obtain ⟨k, hk⟩ := List.getElem?_of_mem hb
    exact (h.row k b hk).1
theorem RA.zl {H0 H : Hp} {r : Addr} {rs : List Addr} {t : Nat} {R : Nat → List Dd} (h : RA H0 H r rs t R) : ZL H (r :: rs) := fun b hb => by
  rcases List.mem_cons.mp hb with rfl | hb
  · exact ⟨_, h.lst⟩
  · obtain ⟨k, hk⟩ := List.getElem?_of_mem hb
    obtain ⟨_, cs, c⟩ := h.row k b hk
    exact ⟨_, c.1⟩
/-- t holds two told rows, which are alike -/
def HeldO (H0 H : Hp) (t : Addr) : Prop := ∃ x y rs1 rs2 n R, H t = some (.tup [.ref x, .ref y]) ∧ RA H0 H x rs1 n R ∧ RA H0 H y rs2 n R
theorem HeldO.chg {H0 H H' : Hp} {t : Addr} {S : List Addr} (h : HeldO H0 H t) (c : Chg S H H') (z : ZL H S) (n : ∀ b ∈ S, ∃ o, H0 b = some o) : HeldO H0 H' t := by
  obtain ⟨x, y, rs1, rs2, m, R, g, r1, r2⟩ := h
  have out : ∀ {a : Addr}, H0 a = none → a ∉ S := fun e q => by
    obtain ⟨o, ho⟩ := n _ q
    rw [ho] at e
    cases e
  exact ⟨x, y, rs1, rs2, m, R, c _ _ (z.out g fun xs q => by cases q) g, r1.chg c z fun b hb => out (r1.fresh b hb), r2.chg c z fun b hb => out (r2.fresh b hb)⟩
theorem HeldO.base {H0 H1 H : Hp} {t : Addr} (s : ∀ b, H1 b = none → H0 b = none) (h : HeldO H1 H t) : HeldO H0 H t := by
  obtain ⟨x, y, rs1, rs2, m, R, g, r1, r2⟩ := h
  exact ⟨x, y, rs1, rs2, m, R, g, ⟨r1.lst, s _ r1.nr, r1.len, r1.nd, r1.rn, fun k a e => ⟨s _ (r1.row k a e).1, (r1.row k a e).2⟩⟩, ⟨r2.lst, s _ r2.nr, r2.len, r2.nd, r2.rn, fun k a e => ⟨s _ (r2.row k a e).1, (r2.row k a e).2⟩⟩⟩
theorem zh_hts (ds : List Dd) : (zh ds).map (·.2) = hts ds := List.map_snd_zip (by rw [hts_len]; exact Nat.le_refl _)
theorem zh_small {ds : List Dd} : ∀ p ∈ zh ds, p.2 < ds.length := fun p hp => hts_small _ (List.of_mem_zip hp).2
def sp_look (K : PySem.W.Frag) (G : Str → Addr) : Sp := fun vs H Q _ => ∃ h r hd F ds f xs, vs = [.ref h, .ref r, .bl f, .ref hd] ∧ HallAt G H h F ds ∧ RowAt H r ds ∧ ds.length ≤ 100 ∧ H hd = some (.lst xs) ∧ xs.length ≤ 500 ∧ hd ∉ F ∧ hd ≠ r ∧
  ∀ H' t, Chg [hd] H H' → H' hd = some (.lst (xs ++ [.ref t])) → HeldO H H' t → Q (.bl true) H'
theorem len_look {K G vs H Q E} (h : sp_look K G vs H Q E) : vs.length = 4 := by
  obtain ⟨h, r, hd, F, ds, f, xs, rfl, _⟩ := h
  rfl
abbrev n_look : List Str := ["_law_hall", "_law_row", "_law_first", "_law_held", "_law_found", "_law_due"]
def t_look (K : PySem.W.Frag) (G : Str → Addr) : TS :=
  (tSeq (tIfS (tAnd (tB (tVar 2)) (tNot (tB (tCall (sp_same 4 K) [] E0 (tCons (tMeth (G "Hall") "many" (sp_many K G) [] E0 (tVar 0) tNil) (tCons (tCB (rLen K) (tCons (tVar 1) tNil)) tNil))))))
  (tRet (tC (.bl false)))
  tNext)
  (tSeq (tAsg (tMeth (G "Hall") "rounds" (sp_rounds K G) [] E0 (tVar 0) tNil) (gName 4))
  (tSeq (tAsg (tCall (sp_lrounds K) [] E0 (tCons (tVar 1) tNil)) (gName 5))
  (tSeq (tIfS (tTest (tOp (rNeA K) (tVar 4) (tVar 5)))
  (tRet (tC (.bl false)))
  tNext)
  (tSeq (tDrop (tBM K "list" rAppend (tVar 3) (tCons (tTup (tCons (tVar 4) (tCons (tVar 5) tNil))) tNil)))
  (tRet (tOrV (tVar 2) (tCall (sp_same 4 K) [] E0 (tCons (tMeth (G "Hall") "many" (sp_many K G) [] E0 (tVar 0) tNil) (tCons (tCB (rLen K) (tCons (tVar 1) tNil)) tNil))))))))))
theorem r_look {K G vs H Q E} (h : sp_look K G vs H Q E) : t_look K G { nx := fun _ H' => Q .non H', rt := Q } (start n_look vs) H := by
  obtain ⟨h, r, hd, F, ds, f, xs, rfl, hh, hrow, hl, hhd, hxs, ndF, ndr, k⟩ := h
  have hzl := zh_len ds
  obtain ⟨dx, d', kn, lt, lc, go⟩ := hh.obj
  obtain ⟨ts, gr, rl⟩ := hrow
  have hlen := rl.len
  have tail : ∀ (H1 : Hp) (P : Hp → Prop), Same H H1 → (∀ H' t, Chg [hd] H H' → H' hd = some (.lst (xs ++ [.ref t])) → HeldO H H' t → P H') → ∃ a dx fs, h = a ∧ H1 a = some (.ins (G "Hall") dx fs) ∧ fs.lookup ("rounds" : Str) = none ∧ sp_rounds K G [.ref h] H1 (fun x H2 => sp_lrounds K [.ref r] H2 (fun y H3 => rNeA K x y H3 fun z H4 => ∃ k, z = .bl k ∧ if k = true then Q (.bl false) H4 else tyV K "list" (.ref hd) H4 ∧ TupQ (fun w H5 => rAppend (.ref hd) [w] H5 fun _ H6 => P H6) [x, y] H4) E0) E0 := by
    intro H1 P s1 kP
    refine ⟨h, dx, _, rfl, s1 _ _ go, rfl, ?_⟩
    refine ⟨h, F, ds, rfl, hh.mono s1, hl, fun x H2 rs s2 ra => ?_⟩
    have s12 := s1.trans s2
    refine ⟨r, ts, zh ds, rfl, s12 _ _ gr, rl.mono s12, by omega, fun p hp => by have := zh_small p hp; omega, fun y H3 rs2 s3 ra2 => ?_⟩
    rw [zh_hts] at ra2
    have s13 := s12.trans s3
    have ra3 := (ra.mono s3).base s1
    have ra23 := ra2.base s12
    refine neA_same ra3.dp ra23.dp (rows_ok _ _) ?_
    refine ⟨false, rfl, ?_⟩
    rw [if_neg (by decide)]
    have g3 := s13 _ _ hhd
    refine ⟨ty_l g3, ?_⟩
    refine tupQ fun t H4 ht s4 gt => ?_
    refine app_raw (s4 _ _ g3) (by omega) fun H5 g5 ne5 => ?_
    have c5 : Chg [hd] H4 H5 := fun b o n e => by
      rw [ne5 b (fun q => n (by simp [q]))]
      exact e
    have z5 : ZL H4 [hd] := zl1 (s4 _ _ g3)
    have s14 := s13.trans s4
    refine kP H5 t (c5.same s14) g5 ?_
    have hel : HeldO H H4 t := ⟨x, y, rs, rs2, _, _, gt, ra3.mono s4, ra23.mono s4⟩
    exact hel.chg c5 z5 fun b hb => by
      rw [List.mem_singleton.mp hb]
      exact ⟨_, hhd⟩
  unfold t_look
  walk_at "go"
  cases f with
  | true =>
    walk_at "go"
    refine ⟨h, dx, _, rfl, go, rfl, ?_⟩
    refine ⟨h, F, ds, rfl, hh, ?_⟩
    refine Pb.len_l' gr ?_
    rw [List.length_map, hlen, hzl]
    refine ⟨_, _, _, rfl, .int _, .int _, trivial, fun H1 s1 => ?_⟩
    walk_at "go"
    exact tail H1 (fun H' => Q (.bl true) H') s1 fun H' t c g e => k H' t c g e
  | false =>
    walk_at "go"
    refine tail H _ (Same.refl _) fun H' t c g e => ?_
    have zd := zl1 hhd
    have hh' := hh.chg c zd fun b hb hb2 => ndF (List.mem_singleton.mp hb2 ▸ hb)
    obtain ⟨dx2, d2, kn2, lt2, lc2, go2⟩ := hh'.obj
    have gr2 := c _ _ (fun q => ndr (List.mem_singleton.mp q).symm) gr
    refine ⟨h, dx2, _, rfl, go2, rfl, ?_⟩
    refine ⟨h, F, ds, rfl, hh', ?_⟩
    refine Pb.len_l' gr2 ?_
    rw [List.length_map, hlen, hzl]
    refine ⟨_, _, _, rfl, .int _, .int _, trivial, fun H1 s1 => ?_⟩
    refine k H1 t (c.then s1) (s1 _ _ g) (e.chg (Chg.of (S := []) s1) (fun b hb => by cases hb) fun b hb => by cases hb)
end Pb

namespace Pb
open PySem PySem.Spec L2
/-! ### the law: the end at one hall -/
def sp_lend (K : PySem.W.Frag) (G : Str → Addr) : Sp := fun vs H Q _ => ∃ h r F ds, vs = [.ref h, .ref r] ∧ HallAt G H h F ds ∧ RowAt H r ds ∧ r ∉ F ∧ ds.length ≤ 100 ∧ ∀ H', Chg (r :: F) H H' → Q (.bl true) H'
theorem len_lend {K G vs H Q E} (h : sp_lend K G vs H Q E) : vs.length = 2 := by
  obtain ⟨h, r, F, ds, rfl, _⟩ := h
  rfl
abbrev n_lend : List Str := ["_law_hall", "_law_row", "_law_due", "_law_found", "_law_some"]
def t_lend (K : PySem.W.Frag) (G : Str → Addr) : TS :=
  (tSeq (tAsg (tCall (sp_lrounds K) [] E0 (tCons (tVar 1) tNil)) (gName 2))
  (tSeq (tAsg (tMeth (G "Hall") "rounds" (sp_rounds K G) [] E0 (tVar 0) tNil) (gName 3))
  (tSeq (tIfS (tNot (tB (tCall (sp_same 4 K) [] E0 (tCons (tVar 3) (tCons (tVar 2) tNil)))))
  (tRet (tC (.bl false)))
  tNext)
  (tSeq (tFor (iList K (tVar 3)) (gName 4)
  (tDrop (tBM K "list" rAppend (tVar 4) (tCons (tTup (tCons (tC (.int 0)) (tCons (tC (.int 0)) (tCons (tC (.int 0)) tNil)))) tNil))))
  (tSeq (tDrop (tBM K "list" rAppend (tVar 3) (tCons (tLst tNil) tNil)))
  (tSeq (tIfS (tTest (tOp (rNeA K) (tMeth (G "Hall") "rounds" (sp_rounds K G) [] E0 (tVar 0) tNil) (tVar 2)))
  (tRet (tC (.bl false)))
  tNext)
  (tSeq (tWhile (tTest (tOp (rNeA K) (tVar 1) (tLst tNil)))
  (tIfS (tNot (tB (tCall (sp_lback K G) [] E0 (tCons (tVar 0) (tCons (tVar 1) tNil)))))
  (tRet (tC (.bl false)))
  tNext))
  (tSeq (tIfS (tOr (tNot (tB (tCall (sp_look K G) [] E0 (tCons (tVar 0) (tCons (tVar 1) (tCons (tC (.bl true)) (tCons (tLst tNil) tNil))))))) (tNot (tB (tCall (sp_refused_k06 K G) [] E0 (tCons (tVar 0) tNil)))))
  (tRet (tC (.bl false)))
  tNext)
  (tRet (tAndV (tCall (sp_lput K G) [] E0 (tCons (tVar 0) (tCons (tVar 1) (tCons (tTup (tCons (tC (.int 7)) (tCons (tC (.int 1)) (tCons (tC (.int 1)) tNil)))) tNil)))) (tCall (sp_look K G) [] E0 (tCons (tVar 0) (tCons (tVar 1) (tCons (tC (.bl false)) (tCons (tLst tNil) tNil)))))))))))))))
theorem r_lend {K G vs H Q E} (h : sp_lend K G vs H Q E) : t_lend K G { nx := fun _ H' => Q .non H', rt := Q } (start n_lend vs) H := by
  obtain ⟨h, r, F, ds, rfl, hh, hrow, nrF, hl, k⟩ := h
  have hzl := zh_len ds
  obtain ⟨dx, d', kn, lt, lc, go⟩ := hh.obj
  have hrow0 := hrow
  obtain ⟨ts, gr, rl⟩ := hrow
  have hlen := rl.len
  have zF := hh.zl
  unfold t_lend
  walk_at "go"
  refine ⟨r, ts, zh ds, rfl, gr, rl, by omega, fun p hp => by have := zh_small p hp; omega, fun x H1 rs s1 ra => ?_⟩
  rw [zh_hts] at ra
  walk_at "go"
  refine ⟨h, dx, _, rfl, s1 _ _ go, rfl, ?_⟩
  refine ⟨h, F, ds, rfl, hh.mono s1, hl, fun y H2 rs2 s2 ra2 => ?_⟩
  have s12 := s1.trans s2
  have rax := ra.mono s2
  have ray := ra2.base s1
  walk_at "go"
  refine ⟨_, _, _, rfl, ray.dp, rax.dp, rows_ok _ _, fun H3 s3 => ?_⟩
  have s13 := s12.trans s3
  have rax3 := rax.mono s3
  have ra23 := ra2.mono s3
  have gy := ra23.lst
  walk_at "go"
  have fy : ∀ b ∈ y :: rs2, H1 b = none := ra2.fresh
  refine forL (.of gy) (fun i σ H4 => ∃ v4 : Option V, σ = [some (.ref h), some (.ref r), some (.ref x), some (.ref y), v4] ∧ Chg rs2 H3 H4 ∧ H4 y = H3 y ∧ ∀ (k : Nat) a, rs2[k]? = some a → ∃ xs, H4 a = some (.lst xs) ∧ (i ≤ k → xs.length ≤ 500))
    ⟨none, rfl, Chg.rf, rfl, fun k a e => ?_⟩ (fun i σ H4 _ ⟨_, _, _, e, _⟩ => .of (e.trans gy)) ?_ ?_
  · obtain ⟨_, cs, c⟩ := ra23.row k a e
    refine ⟨_, c.1, fun _ => ?_⟩
    rw [List.length_map, c.2.len, (sortD_perm _).length_eq]
    exact rowAt_len2 _ _ _ (show (zh ds).length ≤ 500 by omega)
  · rintro i z σ H4 hz ⟨v4, rfl, c4, ey, h4⟩
    obtain ⟨a, ha, rfl⟩ := ref_get hz
    obtain ⟨xs, ga, hxl⟩ := h4 i a ha
    have nya : y ≠ a := fun q => ra2.rn (q ▸ List.mem_of_getElem? ha)
    walk_at "go"
    refine ⟨ty_l ga, ?_⟩
    refine tupQ fun t H5 ht s5 gt => ?_
    refine app_raw (s5 _ _ ga) (by have := hxl (Nat.le_refl _); omega) fun H6 g6 ne6 => ?_
    refine ⟨_, rfl, fun b o n e => ?_, ?_, fun k a' e => ?_⟩
    · rw [ne6 b (fun q => n (q ▸ List.mem_of_getElem? ha))]
      exact s5 _ _ (c4 b o n e)
    · rw [ne6 y nya, s5 _ _ (ey.trans gy), gy]
    · by_cases q : a' = a
      · subst q
        have : k = i := nd_inj ra2.nd e ha
        subst this
        exact ⟨_, g6, fun q => by omega⟩
      · obtain ⟨xs', g', l'⟩ := h4 k a' e
        exact ⟨xs', (ne6 a' q).trans (s5 _ _ g'), fun q => l' (by omega)⟩
  · rintro σ H4 ⟨v4, rfl, c4, ey, h4⟩
    have gy4 := ey.trans gy
    walk_at "go"
    refine ⟨ty_l gy4, ?_⟩
    refine lstQ fun e H5 he s5 ge => ?_
    refine app_raw (s5 _ _ gy4) (by rw [List.length_map, ra2.len]; have := tops_le (ds := ds); omega) fun H6 g6 ne6 => ?_
    have z3 : ZL H3 (y :: rs2) := ra23.zl
    have c36 : Chg (y :: rs2) H3 H6 := fun b o n e => by
      rw [ne6 b (fun q => n (by rw [q]; simp))]
      exact s5 _ _ (c4 b o (fun q => n (List.mem_cons_of_mem _ q)) e)
    have known : ∀ {b : Addr} {o : HO}, H1 b = some o → b ∉ y :: rs2 := fun e q => by
      rw [fy _ q] at e
      cases e
    have hh6 := (hh.mono s13).chg c36 z3 fun b hb => by
      obtain ⟨xs, g⟩ := zF b hb
      exact known (s1 _ _ g)
    have row6 := (hrow0.mono s13).chg c36 z3 (known (s1 _ _ gr))
    have rax6 := rax3.chg c36 z3 fun b hb => by
      obtain ⟨xs, g⟩ := ra.zl b hb
      exact known g
    have c06 : Chg (r :: F) H H6 := fun b o _ e => c36 b o (known (s1 _ _ e)) (s13 _ _ e)
    obtain ⟨dx6, _, _, _, _, go6⟩ := hh6.obj
    walk_at "go"
    refine ⟨h, dx6, _, rfl, go6, rfl, ?_⟩
    refine ⟨h, F, ds, rfl, hh6, hl, fun w H7 rs7 s7 ra7 => ?_⟩
    walk_at "go"
    refine neA_same ra7.dp (rax6.mono s7).dp (rows_ok _ _) ?_
    refine ⟨false, rfl, ?_⟩
    walk_at "go"
    have hh7 := hh6.mono s7
    have row7 := row6.mono s7
    have c07 := c06.then s7
    clear hh6 row6 rax6 c36
    refine whl (fun m σ H8 => ∃ ds' : List Dd, σ = [some (.ref h), some (.ref r), some (.ref x), some (.ref y), v4] ∧ Chg (r :: F) H H8 ∧ HallAt G H8 h F ds' ∧ RowAt H8 r ds' ∧ m = ds'.length) _ ⟨ds, rfl, c07, hh7, row7, rfl⟩ ?_
    rintro m σ H8 ⟨ds', rfl, c8, hh8, row8, rfl⟩
    obtain ⟨ts8, gr8, rl8⟩ := id row8
    walk_at "go"
    refine lstQ fun e8 H9 he8 s9 ge8 => ?_
    refine neA_ok (.lst (.of (s9 _ _ gr8)) (rw_dp (rl8.mono s9))) (nv_dp (ns := []) ge8) (rw_ok _) ((nv_ok []).le (by decide)) fun b hbe => ?_
    have hb' : b = true ↔ ds' ≠ [] := hbe.trans (by
      have := zh_len ds'
      cases ds' with
      | nil => simp [zh, hts, htsN]
      | cons x r =>
        cases hz : zh (x :: r) with
        | nil =>
          rw [hz] at this
          cases this
        | cons p q => simp)
    refine ⟨b, rfl, ?_⟩
    have hh9 := hh8.mono s9
    have row9 := row8.mono s9
    have c9 := c8.then s9
    cases b with
    | true =>
      have hne := hb'.mp rfl
      walk_at "go"
      refine whb ?_
      walk_at "go"
      refine ⟨h, r, F, ds', rfl, hh9, row9, nrF, fun ds2 d2 e2 H10 c10 hh10 row10 => ?_, fun q => absurd q hne⟩
      subst e2
      walk_at "go"
      exact ⟨ds2.length, by rw [List.length_append]; simp, ds2, rfl, c9.trans c10, hh10, row10, rfl⟩
    | false =>
      have e0 : ds' = [] := Classical.byContradiction fun q => by
        have := hb'.mpr q
        cases this
      subst e0
      walk_at "go"
      have newL : ∀ {A B C : Hp} {ds3 : List Dd} {hd : Addr} {xs : List V}, HallAt G A h F ds3 → RowAt A r ds3 → Chg (r :: F) H A → A hd = none → Same A B → B hd = some (.lst xs) → Chg [hd] B C → HallAt G C h F ds3 ∧ RowAt C r ds3 ∧ Chg (r :: F) H C := by
        intro A B C ds3 hd xs ha ra ca fr sAB gB cBC
        have zb := zl1 gB
        have nF := ha.zl.none fr
        obtain ⟨xr, gr⟩ := ra.lst
        have nr : r ≠ hd := ne_of_none gr fr
        refine ⟨(ha.mono sAB).chg cBC zb fun b hb hb2 => nF (List.mem_singleton.mp hb2 ▸ hb), (ra.mono sAB).chg cBC zb fun q => nr (List.mem_singleton.mp q), fun b o n e => ?_⟩
        have e1 := ca b o n e
        exact cBC b o (fun q => ne_of_none e1 fr (List.mem_singleton.mp q)) (sAB _ _ e1)
      refine lstQ fun hd H10 hhd s10 g10 => ?_
      obtain ⟨xr, gr9⟩ := row9.lst
      refine ⟨h, r, hd, F, [], true, [], rfl, hh9.mono s10, row9.mono s10, by decide, g10, by decide, hh9.zl.none hhd, (ne_of_none gr9 hhd).symm, fun H11 t c11 g11 _ => ?_⟩
      obtain ⟨hh11, row11, c011⟩ := newL hh9 row9 c9 hhd s10 g10 c11
      walk_at "go"
      refine ⟨h, F, rfl, hh11, fun H12 s12 => ?_⟩
      have hh12 := hh11.mono s12
      have row12 := row11.mono s12
      have c012 := c011.then s12
      walk_at "go"
      refine tupQ fun a H13 ha s13' ga => ?_
      refine ⟨h, r, a, F, [], ⟨7, 1, 1⟩, rfl, hh12.mono s13', row12.mono s13', nrF, ga, ⟨by decide, by decide⟩, by decide, fun H14 c14 hh14 row14 => ?_⟩
      have c014 := (c012.then s13').trans c14
      walk_at "go"
      refine lstQ fun hd2 H15 hhd2 s15 g15 => ?_
      obtain ⟨xr2, gr14⟩ := row14.lst
      refine ⟨h, r, hd2, F, _, false, [], rfl, hh14.mono s15, row14.mono s15, by decide, g15, by decide, hh14.zl.none hhd2, (ne_of_none gr14 hhd2).symm, fun H16 t2 c16 g16 _ => ?_⟩
      obtain ⟨_, _, c016⟩ := newL hh14 row14 c014 hhd2 s15 g15 c16
      walk_at "go"
      exact k H16 c016
end Pb

namespace Pb
open PySem PySem.Spec L2
/-! ### the law k06 -/
/-- where the law's things stand -/
def spots (hd : Addr) (R : Nat → Addr) (F : Nat → List Addr) : List Addr := hd :: R 0 :: R 1 :: (F 0 ++ F 1)
structure Pl (hl rl hd : Addr) (X R : Nat → Addr) (F : Nat → List Addr) (Hz : Hp) : Prop where
  ghl : Hz hl = some (.lst [.ref (X 0), .ref (X 1)])
  grl : Hz rl = some (.lst [.ref (R 0), .ref (R 1)])
  z : ZL Hz (spots hd R F)
  nhl : hl ∉ spots hd R F
  nrl : rl ∉ spots hd R F
  nd : (spots hd R F).Nodup
structure St6 (G : Str → Addr) (hl rl hd : Addr) (X R : Nat → Addr) (F : Nat → List Addr) (Hz H : Hp) (D : Nat → List Dd) (hs : List Addr) : Prop where
  c : Chg (spots hd R F) Hz H
  hall : ∀ k, k < 2 → HallAt G H (X k) (F k) (D k)
  row : ∀ k, k < 2 → RowAt H (R k) (D k)
  ghd : H hd = some (.lst (hs.map V.ref))
  held : ∀ t ∈ hs, HeldO Hz H t
section
variable {G : Str → Addr} {hl rl hd : Addr} {X R : Nat → Addr} {F : Nat → List Addr} {Hz H H' : Hp} {D : Nat → List Dd} {hs : List Addr}
theorem Pl.in_ (_ : Pl hl rl hd X R F Hz) {k : Nat} (hk : k < 2) : ∀ b ∈ R k :: F k, b ∈ spots hd R F := fun b hb => by
  unfold spots
  rcases (show k = 0 ∨ k = 1 by omega) with rfl | rfl <;> rcases List.mem_cons.mp hb with rfl | hb <;> simp [*]
theorem Pl.kn (p : Pl hl rl hd X R F Hz) : ∀ b ∈ spots hd R F, ∃ o, Hz b = some o := fun b hb => (p.z b hb).elim fun xs e => ⟨_, e⟩
theorem Pl.nds (p : Pl hl rl hd X R F Hz) : (hd ≠ R 0 ∧ hd ≠ R 1 ∧ hd ∉ F 0 ∧ hd ∉ F 1) ∧ (R 0 ≠ R 1 ∧ R 0 ∉ F 0 ∧ R 0 ∉ F 1) ∧ (R 1 ∉ F 0 ∧ R 1 ∉ F 1) ∧ ∀ a ∈ F 0, ∀ b ∈ F 1, a ≠ b := by
  have h := p.nd
  unfold spots at h
  rw [List.nodup_cons, List.nodup_cons, List.nodup_cons, List.nodup_append] at h
  obtain ⟨h1, h2, h3, _, _, h4⟩ := h
  simp only [List.mem_cons, List.mem_append, not_or] at h1 h2 h3
  exact ⟨⟨h1.1, h1.2.1, h1.2.2.1, h1.2.2.2⟩, ⟨h2.1, h2.2.1, h2.2.2⟩, ⟨h3.1, h3.2⟩, h4⟩
theorem Pl.nR (p : Pl hl rl hd X R F Hz) {k : Nat} (hk : k < 2) : R k ∉ F k := by
  obtain ⟨_, ⟨_, h1, _⟩, ⟨_, h2⟩, _⟩ := p.nds
  rcases (show k = 0 ∨ k = 1 by omega) with rfl | rfl
  · exact h1
  · exact h2
theorem Pl.nhd (p : Pl hl rl hd X R F Hz) {k : Nat} (hk : k < 2) : hd ∉ R k :: F k := by
  obtain ⟨⟨h1, h2, h3, h4⟩, _⟩ := p.nds
  rcases (show k = 0 ∨ k = 1 by omega) with rfl | rfl <;> simp [*]
theorem Pl.other (p : Pl hl rl hd X R F Hz) {k j : Nat} (hk : k < 2) (hj : j < 2) (n : j ≠ k) : ∀ b ∈ R j :: F j, b ∉ R k :: F k := by
  obtain ⟨_, ⟨h1, _, h3⟩, ⟨h4, _⟩, h5⟩ := p.nds
  have key : ∀ b ∈ R 0 :: F 0, b ∉ R 1 :: F 1 := fun b hb q => by
    rcases List.mem_cons.mp hb with rfl | hb
    · rcases List.mem_cons.mp q with q | q
      · exact h1 q
      · exact h3 q
    · rcases List.mem_cons.mp q with rfl | q
      · exact h4 hb
      · exact h5 b hb b q rfl
  rcases (show k = 0 ∧ j = 1 ∨ k = 1 ∧ j = 0 by omega) with ⟨rfl, rfl⟩ | ⟨rfl, rfl⟩
  · exact fun b hb q => key b q hb
  · exact key
theorem St6.z (s : St6 G hl rl hd X R F Hz H D hs) : ZL H (spots hd R F) := fun b hb => by
  unfold spots at hb
  rw [List.mem_cons, List.mem_cons, List.mem_cons, List.mem_append] at hb
  rcases hb with rfl | rfl | rfl | hb | hb
  · exact ⟨_, s.ghd⟩
  · exact (s.row 0 (by decide)).lst
  · exact (s.row 1 (by decide)).lst
  · exact (s.hall 0 (by decide)).zl b hb
  · exact (s.hall 1 (by decide)).zl b hb
theorem St6.free (s : St6 G hl rl hd X R F Hz H D hs) : ∀ b, H b = none → Hz b = none := fun b e => by
  cases q : Hz b with
  | none => rfl
  | some o =>
    by_cases m : b ∈ spots hd R F
    · obtain ⟨xs, g⟩ := s.z b m
      rw [e] at g
      cases g
    · rw [s.c b o m q] at e
      cases e
theorem St6.mono (s : St6 G hl rl hd X R F Hz H D hs) (m : Same H H') : St6 G hl rl hd X R F Hz H' D hs :=
  ⟨s.c.then m, fun k hk => (s.hall k hk).mono m, fun k hk => (s.row k hk).mono m, m _ _ s.ghd, fun t ht => (s.held t ht).chg (Chg.of (S := []) m) (fun b hb => by cases hb) fun b hb => by cases hb⟩
theorem St6.step (p : Pl hl rl hd X R F Hz) (s : St6 G hl rl hd X R F Hz H D hs) {k : Nat} {d : List Dd} (hk : k < 2) (c : Chg (R k :: F k) H H') (h1 : HallAt G H' (X k) (F k) d) (h2 : RowAt H' (R k) d) : St6 G hl rl hd X R F Hz H' (fun j => if j = k then d else D j) hs := by
  have zk : ZL H (R k :: F k) := fun b hb => s.z b (p.in_ hk b hb)
  refine ⟨s.c.trans (c.sub (p.in_ hk)), fun j hj => ?_, fun j hj => ?_, c _ _ (p.nhd hk) s.ghd, fun t ht => (s.held t ht).chg c zk fun b hb => p.kn b (p.in_ hk b hb)⟩
  · show HallAt G H' (X j) (F j) (if j = k then d else D j)
    by_cases e : j = k
    · rw [if_pos e, e]
      exact h1
    · rw [if_neg e]
      exact (s.hall j hj).chg c zk fun b hb => p.other hk hj e b (List.mem_cons_of_mem _ hb)
  · show RowAt H' (R j) (if j = k then d else D j)
    by_cases e : j = k
    · rw [if_pos e, e]
      exact h2
    · rw [if_neg e]
      exact (s.row j hj).chg c zk (p.other hk hj e _ List.mem_cons_self)
theorem St6.look (p : Pl hl rl hd X R F Hz) (s : St6 G hl rl hd X R F Hz H D hs) {t : Addr} (c : Chg [hd] H H') (g : H' hd = some (.lst (hs.map V.ref ++ [.ref t]))) (h : HeldO H H' t) : St6 G hl rl hd X R F Hz H' D (hs ++ [t]) := by
  have zk : ZL H [hd] := zl1 s.ghd
  have hin : ∀ b ∈ [hd], b ∈ spots hd R F := fun b hb => by
    rw [List.mem_singleton.mp hb]
    exact List.mem_cons_self
  refine ⟨s.c.trans (c.sub hin), fun j hj => (s.hall j hj).chg c zk fun b hb q => p.nhd hj (List.mem_singleton.mp q ▸ List.mem_cons_of_mem _ hb), fun j hj => (s.row j hj).chg c zk fun q => p.nhd hj (List.mem_singleton.mp q ▸ List.mem_cons_self), by rw [g, List.map_append]; rfl, fun u hu => ?_⟩
  rcases List.mem_append.mp hu with hu | hu
  · exact (s.held u hu).chg c zk fun b hb => p.kn b (hin b hb)
  · rw [List.mem_singleton.mp hu]
    exact h.base s.free
theorem two_at {f : Nat → Addr} {k : Nat} (hk : k < 2) : [V.ref (f 0), V.ref (f 1)][k]? = some (.ref (f k)) := by
  rcases (show k = 0 ∨ k = 1 by omega) with rfl | rfl <;> rfl
end
/-- the loop at i -/
def Inv6 (G : Str → Addr) (a hl rl hd : Addr) (X R : Nat → Addr) (F : Nat → List Addr) (Hz : Hp) (i : Nat) (σ : St) (H : Hp) : Prop :=
  ∃ (D : Nat → List Dd) (hs : List Addr) (v4 v5 v6 v7 : Option V), σ = [some (.ref a), some (.ref hl), some (.ref rl), some (.ref hd), v4, v5, v6, v7, none, none] ∧ St6 G hl rl hd X R F Hz H D hs ∧ (∀ k, k < 2 → (D k).length ≤ i) ∧ hs.length ≤ 2 * i
theorem made6 {K : PySem.W.Frag} {G : Str → Addr} {H : Hp} {x dx : Addr} {P : Hp → Prop} (hx : H x = none) (hd : H dx = none) (n : dx ≠ x) (k : ∀ H' F, Same H H' → HallAt G H' x F [] → (∀ b ∈ F, H b = none) → P H') :
    sp_hall_init K G [.ref x] (upd (upd H dx (.own x)) x (.ins (G "Hall") dx [])) (fun v H2 => v = .non ∧ P H2) E0 := by
  have stm : Same H (upd (upd H dx (.own x)) x (.ins (G "Hall") dx [])) := (same_new (o := .own x) hd).trans (same_new (H := upd H dx (.own x)) (o := .ins (G "Hall") dx []) (by rw [upd_ne n.symm]; exact hx))
  refine ⟨x, dx, rfl, upd_same, fun H' F c hh hF => ⟨rfl, k H' F (fun b o e => c b o (fun q => ne_of_none e hx (List.mem_singleton.mp q)) (stm _ _ e)) hh fun b hb => stm.free (hF b hb)⟩⟩
def two {α : Type} (x y : α) : Nat → α
  | 0 => x
  | _ => y
theorem len_law_k06 {K : PySem.W.Frag} {vs : List V} {H : Hp} {Q : VK} {E : XK} (h : sp_law K vs H Q E) : vs.length = 1 := len_law h
abbrev n_law_k06 : List Str := ["_law_script", "_law_halls", "_law_rows", "_law_held", "_law_number", "_law_one", "_law_which", "_law_k", "_law_found", "_law_due"]
def t_law_k06 (K : PySem.W.Frag) (G : Str → Addr) : TS :=
  (tSeq (tAsg (tLst (tCons (tMake (G "Hall") (sp_hall_init K G) [] E0 tNil) (tCons (tMake (G "Hall") (sp_hall_init K G) [] E0 tNil) tNil))) (gName 1))
  (tSeq (tAsg (tLst (tCons (tLst tNil) (tCons (tLst tNil) tNil))) (gName 2))
  (tSeq (tAsg (tLst tNil) (gName 3))
  (tSeq (tFor (iList K (tCall (sp_deeds6 K) [] E0 (tCons (tVar 0) (tCons (tC (.int 66)) tNil)))) (gTup K 2 (gCons (gName 4) (gCons (gName 5) gNil)))
  (tSeq (tAsg (tOp rMod (tVar 4) (tC (.int 2))) (gName 6))
  (tCut (tIfS (tTest (tOp (rEqA K) (tOp rMod (tOp rDiv (tVar 4) (tC (.int 2))) (tC (.int 4))) (tC (.int 0))))
  (tIfS (tNot (tB (tCall (sp_lback K G) [] E0 (tCons (tOp (rIx K) (tVar 1) (tVar 6)) (tCons (tOp (rIx K) (tVar 2) (tVar 6)) tNil)))))
  (tRet (tC (.bl false)))
  tNext)
  (tIfS (tNot (tB (tCall (sp_lput K G) [] E0 (tCons (tOp (rIx K) (tVar 1) (tVar 6)) (tCons (tOp (rIx K) (tVar 2) (tVar 6)) (tCons (tVar 5) tNil))))))
  (tRet (tC (.bl false)))
  tNext))
  (tIfS (tTest (tOp (rEqA K) (tOp rMod (tOp rDiv (tVar 4) (tC (.int 8))) (tC (.int 3))) (tC (.int 0))))
  (tFor (iList K (tLst (tCons (tOp rSub (tC (.int 1)) (tVar 6)) (tCons (tVar 6) tNil)))) (gName 7)
  (tIfS (tNot (tB (tCall (sp_look K G) [] E0 (tCons (tOp (rIx K) (tVar 1) (tVar 7)) (tCons (tOp (rIx K) (tVar 2) (tVar 7)) (tCons (tOp (rEqA K) (tOp rMod (tOp rDiv (tVar 4) (tC (.int 24))) (tC (.int 2))) (tVar 7)) (tCons (tVar 3) tNil)))))))
  (tRet (tC (.bl false)))
  tNext))
  tNext))))
  (tSeq (tIfS (tOr (tNot (tB (tCall (sp_lend K G) [] E0 (tCons (tOp (rIx K) (tVar 1) (tC (.int 0))) (tCons (tOp (rIx K) (tVar 2) (tC (.int 0))) tNil))))) (tNot (tB (tCall (sp_lend K G) [] E0 (tCons (tOp (rIx K) (tVar 1) (tC (.int 1))) (tCons (tOp (rIx K) (tVar 2) (tC (.int 1))) tNil))))))
  (tRet (tC (.bl false)))
  tNext)
  (tSeq (tFor (iList K (tVar 3)) (gTup K 2 (gCons (gName 8) (gCons (gName 9) gNil)))
  (tIfS (tTest (tOp (rNeA K) (tVar 8) (tVar 9)))
  (tRet (tC (.bl false)))
  tNext))
  (tRet (tC (.bl true)))))))))
theorem r_law_k06 {K G vs H Q E} (h : sp_law K vs H Q E) : t_law_k06 K G { nx := fun _ H' => Q .non H', rt := Q } (start n_law_k06 vs) H := by
  obtain ⟨a, ns, rfl, ha, hl0, q⟩ := h
  unfold t_law_k06 tMake
  walk_at "go"
  refine fun x0 dx0 hx0 hdx0 n0 => made6 hx0 hdx0 n0 fun H2 F0 s2 hh0 hF0 => ?_
  refine fun x1 dx1 hx1 hdx1 n1 => made6 hx1 hdx1 n1 fun H3 F1 s3 hh1 hF1 => ?_
  refine lstQ fun hl H4 hhl s4 ghl => ?_
  refine lstQ fun r0 H5 hr0 s5 gr0 => ?_
  refine lstQ fun r1 H6 hr1 s6 gr1 => ?_
  refine lstQ fun rl H7 hrl s7 grl => ?_
  refine lstQ fun hd H8 hhd s8 ghd => ?_
  have s38 : Same H3 H8 := (((s4.trans s5).trans s6).trans s7).trans s8
  have s08 : Same H H8 := (s2.trans s3).trans s38
  refine ⟨a, ns, 66, rfl, s08.seq ha, hl0, fun p Hz ts hp sz gp hst hts => ?_⟩
  have z0 := hh0.zl
  have z1 := hh1.zl
  have kn : ∀ {A B : Hp} {b c : Addr} {o : HO}, A b = some o → Same A B → B c = none → b ≠ c := fun e s f => ne_of_none (s _ _ e) f
  have PL : Pl hl rl hd (two x0 x1) (two r0 r1) (two F0 F1) Hz := by
    have f0 : ∀ b ∈ F0, ∃ o, H3 b = some o := fun b hb => (z0 b hb).elim fun xs e => ⟨_, s3 _ _ e⟩
    have f1 : ∀ b ∈ F1, ∃ o, H3 b = some o := fun b hb => (z1 b hb).elim fun xs e => ⟨_, e⟩
    have out : ∀ {A : Hp} {c : Addr}, Same H3 A → A c = none → c ∉ F0 ∧ c ∉ F1 := fun s f => ⟨fun h => (f0 _ h).elim fun o e => kn e s f rfl, fun h => (f1 _ h).elim fun o e => kn e s f rfl⟩
    have ohl := out (Same.refl _) hhl
    have or0 := out s4 hr0
    have or1 := out (s4.trans s5) hr1
    have orl := out ((s4.trans s5).trans s6) hrl
    have ohd := out (((s4.trans s5).trans s6).trans s7) hhd
    have n1 : hl ≠ r0 := kn ghl (Same.refl _) hr0
    have n2 : hl ≠ r1 := kn ghl s5 hr1
    have n3 : hl ≠ rl := kn ghl (s5.trans s6) hrl
    have n4 : hl ≠ hd := kn ghl ((s5.trans s6).trans s7) hhd
    have n5 : r0 ≠ r1 := kn gr0 (Same.refl _) hr1
    have n6 : r0 ≠ rl := kn gr0 s6 hrl
    have n7 : r0 ≠ hd := kn gr0 (s6.trans s7) hhd
    have n8 : r1 ≠ rl := kn gr1 (Same.refl _) hrl
    have n9 : r1 ≠ hd := kn gr1 s7 hhd
    have n10 : rl ≠ hd := kn grl (Same.refl _) hhd
    have nd0 : F0.Nodup := by
      obtain ⟨_, _, _, _, _, _, _, _, _, _, _, _, _, _, g⟩ := hh0
      exact g
    have nd1 : F1.Nodup := by
      obtain ⟨_, _, _, _, _, _, _, _, _, _, _, _, _, _, g⟩ := hh1
      exact g
    refine ⟨sz _ _ (s8 _ _ (s7 _ _ (s6 _ _ (s5 _ _ ghl)))), sz _ _ (s8 _ _ grl), fun b hb => ?_, ?_, ?_, ?_⟩
    · simp only [spots, two, List.mem_cons, List.mem_append] at hb
      rcases hb with rfl | rfl | rfl | hb | hb
      · exact ⟨_, sz _ _ ghd⟩
      · exact ⟨_, sz _ _ (s8 _ _ (s7 _ _ (s6 _ _ gr0)))⟩
      · exact ⟨_, sz _ _ (s8 _ _ (s7 _ _ gr1))⟩
      · obtain ⟨xs, e⟩ := z0 b hb
        exact ⟨xs, sz _ _ (s38 _ _ (s3 _ _ e))⟩
      · obtain ⟨xs, e⟩ := z1 b hb
        exact ⟨xs, sz _ _ (s38 _ _ e)⟩
    · simp [spots, two, n1, n2, n4, ohl]
    · simp [spots, two, n6.symm, n8.symm, n10, orl]
    · simp only [spots, two, List.nodup_cons, List.nodup_append, List.mem_cons, List.mem_append, not_or]
      exact ⟨⟨n7.symm, n9.symm, ohd.1, ohd.2⟩, ⟨n5, or0.1, or0.2⟩, ⟨or1.1, or1.2⟩, nd0, nd1, fun b hb c hc e => by
        obtain ⟨xs, g⟩ := z0 b hb
        have := hF1 c hc
        rw [← e, g] at this
        cases this⟩
  have ST : St6 G hl rl hd (two x0 x1) (two r0 r1) (two F0 F1) Hz Hz (fun _ => []) [] := by
    refine ⟨Chg.rf, fun k hk => ?_, fun k hk => ?_, sz _ _ ghd, by simp⟩
    · rcases (show k = 0 ∨ k = 1 by omega) with rfl | rfl
      · exact ((hh0.mono s3).mono s38).mono sz
      · exact (hh1.mono s38).mono sz
    · rcases (show k = 0 ∨ k = 1 by omega) with rfl | rfl
      · exact ⟨[], sz _ _ (s8 _ _ (s7 _ _ (s6 _ _ gr0))), trivial⟩
      · exact ⟨[], sz _ _ (s8 _ _ (s7 _ _ gr1)), trivial⟩
  have npS : p ∉ spots hd (two r0 r1) (two F0 F1) := fun h => by
    simp only [spots, two, List.mem_cons, List.mem_append] at h
    rcases h with rfl | rfl | rfl | h | h
    · rw [ghd] at hp; cases hp
    · rw [s8 _ _ (s7 _ _ (s6 _ _ gr0))] at hp; cases hp
    · rw [s8 _ _ (s7 _ _ gr1)] at hp; cases hp
    · obtain ⟨xs, e⟩ := z0 p h
      rw [s38 _ _ (s3 _ _ e)] at hp; cases hp
    · obtain ⟨xs, e⟩ := z1 p h
      rw [s38 _ _ e] at hp; cases hp
  generalize two x0 x1 = X at PL ST npS
  generalize two r0 r1 = R at PL ST npS
  generalize two F0 F1 = F at PL ST npS
  clear hh0 hh1 z0 z1 hF0 hF1 ghl gr0 gr1 grl ghd s38
  refine forL (.of gp) (Inv6 G a hl rl hd X R F Hz) ⟨_, _, none, none, none, none, rfl, ST, by simp, by simp⟩ (fun i σ H8 _ ⟨_, _, _, _, _, _, _, s, _⟩ => .of (s.c _ _ npS gp)) ?_ ?_
  · rintro i x σ H9 hx ⟨D, hs, v4, v5, v6, v7, rfl, st, hD, hhs⟩
    obtain ⟨t, ht, rfl⟩ := ref_get hx
    obtain ⟨k, b, d, gt, td, ok, hk⟩ := hst t (List.mem_of_getElem? ht)
    have hi : i < ts.length := (List.getElem?_eq_some_iff.mp ht).1
    have gt9 := st.c _ _ (PL.z.out gt fun xs q => by cases q) gt
    have td9 := st.c.td PL.z td
    have ghl9 := st.c _ _ PL.nhl PL.ghl
    have grl9 := st.c _ _ PL.nrl PL.grl
    walk_at "go"
    rw [show ((k : Nat) : Int) % 2 = ((k % 2 : Nat) : Int) by omega]
    have hw : k % 2 < 2 := by omega
    generalize k % 2 = w at hw
    have at1 := two_at (f := X) hw
    have at2 := two_at (f := R) hw
    refine cut (fun σ H' => ∃ D' : Nat → List Dd, σ = [some (.ref a), some (.ref hl), some (.ref rl), some (.ref hd), some (.int (k : Int)), some (.ref b), some (.int (w : Int)), v7, none, none] ∧ St6 G hl rl hd X R F Hz H' D' hs ∧ ∀ k, k < 2 → (D' k).length ≤ i + 1) ?_ ?_
    · walk_at "go"
      refine ite2 (fun c => ?_) (fun c => ?_)
      · walk_at "go"
        refine ix_l' ghl9 (atI_nat (j := w) at1) ?_
        refine ix_l' grl9 (atI_nat (j := w) at2) ?_
        refine ⟨X w, R w, F w, D w, rfl, st.hall w hw, st.row w hw, PL.nR hw, fun ds' d' ed H' c' h1 h2 => ?_, fun e0 H' s' => ?_⟩
        · walk_at "go"
          refine ⟨_, rfl, st.step PL hw c' h1 h2, fun j hj => ?_⟩
          have := hD j hj
          have := hD w hw
          show (if j = w then ds' else D j).length ≤ i + 1
          rw [ed, List.length_append] at this
          split <;> omega
        · walk_at "go"
          exact ⟨_, rfl, st.mono s', fun j hj => by have := hD j hj; omega⟩
      · walk_at "go"
        refine ix_l' ghl9 (atI_nat (j := w) at1) ?_
        refine ix_l' grl9 (atI_nat (j := w) at2) ?_
        have hDw := hD w hw
        refine ⟨X w, R w, b, F w, D w, d, rfl, st.hall w hw, st.row w hw, PL.nR hw, td9, ok, by omega, fun H' c' h1 h2 => ?_⟩
        walk_at "go"
        refine ⟨_, rfl, st.step PL hw c' h1 h2, fun j hj => ?_⟩
        have := hD j hj
        show (if j = w then D w ++ [d] else D j).length ≤ i + 1
        split
        · rw [List.length_append, List.length_singleton]
          omega
        · omega
    · rintro σ H10 ⟨D', rfl, st, hD'⟩
      walk_at "go"
      refine ite2 (fun c => ?_) (fun c => ?_)
      · walk_at "go"
        refine lstQ fun l H11 hl11 s11 g11 => ?_
        rw [show (1 : Int) - (w : Int) = ((1 - w : Nat) : Int) by omega] at g11
        have st1 := st.mono s11
        have nlS : l ∉ spots hd R F := st.z.none hl11
        refine forL (.of g11) (fun j σ H' => ∃ (hs' : List Addr) (v7 : Option V), σ = [some (.ref a), some (.ref hl), some (.ref rl), some (.ref hd), some (.int (k : Int)), some (.ref b), some (.int (w : Int)), v7, none, none] ∧ St6 G hl rl hd X R F Hz H' D' hs' ∧ hs'.length ≤ 2 * i + j ∧ Chg (spots hd R F) H11 H')
          ⟨hs, _, rfl, st1, by omega, Chg.rf⟩ (fun j σ H' _ ⟨_, _, _, _, _, c⟩ => .of (c _ _ nlS g11)) ?_ ?_
        · rintro j y σ H' hy ⟨hs', v7, rfl, st', hl', c'⟩
          have hj : j < 2 := (List.getElem?_eq_some_iff.mp hy).1
          obtain ⟨m, hm, rfl⟩ : ∃ m : Nat, m < 2 ∧ y = .int (m : Int) := by
            rcases (show j = 0 ∨ j = 1 by omega) with rfl | rfl
            · exact ⟨1 - w, by omega, (Option.some.inj hy).symm⟩
            · exact ⟨w, hw, (Option.some.inj hy).symm⟩
          have am1 := two_at (f := X) hm
          have am2 := two_at (f := R) hm
          have ghl' := st'.c _ _ PL.nhl PL.ghl
          have grl' := st'.c _ _ PL.nrl PL.grl
          walk_at "go"
          refine ix_l' ghl' (atI_nat (j := m) am1) ?_
          refine ix_l' grl' (atI_nat (j := m) am2) ?_
          walk_at "go"
          have hDm := hD' m hm
          have nF : hd ∉ F m := fun q => PL.nhd hm (List.mem_cons_of_mem _ q)
          have nR : hd ≠ R m := fun q => PL.nhd hm (by rw [q]; exact List.mem_cons_self)
          refine ⟨X m, R m, hd, F m, D' m, _, _, rfl, st'.hall m hm, st'.row m hm, by omega, st'.ghd, by rw [List.length_map]; omega, nF, nR, fun H12 u c12 g12 hu => ?_⟩
          walk_at "go"
          refine ⟨_, _, rfl, st'.look PL c12 g12 hu, by rw [List.length_append, List.length_singleton]; omega, c'.trans (c12.sub fun b hb => by rw [List.mem_singleton.mp hb]; exact List.mem_cons_self)⟩
        · rintro σ H' ⟨hs', v7, rfl, st', hl', c'⟩
          exact ⟨D', hs', _, _, _, _, rfl, st', hD', by simp at hl'; omega⟩
      · exact ⟨D', hs, _, _, _, _, rfl, st, hD', by omega⟩
  · rintro σ H9 ⟨D, hs, v4, v5, v6, v7, rfl, st, hD, hhs⟩
    rw [List.length_map] at hD hhs
    have ghl9 := st.c _ _ PL.nhl PL.ghl
    have grl9 := st.c _ _ PL.nrl PL.grl
    walk_at "go"
    have h0 := hD 0 (by decide)
    have h1 := hD 1 (by decide)
    refine ⟨X 0, R 0, F 0, D 0, rfl, st.hall 0 (by decide), st.row 0 (by decide), PL.nR (by decide), by omega, fun H10 c10 => ?_⟩
    have z0 : ZL H9 (R 0 :: F 0) := fun b hb => st.z b (PL.in_ (by decide) b hb)
    have hall1 := (st.hall 1 (by decide)).chg c10 z0 fun b hb => PL.other (by decide) (by decide) (by decide) b (List.mem_cons_of_mem _ hb)
    have row1 := (st.row 1 (by decide)).chg c10 z0 (PL.other (by decide) (by decide) (by decide) _ List.mem_cons_self)
    have ghl10 := c10 _ _ (fun q => PL.nhl (PL.in_ (by decide) _ q)) ghl9
    have grl10 := c10 _ _ (fun q => PL.nrl (PL.in_ (by decide) _ q)) grl9
    have ghd10 := c10 _ _ (PL.nhd (by decide)) st.ghd
    have held10 := fun t ht => (st.held t ht).chg c10 z0 fun b hb => PL.kn b (PL.in_ (by decide) b hb)
    walk_at "go"
    refine ⟨X 1, R 1, F 1, D 1, rfl, hall1, row1, PL.nR (by decide), by omega, fun H11 c11 => ?_⟩
    have z1 : ZL H10 (R 1 :: F 1) := fun b hb => by
      rcases List.mem_cons.mp hb with rfl | hb
      · exact row1.lst
      · exact hall1.zl b hb
    have ghd11 := c11 _ _ (PL.nhd (by decide)) ghd10
    have held11 := fun t ht => (held10 t ht).chg c11 z1 fun b hb => PL.kn b (PL.in_ (by decide) b hb)
    walk_at "go"
    refine forL (.of ghd11) (fun i σ H12 => ∃ v8 v9 : Option V, σ = [some (.ref a), some (.ref hl), some (.ref rl), some (.ref hd), v4, v5, v6, v7, v8, v9] ∧ H12 = H11) ⟨none, none, rfl, rfl⟩ (fun i σ H12 _ ⟨_, _, _, e⟩ => by rw [e]; exact .of ghd11) ?_ ?_
    · rintro i x σ H12 hx ⟨v8, v9, rfl, rfl⟩
      obtain ⟨t, ht, rfl⟩ := ref_get hx
      obtain ⟨x, y, rs1, rs2, n, R', gt, r1, r2⟩ := held11 t (List.mem_of_getElem? ht)
      walk_at "go"
      refine neA_same r1.dp r2.dp (rows_ok _ _) ?_
      walk_at "go"
      exact ⟨_, _, rfl, rfl⟩
    · rintro σ H12 ⟨v8, v9, rfl, rfl⟩
      walk_at "go"
      exact q _
end Pb

namespace Rk06
open PySem PySem.Spec L2 Pb
def top (i : Nat) : Stmt := PySem.Challenge.pw_passby_k06_hall.main.body.getD i (.Pass ⟨0, 0, 0, 0⟩)
abbrev s_boxes_of : Stmt := (top 8)
theorem sc_boxes_of : FnScope n_boxes_of ["bits"] (defScope s_boxes_of) := ⟨rfl, rfl, rfl, by decide +kernel, rfl, by decide +kernel, by decide +kernel⟩
abbrev s_laid : Stmt := (top 10)
theorem sc_laid : FnScope n_laid ["diary", "known"] (defScope s_laid) := ⟨rfl, rfl, rfl, by decide +kernel, rfl, by decide +kernel, by decide +kernel⟩
abbrev s_lev_init : Stmt := (inClass (top 12) 0)
theorem sc_lev_init : FnScope n_lev_init ["self"] (defScope s_lev_init) := ⟨rfl, rfl, rfl, by decide +kernel, rfl, by decide +kernel, by decide +kernel⟩
abbrev s_lev_at : Stmt := (inClass (top 12) 1)
theorem sc_lev_at : FnScope n_lev_at ["self", "boxes"] (defScope s_lev_at) := ⟨rfl, rfl, rfl, by decide +kernel, rfl, by decide +kernel, by decide +kernel⟩
abbrev s_raised : Stmt := (inClass (top 12) 2)
theorem sc_raised : FnScope n_raised ["self", "boxes", "level"] (defScope s_raised) := ⟨rfl, rfl, rfl, by decide +kernel, rfl, by decide +kernel, by decide +kernel⟩
abbrev s_lowered : Stmt := (inClass (top 12) 3)
theorem sc_lowered : FnScope n_lowered ["self", "boxes"] (defScope s_lowered) := ⟨rfl, rfl, rfl, by decide +kernel, rfl, by decide +kernel, by decide +kernel⟩
abbrev s_hall_init : Stmt := (inClass (top 13) 0)
theorem sc_hall_init : FnScope n_hall_init ["self"] (defScope s_hall_init) := ⟨rfl, rfl, rfl, by decide +kernel, rfl, by decide +kernel, by decide +kernel⟩
abbrev s_put : Stmt := (inClass (top 13) 1)
theorem sc_put : FnScope n_put ["self", "deed"] (defScope s_put) := ⟨rfl, rfl, rfl, by decide +kernel, rfl, by decide +kernel, by decide +kernel⟩
abbrev s_back : Stmt := (inClass (top 13) 2)
theorem sc_back : FnScope n_back ["self"] (defScope s_back) := ⟨rfl, rfl, rfl, by decide +kernel, rfl, by decide +kernel, by decide +kernel⟩
abbrev s_rounds : Stmt := (inClass (top 13) 3)
theorem sc_rounds : FnScope n_rounds ["self"] (defScope s_rounds) := ⟨rfl, rfl, rfl, by decide +kernel, rfl, by decide +kernel, by decide +kernel⟩
abbrev s_many : Stmt := (inClass (top 13) 4)
theorem sc_many : FnScope n_many ["self"] (defScope s_many) := ⟨rfl, rfl, rfl, by decide +kernel, rfl, by decide +kernel, by decide +kernel⟩
abbrev s_cell_at : Stmt := (top 15)
theorem sc_cell_at : FnScope n_cell_at ["_law_script", "_law_k"] (defScope s_cell_at) := ⟨rfl, rfl, rfl, by decide +kernel, rfl, by decide +kernel, by decide +kernel⟩
abbrev s_lclash : Stmt := (top 16)
theorem sc_lclash : FnScope n_lclash ["_law_one", "_law_other"] (defScope s_lclash) := ⟨rfl, rfl, rfl, by decide +kernel, rfl, by decide +kernel, by decide +kernel⟩
abbrev s_bits : Stmt := (top 17)
theorem sc_bits : FnScope n_bits ["_law_which", "_law_boxes"] (defScope s_bits) := ⟨rfl, rfl, rfl, by decide +kernel, rfl, by decide +kernel, by decide +kernel⟩
abbrev s_far_bits : Stmt := (top 18)
theorem sc_far_bits : FnScope n_far_bits ["_law_cell"] (defScope s_far_bits) := ⟨rfl, rfl, rfl, by decide +kernel, rfl, by decide +kernel, by decide +kernel⟩
abbrev s_names : Stmt := (top 19)
theorem sc_names : FnScope n_names ["_law_cell", "_law_other"] (defScope s_names) := ⟨rfl, rfl, rfl, by decide +kernel, rfl, by decide +kernel, by decide +kernel⟩
abbrev s_near : Stmt := (top 20)
theorem sc_near : FnScope n_near ["_law_number", "_law_names_here", "_law_boxes"] (defScope s_near) := ⟨rfl, rfl, rfl, by decide +kernel, rfl, by decide +kernel, by decide +kernel⟩
abbrev s_deeds6 : Stmt := (top 21)
theorem sc_deeds6 : FnScope n_deeds6 ["_law_script", "_law_most"] (defScope s_deeds6) := ⟨rfl, rfl, rfl, by decide +kernel, rfl, by decide +kernel, by decide +kernel⟩
abbrev s_same : Stmt := (top 22)
theorem sc_same : FnScope n_same ["_law_found", "_law_due"] (defScope s_same) := ⟨rfl, rfl, rfl, by decide +kernel, rfl, by decide +kernel, by decide +kernel⟩
abbrev s_lrounds : Stmt := (top 23)
theorem sc_lrounds : FnScope n_lrounds ["_law_row"] (defScope s_lrounds) := ⟨rfl, rfl, rfl, by decide +kernel, rfl, by decide +kernel, by decide +kernel⟩
abbrev s_refused_k06 : Stmt := (top 24)
theorem sc_refused_k06 : FnScope n_refused_k06 ["_law_hall"] (defScope s_refused_k06) := ⟨rfl, rfl, rfl, by decide +kernel, rfl, by decide +kernel, by decide +kernel⟩
abbrev s_lput : Stmt := (top 25)
theorem sc_lput : FnScope n_lput ["_law_hall", "_law_row", "_law_one"] (defScope s_lput) := ⟨rfl, rfl, rfl, by decide +kernel, rfl, by decide +kernel, by decide +kernel⟩
abbrev s_lback : Stmt := (top 26)
theorem sc_lback : FnScope n_lback ["_law_hall", "_law_row"] (defScope s_lback) := ⟨rfl, rfl, rfl, by decide +kernel, rfl, by decide +kernel, by decide +kernel⟩
abbrev s_look : Stmt := (top 27)
theorem sc_look : FnScope n_look ["_law_hall", "_law_row", "_law_first", "_law_held"] (defScope s_look) := ⟨rfl, rfl, rfl, by decide +kernel, rfl, by decide +kernel, by decide +kernel⟩
abbrev s_lend : Stmt := (top 28)
theorem sc_lend : FnScope n_lend ["_law_hall", "_law_row"] (defScope s_lend) := ⟨rfl, rfl, rfl, by decide +kernel, rfl, by decide +kernel, by decide +kernel⟩
abbrev s_law_k06 : Stmt := (top 29)
theorem sc_law_k06 : FnScope n_law_k06 ["_law_script"] (defScope s_law_k06) := ⟨rfl, rfl, rfl, by decide +kernel, rfl, by decide +kernel, by decide +kernel⟩
structure Txt (K : PySem.W.Frag) (mg : Str → Option Value) (G : Str → Addr) : Prop where
  triv : True
  b_ValueError : mg "ValueError" = none
  b_bool : mg "bool" = none
  b_int : mg "int" = none
  b_isinstance : mg "isinstance" = none
  b_len : mg "len" = none
  b_list : mg "list" = none
  b_max : mg "max" = none
  b_range : mg "range" = none
  b_sorted : mg "sorted" = none
  b_tuple : mg "tuple" = none
  b_zip : mg "zip" = none
  c_BOXES : ∃ u, mg "BOXES" = some u ∧ RelV (.int 60) u
  g_Hall : mg "Hall" = some (.ref (G "Hall"))
  cl_Hall : Cls K (G "Hall")
  a_Hall_changed : NoAttr K (G "Hall") "changed"
  a_Hall_deeds : NoAttr K (G "Hall") "deeds"
  a_Hall_known : NoAttr K (G "Hall") "known"
  a_Hall_touched : NoAttr K (G "Hall") "touched"
  g_Levels : mg "Levels" = some (.ref (G "Levels"))
  cl_Levels : Cls K (G "Levels")
  a_Levels_rows : NoAttr K (G "Levels") "rows"
  g_NoBox : mg "NoBox" = some (.ref (G "NoBox"))
  x_NoBox : PySem.W.excIn K (G "NoBox") [.type "ValueError", .type "Exception", .type "BaseException", .type "object"] "ValueError.__new__" = true
  k_NoBox : PySem.W.keepIn K (.ref (G "NoBox")) = true
  s_NoBox : PySem.W.subIn K (.ref (G "NoBox")) (.type "BaseException") = some true
  t_NoBox : PySem.W.typeIn K (.ref (G "NoBox")) = some (.type "type")
  g_NoDeed : mg "NoDeed" = some (.ref (G "NoDeed"))
  x_NoDeed : PySem.W.excIn K (G "NoDeed") [.type "ValueError", .type "Exception", .type "BaseException", .type "object"] "ValueError.__new__" = true
  k_NoDeed : PySem.W.keepIn K (.ref (G "NoDeed")) = true
  s_NoDeed : PySem.W.subIn K (.ref (G "NoDeed")) (.type "BaseException") = some true
  t_NoDeed : PySem.W.typeIn K (.ref (G "NoDeed")) = some (.type "type")
  g_NoPass : mg "NoPass" = some (.ref (G "NoPass"))
  x_NoPass : PySem.W.excIn K (G "NoPass") [.type "ValueError", .type "Exception", .type "BaseException", .type "object"] "ValueError.__new__" = true
  k_NoPass : PySem.W.keepIn K (.ref (G "NoPass")) = true
  s_NoPass : PySem.W.subIn K (.ref (G "NoPass")) (.type "BaseException") = some true
  t_NoPass : PySem.W.typeIn K (.ref (G "NoPass")) = some (.type "type")
  g_Nothing : mg "Nothing" = some (.ref (G "Nothing"))
  x_Nothing : PySem.W.excIn K (G "Nothing") [.type "ValueError", .type "Exception", .type "BaseException", .type "object"] "ValueError.__new__" = true
  k_Nothing : PySem.W.keepIn K (.ref (G "Nothing")) = true
  s_Nothing : PySem.W.subIn K (.ref (G "Nothing")) (.type "BaseException") = some true
  t_Nothing : PySem.W.typeIn K (.ref (G "Nothing")) = some (.type "type")
  g_PassbyError : mg "PassbyError" = some (.ref (G "PassbyError"))
  x_PassbyError : PySem.W.excIn K (G "PassbyError") [.type "ValueError", .type "Exception", .type "BaseException", .type "object"] "ValueError.__new__" = true
  k_PassbyError : PySem.W.keepIn K (.ref (G "PassbyError")) = true
  s_PassbyError : PySem.W.subIn K (.ref (G "PassbyError")) (.type "BaseException") = some true
  t_PassbyError : PySem.W.typeIn K (.ref (G "PassbyError")) = some (.type "type")
  xf_Nothing : XF K G "Nothing"
section
variable {P : Program} {w : World} {K : PySem.W.Frag} {mg : Str → Option Value} {base : Heap} {G : Str → Addr}
theorem ok_boxes_of {f : Addr} {fd : FuncData} (F : Fun K "boxes_of" "boxes_of" s_boxes_of f fd) (T : Txt K mg G)  : FnOk P w K mg base CX0 1 f fd ["bits"] (sp_boxes_of K) := by
  refine F.ok sc_boxes_of (fun vs H Q E h => len_boxes_of h) (fun cdv A outer s H vs Q E hr h => ⟨t_boxes_of K, ?_, r_boxes_of h⟩)
  exact (pss_one (ps_ret (pe_lc (own := [("k", 1)]) (by rfl) sc_boxes_of.nd (pi_range1 (by rfl) T.b_range (pa_cons (pe_const (by rfl) T.c_BOXES) pa_nil)) (blkOk_by (N := n_boxes_of) (sc := defScope s_boxes_of) (by decide +kernel)) (fun _ _ _ _ _ => (pg_name (i := 1) sc_boxes_of.nd rfl (Or.inl rfl))) (fun _ _ _ _ _ => (pts_one (pt_cmpR (op_eqA hr.units) (pe_op op_and (pe_op op_shr (pv 0) (pv 1)) pe_int) pe_int (nomark _)))) (fun _ _ _ _ _ => (pv 1)))))
theorem ok_laid {f : Addr} {fd : FuncData} (F : Fun K "laid" "laid" s_laid f fd) (T : Txt K mg G)  : FnOk P w K mg base CX0 1 f fd ["diary", "known"] (sp_laid K) := by
  refine F.ok sc_laid (fun vs H Q E h => len_laid h) (fun cdv A outer s H vs Q E hr h => ⟨t_laid K, ?_, r_laid h⟩)
  exact (pss_cons (ps_set (i := 2) sc_laid.nd rfl (Or.inl rfl) (pe_lst pa_nil))
  (pss_cons (ps_for PassesOwn.never rfl (RZ.pi_zipA (by rfl) T.b_zip (pa_cons (pv 0) (pa_cons (pv 1) pa_nil))) (pg_tup rfl (pgs_cons (pg_name (i := 3) sc_laid.nd rfl (Or.inl rfl)) (pgs_cons (pg_name (i := 4) sc_laid.nd rfl (Or.inl rfl)) pgs_nil)))
  (pss_cons (ps_while PassesOwn.never (pt_cmpR op_le (pe_callB call_len_seq (by rfl) T.b_len bt_len (pa_cons (pv 2) pa_nil)) (pv 4) (nomark _))
  (pss_one (ps_expr (pe_bm PySem.F.plainAttrs_list PySem.F.slot_list_append PySem.F.type_list_append mt_append (pv 2) (pa_cons (pe_lst pa_nil) pa_nil)))))
  (pss_one (ps_expr (pe_bm PySem.F.plainAttrs_list PySem.F.slot_list_append PySem.F.type_list_append mt_append (pe_ix ix_seq (pv 2) (pv 4) (fun _ _ => rfl)) (pa_cons (pv 3) pa_nil))))))
  (pss_one (ps_ret (pe_lc (own := [("row", 5)]) (by rfl) sc_laid.nd (pi_list (pv 2)) (blkOk_by (N := n_laid) (sc := defScope s_laid) (by decide +kernel)) (fun _ _ _ _ _ => (pg_name (i := 5) sc_laid.nd rfl (Or.inl rfl))) (fun _ _ _ _ _ => pts_nil) (fun _ _ _ _ _ => (pe_callB (cr_sortedD hr.units) (by rfl) T.b_sorted bt_sorted (pa_cons (pv 5) pa_nil))))))))
theorem ok_lev_init {f : Addr} {fd : FuncData} (F : Fun K "__init__" "Levels.__init__" s_lev_init f fd) (T : Txt K mg G)  : FnOk P w K mg base CX0 1 f fd ["self"] (sp_lev_init K G) := by
  refine F.ok sc_lev_init (fun vs H Q E h => len_lev_init h) (fun cdv A outer s H vs Q E hr h => ⟨t_lev_init K G, ?_, r_lev_init ⟨T.cl_Levels, T.a_Levels_rows, T.cl_Hall, T.a_Hall_deeds, T.a_Hall_known, T.a_Hall_touched, T.a_Hall_changed⟩ h⟩)
  exact (pss_one (ps_fld (pv 0) (pe_lc (own := [("k", 1)]) (by rfl) sc_lev_init.nd (pi_range1 (by rfl) T.b_range (pa_cons (pe_const (by rfl) T.c_BOXES) pa_nil)) (blkOk_by (N := n_lev_init) (sc := defScope s_lev_init) (by decide +kernel)) (fun _ _ _ _ _ => (pg_name (i := 1) sc_lev_init.nd rfl (Or.inl rfl))) (fun _ _ _ _ _ => pts_nil) (fun _ _ _ _ _ => (pe_lst (pa_cons pe_int pa_nil)))) rfl))
theorem ok_lev_at {f : Addr} {fd : FuncData} (F : Fun K "at" "Levels.at" s_lev_at f fd) (T : Txt K mg G)  : FnOk P w K mg base CX0 1 f fd ["self", "boxes"] (sp_lev_at K G) := by
  refine F.ok sc_lev_at (fun vs H Q E h => len_lev_at h) (fun cdv A outer s H vs Q E hr h => ⟨t_lev_at K G, ?_, r_lev_at ⟨T.cl_Levels, T.a_Levels_rows, T.cl_Hall, T.a_Hall_deeds, T.a_Hall_known, T.a_Hall_touched, T.a_Hall_changed⟩ h⟩)
  exact (pss_one (ps_ret (pe_callBK (crk_max hr.units rfl) (by rfl) T.b_max bt_max (pa_cons (pe_lc (own := [("k", 2)]) (by rfl) sc_lev_at.nd (pi_list (pv 1)) (blkOk_by (N := n_lev_at) (sc := defScope s_lev_at) (by decide +kernel)) (fun _ _ _ _ _ => (pg_name (i := 2) sc_lev_at.nd rfl (Or.inl rfl))) (fun _ _ _ _ _ => pts_nil) (fun _ _ _ _ _ => (pe_ix ix_seq (pe_ix ix_seq (pe_fld (pv 0) rfl) (pv 2) (fun _ _ => rfl)) (pe_un un_neg pe_int) (fun _ _ => rfl)))) pa_nil) (pk_cons pe_int pk_nil))))
theorem ok_raised {f : Addr} {fd : FuncData} (F : Fun K "raised" "Levels.raised" s_raised f fd) (T : Txt K mg G)  : FnOk P w K mg base CX0 1 f fd ["self", "boxes", "level"] (sp_raised K G) := by
  refine F.ok sc_raised (fun vs H Q E h => len_raised h) (fun cdv A outer s H vs Q E hr h => ⟨t_raised K G, ?_, r_raised ⟨T.cl_Levels, T.a_Levels_rows, T.cl_Hall, T.a_Hall_deeds, T.a_Hall_known, T.a_Hall_touched, T.a_Hall_changed⟩ h⟩)
  exact (pss_one (ps_for PassesOwn.never rfl (pi_list (pv 1)) (pg_name (i := 3) sc_raised.nd rfl (Or.inl rfl))
  (pss_one (ps_expr (pe_bm PySem.F.plainAttrs_list PySem.F.slot_list_append PySem.F.type_list_append mt_append (pe_ix ix_seq (pe_fld (pv 0) rfl) (pv 3) (fun _ _ => rfl)) (pa_cons (pe_callB (call_max2 rfl) (by rfl) T.b_max bt_max (pa_cons (pv 2) (pa_cons (pe_ix ix_seq (pe_ix ix_seq (pe_fld (pv 0) rfl) (pv 3) (fun _ _ => rfl)) (pe_un un_neg pe_int) (fun _ _ => rfl)) pa_nil))) pa_nil))))))
theorem ok_lowered {f : Addr} {fd : FuncData} (F : Fun K "lowered" "Levels.lowered" s_lowered f fd) (T : Txt K mg G)  : FnOk P w K mg base CX0 1 f fd ["self", "boxes"] (sp_lowered K G) := by
  refine F.ok sc_lowered (fun vs H Q E h => len_lowered h) (fun cdv A outer s H vs Q E hr h => ⟨t_lowered K G, ?_, r_lowered ⟨T.cl_Levels, T.a_Levels_rows, T.cl_Hall, T.a_Hall_deeds, T.a_Hall_known, T.a_Hall_touched, T.a_Hall_changed⟩ h⟩)
  exact (pss_one (ps_for PassesOwn.never rfl (pi_list (pv 1)) (pg_name (i := 2) sc_lowered.nd rfl (Or.inl rfl))
  (pss_one (ps_expr (pe_bm0 PySem.F.plainAttrs_list PySem.F.slot_list_pop PySem.F.type_list_pop mt_pop (pe_ix ix_seq (pe_fld (pv 0) rfl) (pv 2) (fun _ _ => rfl)))))))
theorem ok_hall_init {f : Addr} {fd : FuncData} (F : Fun K "__init__" "Hall.__init__" s_hall_init f fd) (T : Txt K mg G) (C_lev_init : Mak P w K mg base CX0 (G "Levels") 1 ["self"] (sp_lev_init K G)) : FnOk P w K mg base CX0 3 f fd ["self"] (sp_hall_init K G) := by
  refine F.ok sc_hall_init (fun vs H Q E h => len_hall_init h) (fun cdv A outer s H vs Q E hr h => ⟨t_hall_init K G, ?_, r_hall_init ⟨T.cl_Levels, T.a_Levels_rows, T.cl_Hall, T.a_Hall_deeds, T.a_Hall_known, T.a_Hall_touched, T.a_Hall_changed⟩ h⟩)
  exact (pss_cons (ps_fld (pv 0) (pe_lst pa_nil) rfl)
  (pss_cons (ps_fld (pv 0) (pe_lst pa_nil) rfl)
  (pss_cons (ps_fld (pv 0) (pe_mk0 C_lev_init (hr.mono (by decide)) (by rfl) T.g_Levels pass0) rfl)
  (pss_one (ps_fld (pv 0) (pe_mk0 C_lev_init (hr.mono (by decide)) (by rfl) T.g_Levels pass0) rfl)))))
theorem ok_put {f : Addr} {fd : FuncData} (F : Fun K "put" "Hall.put" s_put f fd) (T : Txt K mg G) (C_boxes_of : Cal P w K mg base CX0 "boxes_of" 1 ["bits"] [] (sp_boxes_of K)) (C_lev_at : Mth P w K mg base CX0 (G "Levels") "at" 1 ["self", "boxes"] (sp_lev_at K G)) (C_raised : Mth P w K mg base CX0 (G "Levels") "raised" 1 ["self", "boxes", "level"] (sp_raised K G)) : FnOk P w K mg base CX0 2 f fd ["self", "deed"] (sp_put K G) := by
  refine F.ok sc_put (fun vs H Q E h => len_put h) (fun cdv A outer s H vs Q E hr h => ⟨t_put K G, ?_, r_put ⟨T.cl_Levels, T.a_Levels_rows, T.cl_Hall, T.a_Hall_deeds, T.a_Hall_known, T.a_Hall_touched, T.a_Hall_changed⟩ h⟩)
  exact (pss_cons (ps_set (i := 2) sc_put.nd rfl (Or.inl rfl) (pe_cal C_boxes_of (hr.mono (by decide)) .nil (by rfl) pass0 (pa_cons (pe_ix ix_seq (pv 1) pe_int (fun _ _ => rfl)) pa_nil)))
  (pss_cons (ps_set (i := 3) sc_put.nd rfl (Or.inl rfl) (pe_cal C_boxes_of (hr.mono (by decide)) .nil (by rfl) pass0 (pa_cons (pe_ix ix_seq (pv 1) pe_int (fun _ _ => rfl)) pa_nil)))
  (pss_cons (ps_set (i := 4) sc_put.nd rfl (Or.inl rfl) (pe_callB (call_max2 rfl) (by rfl) T.b_max bt_max (pa_cons (pe_mth (pe_fld (pv 0) rfl) T.cl_Levels C_lev_at (hr.mono (by decide)) pass0 (pa_cons (pv 2) pa_nil)) (pa_cons (pe_mth (pe_fld (pv 0) rfl) T.cl_Levels C_lev_at (hr.mono (by decide)) pass0 (pa_cons (pv 3) pa_nil)) pa_nil))))
  (pss_cons (ps_expr (pe_mth (pe_fld (pv 0) rfl) T.cl_Levels C_raised (hr.mono (by decide)) pass0 (pa_cons (pv 3) (pa_cons (pe_op op_plus (pv 4) pe_int) pa_nil))))
  (pss_cons (ps_expr (pe_mth (pe_fld (pv 0) rfl) T.cl_Levels C_raised (hr.mono (by decide)) pass0 (pa_cons (pe_cal C_boxes_of (hr.mono (by decide)) .nil (by rfl) pass0 (pa_cons (pe_op op_or (pe_ix ix_seq (pv 1) pe_int (fun _ _ => rfl)) (pe_ix ix_seq (pv 1) pe_int (fun _ _ => rfl))) pa_nil)) (pa_cons (pe_op op_plus (pv 4) pe_int) pa_nil))))
  (pss_cons (ps_expr (pe_bm PySem.F.plainAttrs_list PySem.F.slot_list_append PySem.F.type_list_append mt_append (pe_fld (pv 0) rfl) (pa_cons (pv 1) pa_nil)))
  (pss_cons (ps_expr (pe_bm PySem.F.plainAttrs_list PySem.F.slot_list_append PySem.F.type_list_append mt_append (pe_fld (pv 0) rfl) (pa_cons (pv 4) pa_nil)))
  (pss_one (ps_ret (pv 4))))))))))
theorem ok_back {f : Addr} {fd : FuncData} (F : Fun K "back" "Hall.back" s_back f fd) (T : Txt K mg G) (C_boxes_of : Cal P w K mg base CX0 "boxes_of" 1 ["bits"] [] (sp_boxes_of K)) (C_lowered : Mth P w K mg base CX0 (G "Levels") "lowered" 1 ["self", "boxes"] (sp_lowered K G)) : FnOk P w K mg base (L2.CX P w) 2 f fd ["self"] (sp_back K G) := by
  refine F.okX sc_back (fun vs H Q E h => len_back h) (fun cdv A outer s H vs Q E hr h => ⟨t_back K G E, ?_, r_back ⟨T.cl_Levels, T.a_Levels_rows, T.cl_Hall, T.a_Hall_deeds, T.a_Hall_known, T.a_Hall_touched, T.a_Hall_changed⟩ h⟩)
  exact (pss_cons (ps_if (pt_cmpR (op_eqA hr.units) (pe_fld (pv 0) rfl) (pe_lst pa_nil) (nomark _))
  (pss_one (ps_raise rfl (takes_of rfl rfl rfl rfl) (pmk_own PySem.F.excBase_ValueError T.x_Nothing T.g_Nothing T.k_Nothing (raises_own T.s_Nothing T.t_Nothing) (by rfl))))
  pss_nil)
  (pss_cons (ps_set (i := 1) sc_back.nd rfl (Or.inl rfl) (pe_bm0 PySem.F.plainAttrs_list PySem.F.slot_list_pop PySem.F.type_list_pop mt_pop (pe_fld (pv 0) rfl)))
  (pss_cons (ps_expr (pe_bm0 PySem.F.plainAttrs_list PySem.F.slot_list_pop PySem.F.type_list_pop mt_pop (pe_fld (pv 0) rfl)))
  (pss_cons (ps_expr (pe_mth (pe_fld (pv 0) rfl) T.cl_Levels C_lowered (hr.mono (by decide)) pass0 (pa_cons (pe_cal C_boxes_of (hr.mono (by decide)) .nil (by rfl) pass0 (pa_cons (pe_ix ix_seq (pv 1) pe_int (fun _ _ => rfl)) pa_nil)) pa_nil)))
  (pss_cons (ps_expr (pe_mth (pe_fld (pv 0) rfl) T.cl_Levels C_lowered (hr.mono (by decide)) pass0 (pa_cons (pe_cal C_boxes_of (hr.mono (by decide)) .nil (by rfl) pass0 (pa_cons (pe_op op_or (pe_ix ix_seq (pv 1) pe_int (fun _ _ => rfl)) (pe_ix ix_seq (pv 1) pe_int (fun _ _ => rfl))) pa_nil)) pa_nil)))
  (pss_one (ps_ret (pv 1))))))))
theorem ok_rounds {f : Addr} {fd : FuncData} (F : Fun K "rounds" "Hall.rounds" s_rounds f fd) (T : Txt K mg G) (C_laid : Cal P w K mg base CX0 "laid" 1 ["diary", "known"] [] (sp_laid K)) : FnOk P w K mg base CX0 2 f fd ["self"] (sp_rounds K G) := by
  refine F.ok sc_rounds (fun vs H Q E h => len_rounds h) (fun cdv A outer s H vs Q E hr h => ⟨t_rounds K G, ?_, r_rounds ⟨T.cl_Levels, T.a_Levels_rows, T.cl_Hall, T.a_Hall_deeds, T.a_Hall_known, T.a_Hall_touched, T.a_Hall_changed⟩ h⟩)
  exact (pss_one (ps_ret (pe_cal C_laid (hr.mono (by decide)) .nil (by rfl) pass0 (pa_cons (pe_fld (pv 0) rfl) (pa_cons (pe_fld (pv 0) rfl) pa_nil)))))
theorem ok_many {f : Addr} {fd : FuncData} (F : Fun K "many" "Hall.many" s_many f fd) (T : Txt K mg G)  : FnOk P w K mg base CX0 1 f fd ["self"] (sp_many K G) := by
  refine F.ok sc_many (fun vs H Q E h => len_many h) (fun cdv A outer s H vs Q E hr h => ⟨t_many K G, ?_, r_many ⟨T.cl_Levels, T.a_Levels_rows, T.cl_Hall, T.a_Hall_deeds, T.a_Hall_known, T.a_Hall_touched, T.a_Hall_changed⟩ h⟩)
  exact (pss_one (ps_ret (pe_callB call_len_seq (by rfl) T.b_len bt_len (pa_cons (pe_fld (pv 0) rfl) pa_nil))))
theorem ok_cell_at {f : Addr} {fd : FuncData} (F : Fun K "_law_cell_at" "_law_cell_at" s_cell_at f fd) (T : Txt K mg G)  : FnOk P w K mg base CX0 1 f fd ["_law_script", "_law_k"] (sp_cell_at K) := by
  refine F.ok sc_cell_at (fun vs H Q E h => len_cell_at h) (fun cdv A outer s H vs Q E hr h => ⟨t_cell_at K, ?_, r_cell_at h⟩)
  exact (pss_cons (ps_if (pt_cmpR op_lt (pv 1) (pe_callB call_len_seq (by rfl) T.b_len bt_len (pa_cons (pv 0) pa_nil)) (nomark _))
  (pss_one (ps_ret (pe_ix ix_seq (pv 0) (pv 1) (fun _ _ => rfl))))
  pss_nil)
  (pss_one (ps_ret pe_int)))
theorem ok_lclash {f : Addr} {fd : FuncData} (F : Fun K "_law_clash" "_law_clash" s_lclash f fd) (T : Txt K mg G)  : FnOk P w K mg base CX0 1 f fd ["_law_one", "_law_other"] (sp_clash K) := by
  refine F.ok sc_lclash (fun vs H Q E h => len_lclash h) (fun cdv A outer s H vs Q E hr h => ⟨t_lclash K, ?_, r_lclash h⟩)
  exact (pss_cons (ps_if (pt_cmpR (op_neA hr.units) (pe_op op_and (pe_ix ix_seq (pv 0) pe_int (fun _ _ => rfl)) (pe_op op_or (pe_ix ix_seq (pv 1) pe_int (fun _ _ => rfl)) (pe_ix ix_seq (pv 1) pe_int (fun _ _ => rfl)))) pe_int (nomark _))
  (pss_one (ps_ret pe_bl))
  pss_nil)
  (pss_one (ps_ret (pe_cmpR (op_neA hr.units) (pe_op op_and (pe_ix ix_seq (pv 1) pe_int (fun _ _ => rfl)) (pe_ix ix_seq (pv 0) pe_int (fun _ _ => rfl))) pe_int (nomark _)))))
theorem ok_bits {f : Addr} {fd : FuncData} (F : Fun K "_law_bits" "_law_bits" s_bits f fd) (T : Txt K mg G)  : FnOk P w K mg base CX0 1 f fd ["_law_which", "_law_boxes"] (sp_bits K) := by
  refine F.ok sc_bits (fun vs H Q E h => len_bits h) (fun cdv A outer s H vs Q E hr h => ⟨t_bits K, ?_, r_bits h⟩)
  exact (pss_cons (ps_set (i := 2) sc_bits.nd rfl (Or.inl rfl) pe_int)
  (pss_cons (ps_for PassesOwn.never rfl (pi_range1 (by rfl) T.b_range (pa_cons pe_int pa_nil)) (pg_name (i := 3) sc_bits.nd rfl (Or.inl rfl))
  (pss_one (ps_if (pt_cmpR (op_eqA hr.units) (pe_op op_mod (pe_op op_fdivW (pv 0) (pe_ix ix_seq (pe_lst (pa_cons pe_int (pa_cons pe_int (pa_cons pe_int pa_nil)))) (pv 3) (fun _ _ => rfl))) pe_int) pe_int (nomark _))
  (pss_one (ps_set (i := 2) sc_bits.nd rfl (Or.inl rfl) (pe_op op_or (pv 2) (pe_op op_shl pe_int (pe_ix ix_seq (pv 1) (pv 3) (fun _ _ => rfl))))))
  pss_nil)))
  (pss_one (ps_ret (pv 2)))))
theorem ok_far_bits {f : Addr} {fd : FuncData} (F : Fun K "_law_far_bits" "_law_far_bits" s_far_bits f fd) (T : Txt K mg G)  : FnOk P w K mg base CX0 1 f fd ["_law_cell"] (sp_far_bits K) := by
  refine F.ok sc_far_bits (fun vs H Q E h => len_far_bits h) (fun cdv A outer s H vs Q E hr h => ⟨t_far_bits K, ?_, r_far_bits h⟩)
  exact (pss_cons (ps_if (pt_cmpR (op_eqA hr.units) (pe_op op_mod (pv 0) pe_int) pe_int (nomark _))
  (pss_one (ps_ret pe_int))
  pss_nil)
  (pss_cons (ps_if (pt_cmpR (op_eqA hr.units) (pe_op op_mod (pv 0) pe_int) pe_int (nomark _))
  (pss_one (ps_ret (pe_op op_shl pe_int (pe_op op_mod (pe_op op_fdivW (pv 0) pe_int) pe_int))))
  pss_nil)
  (pss_one (ps_ret (pe_op op_mod (pe_op op_fdivW (pv 0) pe_int) (pe_op op_pow pe_int pe_int))))))
theorem ok_names {f : Addr} {fd : FuncData} (F : Fun K "_law_names" "_law_names" s_names f fd) (T : Txt K mg G)  : FnOk P w K mg base CX0 1 f fd ["_law_cell", "_law_other"] (sp_names K) := by
  refine F.ok sc_names (fun vs H Q E h => len_names h) (fun cdv A outer s H vs Q E hr h => ⟨t_names K, ?_, r_names h⟩)
  exact (pss_cons (ps_set (i := 2) sc_names.nd rfl (Or.inl rfl) (pe_op op_mod (pv 0) (pe_op op_pow pe_int pe_int)))
  (pss_cons (ps_set (i := 3) sc_names.nd rfl (Or.inl rfl) (pe_ix ix_seq (pe_lst (pa_cons pe_int (pa_cons (pe_op op_pow pe_int pe_int) (pa_cons (pe_op op_pow pe_int pe_int) (pa_cons (pe_op op_pow pe_int pe_int) pa_nil))))) (pe_op op_mod (pv 1) pe_int) (fun _ _ => rfl)))
  (pss_one (ps_ret (pe_lst (pa_cons (pv 2) (pa_cons (pe_op op_mod (pe_op op_plus (pv 2) (pv 3)) (pe_op op_pow pe_int pe_int)) (pa_cons (pe_op op_mod (pe_op op_plus (pv 2) (pe_op op_mul pe_int (pv 3))) (pe_op op_pow pe_int pe_int)) pa_nil))))))))
theorem ok_near {f : Addr} {fd : FuncData} (F : Fun K "_law_near" "_law_near" s_near f fd) (T : Txt K mg G) (C_bits : Cal P w K mg base CX0 "_law_bits" 1 ["_law_which", "_law_boxes"] [] (sp_bits K)) : FnOk P w K mg base CX0 2 f fd ["_law_number", "_law_names_here", "_law_boxes"] (sp_near K) := by
  refine F.ok sc_near (fun vs H Q E h => len_near h) (fun cdv A outer s H vs Q E hr h => ⟨t_near K, ?_, r_near h⟩)
  exact (pss_cons (ps_set (i := 3) sc_near.nd rfl (Or.inl rfl) (pe_ix ix_seq (pe_lst (pa_cons pe_int (pa_cons pe_int (pa_cons pe_int (pa_cons pe_int (pa_cons pe_int (pa_cons pe_int (pa_cons pe_int (pa_cons pe_int (pa_cons pe_int (pa_cons pe_int (pa_cons pe_int (pa_cons pe_int pa_nil))))))))))))) (pe_op op_mod (pe_op op_fdivW (pv 0) pe_int) pe_int) (fun _ _ => rfl)))
  (pss_one (ps_ret (pe_tup (pa_cons (pe_ix ix_seq (pv 1) (pe_op op_mod (pv 0) pe_int) (fun _ _ => rfl)) (pa_cons (pe_cal C_bits (hr.mono (by decide)) .nil (by rfl) pass0 (pa_cons (pe_op op_mod (pe_op op_fdivW (pv 0) pe_int) pe_int) (pa_cons (pv 2) pa_nil))) (pa_cons (pe_cal C_bits (hr.mono (by decide)) .nil (by rfl) pass0 (pa_cons (pv 3) (pa_cons (pv 2) pa_nil))) pa_nil)))))))
theorem ok_deeds6 {f : Addr} {fd : FuncData} (F : Fun K "_law_deeds" "_law_deeds" s_deeds6 f fd) (T : Txt K mg G) (C_cell_at : Cal P w K mg base CX0 "_law_cell_at" 1 ["_law_script", "_law_k"] [] (sp_cell_at K)) (C_far_bits : Cal P w K mg base CX0 "_law_far_bits" 1 ["_law_cell"] [] (sp_far_bits K)) (C_names : Cal P w K mg base CX0 "_law_names" 1 ["_law_cell", "_law_other"] [] (sp_names K)) (C_near : Cal P w K mg base CX0 "_law_near" 2 ["_law_number", "_law_names_here", "_law_boxes"] [] (sp_near K)) : FnOk P w K mg base CX0 3 f fd ["_law_script", "_law_most"] (sp_deeds6 K) := by
  refine F.ok sc_deeds6 (fun vs H Q E h => len_deeds6 h) (fun cdv A outer s H vs Q E hr h => ⟨t_deeds6 K, ?_, r_deeds6 h⟩)
  exact (pss_cons (ps_set (i := 2) sc_deeds6.nd rfl (Or.inl rfl) (pe_slice sl_any (pv 0) (po_some pe_int) (po_some (pv 1))))
  (pss_cons (ps_if (pt_cmpR (op_eqA hr.units) (pe_op op_mod (pe_cal C_cell_at (hr.mono (by decide)) .nil (by rfl) pass0 (pa_cons (pv 0) (pa_cons pe_int pa_nil))) pe_int) pe_int (nomark _))
  (pss_cons (ps_set (i := 3) sc_deeds6.nd rfl (Or.inl rfl) (pe_lst pa_nil))
  (pss_cons (ps_for PassesOwn.never rfl (pi_range1 (by rfl) T.b_range (pa_cons (pe_op op_fdivW (pe_callB call_len_seq (by rfl) T.b_len bt_len (pa_cons (pv 2) pa_nil)) pe_int) pa_nil)) (pg_name (i := 4) sc_deeds6.nd rfl (Or.inl rfl))
  (pss_cons (ps_set (i := 5) sc_deeds6.nd rfl (Or.inl rfl) (pe_cal C_far_bits (hr.mono (by decide)) .nil (by rfl) pass0 (pa_cons (pe_ix ix_seq (pv 2) (pe_op op_plus (pe_op op_mul pe_int (pv 4)) pe_int) (fun _ _ => rfl)) pa_nil)))
  (pss_cons (ps_set (i := 6) sc_deeds6.nd rfl (Or.inl rfl) (pe_tup (pa_cons (pe_op op_mod (pe_op op_fdivW (pe_ix ix_seq (pv 2) (pe_op op_mul pe_int (pv 4)) (fun _ _ => rfl)) pe_int) (pe_op op_pow pe_int pe_int)) (pa_cons (pv 5) (pa_cons (pe_cal C_far_bits (hr.mono (by decide)) .nil (by rfl) pass0 (pa_cons (pe_ix ix_seq (pv 2) (pe_op op_plus (pe_op op_mul pe_int (pv 4)) pe_int) (fun _ _ => rfl)) pa_nil)) pa_nil)))))
  (pss_one (ps_expr (pe_bm PySem.F.plainAttrs_list PySem.F.slot_list_append PySem.F.type_list_append mt_append (pv 3) (pa_cons (pe_tup (pa_cons (pe_op op_mod (pe_ix ix_seq (pv 2) (pe_op op_mul pe_int (pv 4)) (fun _ _ => rfl)) pe_int) (pa_cons (pv 6) pa_nil))) pa_nil)))))))
  (pss_one (ps_ret (pv 3)))))
  pss_nil)
  (pss_cons (ps_set (i := 7) sc_deeds6.nd rfl (Or.inl rfl) (pe_cal C_names (hr.mono (by decide)) .nil (by rfl) pass0 (pa_cons (pe_cal C_cell_at (hr.mono (by decide)) .nil (by rfl) pass0 (pa_cons (pv 0) (pa_cons pe_int pa_nil))) (pa_cons (pe_cal C_cell_at (hr.mono (by decide)) .nil (by rfl) pass0 (pa_cons (pv 0) (pa_cons pe_int pa_nil))) pa_nil))))
  (pss_cons (ps_setLc (i := 8) (own := [("_law_k", 4)]) (by rfl) sc_deeds6.nd rfl rfl (sw_true rfl rfl rfl (by decide +kernel)) (pi_range1 (by rfl) T.b_range (pa_cons pe_int pa_nil)) (blkOk_by (N := n_deeds6) (sc := defScope s_deeds6) (by decide +kernel)) (fun _ _ _ _ _ => (pg_name (i := 4) sc_deeds6.nd rfl (Or.inl rfl))) (fun _ _ _ _ _ => pts_nil) (fun _ _ _ _ _ => (pe_op op_mod (pe_cal C_cell_at (hr.mono (by decide)) .nil (by rfl) pass0 (pa_cons (pv 0) (pa_cons (pe_op op_plus pe_int (pv 4)) pa_nil))) pe_int)))
  (pss_cons (ps_set (i := 9) sc_deeds6.nd rfl (Or.inl rfl) (pe_lst pa_nil))
  (pss_cons (ps_for PassesOwn.never rfl (pi_list (pv 2)) (pg_name (i := 10) sc_deeds6.nd rfl (Or.inl rfl))
  (pss_cons (ps_set (i := 11) sc_deeds6.nd rfl (Or.inl rfl) (pe_op op_mod (pe_op op_plus (pe_op op_mul (pv 10) pe_int) (pe_op op_fdivW (pv 10) pe_int)) pe_int))
  (pss_one (ps_expr (pe_bm PySem.F.plainAttrs_list PySem.F.slot_list_append PySem.F.type_list_append mt_append (pv 9) (pa_cons (pe_tup (pa_cons (pe_op op_mod (pv 10) pe_int) (pa_cons (pe_cal C_near (hr.mono (by decide)) .nil (by rfl) pass0 (pa_cons (pv 11) (pa_cons (pv 7) (pa_cons (pv 8) pa_nil)))) pa_nil))) pa_nil))))))
  (pss_one (ps_ret (pv 9)))))))))
theorem ok_same {f : Addr} {fd : FuncData} (F : Fun K "_law_same" "_law_same" s_same f fd) (T : Txt K mg G) (hm : mg "_law_same" = some (.ref f)) (hb : Binds K fd ["_law_found", "_law_due"] []) : ∀ n : Nat, FnOk P w K mg base CX0 n f fd ["_law_found", "_law_due"] (sp_same n K)
  | 0 => ⟨fun vs H Q E h => (none_same h).elim, fun _ _ _ _ _ _ _ _ _ _ _ _ _ h => (none_same h).elim⟩
  | n + 1 => by
    have C_self : Cal P w K mg base CX0 "_law_same" n ["_law_found", "_law_due"] [] (sp_same n K) := ⟨_, _, ok_same F T hm hb n, hm, F.kp, hb⟩
    refine F.ok sc_same (fun vs H Q E h => len_same h) (fun cdv A outer s H vs Q E hr h => ⟨t_same n K, ?_, r_same h⟩)
    exact (pss_cons (ps_if (pt_val (pe_callB call_isi (by rfl) T.b_isinstance bt_isinstance (pa_cons (pv 1) (pa_cons (pe_bltn (v := .ty "int") (by rfl) T.b_int bt_int (by rfl)) pa_nil))))
  (pss_one (ps_ret (pe_and (pe_callB call_isi (by rfl) T.b_isinstance bt_isinstance (pa_cons (pv 0) (pa_cons (pe_bltn (v := .ty "int") (by rfl) T.b_int bt_int (by rfl)) pa_nil))) (pe_and (pe_not (pe_callB call_isi (by rfl) T.b_isinstance bt_isinstance (pa_cons (pv 0) (pa_cons (pe_bltn (v := .ty "bool") (by rfl) T.b_bool bt_bool (by rfl)) pa_nil)))) (pe_one (pe_cmpR (op_eqA hr.units) (pv 0) (pv 1) (nomark _)))))))
  pss_nil)
  (pss_cutR (ps_if (pt_val (pe_callB call_isi (by rfl) T.b_isinstance bt_isinstance (pa_cons (pv 1) (pa_cons (pe_bltn (v := .ty "tuple") (by rfl) T.b_tuple bt_tuple (by rfl)) pa_nil))))
  (pss_one (ps_if (pt_not (pt_val (pe_callB call_isi (by rfl) T.b_isinstance bt_isinstance (pa_cons (pv 0) (pa_cons (pe_bltn (v := .ty "tuple") (by rfl) T.b_tuple bt_tuple (by rfl)) pa_nil)))))
  (pss_one (ps_ret pe_bl))
  pss_nil))
  (pss_one (ps_if (pt_not (pt_val (pe_callB call_isi (by rfl) T.b_isinstance bt_isinstance (pa_cons (pv 0) (pa_cons (pe_bltn (v := .ty "list") (by rfl) T.b_list bt_list (by rfl)) pa_nil)))))
  (pss_one (ps_ret pe_bl))
  pss_nil)))
  (pss_cons (ps_if (pt_cmpR (op_neA hr.units) (pe_callB call_len_seq (by rfl) T.b_len bt_len (pa_cons (pv 0) pa_nil)) (pe_callB call_len_seq (by rfl) T.b_len bt_len (pa_cons (pv 1) pa_nil)) (nomark _))
  (pss_one (ps_ret pe_bl))
  pss_nil)
  (pss_cons (ps_for PassesOwn.never rfl (RZ.pi_zipA (by rfl) T.b_zip (pa_cons (pv 0) (pa_cons (pv 1) pa_nil))) (pg_tup rfl (pgs_cons (pg_name (i := 2) sc_same.nd rfl (Or.inl rfl)) (pgs_cons (pg_name (i := 3) sc_same.nd rfl (Or.inl rfl)) pgs_nil)))
  (pss_one (ps_if (pt_not (pt_val (pe_cal C_self (hr.mono (Nat.le_refl _)) .nil (by rfl) pass0 (pa_cons (pv 2) (pa_cons (pv 3) pa_nil)))))
  (pss_one (ps_ret pe_bl))
  pss_nil)))
  (pss_one (ps_ret pe_bl))))))
theorem ok_lrounds {f : Addr} {fd : FuncData} (F : Fun K "_law_rounds" "_law_rounds" s_lrounds f fd) (T : Txt K mg G)  : FnOk P w K mg base CX0 1 f fd ["_law_row"] (sp_lrounds K) := by
  refine F.ok sc_lrounds (fun vs H Q E h => len_lrounds h) (fun cdv A outer s H vs Q E hr h => ⟨t_lrounds K, ?_, r_lrounds h⟩)
  exact (pss_cons (ps_setLc (i := 1) (own := [("_law_k", 4)]) (by rfl) sc_lrounds.nd rfl rfl (sw_true rfl rfl rfl (by decide +kernel)) (pi_range1 (by rfl) T.b_range (pa_cons (pe_op op_plus (pe_callBK (crk_max hr.units rfl) (by rfl) T.b_max bt_max (pa_cons (pe_lc (own := [("_law_one", 2), ("_law_high", 3)]) (by rfl) sc_lrounds.nd (pi_list (pv 0)) (blkOk_by (N := n_lrounds) (sc := defScope s_lrounds) (by decide +kernel)) (fun _ _ _ _ _ => (pg_tup rfl (pgs_cons (pg_name (i := 2) sc_lrounds.nd rfl (Or.inl rfl)) (pgs_cons (pg_name (i := 3) sc_lrounds.nd rfl (Or.inl rfl)) pgs_nil)))) (fun _ _ _ _ _ => pts_nil) (fun _ _ _ _ _ => (pv 3))) pa_nil) (pk_cons (pe_un un_neg pe_int) pk_nil)) pe_int) pa_nil)) (blkOk_by (N := n_lrounds) (sc := defScope s_lrounds) (by decide +kernel)) (fun _ _ _ _ _ => (pg_name (i := 4) sc_lrounds.nd rfl (Or.inl rfl))) (fun _ _ _ _ _ => pts_nil) (fun _ _ _ _ _ => (pe_lst pa_nil)))
  (pss_cons (ps_for PassesOwn.never rfl (pi_list (pv 0)) (pg_tup rfl (pgs_cons (pg_name (i := 2) sc_lrounds.nd rfl (Or.inl rfl)) (pgs_cons (pg_name (i := 3) sc_lrounds.nd rfl (Or.inl rfl)) pgs_nil)))
  (pss_one (ps_expr (pe_bm PySem.F.plainAttrs_list PySem.F.slot_list_append PySem.F.type_list_append mt_append (pe_ix ix_seq (pv 1) (pv 3) (fun _ _ => rfl)) (pa_cons (pv 2) pa_nil)))))
  (pss_one (ps_ret (pe_lc (own := [("_law_some", 5)]) (by rfl) sc_lrounds.nd (pi_list (pv 1)) (blkOk_by (N := n_lrounds) (sc := defScope s_lrounds) (by decide +kernel)) (fun _ _ _ _ _ => (pg_name (i := 5) sc_lrounds.nd rfl (Or.inl rfl))) (fun _ _ _ _ _ => pts_nil) (fun _ _ _ _ _ => (pe_callB (cr_sortedD hr.units) (by rfl) T.b_sorted bt_sorted (pa_cons (pv 5) pa_nil))))))))
theorem ok_refused_k06 {f : Addr} {fd : FuncData} (F : Fun K "_law_refused" "_law_refused" s_refused_k06 f fd) (T : Txt K mg G) (C_back : Mth P w K mg base (L2.CX P w) (G "Hall") "back" 2 ["self"] (sp_back K G)) : FnOk P w K mg base CX0 3 f fd ["_law_hall"] (sp_refused_k06 K G) := by
  refine F.ok sc_refused_k06 (fun vs H Q E h => len_refused_k06 h) (fun cdv A outer s H vs Q E hr h => ⟨t_refused_k06 K G, ?_, r_refused_k06 T.xf_Nothing h⟩)
  exact (pss_cons (ps_set (i := 1) sc_refused_k06.nd rfl (Or.inl rfl) pe_non)
  (pss_cons (by exact (ps_try_keep (i := 2) (tb := fun W => (tDrop (tMethW (G "Hall") "back" (sp_back K G) (WE W) (tVar 0) tNil))) (ts := (fun a cls d => (tAsg (tVar 2) (gName 1)))) rfl rfl sc_refused_k06.nd rfl rfl ⟨rfl, by decide, .inl T.g_PassbyError⟩ rfl (fun W pn xe tk _ => (pss_one (ps_expr (by exact (pe_mthS0 (pv 0) T.cl_Hall C_back (hr.mono (by decide)) (fun σ => passAt tk σ)))))) (fun a oe cls d pn hz hf => (pss_one (ps_set (i := 1) sc_refused_k06.nd rfl (Or.inl rfl) (pv 2))))))
  (pss_cons (ps_if (PW.pt (pw_or (pt_not (pt_val (pe_callB call_isV (by rfl) T.b_isinstance bt_isinstance (pa_cons (pv 1) (pa_cons (pe_glob (by rfl) T.g_Nothing (by rfl)) pa_nil))))) (pw_or1 (pt_not (pt_val (pe_callB call_isV (by rfl) T.b_isinstance bt_isinstance (pa_cons (pv 1) (pa_cons (pe_bltn (v := .ty "ValueError") (by rfl) T.b_ValueError bt_ValueError (by rfl)) pa_nil))))))))
  (pss_one (ps_ret pe_bl))
  pss_nil)
  (pss_cons (ps_if (PW.pt (pw_or (pt_val (pe_callB call_isV (by rfl) T.b_isinstance bt_isinstance (pa_cons (pv 1) (pa_cons (pe_glob (by rfl) T.g_NoDeed (by rfl)) pa_nil)))) (pw_or1 (pt_val (pe_callB call_isV (by rfl) T.b_isinstance bt_isinstance (pa_cons (pv 1) (pa_cons (pe_glob (by rfl) T.g_NoPass (by rfl)) pa_nil)))))))
  (pss_one (ps_ret pe_bl))
  pss_nil)
  (pss_one (ps_ret (pe_not (pe_callB call_isV (by rfl) T.b_isinstance bt_isinstance (pa_cons (pv 1) (pa_cons (pe_glob (by rfl) T.g_NoBox (by rfl)) pa_nil))))))))))
theorem ok_lput {f : Addr} {fd : FuncData} (F : Fun K "_law_put" "_law_put" s_lput f fd) (T : Txt K mg G) (C_lclash : Cal P w K mg base CX0 "_law_clash" 1 ["_law_one", "_law_other"] [] (sp_clash K)) (C_same : Cal P w K mg base CX0 "_law_same" 4 ["_law_found", "_law_due"] [] (sp_same 4 K)) (C_put : Mth P w K mg base CX0 (G "Hall") "put" 2 ["self", "deed"] (sp_put K G)) : FnOk P w K mg base CX0 5 f fd ["_law_hall", "_law_row", "_law_one"] (sp_lput K G) := by
  refine F.ok sc_lput (fun vs H Q E h => len_lput h) (fun cdv A outer s H vs Q E hr h => ⟨t_lput K G, ?_, r_lput h⟩)
  exact (pss_cons (ps_set (i := 3) sc_lput.nd rfl (Or.inl rfl) pe_int)
  (pss_cons (ps_for PassesOwn.never rfl (pi_list (pv 1)) (pg_tup rfl (pgs_cons (pg_name (i := 4) sc_lput.nd rfl (Or.inl rfl)) (pgs_cons (pg_name (i := 5) sc_lput.nd rfl (Or.inl rfl)) pgs_nil)))
  (pss_one (ps_if (PW.pt (pw_and (pt_cmpR op_ge (pv 5) (pv 3) (nomark _)) (pw_and1 (pt_val (pe_cal C_lclash (hr.mono (by decide)) .nil (by rfl) pass0 (pa_cons (pv 2) (pa_cons (pv 4) pa_nil)))))))
  (pss_one (ps_set (i := 3) sc_lput.nd rfl (Or.inl rfl) (pe_op op_plus (pv 5) pe_int)))
  pss_nil)))
  (pss_cons (ps_expr (pe_bm PySem.F.plainAttrs_list PySem.F.slot_list_append PySem.F.type_list_append mt_append (pv 1) (pa_cons (pe_tup (pa_cons (pv 2) (pa_cons (pv 3) pa_nil))) pa_nil)))
  (pss_one (ps_ret (pe_cal C_same (hr.mono (by decide)) .nil (by rfl) pass0 (pa_cons (pe_mth (pv 0) T.cl_Hall C_put (hr.mono (by decide)) pass0 (pa_cons (pv 2) pa_nil)) (pa_cons (pv 3) pa_nil))))))))
theorem ok_lback {f : Addr} {fd : FuncData} (F : Fun K "_law_back" "_law_back" s_lback f fd) (T : Txt K mg G) (C_refused_k06 : Cal P w K mg base CX0 "_law_refused" 3 ["_law_hall"] [] (sp_refused_k06 K G)) (C_same : Cal P w K mg base CX0 "_law_same" 4 ["_law_found", "_law_due"] [] (sp_same 4 K)) (C_back : Mth P w K mg base (L2.CX P w) (G "Hall") "back" 2 ["self"] (sp_back K G)) : FnOk P w K mg base CX0 5 f fd ["_law_hall", "_law_row"] (sp_lback K G) := by
  refine F.ok sc_lback (fun vs H Q E h => len_lback h) (fun cdv A outer s H vs Q E hr h => ⟨t_lback K G, ?_, r_lback h⟩)
  exact (pss_cons (ps_if (pt_cmpR (op_eqA hr.units) (pv 1) (pe_lst pa_nil) (nomark _))
  (pss_one (ps_ret (pe_cal C_refused_k06 (hr.mono (by decide)) .nil (by rfl) pass0 (pa_cons (pv 0) pa_nil))))
  pss_nil)
  (pss_cons (ps_asg (pe_bm0 PySem.F.plainAttrs_list PySem.F.slot_list_pop PySem.F.type_list_pop mt_pop (pv 1)) (pg_tup rfl (pgs_cons (pg_name (i := 2) sc_lback.nd rfl (Or.inl rfl)) (pgs_cons (pg_name (i := 3) sc_lback.nd rfl (Or.inl rfl)) pgs_nil))))
  (pss_one (ps_ret (pe_cal C_same (hr.mono (by decide)) .nil (by rfl) pass0 (pa_cons (pe_mth0 (pv 0) T.cl_Hall C_back (hr.mono (by decide)) passL) (pa_cons (pv 2) pa_nil)))))))
theorem ok_look {f : Addr} {fd : FuncData} (F : Fun K "_law_look" "_law_look" s_look f fd) (T : Txt K mg G) (C_same : Cal P w K mg base CX0 "_law_same" 4 ["_law_found", "_law_due"] [] (sp_same 4 K)) (C_many : Mth P w K mg base CX0 (G "Hall") "many" 1 ["self"] (sp_many K G)) (C_rounds : Mth P w K mg base CX0 (G "Hall") "rounds" 2 ["self"] (sp_rounds K G)) (C_lrounds : Cal P w K mg base CX0 "_law_rounds" 1 ["_law_row"] [] (sp_lrounds K)) : FnOk P w K mg base CX0 5 f fd ["_law_hall", "_law_row", "_law_first", "_law_held"] (sp_look K G) := by
  refine F.ok sc_look (fun vs H Q E h => len_look h) (fun cdv A outer s H vs Q E hr h => ⟨t_look K G, ?_, r_look h⟩)
  exact (pss_cons (ps_if (PW.pt (pw_and (pt_val (pv 2)) (pw_and1 (pt_not (pt_val (pe_cal C_same (hr.mono (by decide)) .nil (by rfl) pass0 (pa_cons (pe_mth0 (pv 0) T.cl_Hall C_many (hr.mono (by decide)) pass0) (pa_cons (pe_callB call_len_seq (by rfl) T.b_len bt_len (pa_cons (pv 1) pa_nil)) pa_nil))))))))
  (pss_one (ps_ret pe_bl))
  pss_nil)
  (pss_cons (ps_set (i := 4) sc_look.nd rfl (Or.inl rfl) (pe_mth0 (pv 0) T.cl_Hall C_rounds (hr.mono (by decide)) pass0))
  (pss_cons (ps_set (i := 5) sc_look.nd rfl (Or.inl rfl) (pe_cal C_lrounds (hr.mono (by decide)) .nil (by rfl) pass0 (pa_cons (pv 1) pa_nil)))
  (pss_cons (ps_if (pt_cmpR (op_neA hr.units) (pv 4) (pv 5) (nomark _))
  (pss_one (ps_ret pe_bl))
  pss_nil)
  (pss_cons (ps_expr (pe_bm PySem.F.plainAttrs_list PySem.F.slot_list_append PySem.F.type_list_append mt_append (pv 3) (pa_cons (pe_tup (pa_cons (pv 4) (pa_cons (pv 5) pa_nil))) pa_nil)))
  (pss_one (ps_ret (pe_or (pv 2) (pe_one (pe_cal C_same (hr.mono (by decide)) .nil (by rfl) pass0 (pa_cons (pe_mth0 (pv 0) T.cl_Hall C_many (hr.mono (by decide)) pass0) (pa_cons (pe_callB call_len_seq (by rfl) T.b_len bt_len (pa_cons (pv 1) pa_nil)) pa_nil))))))))))))
theorem ok_lend {f : Addr} {fd : FuncData} (F : Fun K "_law_end" "_law_end" s_lend f fd) (T : Txt K mg G) (C_lrounds : Cal P w K mg base CX0 "_law_rounds" 1 ["_law_row"] [] (sp_lrounds K)) (C_rounds : Mth P w K mg base CX0 (G "Hall") "rounds" 2 ["self"] (sp_rounds K G)) (C_same : Cal P w K mg base CX0 "_law_same" 4 ["_law_found", "_law_due"] [] (sp_same 4 K)) (C_lback : Cal P w K mg base CX0 "_law_back" 5 ["_law_hall", "_law_row"] [] (sp_lback K G)) (C_look : Cal P w K mg base CX0 "_law_look" 5 ["_law_hall", "_law_row", "_law_first", "_law_held"] [] (sp_look K G)) (C_refused_k06 : Cal P w K mg base CX0 "_law_refused" 3 ["_law_hall"] [] (sp_refused_k06 K G)) (C_lput : Cal P w K mg base CX0 "_law_put" 5 ["_law_hall", "_law_row", "_law_one"] [] (sp_lput K G)) : FnOk P w K mg base CX0 6 f fd ["_law_hall", "_law_row"] (sp_lend K G) := by
  refine F.ok sc_lend (fun vs H Q E h => len_lend h) (fun cdv A outer s H vs Q E hr h => ⟨t_lend K G, ?_, r_lend h⟩)
  exact (pss_cons (ps_set (i := 2) sc_lend.nd rfl (Or.inl rfl) (pe_cal C_lrounds (hr.mono (by decide)) .nil (by rfl) pass0 (pa_cons (pv 1) pa_nil)))
  (pss_cons (ps_set (i := 3) sc_lend.nd rfl (Or.inl rfl) (pe_mth0 (pv 0) T.cl_Hall C_rounds (hr.mono (by decide)) pass0))
  (pss_cons (ps_if (pt_not (pt_val (pe_cal C_same (hr.mono (by decide)) .nil (by rfl) pass0 (pa_cons (pv 3) (pa_cons (pv 2) pa_nil)))))
  (pss_one (ps_ret pe_bl))
  pss_nil)
  (pss_cons (ps_for PassesOwn.never rfl (pi_list (pv 3)) (pg_name (i := 4) sc_lend.nd rfl (Or.inl rfl))
  (pss_one (ps_expr (pe_bm PySem.F.plainAttrs_list PySem.F.slot_list_append PySem.F.type_list_append mt_append (pv 4) (pa_cons (pe_tup (pa_cons pe_int (pa_cons pe_int (pa_cons pe_int pa_nil)))) pa_nil)))))
  (pss_cons (ps_expr (pe_bm PySem.F.plainAttrs_list PySem.F.slot_list_append PySem.F.type_list_append mt_append (pv 3) (pa_cons (pe_lst pa_nil) pa_nil)))
  (pss_cons (ps_if (pt_cmpR (op_neA hr.units) (pe_mth0 (pv 0) T.cl_Hall C_rounds (hr.mono (by decide)) pass0) (pv 2) (nomark _))
  (pss_one (ps_ret pe_bl))
  pss_nil)
  (pss_cons (ps_while PassesOwn.never (pt_cmpR (op_neA hr.units) (pv 1) (pe_lst pa_nil) (nomark _))
  (pss_one (ps_if (pt_not (pt_val (pe_cal C_lback (hr.mono (by decide)) .nil (by rfl) pass0 (pa_cons (pv 0) (pa_cons (pv 1) pa_nil)))))
  (pss_one (ps_ret pe_bl))
  pss_nil)))
  (pss_cons (ps_if (PW.pt (pw_or (pt_not (pt_val (pe_cal C_look (hr.mono (by decide)) .nil (by rfl) pass0 (pa_cons (pv 0) (pa_cons (pv 1) (pa_cons pe_bl (pa_cons (pe_lst pa_nil) pa_nil))))))) (pw_or1 (pt_not (pt_val (pe_cal C_refused_k06 (hr.mono (by decide)) .nil (by rfl) pass0 (pa_cons (pv 0) pa_nil)))))))
  (pss_one (ps_ret pe_bl))
  pss_nil)
  (pss_one (ps_ret (pe_and (pe_cal C_lput (hr.mono (by decide)) .nil (by rfl) pass0 (pa_cons (pv 0) (pa_cons (pv 1) (pa_cons (pe_tup (pa_cons pe_int (pa_cons pe_int (pa_cons pe_int pa_nil)))) pa_nil)))) (pe_one (pe_cal C_look (hr.mono (by decide)) .nil (by rfl) pass0 (pa_cons (pv 0) (pa_cons (pv 1) (pa_cons pe_bl (pa_cons (pe_lst pa_nil) pa_nil)))))))))))))))))
theorem ok_law_k06 {f : Addr} {fd : FuncData} (F : Fun K "law" "law" s_law_k06 f fd) (T : Txt K mg G) (C_hall_init : Mak P w K mg base CX0 (G "Hall") 3 ["self"] (sp_hall_init K G)) (C_deeds6 : Cal P w K mg base CX0 "_law_deeds" 3 ["_law_script", "_law_most"] [] (sp_deeds6 K)) (C_lback : Cal P w K mg base CX0 "_law_back" 5 ["_law_hall", "_law_row"] [] (sp_lback K G)) (C_lput : Cal P w K mg base CX0 "_law_put" 5 ["_law_hall", "_law_row", "_law_one"] [] (sp_lput K G)) (C_look : Cal P w K mg base CX0 "_law_look" 5 ["_law_hall", "_law_row", "_law_first", "_law_held"] [] (sp_look K G)) (C_lend : Cal P w K mg base CX0 "_law_end" 6 ["_law_hall", "_law_row"] [] (sp_lend K G)) : FnOk P w K mg base CX0 7 f fd ["_law_script"] (sp_law K) := by
  refine F.ok sc_law_k06 (fun vs H Q E h => len_law_k06 h) (fun cdv A outer s H vs Q E hr h => ⟨t_law_k06 K G, ?_, r_law_k06 h⟩)
  exact (pss_cons (ps_set (i := 1) sc_law_k06.nd rfl (Or.inl rfl) (pe_lst (pa_cons (pe_mk0 C_hall_init (hr.mono (by decide)) (by rfl) T.g_Hall pass0) (pa_cons (pe_mk0 C_hall_init (hr.mono (by decide)) (by rfl) T.g_Hall pass0) pa_nil))))
  (pss_cons (ps_set (i := 2) sc_law_k06.nd rfl (Or.inl rfl) (pe_lst (pa_cons (pe_lst pa_nil) (pa_cons (pe_lst pa_nil) pa_nil))))
  (pss_cons (ps_set (i := 3) sc_law_k06.nd rfl (Or.inl rfl) (pe_lst pa_nil))
  (pss_cons (ps_for PassesOwn.never rfl (pi_list (pe_cal C_deeds6 (hr.mono (by decide)) .nil (by rfl) pass0 (pa_cons (pv 0) (pa_cons pe_int pa_nil)))) (pg_tup rfl (pgs_cons (pg_name (i := 4) sc_law_k06.nd rfl (Or.inl rfl)) (pgs_cons (pg_name (i := 5) sc_law_k06.nd rfl (Or.inl rfl)) pgs_nil)))
  (pss_cons (ps_set (i := 6) sc_law_k06.nd rfl (Or.inl rfl) (pe_op op_mod (pv 4) pe_int))
  (pss_cutR (ps_if (pt_cmpR (op_eqA hr.units) (pe_op op_mod (pe_op op_fdivW (pv 4) pe_int) pe_int) pe_int (nomark _))
  (pss_one (ps_if (pt_not (pt_val (pe_cal C_lback (hr.mono (by decide)) .nil (by rfl) pass0 (pa_cons (pe_ix ix_seq (pv 1) (pv 6) (fun _ _ => rfl)) (pa_cons (pe_ix ix_seq (pv 2) (pv 6) (fun _ _ => rfl)) pa_nil)))))
  (pss_one (ps_ret pe_bl))
  pss_nil))
  (pss_one (ps_if (pt_not (pt_val (pe_cal C_lput (hr.mono (by decide)) .nil (by rfl) pass0 (pa_cons (pe_ix ix_seq (pv 1) (pv 6) (fun _ _ => rfl)) (pa_cons (pe_ix ix_seq (pv 2) (pv 6) (fun _ _ => rfl)) (pa_cons (pv 5) pa_nil))))))
  (pss_one (ps_ret pe_bl))
  pss_nil)))
  (pss_one (ps_if (pt_cmpR (op_eqA hr.units) (pe_op op_mod (pe_op op_fdivW (pv 4) pe_int) pe_int) pe_int (nomark _))
  (pss_one (ps_for PassesOwn.never rfl (pi_list (pe_lst (pa_cons (pe_op op_sub pe_int (pv 6)) (pa_cons (pv 6) pa_nil)))) (pg_name (i := 7) sc_law_k06.nd rfl (Or.inl rfl))
  (pss_one (ps_if (pt_not (pt_val (pe_cal C_look (hr.mono (by decide)) .nil (by rfl) pass0 (pa_cons (pe_ix ix_seq (pv 1) (pv 7) (fun _ _ => rfl)) (pa_cons (pe_ix ix_seq (pv 2) (pv 7) (fun _ _ => rfl)) (pa_cons (pe_cmpR (op_eqA hr.units) (pe_op op_mod (pe_op op_fdivW (pv 4) pe_int) pe_int) (pv 7) (nomark _)) (pa_cons (pv 3) pa_nil)))))))
  (pss_one (ps_ret pe_bl))
  pss_nil))))
  pss_nil)))))
  (pss_cons (ps_if (PW.pt (pw_or (pt_not (pt_val (pe_cal C_lend (hr.mono (by decide)) .nil (by rfl) pass0 (pa_cons (pe_ix ix_seq (pv 1) pe_int (fun _ _ => rfl)) (pa_cons (pe_ix ix_seq (pv 2) pe_int (fun _ _ => rfl)) pa_nil))))) (pw_or1 (pt_not (pt_val (pe_cal C_lend (hr.mono (by decide)) .nil (by rfl) pass0 (pa_cons (pe_ix ix_seq (pv 1) pe_int (fun _ _ => rfl)) (pa_cons (pe_ix ix_seq (pv 2) pe_int (fun _ _ => rfl)) pa_nil))))))))
  (pss_one (ps_ret pe_bl))
  pss_nil)
  (pss_cons (ps_for PassesOwn.never rfl (pi_list (pv 3)) (pg_tup rfl (pgs_cons (pg_name (i := 8) sc_law_k06.nd rfl (Or.inl rfl)) (pgs_cons (pg_name (i := 9) sc_law_k06.nd rfl (Or.inl rfl)) pgs_nil)))
  (pss_one (ps_if (pt_cmpR (op_neA hr.units) (pv 8) (pv 9) (nomark _))
  (pss_one (ps_ret pe_bl))
  pss_nil)))
  (pss_one (ps_ret pe_bl))))))))
end
theorem all_mk {l : PySem.W.OpenLaw} {w : World} {K : PySem.W.Frag} {h : Heap} {mg : Str → Option Value} {fa : Addr} (X : K.In h) (Gx : h.Ns mainGlobals mg) (hfa : mg "law" = some (.ref fa))
    {f_boxes_of f_laid f_lev_init f_lev_at f_raised f_lowered f_hall_init f_put f_back f_rounds f_many f_cell_at f_lclash f_bits f_far_bits f_names f_near f_deeds6 f_same f_lrounds f_refused_k06 f_lput f_lback f_look f_lend f_law_k06 : Addr}
    {C_Hall C_Levels C_NoBox C_NoDeed C_NoPass C_Nothing C_PassbyError : Addr}
    {od0 an0 : Option Addr} {sl0 : Array (Option Value)} {oc0 kV0 dc0 pm0 cd0 ct0 : Value}
    {od1 an1 : Option Addr} {sl1 : Array (Option Value)} {oc1 kV1 dc1 pm1 cd1 ct1 : Value}
    {od2 an2 : Option Addr} {sl2 : Array (Option Value)} {oc2 kV2 dc2 pm2 cd2 ct2 : Value}
    {od3 an3 : Option Addr} {sl3 : Array (Option Value)} {oc3 kV3 dc3 pm3 cd3 ct3 : Value}
    {od4 an4 : Option Addr} {sl4 : Array (Option Value)} {oc4 kV4 dc4 pm4 cd4 ct4 : Value}
    {od5 an5 : Option Addr} {sl5 : Array (Option Value)} {oc5 kV5 dc5 pm5 cd5 ct5 : Value}
    {od6 an6 : Option Addr} {sl6 : Array (Option Value)} {oc6 kV6 dc6 pm6 cd6 ct6 : Value}
    {od7 an7 : Option Addr} {sl7 : Array (Option Value)} {oc7 kV7 dc7 pm7 cd7 ct7 : Value}
    {od8 an8 : Option Addr} {sl8 : Array (Option Value)} {oc8 kV8 dc8 pm8 cd8 ct8 : Value}
    {od9 an9 : Option Addr} {sl9 : Array (Option Value)} {oc9 kV9 dc9 pm9 cd9 ct9 : Value}
    {od10 an10 : Option Addr} {sl10 : Array (Option Value)} {oc10 kV10 dc10 pm10 cd10 ct10 : Value}
    {od11 an11 : Option Addr} {sl11 : Array (Option Value)} {oc11 kV11 dc11 pm11 cd11 ct11 : Value}
    {od12 an12 : Option Addr} {sl12 : Array (Option Value)} {oc12 kV12 dc12 pm12 cd12 ct12 : Value}
    {od13 an13 : Option Addr} {sl13 : Array (Option Value)} {oc13 kV13 dc13 pm13 cd13 ct13 : Value}
    {od14 an14 : Option Addr} {sl14 : Array (Option Value)} {oc14 kV14 dc14 pm14 cd14 ct14 : Value}
    {od15 an15 : Option Addr} {sl15 : Array (Option Value)} {oc15 kV15 dc15 pm15 cd15 ct15 : Value}
    {od16 an16 : Option Addr} {sl16 : Array (Option Value)} {oc16 kV16 dc16 pm16 cd16 ct16 : Value}
    {od17 an17 : Option Addr} {sl17 : Array (Option Value)} {oc17 kV17 dc17 pm17 cd17 ct17 : Value}
    {od18 an18 : Option Addr} {sl18 : Array (Option Value)} {oc18 kV18 dc18 pm18 cd18 ct18 : Value}
    {od19 an19 : Option Addr} {sl19 : Array (Option Value)} {oc19 kV19 dc19 pm19 cd19 ct19 : Value}
    {od20 an20 : Option Addr} {sl20 : Array (Option Value)} {oc20 kV20 dc20 pm20 cd20 ct20 : Value}
    {od21 an21 : Option Addr} {sl21 : Array (Option Value)} {oc21 kV21 dc21 pm21 cd21 ct21 : Value}
    {od22 an22 : Option Addr} {sl22 : Array (Option Value)} {oc22 kV22 dc22 pm22 cd22 ct22 : Value}
    {od23 an23 : Option Addr} {sl23 : Array (Option Value)} {oc23 kV23 dc23 pm23 cd23 ct23 : Value}
    {od24 an24 : Option Addr} {sl24 : Array (Option Value)} {oc24 kV24 dc24 pm24 cd24 ct24 : Value}
    {od25 an25 : Option Addr} {sl25 : Array (Option Value)} {oc25 kV25 dc25 pm25 cd25 ct25 : Value}
    (qHall_g : PySem.W.nsIn K mainGlobals "Hall" = some (some (.ref C_Hall)))
    (qHall_pg : PySem.W.plainGet K C_Hall Str.empty = true)
    (qHall_hd : PySem.W.hasDictIn K C_Hall = true)
    (qHall_po : PySem.W.plainOver K C_Hall = true)
    (qHall_sa : PySem.W.findIn K (.ref C_Hall) "__setattr__" = some (some (.builtin "object.__setattr__")))
    (qHall_mk : PySem.W.makesIn K C_Hall = true)
    (qHall_kc : PySem.W.keepIn K (.ref C_Hall) = true)
    (qHall_a_changed : PySem.W.findIn K (.ref C_Hall) "changed" = some none)
    (qHall_a_deeds : PySem.W.findIn K (.ref C_Hall) "deeds" = some none)
    (qHall_a_known : PySem.W.findIn K (.ref C_Hall) "known" = some none)
    (qHall_a_touched : PySem.W.findIn K (.ref C_Hall) "touched" = some none)
    (qLevels_g : PySem.W.nsIn K mainGlobals "Levels" = some (some (.ref C_Levels)))
    (qLevels_pg : PySem.W.plainGet K C_Levels Str.empty = true)
    (qLevels_hd : PySem.W.hasDictIn K C_Levels = true)
    (qLevels_po : PySem.W.plainOver K C_Levels = true)
    (qLevels_sa : PySem.W.findIn K (.ref C_Levels) "__setattr__" = some (some (.builtin "object.__setattr__")))
    (qLevels_mk : PySem.W.makesIn K C_Levels = true)
    (qLevels_kc : PySem.W.keepIn K (.ref C_Levels) = true)
    (qLevels_a_rows : PySem.W.findIn K (.ref C_Levels) "rows" = some none)
    (qNoBox_g : PySem.W.nsIn K mainGlobals "NoBox" = some (some (.ref C_NoBox)))
    (qNoBox_x : PySem.W.excIn K C_NoBox [.type "ValueError", .type "Exception", .type "BaseException", .type "object"] "ValueError.__new__" = true)
    (qNoBox_k : PySem.W.keepIn K (.ref C_NoBox) = true)
    (qNoBox_s : PySem.W.subIn K (.ref C_NoBox) (.type "BaseException") = some true)
    (qNoBox_t : PySem.W.typeIn K (.ref C_NoBox) = some (.type "type"))
    (qNoDeed_g : PySem.W.nsIn K mainGlobals "NoDeed" = some (some (.ref C_NoDeed)))
    (qNoDeed_x : PySem.W.excIn K C_NoDeed [.type "ValueError", .type "Exception", .type "BaseException", .type "object"] "ValueError.__new__" = true)
    (qNoDeed_k : PySem.W.keepIn K (.ref C_NoDeed) = true)
    (qNoDeed_s : PySem.W.subIn K (.ref C_NoDeed) (.type "BaseException") = some true)
    (qNoDeed_t : PySem.W.typeIn K (.ref C_NoDeed) = some (.type "type"))
    (qNoPass_g : PySem.W.nsIn K mainGlobals "NoPass" = some (some (.ref C_NoPass)))
    (qNoPass_x : PySem.W.excIn K C_NoPass [.type "ValueError", .type "Exception", .type "BaseException", .type "object"] "ValueError.__new__" = true)
    (qNoPass_k : PySem.W.keepIn K (.ref C_NoPass) = true)
    (qNoPass_s : PySem.W.subIn K (.ref C_NoPass) (.type "BaseException") = some true)
    (qNoPass_t : PySem.W.typeIn K (.ref C_NoPass) = some (.type "type"))
    (qNothing_g : PySem.W.nsIn K mainGlobals "Nothing" = some (some (.ref C_Nothing)))
    (qNothing_x : PySem.W.excIn K C_Nothing [.type "ValueError", .type "Exception", .type "BaseException", .type "object"] "ValueError.__new__" = true)
    (qNothing_k : PySem.W.keepIn K (.ref C_Nothing) = true)
    (qNothing_s : PySem.W.subIn K (.ref C_Nothing) (.type "BaseException") = some true)
    (qNothing_t : PySem.W.typeIn K (.ref C_Nothing) = some (.type "type"))
    (qPassbyError_g : PySem.W.nsIn K mainGlobals "PassbyError" = some (some (.ref C_PassbyError)))
    (qPassbyError_x : PySem.W.excIn K C_PassbyError [.type "ValueError", .type "Exception", .type "BaseException", .type "object"] "ValueError.__new__" = true)
    (qPassbyError_k : PySem.W.keepIn K (.ref C_PassbyError) = true)
    (qPassbyError_s : PySem.W.subIn K (.ref C_PassbyError) (.type "BaseException") = some true)
    (qPassbyError_t : PySem.W.typeIn K (.ref C_PassbyError) = some (.type "type"))
    (rPassbyError_d : PySem.W.hasDictIn K C_PassbyError = true)
    (rNoDeed_d : PySem.W.hasDictIn K C_NoDeed = true)
    (rNoPass_d : PySem.W.hasDictIn K C_NoPass = true)
    (rNothing_d : PySem.W.hasDictIn K C_Nothing = true)
    (rNoBox_d : PySem.W.hasDictIn K C_NoBox = true)
    (r_sp : PySem.W.specialIn K (.builtin "object.__class__") "__get__" = some (some (.builtin "getset_descriptor.__get__")))
    (r_tk : PySem.W.takesIn K (.builtin "object.__class__") = some true)
    (rNothing_a : PySem.W.findIn K (.ref C_Nothing) "__getattribute__" = some (some (.builtin "BaseException.__getattribute__")))
    (rNothing_b : PySem.W.findIn K (.ref C_Nothing) "__getattr__" = some none)
    (rNothing_c : PySem.W.findIn K (.ref C_Nothing) "__class__" = some (some (.builtin "object.__class__")))
    (rNothing_m : PySem.W.mroIn K C_Nothing (.type "object") = some true)
    (rNothing_v : PySem.W.subIn K (.ref C_Nothing) (.type "ValueError") = some true)
    (rNothing_u_PassbyError : PySem.W.subIn K (.ref C_Nothing) (.ref C_PassbyError) = some true)
    (rNothing_u_NoDeed : PySem.W.subIn K (.ref C_Nothing) (.ref C_NoDeed) = some false)
    (rNothing_u_NoPass : PySem.W.subIn K (.ref C_Nothing) (.ref C_NoPass) = some false)
    (rNothing_u_Nothing : PySem.W.subIn K (.ref C_Nothing) (.ref C_Nothing) = some true)
    (rNothing_u_NoBox : PySem.W.subIn K (.ref C_Nothing) (.ref C_NoBox) = some false)
    (a0 : PySem.W.nsIn K mainGlobals "boxes_of" = some (some (.ref f_boxes_of)))
    (l0 : K.lookup f_boxes_of = some ⟨oc0, od0, .func (PySem.W.fnOf "boxes_of" "boxes_of" (defArgs s_boxes_of) (defBody s_boxes_of) (defScope s_boxes_of) .none kV0 dc0 pm0 an0 cd0 ct0), sl0⟩)
    (c0 : PySem.W.codeIn K cd0 "boxes_of" = true)
    (k0 : PySem.W.keepIn K (.ref f_boxes_of) = true)
    (a1 : PySem.W.nsIn K mainGlobals "laid" = some (some (.ref f_laid)))
    (l1 : K.lookup f_laid = some ⟨oc1, od1, .func (PySem.W.fnOf "laid" "laid" (defArgs s_laid) (defBody s_laid) (defScope s_laid) .none kV1 dc1 pm1 an1 cd1 ct1), sl1⟩)
    (c1 : PySem.W.codeIn K cd1 "laid" = true)
    (k1 : PySem.W.keepIn K (.ref f_laid) = true)
    (a2 : PySem.W.findIn K (.ref C_Levels) "__init__" = some (some (.ref f_lev_init)))
    (i2 : PySem.W.isFn K (.ref f_lev_init) = true)
    (l2 : K.lookup f_lev_init = some ⟨oc2, od2, .func (PySem.W.fnOf "__init__" "Levels.__init__" (defArgs s_lev_init) (defBody s_lev_init) (defScope s_lev_init) .none kV2 dc2 pm2 an2 cd2 ct2), sl2⟩)
    (c2 : PySem.W.codeIn K cd2 "Levels.__init__" = true)
    (k2 : PySem.W.keepIn K (.ref f_lev_init) = true)
    (a3 : PySem.W.findIn K (.ref C_Levels) "at" = some (some (.ref f_lev_at)))
    (i3 : PySem.W.isFn K (.ref f_lev_at) = true)
    (l3 : K.lookup f_lev_at = some ⟨oc3, od3, .func (PySem.W.fnOf "at" "Levels.at" (defArgs s_lev_at) (defBody s_lev_at) (defScope s_lev_at) .none kV3 dc3 pm3 an3 cd3 ct3), sl3⟩)
    (c3 : PySem.W.codeIn K cd3 "Levels.at" = true)
    (k3 : PySem.W.keepIn K (.ref f_lev_at) = true)
    (a4 : PySem.W.findIn K (.ref C_Levels) "raised" = some (some (.ref f_raised)))
    (i4 : PySem.W.isFn K (.ref f_raised) = true)
    (l4 : K.lookup f_raised = some ⟨oc4, od4, .func (PySem.W.fnOf "raised" "Levels.raised" (defArgs s_raised) (defBody s_raised) (defScope s_raised) .none kV4 dc4 pm4 an4 cd4 ct4), sl4⟩)
    (c4 : PySem.W.codeIn K cd4 "Levels.raised" = true)
    (k4 : PySem.W.keepIn K (.ref f_raised) = true)
    (a5 : PySem.W.findIn K (.ref C_Levels) "lowered" = some (some (.ref f_lowered)))
    (i5 : PySem.W.isFn K (.ref f_lowered) = true)
    (l5 : K.lookup f_lowered = some ⟨oc5, od5, .func (PySem.W.fnOf "lowered" "Levels.lowered" (defArgs s_lowered) (defBody s_lowered) (defScope s_lowered) .none kV5 dc5 pm5 an5 cd5 ct5), sl5⟩)
    (c5 : PySem.W.codeIn K cd5 "Levels.lowered" = true)
    (k5 : PySem.W.keepIn K (.ref f_lowered) = true)
    (a6 : PySem.W.findIn K (.ref C_Hall) "__init__" = some (some (.ref f_hall_init)))
    (i6 : PySem.W.isFn K (.ref f_hall_init) = true)
    (l6 : K.lookup f_hall_init = some ⟨oc6, od6, .func (PySem.W.fnOf "__init__" "Hall.__init__" (defArgs s_hall_init) (defBody s_hall_init) (defScope s_hall_init) .none kV6 dc6 pm6 an6 cd6 ct6), sl6⟩)
    (c6 : PySem.W.codeIn K cd6 "Hall.__init__" = true)
    (k6 : PySem.W.keepIn K (.ref f_hall_init) = true)
    (a7 : PySem.W.findIn K (.ref C_Hall) "put" = some (some (.ref f_put)))
    (i7 : PySem.W.isFn K (.ref f_put) = true)
    (l7 : K.lookup f_put = some ⟨oc7, od7, .func (PySem.W.fnOf "put" "Hall.put" (defArgs s_put) (defBody s_put) (defScope s_put) .none kV7 dc7 pm7 an7 cd7 ct7), sl7⟩)
    (c7 : PySem.W.codeIn K cd7 "Hall.put" = true)
    (k7 : PySem.W.keepIn K (.ref f_put) = true)
    (a8 : PySem.W.findIn K (.ref C_Hall) "back" = some (some (.ref f_back)))
    (i8 : PySem.W.isFn K (.ref f_back) = true)
    (l8 : K.lookup f_back = some ⟨oc8, od8, .func (PySem.W.fnOf "back" "Hall.back" (defArgs s_back) (defBody s_back) (defScope s_back) .none kV8 dc8 pm8 an8 cd8 ct8), sl8⟩)
    (c8 : PySem.W.codeIn K cd8 "Hall.back" = true)
    (k8 : PySem.W.keepIn K (.ref f_back) = true)
    (a9 : PySem.W.findIn K (.ref C_Hall) "rounds" = some (some (.ref f_rounds)))
    (i9 : PySem.W.isFn K (.ref f_rounds) = true)
    (l9 : K.lookup f_rounds = some ⟨oc9, od9, .func (PySem.W.fnOf "rounds" "Hall.rounds" (defArgs s_rounds) (defBody s_rounds) (defScope s_rounds) .none kV9 dc9 pm9 an9 cd9 ct9), sl9⟩)
    (c9 : PySem.W.codeIn K cd9 "Hall.rounds" = true)
    (k9 : PySem.W.keepIn K (.ref f_rounds) = true)
    (a10 : PySem.W.findIn K (.ref C_Hall) "many" = some (some (.ref f_many)))
    (i10 : PySem.W.isFn K (.ref f_many) = true)
    (l10 : K.lookup f_many = some ⟨oc10, od10, .func (PySem.W.fnOf "many" "Hall.many" (defArgs s_many) (defBody s_many) (defScope s_many) .none kV10 dc10 pm10 an10 cd10 ct10), sl10⟩)
    (c10 : PySem.W.codeIn K cd10 "Hall.many" = true)
    (k10 : PySem.W.keepIn K (.ref f_many) = true)
    (a11 : PySem.W.nsIn K mainGlobals "_law_cell_at" = some (some (.ref f_cell_at)))
    (l11 : K.lookup f_cell_at = some ⟨oc11, od11, .func (PySem.W.fnOf "_law_cell_at" "_law_cell_at" (defArgs s_cell_at) (defBody s_cell_at) (defScope s_cell_at) .none kV11 dc11 pm11 an11 cd11 ct11), sl11⟩)
    (c11 : PySem.W.codeIn K cd11 "_law_cell_at" = true)
    (k11 : PySem.W.keepIn K (.ref f_cell_at) = true)
    (a12 : PySem.W.nsIn K mainGlobals "_law_clash" = some (some (.ref f_lclash)))
    (l12 : K.lookup f_lclash = some ⟨oc12, od12, .func (PySem.W.fnOf "_law_clash" "_law_clash" (defArgs s_lclash) (defBody s_lclash) (defScope s_lclash) .none kV12 dc12 pm12 an12 cd12 ct12), sl12⟩)
    (c12 : PySem.W.codeIn K cd12 "_law_clash" = true)
    (k12 : PySem.W.keepIn K (.ref f_lclash) = true)
    (a13 : PySem.W.nsIn K mainGlobals "_law_bits" = some (some (.ref f_bits)))
    (l13 : K.lookup f_bits = some ⟨oc13, od13, .func (PySem.W.fnOf "_law_bits" "_law_bits" (defArgs s_bits) (defBody s_bits) (defScope s_bits) .none kV13 dc13 pm13 an13 cd13 ct13), sl13⟩)
    (c13 : PySem.W.codeIn K cd13 "_law_bits" = true)
    (k13 : PySem.W.keepIn K (.ref f_bits) = true)
    (a14 : PySem.W.nsIn K mainGlobals "_law_far_bits" = some (some (.ref f_far_bits)))
    (l14 : K.lookup f_far_bits = some ⟨oc14, od14, .func (PySem.W.fnOf "_law_far_bits" "_law_far_bits" (defArgs s_far_bits) (defBody s_far_bits) (defScope s_far_bits) .none kV14 dc14 pm14 an14 cd14 ct14), sl14⟩)
    (c14 : PySem.W.codeIn K cd14 "_law_far_bits" = true)
    (k14 : PySem.W.keepIn K (.ref f_far_bits) = true)
    (a15 : PySem.W.nsIn K mainGlobals "_law_names" = some (some (.ref f_names)))
    (l15 : K.lookup f_names = some ⟨oc15, od15, .func (PySem.W.fnOf "_law_names" "_law_names" (defArgs s_names) (defBody s_names) (defScope s_names) .none kV15 dc15 pm15 an15 cd15 ct15), sl15⟩)
    (c15 : PySem.W.codeIn K cd15 "_law_names" = true)
    (k15 : PySem.W.keepIn K (.ref f_names) = true)
    (a16 : PySem.W.nsIn K mainGlobals "_law_near" = some (some (.ref f_near)))
    (l16 : K.lookup f_near = some ⟨oc16, od16, .func (PySem.W.fnOf "_law_near" "_law_near" (defArgs s_near) (defBody s_near) (defScope s_near) .none kV16 dc16 pm16 an16 cd16 ct16), sl16⟩)
    (c16 : PySem.W.codeIn K cd16 "_law_near" = true)
    (k16 : PySem.W.keepIn K (.ref f_near) = true)
    (a17 : PySem.W.nsIn K mainGlobals "_law_deeds" = some (some (.ref f_deeds6)))
    (l17 : K.lookup f_deeds6 = some ⟨oc17, od17, .func (PySem.W.fnOf "_law_deeds" "_law_deeds" (defArgs s_deeds6) (defBody s_deeds6) (defScope s_deeds6) .none kV17 dc17 pm17 an17 cd17 ct17), sl17⟩)
    (c17 : PySem.W.codeIn K cd17 "_law_deeds" = true)
    (k17 : PySem.W.keepIn K (.ref f_deeds6) = true)
    (a18 : PySem.W.nsIn K mainGlobals "_law_same" = some (some (.ref f_same)))
    (l18 : K.lookup f_same = some ⟨oc18, od18, .func (PySem.W.fnOf "_law_same" "_law_same" (defArgs s_same) (defBody s_same) (defScope s_same) .none kV18 dc18 pm18 an18 cd18 ct18), sl18⟩)
    (c18 : PySem.W.codeIn K cd18 "_law_same" = true)
    (k18 : PySem.W.keepIn K (.ref f_same) = true)
    (a19 : PySem.W.nsIn K mainGlobals "_law_rounds" = some (some (.ref f_lrounds)))
    (l19 : K.lookup f_lrounds = some ⟨oc19, od19, .func (PySem.W.fnOf "_law_rounds" "_law_rounds" (defArgs s_lrounds) (defBody s_lrounds) (defScope s_lrounds) .none kV19 dc19 pm19 an19 cd19 ct19), sl19⟩)
    (c19 : PySem.W.codeIn K cd19 "_law_rounds" = true)
    (k19 : PySem.W.keepIn K (.ref f_lrounds) = true)
    (a20 : PySem.W.nsIn K mainGlobals "_law_refused" = some (some (.ref f_refused_k06)))
    (l20 : K.lookup f_refused_k06 = some ⟨oc20, od20, .func (PySem.W.fnOf "_law_refused" "_law_refused" (defArgs s_refused_k06) (defBody s_refused_k06) (defScope s_refused_k06) .none kV20 dc20 pm20 an20 cd20 ct20), sl20⟩)
    (c20 : PySem.W.codeIn K cd20 "_law_refused" = true)
    (k20 : PySem.W.keepIn K (.ref f_refused_k06) = true)
    (a21 : PySem.W.nsIn K mainGlobals "_law_put" = some (some (.ref f_lput)))
    (l21 : K.lookup f_lput = some ⟨oc21, od21, .func (PySem.W.fnOf "_law_put" "_law_put" (defArgs s_lput) (defBody s_lput) (defScope s_lput) .none kV21 dc21 pm21 an21 cd21 ct21), sl21⟩)
    (c21 : PySem.W.codeIn K cd21 "_law_put" = true)
    (k21 : PySem.W.keepIn K (.ref f_lput) = true)
    (a22 : PySem.W.nsIn K mainGlobals "_law_back" = some (some (.ref f_lback)))
    (l22 : K.lookup f_lback = some ⟨oc22, od22, .func (PySem.W.fnOf "_law_back" "_law_back" (defArgs s_lback) (defBody s_lback) (defScope s_lback) .none kV22 dc22 pm22 an22 cd22 ct22), sl22⟩)
    (c22 : PySem.W.codeIn K cd22 "_law_back" = true)
    (k22 : PySem.W.keepIn K (.ref f_lback) = true)
    (a23 : PySem.W.nsIn K mainGlobals "_law_look" = some (some (.ref f_look)))
    (l23 : K.lookup f_look = some ⟨oc23, od23, .func (PySem.W.fnOf "_law_look" "_law_look" (defArgs s_look) (defBody s_look) (defScope s_look) .none kV23 dc23 pm23 an23 cd23 ct23), sl23⟩)
    (c23 : PySem.W.codeIn K cd23 "_law_look" = true)
    (k23 : PySem.W.keepIn K (.ref f_look) = true)
    (a24 : PySem.W.nsIn K mainGlobals "_law_end" = some (some (.ref f_lend)))
    (l24 : K.lookup f_lend = some ⟨oc24, od24, .func (PySem.W.fnOf "_law_end" "_law_end" (defArgs s_lend) (defBody s_lend) (defScope s_lend) .none kV24 dc24 pm24 an24 cd24 ct24), sl24⟩)
    (c24 : PySem.W.codeIn K cd24 "_law_end" = true)
    (k24 : PySem.W.keepIn K (.ref f_lend) = true)
    (a25 : PySem.W.nsIn K mainGlobals "law" = some (some (.ref f_law_k06)))
    (l25 : K.lookup f_law_k06 = some ⟨oc25, od25, .func (PySem.W.fnOf "law" "law" (defArgs s_law_k06) (defBody s_law_k06) (defScope s_law_k06) .none kV25 dc25 pm25 an25 cd25 ct25), sl25⟩)
    (c25 : PySem.W.codeIn K cd25 "law" = true)
    (k25 : PySem.W.keepIn K (.ref f_law_k06) = true)
    (z_ValueError : PySem.W.nsIn K mainGlobals "ValueError" = some none)
    (z_bool : PySem.W.nsIn K mainGlobals "bool" = some none)
    (z_int : PySem.W.nsIn K mainGlobals "int" = some none)
    (z_isinstance : PySem.W.nsIn K mainGlobals "isinstance" = some none)
    (z_len : PySem.W.nsIn K mainGlobals "len" = some none)
    (z_list : PySem.W.nsIn K mainGlobals "list" = some none)
    (z_max : PySem.W.nsIn K mainGlobals "max" = some none)
    (z_range : PySem.W.nsIn K mainGlobals "range" = some none)
    (z_sorted : PySem.W.nsIn K mainGlobals "sorted" = some none)
    (z_tuple : PySem.W.nsIn K mainGlobals "tuple" = some none)
    (z_zip : PySem.W.nsIn K mainGlobals "zip" = some none)
    {t_BOXES : Tok}
    (y_BOXES : PySem.W.nsIn K mainGlobals "BOXES" = some (some (.int 60 t_BOXES)))
    : ∃ fd : FuncData, (∀ (s : Shared) (v : Value), BindsTo s fd ⟨[v], []⟩ [("_law_script", v)]) ∧ ∀ base : Heap, K.In base → base.Ns mainGlobals mg → FnOk l.prog w K mg base CX0 7 fa fd ["_law_script"] (sp_law K) := by
  have e := hfa.symm.trans (PySem.W.mg_of X Gx a25)
  cases e
  obtain ⟨G, hG⟩ : ∃ G : Str → Addr, G = fun x => match mg x with | some (.ref a) => a | _ => 0 := ⟨_, rfl⟩
  have m_Hall := PySem.W.mg_of X Gx qHall_g
  have G_Hall : G "Hall" = C_Hall := by rw [hG]; show (match mg "Hall" with | some (.ref a) => a | _ => 0) = C_Hall; rw [m_Hall]
  subst G_Hall
  have m_Levels := PySem.W.mg_of X Gx qLevels_g
  have G_Levels : G "Levels" = C_Levels := by rw [hG]; show (match mg "Levels" with | some (.ref a) => a | _ => 0) = C_Levels; rw [m_Levels]
  subst G_Levels
  have m_NoBox := PySem.W.mg_of X Gx qNoBox_g
  have G_NoBox : G "NoBox" = C_NoBox := by rw [hG]; show (match mg "NoBox" with | some (.ref a) => a | _ => 0) = C_NoBox; rw [m_NoBox]
  subst G_NoBox
  have m_NoDeed := PySem.W.mg_of X Gx qNoDeed_g
  have G_NoDeed : G "NoDeed" = C_NoDeed := by rw [hG]; show (match mg "NoDeed" with | some (.ref a) => a | _ => 0) = C_NoDeed; rw [m_NoDeed]
  subst G_NoDeed
  have m_NoPass := PySem.W.mg_of X Gx qNoPass_g
  have G_NoPass : G "NoPass" = C_NoPass := by rw [hG]; show (match mg "NoPass" with | some (.ref a) => a | _ => 0) = C_NoPass; rw [m_NoPass]
  subst G_NoPass
  have m_Nothing := PySem.W.mg_of X Gx qNothing_g
  have G_Nothing : G "Nothing" = C_Nothing := by rw [hG]; show (match mg "Nothing" with | some (.ref a) => a | _ => 0) = C_Nothing; rw [m_Nothing]
  subst G_Nothing
  have m_PassbyError := PySem.W.mg_of X Gx qPassbyError_g
  have G_PassbyError : G "PassbyError" = C_PassbyError := by rw [hG]; show (match mg "PassbyError" with | some (.ref a) => a | _ => 0) = C_PassbyError; rw [m_PassbyError]
  subst G_PassbyError
  have T : Txt K mg G := { triv := trivial, b_ValueError := PySem.W.mg_none_of X Gx z_ValueError, b_bool := PySem.W.mg_none_of X Gx z_bool, b_int := PySem.W.mg_none_of X Gx z_int, b_isinstance := PySem.W.mg_none_of X Gx z_isinstance, b_len := PySem.W.mg_none_of X Gx z_len, b_list := PySem.W.mg_none_of X Gx z_list, b_max := PySem.W.mg_none_of X Gx z_max, b_range := PySem.W.mg_none_of X Gx z_range, b_sorted := PySem.W.mg_none_of X Gx z_sorted, b_tuple := PySem.W.mg_none_of X Gx z_tuple, b_zip := PySem.W.mg_none_of X Gx z_zip, c_BOXES := ⟨_, PySem.W.mg_of X Gx y_BOXES, ⟨_, rfl⟩⟩, g_Hall := m_Hall, cl_Hall := ⟨qHall_pg, qHall_hd, qHall_po, qHall_sa⟩, a_Hall_changed := qHall_a_changed, a_Hall_deeds := qHall_a_deeds, a_Hall_known := qHall_a_known, a_Hall_touched := qHall_a_touched, g_Levels := m_Levels, cl_Levels := ⟨qLevels_pg, qLevels_hd, qLevels_po, qLevels_sa⟩, a_Levels_rows := qLevels_a_rows, g_NoBox := m_NoBox, x_NoBox := qNoBox_x, k_NoBox := qNoBox_k, s_NoBox := qNoBox_s, t_NoBox := qNoBox_t, g_NoDeed := m_NoDeed, x_NoDeed := qNoDeed_x, k_NoDeed := qNoDeed_k, s_NoDeed := qNoDeed_s, t_NoDeed := qNoDeed_t, g_NoPass := m_NoPass, x_NoPass := qNoPass_x, k_NoPass := qNoPass_k, s_NoPass := qNoPass_s, t_NoPass := qNoPass_t, g_Nothing := m_Nothing, x_Nothing := qNothing_x, k_Nothing := qNothing_k, s_Nothing := qNothing_s, t_Nothing := qNothing_t, g_PassbyError := m_PassbyError, x_PassbyError := qPassbyError_x, k_PassbyError := qPassbyError_k, s_PassbyError := qPassbyError_s, t_PassbyError := qPassbyError_t, xf_Nothing := ⟨⟨rNothing_a, rNothing_b, qNothing_s, rNothing_d, rNothing_c, r_sp, r_tk, rNothing_m⟩, PySem.W.exm_ref qNothing_s rNothing_d qNothing_t rNothing_u_Nothing, PySem.W.exm_ref qPassbyError_s rPassbyError_d qPassbyError_t rNothing_u_PassbyError, kit_ve rNothing_v, kit_yes rNothing_d qNothing_t rNothing_u_Nothing, by intro x hx hn; simp only [errNames, List.mem_cons, List.not_mem_nil, or_false] at hx; rcases hx with rfl | rfl | rfl | rfl; exact kit_no rNoDeed_d qNoDeed_t rNothing_u_NoDeed rNothing_u_Nothing; exact kit_no rNoPass_d qNoPass_t rNothing_u_NoPass rNothing_u_Nothing; exact absurd rfl hn; exact kit_no rNoBox_d qNoBox_t rNothing_u_NoBox rNothing_u_Nothing⟩ }
  have F_boxes_of := fun_mk (st := s_boxes_of) l0 c0 k0
  have F_laid := fun_mk (st := s_laid) l1 c1 k1
  have F_lev_init := fun_mk (st := s_lev_init) l2 c2 k2
  have F_lev_at := fun_mk (st := s_lev_at) l3 c3 k3
  have F_raised := fun_mk (st := s_raised) l4 c4 k4
  have F_lowered := fun_mk (st := s_lowered) l5 c5 k5
  have F_hall_init := fun_mk (st := s_hall_init) l6 c6 k6
  have F_put := fun_mk (st := s_put) l7 c7 k7
  have F_back := fun_mk (st := s_back) l8 c8 k8
  have F_rounds := fun_mk (st := s_rounds) l9 c9 k9
  have F_many := fun_mk (st := s_many) l10 c10 k10
  have F_cell_at := fun_mk (st := s_cell_at) l11 c11 k11
  have F_lclash := fun_mk (st := s_lclash) l12 c12 k12
  have F_bits := fun_mk (st := s_bits) l13 c13 k13
  have F_far_bits := fun_mk (st := s_far_bits) l14 c14 k14
  have F_names := fun_mk (st := s_names) l15 c15 k15
  have F_near := fun_mk (st := s_near) l16 c16 k16
  have F_deeds6 := fun_mk (st := s_deeds6) l17 c17 k17
  have F_same := fun_mk (st := s_same) l18 c18 k18
  have F_lrounds := fun_mk (st := s_lrounds) l19 c19 k19
  have F_refused_k06 := fun_mk (st := s_refused_k06) l20 c20 k20
  have F_lput := fun_mk (st := s_lput) l21 c21 k21
  have F_lback := fun_mk (st := s_lback) l22 c22 k22
  have F_look := fun_mk (st := s_look) l23 c23 k23
  have F_lend := fun_mk (st := s_lend) l24 c24 k24
  have F_law_k06 := fun_mk (st := s_law_k06) l25 c25 k25
  have b_boxes_of := F_boxes_of.binds (ps := ["bits"]) fun _ _ _ _ _ _ us hl => match us, hl with | [_], _ => rfl
  have b_laid := F_laid.binds (ps := ["diary", "known"]) fun _ _ _ _ _ _ us hl => match us, hl with | [_, _], _ => rfl
  have b_lev_init := F_lev_init.binds (ps := ["self"]) fun _ _ _ _ _ _ us hl => match us, hl with | [_], _ => rfl
  have b_lev_at := F_lev_at.binds (ps := ["self", "boxes"]) fun _ _ _ _ _ _ us hl => match us, hl with | [_, _], _ => rfl
  have b_raised := F_raised.binds (ps := ["self", "boxes", "level"]) fun _ _ _ _ _ _ us hl => match us, hl with | [_, _, _], _ => rfl
  have b_lowered := F_lowered.binds (ps := ["self", "boxes"]) fun _ _ _ _ _ _ us hl => match us, hl with | [_, _], _ => rfl
  have b_hall_init := F_hall_init.binds (ps := ["self"]) fun _ _ _ _ _ _ us hl => match us, hl with | [_], _ => rfl
  have b_put := F_put.binds (ps := ["self", "deed"]) fun _ _ _ _ _ _ us hl => match us, hl with | [_, _], _ => rfl
  have b_back := F_back.binds (ps := ["self"]) fun _ _ _ _ _ _ us hl => match us, hl with | [_], _ => rfl
  have b_rounds := F_rounds.binds (ps := ["self"]) fun _ _ _ _ _ _ us hl => match us, hl with | [_], _ => rfl
  have b_many := F_many.binds (ps := ["self"]) fun _ _ _ _ _ _ us hl => match us, hl with | [_], _ => rfl
  have b_cell_at := F_cell_at.binds (ps := ["_law_script", "_law_k"]) fun _ _ _ _ _ _ us hl => match us, hl with | [_, _], _ => rfl
  have b_lclash := F_lclash.binds (ps := ["_law_one", "_law_other"]) fun _ _ _ _ _ _ us hl => match us, hl with | [_, _], _ => rfl
  have b_bits := F_bits.binds (ps := ["_law_which", "_law_boxes"]) fun _ _ _ _ _ _ us hl => match us, hl with | [_, _], _ => rfl
  have b_far_bits := F_far_bits.binds (ps := ["_law_cell"]) fun _ _ _ _ _ _ us hl => match us, hl with | [_], _ => rfl
  have b_names := F_names.binds (ps := ["_law_cell", "_law_other"]) fun _ _ _ _ _ _ us hl => match us, hl with | [_, _], _ => rfl
  have b_near := F_near.binds (ps := ["_law_number", "_law_names_here", "_law_boxes"]) fun _ _ _ _ _ _ us hl => match us, hl with | [_, _, _], _ => rfl
  have b_deeds6 := F_deeds6.binds (ps := ["_law_script", "_law_most"]) fun _ _ _ _ _ _ us hl => match us, hl with | [_, _], _ => rfl
  have b_same := F_same.binds (ps := ["_law_found", "_law_due"]) fun _ _ _ _ _ _ us hl => match us, hl with | [_, _], _ => rfl
  have b_lrounds := F_lrounds.binds (ps := ["_law_row"]) fun _ _ _ _ _ _ us hl => match us, hl with | [_], _ => rfl
  have b_refused_k06 := F_refused_k06.binds (ps := ["_law_hall"]) fun _ _ _ _ _ _ us hl => match us, hl with | [_], _ => rfl
  have b_lput := F_lput.binds (ps := ["_law_hall", "_law_row", "_law_one"]) fun _ _ _ _ _ _ us hl => match us, hl with | [_, _, _], _ => rfl
  have b_lback := F_lback.binds (ps := ["_law_hall", "_law_row"]) fun _ _ _ _ _ _ us hl => match us, hl with | [_, _], _ => rfl
  have b_look := F_look.binds (ps := ["_law_hall", "_law_row", "_law_first", "_law_held"]) fun _ _ _ _ _ _ us hl => match us, hl with | [_, _, _, _], _ => rfl
  have b_lend := F_lend.binds (ps := ["_law_hall", "_law_row"]) fun _ _ _ _ _ _ us hl => match us, hl with | [_, _], _ => rfl
  refine ⟨PySem.W.fnOf "law" "law" (defArgs s_law_k06) (defBody s_law_k06) (defScope s_law_k06) .none kV25 dc25 pm25 an25 cd25 ct25, fun s v => .of_eq rfl, fun base _ _ => ?_⟩
  have C_boxes_of : Cal l.prog w K mg base CX0 "boxes_of" 1 ["bits"] [] (sp_boxes_of K) := ⟨_, _, ok_boxes_of F_boxes_of T , PySem.W.mg_of X Gx a0, k0, b_boxes_of⟩
  have C_laid : Cal l.prog w K mg base CX0 "laid" 1 ["diary", "known"] [] (sp_laid K) := ⟨_, _, ok_laid F_laid T , PySem.W.mg_of X Gx a1, k1, b_laid⟩
  have C_lev_init : Mak l.prog w K mg base CX0 (G "Levels") 1 ["self"] (sp_lev_init K G) := ⟨_, _, ok_lev_init F_lev_init T , ⟨qLevels_mk, a2, i2, qLevels_kc⟩, b_lev_init⟩
  have C_lev_at : Mth l.prog w K mg base CX0 (G "Levels") "at" 1 ["self", "boxes"] (sp_lev_at K G) := ⟨_, _, ok_lev_at F_lev_at T , ⟨a3, i3, k3⟩, b_lev_at⟩
  have C_raised : Mth l.prog w K mg base CX0 (G "Levels") "raised" 1 ["self", "boxes", "level"] (sp_raised K G) := ⟨_, _, ok_raised F_raised T , ⟨a4, i4, k4⟩, b_raised⟩
  have C_lowered : Mth l.prog w K mg base CX0 (G "Levels") "lowered" 1 ["self", "boxes"] (sp_lowered K G) := ⟨_, _, ok_lowered F_lowered T , ⟨a5, i5, k5⟩, b_lowered⟩
  have C_hall_init : Mak l.prog w K mg base CX0 (G "Hall") 3 ["self"] (sp_hall_init K G) := ⟨_, _, ok_hall_init F_hall_init T C_lev_init, ⟨qHall_mk, a6, i6, qHall_kc⟩, b_hall_init⟩
  have C_put : Mth l.prog w K mg base CX0 (G "Hall") "put" 2 ["self", "deed"] (sp_put K G) := ⟨_, _, ok_put F_put T C_boxes_of C_lev_at C_raised, ⟨a7, i7, k7⟩, b_put⟩
  have C_back : Mth l.prog w K mg base (L2.CX l.prog w) (G "Hall") "back" 2 ["self"] (sp_back K G) := ⟨_, _, ok_back F_back T C_boxes_of C_lowered, ⟨a8, i8, k8⟩, b_back⟩
  have C_rounds : Mth l.prog w K mg base CX0 (G "Hall") "rounds" 2 ["self"] (sp_rounds K G) := ⟨_, _, ok_rounds F_rounds T C_laid, ⟨a9, i9, k9⟩, b_rounds⟩
  have C_many : Mth l.prog w K mg base CX0 (G "Hall") "many" 1 ["self"] (sp_many K G) := ⟨_, _, ok_many F_many T , ⟨a10, i10, k10⟩, b_many⟩
  have C_cell_at : Cal l.prog w K mg base CX0 "_law_cell_at" 1 ["_law_script", "_law_k"] [] (sp_cell_at K) := ⟨_, _, ok_cell_at F_cell_at T , PySem.W.mg_of X Gx a11, k11, b_cell_at⟩
  have C_lclash : Cal l.prog w K mg base CX0 "_law_clash" 1 ["_law_one", "_law_other"] [] (sp_clash K) := ⟨_, _, ok_lclash F_lclash T , PySem.W.mg_of X Gx a12, k12, b_lclash⟩
  have C_bits : Cal l.prog w K mg base CX0 "_law_bits" 1 ["_law_which", "_law_boxes"] [] (sp_bits K) := ⟨_, _, ok_bits F_bits T , PySem.W.mg_of X Gx a13, k13, b_bits⟩
  have C_far_bits : Cal l.prog w K mg base CX0 "_law_far_bits" 1 ["_law_cell"] [] (sp_far_bits K) := ⟨_, _, ok_far_bits F_far_bits T , PySem.W.mg_of X Gx a14, k14, b_far_bits⟩
  have C_names : Cal l.prog w K mg base CX0 "_law_names" 1 ["_law_cell", "_law_other"] [] (sp_names K) := ⟨_, _, ok_names F_names T , PySem.W.mg_of X Gx a15, k15, b_names⟩
  have C_near : Cal l.prog w K mg base CX0 "_law_near" 2 ["_law_number", "_law_names_here", "_law_boxes"] [] (sp_near K) := ⟨_, _, ok_near F_near T C_bits, PySem.W.mg_of X Gx a16, k16, b_near⟩
  have C_deeds6 : Cal l.prog w K mg base CX0 "_law_deeds" 3 ["_law_script", "_law_most"] [] (sp_deeds6 K) := ⟨_, _, ok_deeds6 F_deeds6 T C_cell_at C_far_bits C_names C_near, PySem.W.mg_of X Gx a17, k17, b_deeds6⟩
  have C_same : Cal l.prog w K mg base CX0 "_law_same" 4 ["_law_found", "_law_due"] [] (sp_same 4 K) := ⟨_, _, ok_same F_same T (PySem.W.mg_of X Gx a18) b_same 4, PySem.W.mg_of X Gx a18, k18, b_same⟩
  have C_lrounds : Cal l.prog w K mg base CX0 "_law_rounds" 1 ["_law_row"] [] (sp_lrounds K) := ⟨_, _, ok_lrounds F_lrounds T , PySem.W.mg_of X Gx a19, k19, b_lrounds⟩
  have C_refused_k06 : Cal l.prog w K mg base CX0 "_law_refused" 3 ["_law_hall"] [] (sp_refused_k06 K G) := ⟨_, _, ok_refused_k06 F_refused_k06 T C_back, PySem.W.mg_of X Gx a20, k20, b_refused_k06⟩
  have C_lput : Cal l.prog w K mg base CX0 "_law_put" 5 ["_law_hall", "_law_row", "_law_one"] [] (sp_lput K G) := ⟨_, _, ok_lput F_lput T C_lclash C_same C_put, PySem.W.mg_of X Gx a21, k21, b_lput⟩
  have C_lback : Cal l.prog w K mg base CX0 "_law_back" 5 ["_law_hall", "_law_row"] [] (sp_lback K G) := ⟨_, _, ok_lback F_lback T C_refused_k06 C_same C_back, PySem.W.mg_of X Gx a22, k22, b_lback⟩
  have C_look : Cal l.prog w K mg base CX0 "_law_look" 5 ["_law_hall", "_law_row", "_law_first", "_law_held"] [] (sp_look K G) := ⟨_, _, ok_look F_look T C_same C_many C_rounds C_lrounds, PySem.W.mg_of X Gx a23, k23, b_look⟩
  have C_lend : Cal l.prog w K mg base CX0 "_law_end" 6 ["_law_hall", "_law_row"] [] (sp_lend K G) := ⟨_, _, ok_lend F_lend T C_lrounds C_rounds C_same C_lback C_look C_refused_k06 C_lput, PySem.W.mg_of X Gx a24, k24, b_lend⟩
  exact ok_law_k06 F_law_k06 T C_hall_init C_deeds6 C_lback C_lput C_look C_lend
theorem walk {l : PySem.W.OpenLaw} {q : Program} {loose : List Str} {XP : (Str → Option Value) → Heap → Prop} {YP : World → Heap → Prop} {d : DefRec} {K : Params → PySem.W.Frag} (hn : l.most = some 63) (hdf : d.params.defaults = [])
    (hY : ∀ (w : World) (h : Heap), YP w h → (K w.params).In h)
    (F : ∀ (w : World) (mg : Str → Option Value) (fa : Addr) (h : Heap), (K w.params).In h → h.Ns mainGlobals mg → mg d.name = some (.ref fa) →
      ∃ fd : FuncData, (∀ (s : Shared) (u : Value), BindsTo s fd ⟨[u], []⟩ [("_law_script", u)]) ∧ ∀ base : Heap, (K w.params).In base → base.Ns mainGlobals mg → FnOk l.prog w (K w.params) mg base CX0 7 fa fd ["_law_script"] (sp_law (K w.params))) :
    PySem.W.WalkO q loose XP YP l.row.toRowW d [] (fun f vs => PySem.call f vs) :=
  L2.walk_of (n := 63) (k := 7) (x := "_law_script") (CX := fun _ => CX0) (sp := fun w => sp_law (K w.params)) hn (by decide) hdf ⟨rfl, by decide, by decide⟩ hY F (fun _ _ a ns hl _ hS => ⟨a, ns, rfl, hS, hl, fun _ => rfl⟩) fun _ _ _ _ _ z => z
end Rk06
open PySem PySem.W PyProof.Rows
set_option maxRecDepth 100000 in
set_option maxHeartbeats 0 in
theorem PySem.Challenge.cw_passby_k06_hall_holds : PySem.Challenge.rw_passby_k06_hall.Holds := by
  w_on; o_law; k_head; (case hw => w_witness2)
  k_fill
  refine Rk06.walk (l := PySem.Challenge.rw_passby_k06_hall) rfl rfl (fun w h Y => PySem.W.kIn_of Y) ?F
  case F =>
    intro w mg fa h KX Gx hmg
    refine' Rk06.all_mk KX Gx hmg ?qHall_g ?qHall_pg ?qHall_hd ?qHall_po ?qHall_sa ?qHall_mk ?qHall_kc ?qHall_a_changed ?qHall_a_deeds ?qHall_a_known ?qHall_a_touched ?qLevels_g ?qLevels_pg ?qLevels_hd ?qLevels_po ?qLevels_sa ?qLevels_mk ?qLevels_kc ?qLevels_a_rows ?qNoBox_g ?qNoBox_x ?qNoBox_k ?qNoBox_s ?qNoBox_t ?qNoDeed_g ?qNoDeed_x ?qNoDeed_k ?qNoDeed_s ?qNoDeed_t ?qNoPass_g ?qNoPass_x ?qNoPass_k ?qNoPass_s ?qNoPass_t ?qNothing_g ?qNothing_x ?qNothing_k ?qNothing_s ?qNothing_t ?qPassbyError_g ?qPassbyError_x ?qPassbyError_k ?qPassbyError_s ?qPassbyError_t ?rPassbyError_d ?rNoDeed_d ?rNoPass_d ?rNothing_d ?rNoBox_d ?r_sp ?r_tk ?rNothing_a ?rNothing_b ?rNothing_c ?rNothing_m ?rNothing_v ?rNothing_u_PassbyError ?rNothing_u_NoDeed ?rNothing_u_NoPass ?rNothing_u_Nothing ?rNothing_u_NoBox ?a0 ?l0 ?c0 ?k0 ?a1 ?l1 ?c1 ?k1 ?a2 ?i2 ?l2 ?c2 ?k2 ?a3 ?i3 ?l3 ?c3 ?k3 ?a4 ?i4 ?l4 ?c4 ?k4 ?a5 ?i5 ?l5 ?c5 ?k5 ?a6 ?i6 ?l6 ?c6 ?k6 ?a7 ?i7 ?l7 ?c7 ?k7 ?a8 ?i8 ?l8 ?c8 ?k8 ?a9 ?i9 ?l9 ?c9 ?k9 ?a10 ?i10 ?l10 ?c10 ?k10 ?a11 ?l11 ?c11 ?k11 ?a12 ?l12 ?c12 ?k12 ?a13 ?l13 ?c13 ?k13 ?a14 ?l14 ?c14 ?k14 ?a15 ?l15 ?c15 ?k15 ?a16 ?l16 ?c16 ?k16 ?a17 ?l17 ?c17 ?k17 ?a18 ?l18 ?c18 ?k18 ?a19 ?l19 ?c19 ?k19 ?a20 ?l20 ?c20 ?k20 ?a21 ?l21 ?c21 ?k21 ?a22 ?l22 ?c22 ?k22 ?a23 ?l23 ?c23 ?k23 ?a24 ?l24 ?c24 ?k24 ?a25 ?l25 ?c25 ?k25 ?z_ValueError ?z_bool ?z_int ?z_isinstance ?z_len ?z_list ?z_max ?z_range ?z_sorted ?z_tuple ?z_zip ?y_BOXES
    (case qHall_g => k_is); (case qHall_pg => k_is); (case qHall_hd => k_is); (case qHall_po => k_is); (case qHall_sa => k_is); (case qHall_mk => k_is)
    (case qHall_kc => k_is); (case qHall_a_changed => k_is); (case qHall_a_deeds => k_is); (case qHall_a_known => k_is); (case qHall_a_touched => k_is); (case qLevels_g => k_is)
    (case qLevels_pg => k_is); (case qLevels_hd => k_is); (case qLevels_po => k_is); (case qLevels_sa => k_is); (case qLevels_mk => k_is); (case qLevels_kc => k_is)
    (case qLevels_a_rows => k_is); (case qNoBox_g => k_is); (case qNoBox_x => k_exc); (case qNoBox_k => k_is); (case qNoBox_s => k_is); (case qNoBox_t => k_is)
    (case qNoDeed_g => k_is); (case qNoDeed_x => k_exc); (case qNoDeed_k => k_is); (case qNoDeed_s => k_is); (case qNoDeed_t => k_is); (case qNoPass_g => k_is)
    (case qNoPass_x => k_exc); (case qNoPass_k => k_is); (case qNoPass_s => k_is); (case qNoPass_t => k_is); (case qNothing_g => k_is); (case qNothing_x => k_exc)
    (case qNothing_k => k_is); (case qNothing_s => k_is); (case qNothing_t => k_is); (case qPassbyError_g => k_is); (case qPassbyError_x => k_exc); (case qPassbyError_k => k_is)
    (case qPassbyError_s => k_is); (case qPassbyError_t => k_is); (case rPassbyError_d => k_is); (case rNoDeed_d => k_is); (case rNoPass_d => k_is); (case rNothing_d => k_is)
    (case rNoBox_d => k_is); (case r_sp => k_is); (case r_tk => k_is); (case rNothing_a => k_is); (case rNothing_b => k_is); (case rNothing_c => k_is)
    (case rNothing_m => k_is); (case rNothing_v => k_is); (case rNothing_u_PassbyError => k_is); (case rNothing_u_NoDeed => k_is); (case rNothing_u_NoPass => k_is); (case rNothing_u_Nothing => k_is)
    (case rNothing_u_NoBox => k_is); (case a0 => k_is); (case l0 => k_is); (case c0 => k_is); (case k0 => k_is); (case a1 => k_is)
    (case l1 => k_is); (case c1 => k_is); (case k1 => k_is); (case a2 => k_is); (case i2 => k_is); (case l2 => k_is)
    (case c2 => k_is); (case k2 => k_is); (case a3 => k_is); (case i3 => k_is); (case l3 => k_is); (case c3 => k_is)
    (case k3 => k_is); (case a4 => k_is); (case i4 => k_is); (case l4 => k_is); (case c4 => k_is); (case k4 => k_is)
    (case a5 => k_is); (case i5 => k_is); (case l5 => k_is); (case c5 => k_is); (case k5 => k_is); (case a6 => k_is)
    (case i6 => k_is); (case l6 => k_is); (case c6 => k_is); (case k6 => k_is); (case a7 => k_is); (case i7 => k_is)
    (case l7 => k_is); (case c7 => k_is); (case k7 => k_is); (case a8 => k_is); (case i8 => k_is); (case l8 => k_is)
    (case c8 => k_is); (case k8 => k_is); (case a9 => k_is); (case i9 => k_is); (case l9 => k_is); (case c9 => k_is)
    (case k9 => k_is); (case a10 => k_is); (case i10 => k_is); (case l10 => k_is); (case c10 => k_is); (case k10 => k_is)
    (case a11 => k_is); (case l11 => k_is); (case c11 => k_is); (case k11 => k_is); (case a12 => k_is); (case l12 => k_is)
    (case c12 => k_is); (case k12 => k_is); (case a13 => k_is); (case l13 => k_is); (case c13 => k_is); (case k13 => k_is)
    (case a14 => k_is); (case l14 => k_is); (case c14 => k_is); (case k14 => k_is); (case a15 => k_is); (case l15 => k_is)
    (case c15 => k_is); (case k15 => k_is); (case a16 => k_is); (case l16 => k_is); (case c16 => k_is); (case k16 => k_is)
    (case a17 => k_is); (case l17 => k_is); (case c17 => k_is); (case k17 => k_is); (case a18 => k_is); (case l18 => k_is)
    (case c18 => k_is); (case k18 => k_is); (case a19 => k_is); (case l19 => k_is); (case c19 => k_is); (case k19 => k_is)
    (case a20 => k_is); (case l20 => k_is); (case c20 => k_is); (case k20 => k_is); (case a21 => k_is); (case l21 => k_is)
    (case c21 => k_is); (case k21 => k_is); (case a22 => k_is); (case l22 => k_is); (case c22 => k_is); (case k22 => k_is)
    (case a23 => k_is); (case l23 => k_is); (case c23 => k_is); (case k23 => k_is); (case a24 => k_is); (case l24 => k_is)
    (case c24 => k_is); (case k24 => k_is); (case a25 => k_is); (case l25 => k_is); (case c25 => k_is); (case k25 => k_is)
    (case z_ValueError => k_is); (case z_bool => k_is); (case z_int => k_is); (case z_isinstance => k_is); (case z_len => k_is); (case z_list => k_is)
    (case z_max => k_is); (case z_range => k_is); (case z_sorted => k_is); (case z_tuple => k_is); (case z_zip => k_is); (case y_BOXES => k_is)
#print axioms PySem.Challenge.cw_passby_k06_hall_holds
