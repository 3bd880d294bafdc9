import PyProof.Rows.All
import Wide.All
import OpenK.AllK
import Wide.FinOn
import KE.KStateDown
import HandS.ForMost
import HandS.Exc
import HandS.TryOnly
import HandS.WordsExc
import HandS.Defaults
import HandS.DictComp
import HandS.Deep
import HandS.IsInst
import HandS.ExcInit
import HandS.ExcField
import HandS.ExcIs
import HandS.Evl
import HandS.Wide
import HandS.Lambda
import HandS.Codes
import HandS.Conv
import HandS.HeadHook4
import PyProof.P3In
import HandS.IterVal
import HandS.OwnIter
import HandS.OwnEq
import HandS.DictEq
import KE.KExcIs
import HandS.Head0
import HandS.Head1
import HandS.Head2
import HandS.HeadEnd
import HandS.HeadHook1
import HandS.HeadHook2
import HandS.HeadHook3
import HandS.HeadWalk
import PySem.Challenge.RW_weirkeepers_k00_rivers_made
set_option Elab.async false
set_option linter.all false
set_option maxRecDepth 100000
set_option maxHeartbeats 0
/-! The frame: readings by names, steps, heaps. -/
namespace WK
open PySem L2
abbrev Ex := Evl.Ex
/-! ### readings by short names -/
abbrev rAddI : R2 := rI0 fun i j => .int (i + j)
abbrev rSubI : R2 := rI0 fun i j => .int (i - j)
abbrev rMulI : R2 := rI CMul fun i j => .int (i * j)
abbrev rModI : R2 := rI (fun _ j => 0 < j) fun i j => .int (i % j)
abbrev rDivI : R2 := rI CDiv fun i j => .int (i / j)
abbrev rPowI : R2 := rI CPow fun i j => .int (i ^ j.toNat)
abbrev rLtI : R2 := rI0 fun i j => .bl (decide (i < j))
abbrev rLeI : R2 := rI0 fun i j => .bl (decide (i ≤ j))
abbrev rGtI : R2 := rI0 fun i j => .bl (decide (j < i))
abbrev rGeI : R2 := rI0 fun i j => .bl (decide (j ≤ i))
def rAddT : R2 := fun x y H Q => ∃ i j, x = .str i ∧ y = .str j ∧ i.length + j.length ≤ sizeLine ∧ Q (.str (i ++ j)) H
def rAbs : List V → Hp → VK → Prop := fun xs H Q => ∃ i, xs = [.int i] ∧ Q (.int (if i < 0 then -i else i)) H
def rMx2 : List V → Hp → VK → Prop := fun xs H Q => ∃ i j, xs = [.int i, .int j] ∧ Q (.int (if j > i then j else i)) H
def rMn2 : List V → Hp → VK → Prop := fun xs H Q => ∃ i j, xs = [.int i, .int j] ∧ Q (.int (if j < i then j else i)) H
def rInt1 : List V → Hp → VK → Prop := fun xs H Q => (∃ i, xs = [.int i] ∧ Q (.int i) H) ∨ ∃ k, xs = [.bl k] ∧ Q (.int (if k then 1 else 0)) H
def rLenU (K : PySem.W.Frag) : List V → Hp → VK → Prop := fun xs H Q => (∃ x n, xs = [x] ∧ LenV K x H n ∧ Q (.int n) H) ∨ ∃ a kvs, xs = [V.ref a] ∧ H a = some (.dK kvs) ∧ Q (.int kvs.length) H
def rListOf (K : PySem.W.Frag) : List V → Hp → VK → Prop := fun xs H Q => ∃ p ys, xs = [.ref p] ∧ (SqL K H p ys ∨ SqT K H p ys) ∧ ∀ l, H l = none → Q (.ref l) (upd H l (.lst ys))
def rTupOf (K : PySem.W.Frag) : List V → Hp → VK → Prop := fun xs H Q => ∃ p ys, xs = [.ref p] ∧ ((SqL K H p ys ∧ ∀ l, H l = none → Q (.ref l) (upd H l (.tup ys))) ∨ (SqT K H p ys ∧ Q (.ref p) H))
theorem cr_len {X : Cx} : CallR X (.builtin "len") (rLenU X.K) := CallR.or call_len call_lenD
/-- the built-ins' names are still free -/
structure Bf (mg : Str → Option Value) : Prop where
  len : mg "len" = none
  abs : mg "abs" = none
  max : mg "max" = none
  min : mg "min" = none
  int : mg "int" = none
  bool : mg "bool" = none
  str : mg "str" = none
  list : mg "list" = none
  tuple : mg "tuple" = none
  dict : mg "dict" = none
  isinstance : mg "isinstance" = none
  all : mg "all" = none
  any : mg "any" = none
  sum : mg "sum" = none
  iter : mg "iter" = none
  sorted : mg "sorted" = none
  range : mg "range" = none
  enumerate : mg "enumerate" = none
  zip : mg "zip" = none
  ValueError : mg "ValueError" = none
theorem bt_len : bootBuiltins "len" = some (.builtin "len") := by decide +kernel
theorem bt_abs : bootBuiltins "abs" = some (.builtin "abs") := by decide +kernel
theorem bt_max : bootBuiltins "max" = some (.builtin "max") := by decide +kernel
theorem bt_min : bootBuiltins "min" = some (.builtin "min") := by decide +kernel
theorem bt_int : bootBuiltins "int" = some (.type "int") := by decide +kernel
theorem bt_list : bootBuiltins "list" = some (.type "list") := by decide +kernel
theorem bt_tuple : bootBuiltins "tuple" = some (.type "tuple") := by decide +kernel
theorem bt_dict : bootBuiltins "dict" = some (.type "dict") := by decide +kernel
theorem bt_isinstance : bootBuiltins "isinstance" = some (.builtin "isinstance") := by decide +kernel
theorem bt_all : bootBuiltins "all" = some (.builtin "all") := by decide +kernel
theorem bt_any : bootBuiltins "any" = some (.builtin "any") := by decide +kernel
theorem bt_sum : bootBuiltins "sum" = some (.builtin "sum") := by decide +kernel
theorem bt_iter : bootBuiltins "iter" = some (.builtin "iter") := by decide +kernel
/-! ### defs by their names -/
structure Cal (P : Program) (w : World) (K : PySem.W.Frag) (mg : Str → Option Value) (base : Heap) (k : Nat) (x : Str) (ps : List Str) (sp : Sp) : Prop where
  fn : ∃ fd, FnOk P w K mg base (L2.CX P w) k (He.ga K x) fd ps sp ∧ Binds K fd ps []
  gl : mg x = some (.ref (He.ga K x))
  kp : PySem.W.keepIn K (.ref (He.ga K x)) = true
structure MCal (P : Program) (w : World) (K : PySem.W.Frag) (mg : Str → Option Value) (base : Heap) (k : Nat) (c m : Str) (ps : List Str) (sp : Sp) : Prop where
  fn : ∃ fd, FnOk P w K mg base (L2.CX P w) k (He.ma K (He.ga K c) m) fd ps sp ∧ Binds K fd ps []
  mt : Meth K (He.ga K c) m (He.ma K (He.ga K c) m)
structure ICal (P : Program) (w : World) (K : PySem.W.Frag) (mg : Str → Option Value) (base : Heap) (k : Nat) (c : Str) (ps : List Str) (sp : Sp) : Prop where
  fn : ∃ fd, FnOk P w K mg base (L2.CX P w) k (He.ma K (He.ga K c) "__init__") fd ps sp ∧ Binds K fd ps []
  mkr : Mk K (He.ga K c) (He.ma K (He.ga K c) "__init__")
  gl : mg c = some (.ref (He.ga K c))
theorem hu65_of {A : Around} {k : Nat} (hr : Room k A) : A.units + 65 < cLine := by have := hr.un; omega
section
variable {X : Cx} {k : Nat} {x c m : Str} {ps : List Str} {sp : Sp} {E : XK} {p pos apos : Pos} {e o : Expr} {es : List Expr} {t : TA} {ta : TE}
theorem pe_cal (C : Cal X.prog X.w X.K X.mg X.base k x ps sp) (hr : Room k X.A) (hg : Gl X x) (hx : Passes (L2.CX X.prog X.w) X E)
    (ha : PA X (e :: es) t) (hdb : (x == ("__debug__" : Str)) = false := by decide) (he : starEach (e :: es) X.env = (false, eval e X.env) :: starEach es X.env := by rfl) (hpl : (backTo pos (starEach es X.env)).any (·.1) = false := by rfl) :
    PE X (.Call (.Name x p) (e :: es) [] pos) (tCall sp [] E t) := by
  obtain ⟨⟨fd, F, b⟩, gl, kp⟩ := C
  exact pe_call F hr hg gl kp b .nil hx ha hdb he hpl
theorem pe_mak (C : ICal X.prog X.w X.K X.mg X.base k c ps sp) (hr : Room (k + 1) X.A) (hg : Gl X c) (hx : Passes (L2.CX X.prog X.w) X E)
    (ha : PA X (e :: es) t) (hdb : (c == ("__debug__" : Str)) = false := by decide) (he : starEach (e :: es) X.env = (false, eval e X.env) :: starEach es X.env := by rfl) (hpl : (backTo pos (starEach es X.env)).any (·.1) = false := by rfl) :
    PE X (.Call (.Name c p) (e :: es) [] pos) (tMake (He.ga X.K c) sp [] E t) := by
  obtain ⟨⟨fd, F, b⟩, mk, gl⟩ := C
  exact pe_make mk F hr hg gl b .nil hx ha hdb he hpl
theorem pe_mcal {pl : Sem Bool} (ho : PE X o ta) (C : MCal X.prog X.w X.K X.mg X.base k c m ps sp) (cl : Cls X.K (He.ga X.K c)) (hr : Room k X.A) (hx : Passes (L2.CX X.prog X.w) X E) (ha : PA X (e :: es) t)
    (hst : starEach (e :: es) X.env = (false, eval e X.env) :: starEach es X.env := by rfl) (hpl : (backTo pos (starEach es X.env)).any (·.1) = false := by rfl)
    (ht : eval (.Call (.Attribute o m apos) (e :: es) [] pos) X.env = (do
      let ov ← eval o X.env
      standAt apos.atName
      let (f, first) ← holding [ov] (getMethod ov m pl)
      callWith pos f first (backTo pos (starEach (e :: es) X.env)) (backToKw pos (keywordEach [] X.env))) := by rfl) :
    PE X (.Call (.Attribute o m apos) (e :: es) [] pos) (tMeth (He.ga X.K c) m sp [] E ta t) := by
  obtain ⟨⟨fd, F, b⟩, mt⟩ := C
  exact pe_meth ho cl mt F hr b .nil hx ha hst hpl ht
theorem pe_mcal0 {pl : Sem Bool} (ho : PE X o ta) (C : MCal X.prog X.w X.K X.mg X.base k c m ps sp) (cl : Cls X.K (He.ga X.K c)) (hr : Room k X.A) (hx : Passes (L2.CX X.prog X.w) X E)
    (ht : eval (.Call (.Attribute o m apos) [] [] pos) X.env = (do
      let ov ← eval o X.env
      standAt apos.atName
      let (f, first) ← holding [ov] (getMethod ov m pl)
      callWith pos f first (backTo pos (starEach [] X.env)) (backToKw pos (keywordEach [] X.env))) := by rfl) :
    PE X (.Call (.Attribute o m apos) [] [] pos) (tMeth (He.ga X.K c) m sp [] E ta tNil) := by
  obtain ⟨⟨fd, F, b⟩, mt⟩ := C
  exact pe_meth0 ho cl mt F hr b .nil hx ht
end
end WK
namespace WK
open PySem L2
section
variable {K : PySem.W.Frag} {σ : L2.St} {H : Hp} {Q : VK} {D : Ends} {ta tb te tl : TE} {c d : TT} {t u : TS} {tg : TG} {tgs : TGs} {r r' : R2} {tas : TA} {x y v : V} {E : XK} {sp : Sp}
theorem g_seq (h : t { D with nx := u D } σ H) : tSeq t u D σ H := h
theorem g_next (h : D.nx σ H) : tNext D σ H := h
theorem g_drop (h : te σ H fun _ H1 => D.nx σ H1) : tDrop te D σ H := h
theorem g_ret (h : te σ H D.rt) : tRet te D σ H := h
theorem g_asg (h : te σ H fun x H1 => tg x σ H1 D.nx) : tAsg te tg D σ H := h
theorem g_name {i : Nat} {Q : L2.St → Hp → Prop} (h : Q (σ.set i (some v)) H) : gName i v σ H Q := h
theorem g_ifS (h : c σ H fun b H1 => if b = true then t D σ H1 else u D σ H1) : tIfS c t u D σ H := h
theorem g_if (h : c σ H fun b H1 => if b = true then ta σ H1 Q else tb σ H1 Q) : tIf c ta tb σ H Q := h
theorem g_test {Q : Bool → Hp → Prop} (h : te σ H fun x H' => ∃ k, x = .bl k ∧ Q k H') : tTest te σ H Q := h
theorem g_tB {Q : Bool → Hp → Prop} (h : te σ H fun x H' => ∃ k, x = .bl k ∧ Q k H') : tB te σ H Q := h
theorem g_bl {k : Bool} {Q : Bool → Prop} (h : Q k) : ∃ j, V.bl k = .bl j ∧ Q j := ⟨k, rfl, h⟩
theorem g_and {Q : Bool → Hp → Prop} (h : c σ H fun b H1 => if b = true then d σ H1 Q else Q false H1) : tAnd c d σ H Q := h
theorem g_or {Q : Bool → Hp → Prop} (h : c σ H fun b H1 => if b = true then Q true H1 else d σ H1 Q) : tOr c d σ H Q := h
theorem g_not {Q : Bool → Hp → Prop} (h : c σ H fun b H1 => Q (!b) H1) : tNot c σ H Q := h
theorem g_andV (h : ta σ H fun x H1 => ∃ c, x = .bl c ∧ if c = true then tb σ H1 Q else Q (.bl false) H1) : tAndV ta tb σ H Q := h
theorem g_orV (h : ta σ H fun x H1 => ∃ c, x = .bl c ∧ if c = true then Q (.bl true) H1 else tb σ H1 Q) : tOrV ta tb σ H Q := h
theorem g_notV (h : ta σ H fun x H1 => ∃ c, x = .bl c ∧ Q (.bl (!c)) H1) : tNotV ta σ H Q := h
theorem g_var {i : Nat} (e : σ[i]? = some (some v)) (h : Q v H) : tVar i σ H Q := ⟨v, e, h⟩
theorem g_c (h : Q v H) : tC v σ H Q := h
theorem g_op (h : ta σ H fun x H1 => tb σ H1 fun y H2 => r x y H2 Q) : tOp r ta tb σ H Q := h
theorem g_un {r : V → Hp → VK → Prop} (h : ta σ H fun x H1 => r x H1 Q) : tUn r ta σ H Q := h
theorem g_neg {i : Int} (h : Q (.int (-i)) H) : (rU fun i => .int (-i)) (.int i) H Q := ⟨i, rfl, h⟩
theorem g_cb {r : List V → Hp → VK → Prop} (h : tas σ H fun vs H1 => r vs H1 Q) : tCB r tas σ H Q := h
theorem g_cons {Q : List V → Hp → Prop} (h : te σ H fun x H1 => tas σ H1 fun xs H2 => Q (x :: xs) H2) : tCons te tas σ H Q := h
theorem g_nil {Q : List V → Hp → Prop} (h : Q [] H) : tNil σ H Q := h
theorem g_call {dvs : List V} (h : tas σ H fun vs H1 => sp (vs ++ dvs) H1 Q E) : tCall sp dvs E tas σ H Q := h
theorem g_par {i j : Nat} (h : tas σ H fun vs H1 => ∃ v w, vs = [v, w] ∧ D.nx ((σ.set i (some v)).set j (some w)) H1) : tPar i j tas D σ H := h
theorem g_par2 {v w : V} {Q : V → V → Prop} (h : Q v w) : ∃ v' w', [v, w] = [v', w'] ∧ Q v' w' := ⟨v, w, rfl, h⟩
theorem g_chain (h : ta σ H fun x H1 => tb σ H1 fun y H2 => r x y H2 fun z H3 => ∃ k, z = .bl k ∧ (if k = true then te σ H3 fun w' H4 => r' y w' H4 Q else Q (.bl false) H3)) : tChain r r' ta tb te σ H Q := h
theorem g_rI0 {g : Int → Int → V} {i j : Int} (h : Q (g i j) H) : rI0 g (.int i) (.int j) H Q := ⟨i, j, rfl, rfl, h⟩
theorem g_rI {C : Int → Int → Prop} {g : Int → Int → V} {i j : Int} (hc : C i j) (h : Q (g i j) H) : rI C g (.int i) (.int j) H Q := ⟨i, j, rfl, rfl, hc, h⟩
theorem g_int1 {i : Int} (h : Q (.int i) H) : rInt1 [.int i] H Q := .inl ⟨i, rfl, h⟩
theorem g_abs {i : Int} (h : Q (.int (if i < 0 then -i else i)) H) : rAbs [.int i] H Q := ⟨i, rfl, h⟩
theorem g_mx2 {i j : Int} (h : Q (.int (if j > i then j else i)) H) : rMx2 [.int i, .int j] H Q := ⟨i, j, rfl, h⟩
theorem g_mn2 {i j : Int} (h : Q (.int (if j < i then j else i)) H) : rMn2 [.int i, .int j] H Q := ⟨i, j, rfl, h⟩
theorem g_ixL {p : Addr} {xs : List V} {i : Int} (hs : SqL K H p xs) (ha : atI xs i = some v) (h : Q v H) : rIx K (.ref p) (.int i) H Q := .inl ⟨p, xs, i, v, rfl, rfl, hs, ha, h⟩
theorem g_ixT {p : Addr} {xs : List V} {i : Int} (hs : SqT K H p xs) (ha : atI xs i = some v) (h : Q v H) : rIx K (.ref p) (.int i) H Q := .inr (.inl ⟨p, xs, i, v, rfl, rfl, hs, ha, h⟩)
theorem g_ixS {z : Str} {i : Int} {c : Nat} (hl : z.length ≤ sizeLine) (ha : atI z.cps.toList i = some c) (h : Q (.str ⟨#[c]⟩) H) : rIx K (.str z) (.int i) H Q := .inr (.inr ⟨z, i, c, rfl, rfl, hl, ha, h⟩)
theorem g_lenL {p : Addr} {xs : List V} (hs : SqL K H p xs) (h : Q (.int xs.length) H) : rLenU K [.ref p] H Q := .inl ⟨_, _, rfl, .inl ⟨xs, hs, rfl⟩, h⟩
theorem g_lenT {p : Addr} {xs : List V} (hs : SqT K H p xs) (h : Q (.int xs.length) H) : rLenU K [.ref p] H Q := .inl ⟨_, _, rfl, .inr ⟨xs, hs, rfl⟩, h⟩
theorem g_lenS {z : Str} (hl : z.length ≤ sizeLine) (h : Q (.int z.length) H) : rLenU K [.str z] H Q := .inl ⟨_, _, rfl, ⟨hl, rfl⟩, h⟩
theorem g_lenD {p : Addr} {kvs : List (Key × V)} (hs : H p = some (.dK kvs)) (h : Q (.int kvs.length) H) : rLenU K [.ref p] H Q := .inr ⟨_, _, rfl, hs, h⟩
theorem g_listL {p : Addr} {xs : List V} (hs : SqL K H p xs) (h : ∀ l, H l = none → Q (.ref l) (upd H l (.lst xs))) : rListOf K [.ref p] H Q := ⟨p, xs, rfl, .inl hs, h⟩
theorem g_listT {p : Addr} {xs : List V} (hs : SqT K H p xs) (h : ∀ l, H l = none → Q (.ref l) (upd H l (.lst xs))) : rListOf K [.ref p] H Q := ⟨p, xs, rfl, .inr hs, h⟩
theorem g_tupL {p : Addr} {xs : List V} (hs : SqL K H p xs) (h : ∀ l, H l = none → Q (.ref l) (upd H l (.tup xs))) : rTupOf K [.ref p] H Q := ⟨p, xs, rfl, .inl ⟨hs, h⟩⟩
theorem g_sub {to ti : TE} {ts : TSet} {Q : L2.St → Hp → Prop} (h : to σ H fun o H1 => ti σ H1 fun i H2 => ts o i v H2 fun H3 => Q σ H3) : gSub to ti ts v σ H Q := h
theorem g_setL {p : Addr} {xs : List V} {i : Int} {j : Nat} {Q : Hp → Prop} (hs : H p = some (.lst xs)) (hj : ixN xs.length i = some j) (h : Q (upd H p (.lst (xs.set j v)))) : rSetL (.ref p) (.int i) v H Q := ⟨p, xs, i, j, rfl, rfl, hs, hj, h⟩
theorem g_lst (h : tas σ H fun xs H1 => xs.length ≤ sizeLine ∧ ∀ p, H1 p = none → Q (.ref p) (upd H1 p (.lst xs))) : tLst tas σ H Q := h
theorem g_tup (h : tas σ H fun xs H1 => xs.length ≤ sizeLine ∧ ∀ p, H1 p = none → Q (.ref p) (upd H1 p (.tup xs))) : tTup tas σ H Q := h
theorem g_bm {T : String} {r : V → List V → Hp → VK → Prop} (h : te σ H fun x H1 => tyV K T x H1 ∧ tas σ H1 fun xs H2 => r x xs H2 Q) : tBM K T r te tas σ H Q := h
theorem g_bm0 {T : String} {r : V → List V → Hp → VK → Prop} (h : te σ H fun x H1 => tyV K T x H1 ∧ r x [] H1 Q) : tBM0 K T r te σ H Q := h
theorem g_tyL {p : Addr} {xs : List V} {P : Prop} (hs : SqL K H p xs) (h : P) : tyV K "list" (.ref p) H ∧ P := ⟨.inl ⟨rfl, xs, hs⟩, h⟩
theorem g_tyS {z : Str} {P : Prop} (h : P) : tyV K "str" (.str z) H ∧ P := ⟨rfl, h⟩
theorem g_app {p : Addr} {xs : List V} (hs : H p = some (.lst xs)) (hl : xs.length < sizeLine) (h : Q .non (upd H p (.lst (xs ++ [v])))) : rAppend (.ref p) [v] H Q := ⟨p, xs, v, rfl, rfl, hs, hl, h⟩
theorem g_fld {f : Str} {a C dx : Addr} {fs : List (Str × V)} : (te σ H fun x H1 => ∃ a C dx fs v, x = .ref a ∧ H1 a = some (.ins C dx fs) ∧ Cls K C ∧ NoAttr K C f ∧ fs.lookup f = some v ∧ Q v H1) → tFld K te f σ H Q := id
/-! ### sizes -/
theorem sz_le {n : Nat} (h : n ≤ 10000000) : n ≤ sizeLine := by rw [PySem.sizeLine_eq]; omega
theorem sz_lt {n : Nat} (h : n < 10000000) : n < sizeLine := by rw [PySem.sizeLine_eq]; omega
/-! ### heaps -/
theorem sl_new {p a : Addr} {o : HO} {xs : List V} (hn : H p = none) (h : SqL K H a xs) : SqL K (upd H p o) a xs := Evl.ex_l (Evl.Ex.new hn) h
theorem st_new {p a : Addr} {o : HO} {xs : List V} (hn : H p = none) (h : SqT K H a xs) : SqT K (upd H p o) a xs := Evl.ex_t (Evl.Ex.new hn) h
theorem up_new {p a : Addr} {o u : HO} (hn : H p = none) (h : H a = some u) : upd H p o a = some u := Evl.Ex.new hn _ _ h
theorem up_ne {p a : Addr} {o u : HO} (hn : a ≠ p) (h : H a = some u) : upd H p o a = some u := by rw [upd_ne hn]; exact h
end
end WK
namespace WK
open PySem L2
/-! ### heaps that grow; a bag that turns -/
theorem Ex.refl (H : Hp) : Ex H H := Evl.Ex.refl H
theorem Ex.trans {H H1 H2 : Hp} (a : Ex H H1) (b : Ex H1 H2) : Ex H H2 := Evl.Ex.trans a b
theorem Ex.new {H : Hp} {p : Addr} {o : HO} (h : H p = none) : Ex H (upd H p o) := Evl.Ex.new h
theorem Ex.mut {H H' : Hp} {p : Addr} {o : HO} (e : Ex H H') (h : H p = none) : Ex H (upd H' p o) := Evl.Ex.mut e h
theorem Ex.nn {H H' : Hp} {p : Addr} (e : Ex H H') (h : H' p = none) : H p = none := Evl.fresh_back e h
theorem Ex.del {H H' : Hp} (b : Addr) (e : Ex H H') : Ex (del H b) (del H' b) := fun a o h => by
  by_cases q : a = b
  · subst q; rw [del_same] at h; cases h
  · rw [del_ne q] at h ⊢; exact e a o h
theorem ex_del (H : Hp) (b : Addr) : Ex (del H b) H := fun a o h => by
  by_cases q : a = b
  · subst q; rw [del_same] at h; cases h
  · rw [del_ne q] at h; exact h
theorem del_none {H : Hp} {a b : Addr} (h : H a = none) : del H b a = none := by
  by_cases q : a = b
  · subst q; exact del_same
  · rw [del_ne q]; exact h
theorem del_some {H : Hp} {a b : Addr} {o : HO} (q : a ≠ b) (h : H a = some o) : del H b a = some o := by rw [del_ne q]; exact h
/-- a bag: two ints that are not negative -/
def Bag (H : Hp) (b : Addr) : Prop := ∃ x y : Int, H b = some (.lst [.int x, .int y]) ∧ 0 ≤ x ∧ 0 ≤ y
theorem Bag.ne {H : Hp} {b p : Addr} (h : Bag H b) (n : H p = none) : p ≠ b := by
  obtain ⟨x, y, e, _⟩ := h
  intro q; subst q; rw [n] at e; cases e
theorem Bag.ex {H H' : Hp} {b : Addr} (h : Bag H b) (e : Ex H H') : Bag H' b := by
  obtain ⟨x, y, q, h1, h2⟩ := h
  exact ⟨x, y, e _ _ q, h1, h2⟩
/-- all but the bag is kept, the bag is a bag -/
structure Kp (b : Addr) (H H' : Hp) : Prop where
  ex : Ex (del H b) (del H' b)
  bag : Bag H' b
theorem Kp.refl {b : Addr} {H : Hp} (h : Bag H b) : Kp b H H := ⟨Ex.refl _, h⟩
theorem Kp.trans {b : Addr} {H H1 H2 : Hp} (k : Kp b H H1) (k' : Kp b H1 H2) : Kp b H H2 := ⟨k.ex.trans k'.ex, k'.bag⟩
theorem Kp.of_ex {b : Addr} {H H' : Hp} (h : Bag H b) (e : Ex H H') : Kp b H H' := ⟨e.del b, h.ex e⟩
theorem Kp.grow {b : Addr} {H H1 H2 : Hp} (k : Kp b H H1) (e : Ex H1 H2) : Kp b H H2 := k.trans (Kp.of_ex k.bag e)
theorem Kp.turn {b : Addr} {H : Hp} {x y : Int} (hx : 0 ≤ x) (hy : 0 ≤ y) : Kp b H (upd H b (.lst [.int x, .int y])) :=
  ⟨fun a o h => by
    by_cases q : a = b
    · subst q; rw [del_same] at h; cases h
    · rw [del_ne q] at h ⊢; rw [upd_ne q]; exact h, x, y, upd_same, hx, hy⟩
theorem Kp.nn {b p : Addr} {H H' : Hp} (k : Kp b H H') (h : Bag H b) (n : H' p = none) : H p = none := by
  have q : p ≠ b := k.bag.ne n
  have := k.ex.nn (p := p) (del_none n)
  rw [del_ne q] at this
  exact this
/-- an object that is younger than H may turn -/
theorem Kp.mut {b p : Addr} {o : HO} {H H' : Hp} (k : Kp b H H') (q : p ≠ b) (n : H p = none) : Kp b H (upd H' p o) :=
  ⟨fun a u h => by
    have e := k.ex a u h
    by_cases z : a = b
    · subst z; rw [del_same] at h; cases h
    · rw [del_ne z] at e ⊢
      by_cases y : a = p
      · subst y; rw [del_none n] at h; cases h
      · rw [upd_ne y]; exact e, by
    obtain ⟨x, y, e, h1, h2⟩ := k.bag
    exact ⟨x, y, by rw [upd_ne (Ne.symm q)]; exact e, h1, h2⟩⟩
section
variable {K : PySem.W.Frag} {H H' : Hp} {a b : Addr} {xs : List V} {o : HO}
theorem sl_ex (h : SqL K H a xs) (e : Ex H H') : SqL K H' a xs := Evl.ex_l e h
theorem st_ex (h : SqT K H a xs) (e : Ex H H') : SqT K H' a xs := Evl.ex_t e h
theorem hp_ex (h : H a = some o) (e : Ex H H') : H' a = some o := e _ _ h
theorem sl_kp (h : SqL K (del H b) a xs) (k : Kp b H H') : SqL K H' a xs := Evl.ex_l (k.ex.trans (ex_del _ _)) h
theorem st_kp (h : SqT K (del H b) a xs) (k : Kp b H H') : SqT K H' a xs := Evl.ex_t (k.ex.trans (ex_del _ _)) h
theorem hp_kp (h : del H b a = some o) (k : Kp b H H') : H' a = some o := (ex_del _ _) _ _ (k.ex _ _ h)
theorem sl_del (h : SqL K (del H b) a xs) : SqL K H a xs := Evl.ex_l (ex_del _ _) h
theorem st_del (h : SqT K (del H b) a xs) : SqT K H a xs := Evl.ex_t (ex_del _ _) h
theorem hp_del (h : del H b a = some o) : H a = some o := (ex_del _ _) _ _ h
end
/-! ### data of any depth -/
mutual
theorem Dp.mono {K : PySem.W.Frag} {H H' : Hp} (e : Ex H H') : ∀ {v : V} {d : PyData}, Dp K H v d → Dp K H' v d
  | _, _, .non => .non
  | _, _, .bl b => .bl b
  | _, _, .int i => .int i
  | _, _, .str x => .str x
  | _, _, .lst s h => .lst (Evl.ex_l e s) (DpAll.mono e h)
  | _, _, .tup s h => .tup (Evl.ex_t e s) (DpAll.mono e h)
theorem DpAll.mono {K : PySem.W.Frag} {H H' : Hp} (e : Ex H H') : ∀ {vs : List V} {ds : List PyData}, DpAll K H vs ds → DpAll K H' vs ds
  | _, _, .nil => .nil
  | _, _, .cons h t => .cons (Dp.mono e h) (DpAll.mono e t)
end
end WK
namespace WK
open PySem L2
/-! ### loops -/
def ForP (J : It) (g : TG) (tb : TS) (D : Ends) (σ : L2.St) (H1 : Hp) : Prop := ∃ W : Nat → Nat → L2.St → Hp → Prop, (∃ m, W 0 m σ H1) ∧ ∀ i m σ H, W i m σ H →
  (J.stop i H ∧ D.nx σ H) ∨ (J.go i H ∧ ∃ N : L2.St → Hp → Prop, (∀ σ' H', N σ' H' → ∃ m', m' < m ∧ W (i + 1) m' σ' H') ∧ ∀ x H', J.yld i H x H' → g x σ H' fun σ2 H2 => tb { D with nx := N, ct := N, bk := D.nx } σ2 H2)
def LcP (J : It) (g : TG) (tt : TT) (te : TE) (vs : List Nat) (σ : L2.St) (Q : VK) (H1 : Hp) : Prop := ∀ D, H1 D = none → ∃ W : Nat → Nat → Hp → Prop, (∃ m, W 0 m (upd H1 D (.lst []))) ∧ ∀ i m H, W i m H →
  (J.stop i H ∧ Q (.ref D) H) ∨ (J.go i H ∧ ∃ Nx : Hp → Prop, (∀ H', Nx H' → ∃ m', m' < m ∧ W (i + 1) m' H') ∧ ∀ x H', J.yld i H x H' → g x (wipe σ vs) H' fun σ2 H2 => wipe σ2 vs = wipe σ vs ∧ tt σ2 H2 fun b H3 =>
    if b = true then te σ2 H3 fun y H4 => ∃ acc, H4 D = some (.lst acc) ∧ acc.length < sizeLine ∧ Nx (upd H4 D (.lst (acc ++ [y]))) else Nx H3)
def DcP (J : It) (g : TG) (tt : TT) (tk tv : TE) (vs : List Nat) (σ : L2.St) (Q : VK) (H1 : Hp) : Prop := ∀ D, H1 D = none → ∃ W : Nat → Nat → Hp → Prop, (∃ m, W 0 m (upd H1 D (.dK []))) ∧ ∀ i m H, W i m H →
  (J.stop i H ∧ Q (.ref D) H) ∨ (J.go i H ∧ ∃ Nx : Hp → Prop, (∀ H', Nx H' → ∃ m', m' < m ∧ W (i + 1) m' H') ∧ ∀ x H', J.yld i H x H' → g x (wipe σ vs) H' fun σ2 H2 => wipe σ2 vs = wipe σ vs ∧ tt σ2 H2 fun b H3 =>
    if b = true then tk σ2 H3 fun y H4 => tv σ2 H4 fun z H5 => ∃ kvs k, y = kV k ∧ H5 D = some (.dK kvs) ∧ kvs.length < sizeLine ∧ Nx (upd H5 D (.dK (putK kvs k z))) else Nx H3)
section
variable {K : PySem.W.Frag} {σ : L2.St} {H : Hp} {Q : VK} {D : Ends} {wi : TI} {g : TG} {tb : TS} {tt : TT} {te tl tk tv : TE} {ta : TA} {vs : List Nat} {R : It → Hp → Prop}
theorem g_yes {Q : Bool → Hp → Prop} (h : Q true H) : tYes σ H Q := h
theorem g_for (h : wi σ H fun J H1 => ForP J g tb D σ H1) : tFor wi g tb D σ H := h
theorem g_lc (h : wi σ H fun J H1 => LcP J g tt te vs σ Q H1) : tLc wi g tt te vs σ H Q := h
theorem g_dc (h : wi σ H fun J H1 => DcP J g tt tk tv vs σ Q H1) : tDc wi g tt tk tv vs σ H Q := h
theorem g_iList (h : tl σ H fun x H1 => ∃ a, x = .ref a ∧ (∃ xs, SqL K H1 a xs) ∧ R (Itl K a) H1) : iList K tl σ H R := h
theorem g_iTup (h : tl σ H fun x H1 => ∃ a, x = .ref a ∧ (∃ xs, SqT K H1 a xs) ∧ R (Itt K a) H1) : iTup K tl σ H R := h
theorem g_iStr (h : te σ H fun v H1 => ∃ x, v = .str x ∧ R (Its x) H1) : iStr te σ H R := h
theorem g_iRng1 (h : ta σ H fun vs H1 => ∃ j : Int, vs = [.int j] ∧ -(2 ^ 62) ≤ j ∧ j < 2 ^ 62 ∧ R (Itr 0 j.toNat) H1) : iRng1 ta σ H R := h
theorem g_iEnum (h : ta σ H fun vs H1 => ∃ a xs, vs = [.ref a] ∧ SqL K H1 a xs ∧ R (Ite K a) H1) : iEnum K ta σ H R := h
theorem g_itL {a : Addr} {xs : List V} {R : Addr → Prop} (hs : SqL K H a xs) (h : R a) : ∃ a', V.ref a = .ref a' ∧ (∃ xs, SqL K H a' xs) ∧ R a' := ⟨a, rfl, ⟨xs, hs⟩, h⟩
theorem g_itT {a : Addr} {xs : List V} {R : Addr → Prop} (hs : SqT K H a xs) (h : R a) : ∃ a', V.ref a = .ref a' ∧ (∃ xs, SqT K H a' xs) ∧ R a' := ⟨a, rfl, ⟨xs, hs⟩, h⟩
theorem g_itS {x : Str} {R : Str → Prop} (h : R x) : ∃ x', V.str x = .str x' ∧ R x' := ⟨x, rfl, h⟩
theorem g_itR {j : Int} {R : Int → Prop} (h1 : -(2 ^ 62) ≤ j ∧ j < 2 ^ 62) (h : R j) : ∃ j' : Int, [V.int j] = [.int j'] ∧ -(2 ^ 62) ≤ j' ∧ j' < 2 ^ 62 ∧ R j' := ⟨j, rfl, h1.1, h1.2, h⟩
theorem g_itE {a : Addr} {xs : List V} {R : Addr → Prop} (hs : SqL K H a xs) (h : R a) : ∃ a' xs, [V.ref a] = [.ref a'] ∧ SqL K H a' xs ∧ R a' := ⟨a, xs, rfl, hs, h⟩
theorem g_gtup {n : Nat} {t : TGs} {a : Addr} {xs : List V} {Q : L2.St → Hp → Prop} (hs : SqT K H a xs) (hn : xs.length = n) (h : t xs σ H Q) : gTup K n t (.ref a) σ H Q := ⟨a, xs, rfl, hs, hn, h⟩
theorem g_gcons {t : TG} {u : TGs} {v : V} {r : List V} {Q : L2.St → Hp → Prop} (h : t v σ H fun σ' H' => u r σ' H' Q) : gCons t u (v :: r) σ H Q := ⟨v, r, rfl, h⟩
theorem g_gnil {Q : L2.St → Hp → Prop} (h : Q σ H) : gNil [] σ H Q := ⟨rfl, h⟩
theorem g_popAt {p : Addr} {xs : List V} {j : Nat} (hs : H p = some (.lst xs)) (hz : xs.length < 1000000) (hj : j < xs.length) (h : Q xs[j] (upd H p (.lst (xs.eraseIdx j)))) : rPopAt (.ref p) [.int (j : Nat)] H Q :=
  ⟨p, xs, j, j, xs[j], rfl, rfl, hs, by omega, by omega, (ixN_seq (by unfold ixN; rw [if_pos (by omega), if_pos (by omega)]; simp)).1, List.getElem?_eq_getElem hj, h⟩
/-! any iterator -/
theorem for_any {J : It} (n : Nat) (Pv : Nat → L2.St → Hp → Prop) (h0 : Pv 0 σ H) (go : ∀ i σ H, i < n → Pv i σ H → J.go i H) (stop : ∀ σ H, Pv n σ H → J.stop n H)
    (hs : ∀ i σ H x H', i < n → Pv i σ H → J.yld i H x H' → g x σ H' fun σ2 H2 => tb { D with nx := Pv (i + 1), ct := Pv (i + 1), bk := D.nx } σ2 H2) (hd : ∀ σ H, Pv n σ H → D.nx σ H) : ForP J g tb D σ H := by
  refine ⟨fun i m σ H => m = n - i ∧ i ≤ n ∧ Pv i σ H, ⟨n, rfl, Nat.zero_le _, h0⟩, ?_⟩
  rintro i m σ H ⟨rfl, hi, hp⟩
  by_cases hin : i < n
  · exact .inr ⟨go i σ H hin hp, Pv (i + 1), fun σ' H' h => ⟨n - (i + 1), by omega, rfl, by omega, h⟩, fun x H' hy => hs i σ H x H' hin hp hy⟩
  · have : i = n := by omega
    subst this
    exact .inl ⟨stop σ H hp, hd σ H hp⟩
theorem for_R (n : Nat) (Pv : Nat → L2.St → Hp → Prop) (h0 : Pv 0 σ H) (hs : ∀ i σ H, i < n → Pv i σ H → g (.int (i : Nat)) σ H fun σ2 H2 => tb { D with nx := Pv (i + 1), ct := Pv (i + 1), bk := D.nx } σ2 H2) (hd : ∀ σ H, Pv n σ H → D.nx σ H) {j : Int} (hj : j.toNat = n := by rfl) :
    ForP (Itr 0 j.toNat) g tb D σ H := by
  subst hj
  refine for_any j.toNat Pv h0 (fun i _ _ hi _ => hi) (fun _ _ _ => Nat.le_refl _) (fun i σ H x H' hi hp hy => ?_) hd
  obtain ⟨rfl, rfl⟩ := hy
  have := hs i σ H' hi hp
  rw [← Int.zero_add ((i : Nat) : Int)] at this
  exact this
theorem for_L {a : Addr} {xs : List V} (Pv : Nat → L2.St → Hp → Prop) (h0 : Pv 0 σ H) (hl : ∀ i σ H, Pv i σ H → SqL K H a xs)
    (hs : ∀ i x σ H, xs[i]? = some x → Pv i σ H → g x σ H fun σ2 H2 => tb { D with nx := Pv (i + 1), ct := Pv (i + 1), bk := D.nx } σ2 H2) (hd : ∀ σ H, Pv xs.length σ H → D.nx σ H) : ForP (Itl K a) g tb D σ H := by
  refine for_any xs.length Pv h0 (fun i σ H hi hp => ⟨xs, xs[i], hl i σ H hp, List.getElem?_eq_getElem hi⟩) (fun σ H hp => ⟨xs, hl _ _ _ hp, Nat.le_refl _⟩) (fun i σ H x H' hi hp hy => ?_) hd
  obtain ⟨rfl, hy⟩ := hy
  exact hs i x σ H' (hy xs (hl i σ H' hp)) hp
theorem for_T {a : Addr} {xs : List V} (Pv : Nat → L2.St → Hp → Prop) (h0 : Pv 0 σ H) (hl : ∀ i σ H, Pv i σ H → SqT K H a xs)
    (hs : ∀ i x σ H, xs[i]? = some x → Pv i σ H → g x σ H fun σ2 H2 => tb { D with nx := Pv (i + 1), ct := Pv (i + 1), bk := D.nx } σ2 H2) (hd : ∀ σ H, Pv xs.length σ H → D.nx σ H) : ForP (Itt K a) g tb D σ H := by
  refine for_any xs.length Pv h0 (fun i σ H hi hp => ⟨xs, xs[i], hl i σ H hp, List.getElem?_eq_getElem hi⟩) (fun σ H hp => ⟨xs, hl _ _ _ hp, Nat.le_refl _⟩) (fun i σ H x H' hi hp hy => ?_) hd
  obtain ⟨rfl, hy⟩ := hy
  exact hs i x σ H' (hy xs (hl i σ H' hp)) hp
theorem for_E {a : Addr} {xs : List V} (Pv : Nat → L2.St → Hp → Prop) (h0 : Pv 0 σ H) (hl : ∀ i σ H, Pv i σ H → SqL K H a xs)
    (hs : ∀ i x σ H T, xs[i]? = some x → Pv i σ H → H T = none → g (.ref T) σ (upd H T (.tup [.int (i : Nat), x])) fun σ2 H2 => tb { D with nx := Pv (i + 1), ct := Pv (i + 1), bk := D.nx } σ2 H2) (hd : ∀ σ H, Pv xs.length σ H → D.nx σ H) : ForP (Ite K a) g tb D σ H := by
  refine for_any xs.length Pv h0 (fun i σ H hi hp => ⟨xs, xs[i], hl i σ H hp, List.getElem?_eq_getElem hi⟩) (fun σ H hp => ⟨xs, hl _ _ _ hp, Nat.le_refl _⟩) (fun i σ H x H' hi hp hy => ?_) hd
  obtain ⟨T, y, rfl, hT, rfl, hy⟩ := hy
  exact hs i y σ H T (hy xs (hl i σ H hp)) hp hT
/-! list comprehensions -/
def LcN (C : Addr) (Pv : Nat → List V → Hp → Prop) (i : Nat) (H : Hp) : Prop := ∃ acc, H C = some (.lst acc) ∧ acc.length ≤ i ∧ Pv i acc H
theorem lc_add {C : Addr} {Pv : Nat → List V → Hp → Prop} {i : Nat} {acc : List V} {y : V} (e : H C = some (.lst acc)) (hl : acc.length ≤ i) (hi : i < 1000000) (p : Pv (i + 1) (acc ++ [y]) (upd H C (.lst (acc ++ [y])))) :
    ∃ acc, H C = some (.lst acc) ∧ acc.length < sizeLine ∧ LcN C Pv (i + 1) (upd H C (.lst (acc ++ [y]))) :=
  ⟨acc, e, sz_lt (by omega), acc ++ [y], upd_same, by simp; omega, p⟩
theorem lc_any {J : It} (n : Nat) (Pv : Addr → Nat → List V → Hp → Prop) (h0 : ∀ C, H C = none → Pv C 0 [] (upd H C (.lst []))) (go : ∀ C i acc H, i < n → Pv C i acc H → J.go i H) (stop : ∀ C acc H, Pv C n acc H → J.stop n H)
    (hs : ∀ C i acc H x H', i < n → H C = some (.lst acc) → acc.length ≤ i → Pv C i acc H → J.yld i H x H' → g x (wipe σ vs) H' fun σ2 H2 => wipe σ2 vs = wipe σ vs ∧ tt σ2 H2 fun b H3 =>
      if b = true then te σ2 H3 fun y H4 => ∃ acc, H4 C = some (.lst acc) ∧ acc.length < sizeLine ∧ LcN C (Pv C) (i + 1) (upd H4 C (.lst (acc ++ [y]))) else LcN C (Pv C) (i + 1) H3)
    (hd : ∀ C acc H', H C = none → H' C = some (.lst acc) → acc.length ≤ n → Pv C n acc H' → Q (.ref C) H') : LcP J g tt te vs σ Q H := by
  intro C hC
  refine ⟨fun i m H => m = n - i ∧ i ≤ n ∧ LcN C (Pv C) i H, ⟨n, rfl, Nat.zero_le _, [], upd_same, Nat.le_refl _, h0 C hC⟩, ?_⟩
  rintro i m H ⟨rfl, hi, acc, e, hl, hp⟩
  by_cases hin : i < n
  · exact .inr ⟨go C i acc H hin hp, LcN C (Pv C) (i + 1), fun H' h => ⟨n - (i + 1), by omega, rfl, by omega, h⟩, fun x H' hy => hs C i acc H x H' hin e hl hp hy⟩
  · have : i = n := by omega
    subst this
    exact .inl ⟨stop C acc H hp, hd C acc H hC e hl hp⟩
theorem lc_L {a : Addr} {xs : List V} (Pv : Addr → Nat → List V → Hp → Prop) (h0 : ∀ C, H C = none → Pv C 0 [] (upd H C (.lst []))) (hl : ∀ C i acc H, Pv C i acc H → SqL K H a xs)
    (hs : ∀ C i acc H x, xs[i]? = some x → H C = some (.lst acc) → acc.length ≤ i → Pv C i acc H → g x (wipe σ vs) H fun σ2 H2 => wipe σ2 vs = wipe σ vs ∧ tt σ2 H2 fun b H3 =>
      if b = true then te σ2 H3 fun y H4 => ∃ acc, H4 C = some (.lst acc) ∧ acc.length < sizeLine ∧ LcN C (Pv C) (i + 1) (upd H4 C (.lst (acc ++ [y]))) else LcN C (Pv C) (i + 1) H3)
    (hd : ∀ C acc H', H C = none → H' C = some (.lst acc) → acc.length ≤ xs.length → Pv C xs.length acc H' → Q (.ref C) H') : LcP (Itl K a) g tt te vs σ Q H := by
  refine lc_any xs.length Pv h0 (fun C i acc H hi hp => ⟨xs, xs[i], hl C i acc H hp, List.getElem?_eq_getElem hi⟩) (fun C acc H hp => ⟨xs, hl _ _ _ _ hp, Nat.le_refl _⟩) (fun C i acc H x H' hi e z hp hy => ?_) hd
  obtain ⟨rfl, hy⟩ := hy
  exact hs C i acc H' x (hy xs (hl _ _ _ _ hp)) e z hp
theorem lc_T {a : Addr} {xs : List V} (Pv : Addr → Nat → List V → Hp → Prop) (h0 : ∀ C, H C = none → Pv C 0 [] (upd H C (.lst []))) (hl : ∀ C i acc H, Pv C i acc H → SqT K H a xs)
    (hs : ∀ C i acc H x, xs[i]? = some x → H C = some (.lst acc) → acc.length ≤ i → Pv C i acc H → g x (wipe σ vs) H fun σ2 H2 => wipe σ2 vs = wipe σ vs ∧ tt σ2 H2 fun b H3 =>
      if b = true then te σ2 H3 fun y H4 => ∃ acc, H4 C = some (.lst acc) ∧ acc.length < sizeLine ∧ LcN C (Pv C) (i + 1) (upd H4 C (.lst (acc ++ [y]))) else LcN C (Pv C) (i + 1) H3)
    (hd : ∀ C acc H', H C = none → H' C = some (.lst acc) → acc.length ≤ xs.length → Pv C xs.length acc H' → Q (.ref C) H') : LcP (Itt K a) g tt te vs σ Q H := by
  refine lc_any xs.length Pv h0 (fun C i acc H hi hp => ⟨xs, xs[i], hl C i acc H hp, List.getElem?_eq_getElem hi⟩) (fun C acc H hp => ⟨xs, hl _ _ _ _ hp, Nat.le_refl _⟩) (fun C i acc H x H' hi e z hp hy => ?_) hd
  obtain ⟨rfl, hy⟩ := hy
  exact hs C i acc H' x (hy xs (hl _ _ _ _ hp)) e z hp
theorem lc_R (n : Nat) (Pv : Addr → Nat → List V → Hp → Prop) (h0 : ∀ C, H C = none → Pv C 0 [] (upd H C (.lst [])))
    (hs : ∀ C i acc H, i < n → H C = some (.lst acc) → acc.length ≤ i → Pv C i acc H → g (.int (i : Nat)) (wipe σ vs) H fun σ2 H2 => wipe σ2 vs = wipe σ vs ∧ tt σ2 H2 fun b H3 =>
      if b = true then te σ2 H3 fun y H4 => ∃ acc, H4 C = some (.lst acc) ∧ acc.length < sizeLine ∧ LcN C (Pv C) (i + 1) (upd H4 C (.lst (acc ++ [y]))) else LcN C (Pv C) (i + 1) H3)
    (hd : ∀ C acc H', H C = none → H' C = some (.lst acc) → acc.length ≤ n → Pv C n acc H' → Q (.ref C) H') {j : Int} (hj : j.toNat = n := by rfl) : LcP (Itr 0 j.toNat) g tt te vs σ Q H := by
  subst hj
  refine lc_any j.toNat Pv h0 (fun C i acc H hi hp => hi) (fun C acc H hp => Nat.le_refl _) (fun C i acc H x H' hi e z hp hy => ?_) hd
  obtain ⟨rfl, rfl⟩ := hy
  have := hs C i acc H' hi e z hp
  rw [← Int.zero_add ((i : Nat) : Int)] at this
  exact this
/-! dict comprehensions -/
def DcN (C : Addr) (Pv : Nat → List (Key × V) → Hp → Prop) (i : Nat) (H : Hp) : Prop := ∃ acc, H C = some (.dK acc) ∧ acc.length ≤ i ∧ Pv i acc H
theorem dc_any {J : It} (n : Nat) (Pv : Addr → Nat → List (Key × V) → Hp → Prop) (h0 : ∀ C, H C = none → Pv C 0 [] (upd H C (.dK []))) (go : ∀ C i acc H, i < n → Pv C i acc H → J.go i H) (stop : ∀ C acc H, Pv C n acc H → J.stop n H)
    (hs : ∀ C i acc H x H', i < n → H C = some (.dK acc) → acc.length ≤ i → Pv C i acc H → J.yld i H x H' → g x (wipe σ vs) H' fun σ2 H2 => wipe σ2 vs = wipe σ vs ∧ tt σ2 H2 fun b H3 =>
      if b = true then tk σ2 H3 fun y H4 => tv σ2 H4 fun z H5 => ∃ kvs k, y = kV k ∧ H5 C = some (.dK kvs) ∧ kvs.length < sizeLine ∧ DcN C (Pv C) (i + 1) (upd H5 C (.dK (putK kvs k z))) else DcN C (Pv C) (i + 1) H3)
    (hd : ∀ C acc H', H C = none → H' C = some (.dK acc) → acc.length ≤ n → Pv C n acc H' → Q (.ref C) H') : DcP J g tt tk tv vs σ Q H := by
  intro C hC
  refine ⟨fun i m H => m = n - i ∧ i ≤ n ∧ DcN C (Pv C) i H, ⟨n, rfl, Nat.zero_le _, [], upd_same, Nat.le_refl _, h0 C hC⟩, ?_⟩
  rintro i m H ⟨rfl, hi, acc, e, hl, hp⟩
  by_cases hin : i < n
  · exact .inr ⟨go C i acc H hin hp, DcN C (Pv C) (i + 1), fun H' h => ⟨n - (i + 1), by omega, rfl, by omega, h⟩, fun x H' hy => hs C i acc H x H' hin e hl hp hy⟩
  · have : i = n := by omega
    subst this
    exact .inl ⟨stop C acc H hp, hd C acc H hC e hl hp⟩
theorem dc_add {C : Addr} {Pv : Nat → List (Key × V) → Hp → Prop} {i : Nat} {acc : List (Key × V)} {k : Key} {z : V} (e : H C = some (.dK acc)) (hl : acc.length ≤ i) (hi : i < 1000000) (p : Pv (i + 1) (putK acc k z) (upd H C (.dK (putK acc k z)))) :
    ∃ kvs k', kV k = kV k' ∧ H C = some (.dK kvs) ∧ kvs.length < sizeLine ∧ DcN C Pv (i + 1) (upd H C (.dK (putK kvs k' z))) :=
  ⟨acc, k, rfl, e, sz_lt (by omega), putK acc k z, upd_same, by have := length_putK acc k z; omega, p⟩
theorem dc_L {a : Addr} {xs : List V} (Pv : Addr → Nat → List (Key × V) → Hp → Prop) (h0 : ∀ C, H C = none → Pv C 0 [] (upd H C (.dK []))) (hl : ∀ C i acc H, Pv C i acc H → SqL K H a xs)
    (hs : ∀ C i acc H x, xs[i]? = some x → H C = some (.dK acc) → acc.length ≤ i → Pv C i acc H → g x (wipe σ vs) H fun σ2 H2 => wipe σ2 vs = wipe σ vs ∧ tt σ2 H2 fun b H3 =>
      if b = true then tk σ2 H3 fun y H4 => tv σ2 H4 fun z H5 => ∃ kvs k, y = kV k ∧ H5 C = some (.dK kvs) ∧ kvs.length < sizeLine ∧ DcN C (Pv C) (i + 1) (upd H5 C (.dK (putK kvs k z))) else DcN C (Pv C) (i + 1) H3)
    (hd : ∀ C acc H', H C = none → H' C = some (.dK acc) → acc.length ≤ xs.length → Pv C xs.length acc H' → Q (.ref C) H') : DcP (Itl K a) g tt tk tv vs σ Q H := by
  refine dc_any xs.length Pv h0 (fun C i acc H hi hp => ⟨xs, xs[i], hl C i acc H hp, List.getElem?_eq_getElem hi⟩) (fun C acc H hp => ⟨xs, hl _ _ _ _ hp, Nat.le_refl _⟩) (fun C i acc H x H' hi e z hp hy => ?_) hd
  obtain ⟨rfl, hy⟩ := hy
  exact hs C i acc H' x (hy xs (hl _ _ _ _ hp)) e z hp
theorem dc_T {a : Addr} {xs : List V} (Pv : Addr → Nat → List (Key × V) → Hp → Prop) (h0 : ∀ C, H C = none → Pv C 0 [] (upd H C (.dK []))) (hl : ∀ C i acc H, Pv C i acc H → SqT K H a xs)
    (hs : ∀ C i acc H x, xs[i]? = some x → H C = some (.dK acc) → acc.length ≤ i → Pv C i acc H → g x (wipe σ vs) H fun σ2 H2 => wipe σ2 vs = wipe σ vs ∧ tt σ2 H2 fun b H3 =>
      if b = true then tk σ2 H3 fun y H4 => tv σ2 H4 fun z H5 => ∃ kvs k, y = kV k ∧ H5 C = some (.dK kvs) ∧ kvs.length < sizeLine ∧ DcN C (Pv C) (i + 1) (upd H5 C (.dK (putK kvs k z))) else DcN C (Pv C) (i + 1) H3)
    (hd : ∀ C acc H', H C = none → H' C = some (.dK acc) → acc.length ≤ xs.length → Pv C xs.length acc H' → Q (.ref C) H') : DcP (Itt K a) g tt tk tv vs σ Q H := by
  refine dc_any xs.length Pv h0 (fun C i acc H hi hp => ⟨xs, xs[i], hl C i acc H hp, List.getElem?_eq_getElem hi⟩) (fun C acc H hp => ⟨xs, hl _ _ _ _ hp, Nat.le_refl _⟩) (fun C i acc H x H' hi e z hp hy => ?_) hd
  obtain ⟨rfl, hy⟩ := hy
  exact hs C i acc H' x (hy xs (hl _ _ _ _ hp)) e z hp
end
end WK
namespace WK
open PySem L2 PySem.Spec PyProof.Rows
def rEqU (K : PySem.W.Frag) : R2 := fun x y H Q => rEq x y H Q ∨ rEqD K x y H Q
def rNeU (K : PySem.W.Frag) : R2 := fun x y H Q => rNe x y H Q ∨ rNeD K x y H Q
def rInU (K : PySem.W.Frag) : R2 := fun x y H Q => ∃ d ds, Dp K H x d ∧ (Dp K H y (.list ds) ∨ Dp K H y (.tuple ds)) ∧ SeqAt.shaped d = true ∧ PyData.canLayAll0 ds = true ∧ Q (.bl (ds.any fun z => PyData.eqv z d)) H
def rNotInU (K : PySem.W.Frag) : R2 := fun x y H Q => ∃ d ds, Dp K H x d ∧ (Dp K H y (.list ds) ∨ Dp K H y (.tuple ds)) ∧ SeqAt.shaped d = true ∧ PyData.canLayAll0 ds = true ∧ Q (.bl (!ds.any fun z => PyData.eqv z d)) H
def rInDc : R2 := fun y x H Q => ∃ a o, x = .ref a ∧ DGet H a y o ∧ Q (.bl o.isSome) H
def rNotInDc : R2 := fun y x H Q => ∃ a o, x = .ref a ∧ DGet H a y o ∧ Q (.bl (!o.isSome)) H
def rInSg : R2 := fun x y H Q => ∃ (c : Nat) (z : Str), x = .str ⟨#[c]⟩ ∧ y = .str z ∧ Q (.bl (decide (c ∈ z.cps.toList))) H
def rNotNn : R2 := fun x y H Q => y = .non ∧ Q (.bl (!decide (x = .non))) H
def rIsNn : R2 := fun x y H Q => y = .non ∧ Q (.bl (decide (x = .non))) H
def rJoin (K : PySem.W.Frag) : V → List V → Hp → VK → Prop := fun x xs H Q => ∃ a p, ∃ ys : List Str, x = .str a ∧ xs = [.ref p] ∧ (SqL K H p (ys.map V.str) ∨ SqT K H p (ys.map V.str)) ∧
    (ys.map (·.length)).sum + ys.length * a.length ≤ 16777216 ∧ Q (.str (Txt.join a ys)) H
def rDictP (K : PySem.W.Frag) : List V → Hp → VK → Prop := fun xs H Q => ∃ (a : Addr) (ps : List Addr) (kvs : List (Key × V)), xs = [.ref a] ∧ SqL K H a (ps.map V.ref) ∧ Paired (fun p kv => SqT K H p [kV kv.1, kv.2]) ps kvs ∧
    ∀ p, H p = none → Q (.ref p) (upd H p (.dK (mergeK [] kvs)))
section
variable {X : Cx}
theorem op_eqU (hu : X.A.units + 64 < cLine) : OpR X (compareOp .Eq) (rEqU X.K) := OpR.or op_eq (op_eqD hu)
theorem op_neU (hu : X.A.units + 64 < cLine) : OpR X (compareOp .NotEq) (rNeU X.K) := OpR.or op_ne (op_neD hu)
theorem op_inU (hu : X.A.units + 65 < cLine) : OpR X (compareOp .In) (rInU X.K) := by
  intro pins s σ H x y v u Q I rx ry h
  obtain ⟨d, ds, hd, he, sd, se, q⟩ := h
  obtain ⟨as, r1⟩ := Dp.reads I d x v hd rx
  rcases he with he | he
  · obtain ⟨bs, r2⟩ := Dp.reads I (.list ds) y u he ry
    exact SeqAt.in_list_reads r2 r1 se (SeqAt.canLay_of_shaped sd) (room_in_shaped sd hu) ⟨.bl _, H, I, rfl, q⟩
  · obtain ⟨bs, r2⟩ := Dp.reads I (.tuple ds) y u he ry
    exact SeqAt.in_tuple_reads r2 r1 se (SeqAt.canLay_of_shaped sd) (room_in_shaped sd hu) ⟨.bl _, H, I, rfl, q⟩
theorem op_notInU (hu : X.A.units + 65 < cLine) : OpR X (compareOp .NotIn) (rNotInU X.K) := by
  intro pins s σ H x y v u Q I rx ry h
  obtain ⟨d, ds, hd, he, sd, se, q⟩ := h
  obtain ⟨as, r1⟩ := Dp.reads I d x v hd rx
  rcases he with he | he
  · obtain ⟨bs, r2⟩ := Dp.reads I (.list ds) y u he ry
    exact SeqAt.notIn_list_reads r2 r1 se (SeqAt.canLay_of_shaped sd) (room_in_shaped sd hu) ⟨.bl _, H, I, rfl, q⟩
  · obtain ⟨bs, r2⟩ := Dp.reads I (.tuple ds) y u he ry
    exact SeqAt.notIn_tuple_reads r2 r1 se (SeqAt.canLay_of_shaped sd) (room_in_shaped sd hu) ⟨.bl _, H, I, rfl, q⟩
theorem op_inDc (hu : X.A.units + 1 < cLine) : OpR X (compareOp .In) rInDc := by
  intro pins s σ H y x v u Q I ry rx h
  obtain ⟨a, o, rfl, hd, q⟩ := h
  cases rx
  exact d_in hu I hd ry fun s' I' => ⟨.bl _, H, I', rfl, q⟩
theorem op_notInDc (hu : X.A.units + 1 < cLine) : OpR X (compareOp .NotIn) rNotInDc := by
  intro pins s σ H y x v u Q I ry rx h
  obtain ⟨a, o, rfl, hd, q⟩ := h
  cases rx
  exact d_notIn hu I hd ry fun s' I' => ⟨.bl _, H, I', rfl, q⟩
theorem op_inSg : OpR X (compareOp .In) rInSg := op_in_sign
theorem mt_joinU : MtR X "str.join" (rJoin X.K) := mt_join
theorem cr_dictP (h : X.calm = true) : CallR X (.type "dict") (rDictP X.K) := call_dictP h
theorem op_notNn : OpR X (compareOp .IsNot) rNotNn := op_notN
theorem op_isNn : OpR X (compareOp .Is) rIsNn := op_isN
theorem pe_gl {x : Str} {v : V} {pos : Pos} (hg : Gl X x) (hm : ∃ u, X.mg x = some u ∧ RelV v u) (hd : (x == ("__debug__" : Str)) = false := by decide) : PE X (.Name x pos) (tC v) := by
  obtain ⟨u, h1, h2⟩ := hm
  exact pe_glob hg h1 h2 hd
end
theorem kb_str_str : kitB "str" "str" = some true := by decide +kernel
theorem kb_str_int : kitB "str" "int" = some false := by decide +kernel
theorem kb_str_bool : kitB "str" "bool" = some false := by decide +kernel
theorem kb_str_list : kitB "str" "list" = some false := by decide +kernel
theorem kb_str_tuple : kitB "str" "tuple" = some false := by decide +kernel
theorem kb_str_dict : kitB "str" "dict" = some false := by decide +kernel
theorem kb_int_str : kitB "int" "str" = some false := by decide +kernel
theorem kb_int_int : kitB "int" "int" = some true := by decide +kernel
theorem kb_int_bool : kitB "int" "bool" = some false := by decide +kernel
theorem kb_int_list : kitB "int" "list" = some false := by decide +kernel
theorem kb_int_tuple : kitB "int" "tuple" = some false := by decide +kernel
theorem kb_int_dict : kitB "int" "dict" = some false := by decide +kernel
theorem kb_bool_str : kitB "bool" "str" = some false := by decide +kernel
theorem kb_bool_int : kitB "bool" "int" = some true := by decide +kernel
theorem kb_bool_bool : kitB "bool" "bool" = some true := by decide +kernel
theorem kb_bool_list : kitB "bool" "list" = some false := by decide +kernel
theorem kb_bool_tuple : kitB "bool" "tuple" = some false := by decide +kernel
theorem kb_bool_dict : kitB "bool" "dict" = some false := by decide +kernel
theorem kb_list_str : kitB "list" "str" = some false := by decide +kernel
theorem kb_list_int : kitB "list" "int" = some false := by decide +kernel
theorem kb_list_bool : kitB "list" "bool" = some false := by decide +kernel
theorem kb_list_list : kitB "list" "list" = some true := by decide +kernel
theorem kb_list_tuple : kitB "list" "tuple" = some false := by decide +kernel
theorem kb_list_dict : kitB "list" "dict" = some false := by decide +kernel
theorem kb_tuple_str : kitB "tuple" "str" = some false := by decide +kernel
theorem kb_tuple_int : kitB "tuple" "int" = some false := by decide +kernel
theorem kb_tuple_bool : kitB "tuple" "bool" = some false := by decide +kernel
theorem kb_tuple_list : kitB "tuple" "list" = some false := by decide +kernel
theorem kb_tuple_tuple : kitB "tuple" "tuple" = some true := by decide +kernel
theorem kb_tuple_dict : kitB "tuple" "dict" = some false := by decide +kernel
theorem kb_dict_str : kitB "dict" "str" = some false := by decide +kernel
theorem kb_dict_int : kitB "dict" "int" = some false := by decide +kernel
theorem kb_dict_bool : kitB "dict" "bool" = some false := by decide +kernel
theorem kb_dict_list : kitB "dict" "list" = some false := by decide +kernel
theorem kb_dict_tuple : kitB "dict" "tuple" = some false := by decide +kernel
theorem kb_dict_dict : kitB "dict" "dict" = some true := by decide +kernel
theorem kb_NoneType_str : kitB "NoneType" "str" = some false := by decide +kernel
theorem kb_NoneType_int : kitB "NoneType" "int" = some false := by decide +kernel
theorem kb_NoneType_bool : kitB "NoneType" "bool" = some false := by decide +kernel
theorem kb_NoneType_list : kitB "NoneType" "list" = some false := by decide +kernel
theorem kb_NoneType_tuple : kitB "NoneType" "tuple" = some false := by decide +kernel
theorem kb_NoneType_dict : kitB "NoneType" "dict" = some false := by decide +kernel
theorem iteD {P A B : Prop} [Decidable P] (h1 : P → A) (h2 : ¬ P → B) : if decide P = true then A else B := by
  by_cases h : P
  · rw [if_pos (decide_eq_true h)]; exact h1 h
  · rw [if_neg (by simpa using h)]; exact h2 h
theorem iteN {P A B : Prop} [Decidable P] (h1 : ¬ P → A) (h2 : P → B) : if (!decide P) = true then A else B := by
  by_cases h : P
  · rw [if_neg (by simpa using h)]; exact h2 h
  · rw [if_pos (by simpa using h)]; exact h1 h
theorem iteB {b : Bool} {A B : Prop} (h1 : b = true → A) (h2 : b = false → B) : if b = true then A else B := by
  cases b
  · exact h2 rfl
  · exact h1 rfl
theorem iteNB {b : Bool} {A B : Prop} (h1 : b = false → A) (h2 : b = true → B) : if (!b) = true then A else B := by
  cases b
  · exact h1 rfl
  · exact h2 rfl
theorem iteNT {A B : Prop} (h : B) : if (!true) = true then A else B := h
theorem iteNF {A B : Prop} (h : A) : if (!false) = true then A else B := h
section
variable {K : PySem.W.Frag} {σ : L2.St} {H : Hp} {Q : VK} {x y v : V} {ta tb te : TE} {D : Ends}
theorem g_eqS (hs : scal x y = true) (h : Q (.bl (decide (x = y))) H) : rEqU K x y H Q := .inl ⟨hs, h⟩
theorem g_neS (hs : scal x y = true) (h : Q (.bl (!decide (x = y))) H) : rNeU K x y H Q := .inl ⟨hs, h⟩
theorem g_eqD {d e : PyData} (hd : Dp K H x d) (he : Dp K H y e) (sd : SeqAt.shaped d = true) (se : SeqAt.shaped e = true) (h : Q (.bl (PyData.eqv d e)) H) : rEqU K x y H Q := .inr ⟨d, e, hd, he, sd, se, h⟩
theorem g_neD {d e : PyData} (hd : Dp K H x d) (he : Dp K H y e) (sd : SeqAt.shaped d = true) (se : SeqAt.shaped e = true) (h : Q (.bl (!PyData.eqv d e)) H) : rNeU K x y H Q := .inr ⟨d, e, hd, he, sd, se, h⟩
theorem g_inU {d : PyData} {ds : List PyData} (hd : Dp K H x d) (he : Dp K H y (.list ds) ∨ Dp K H y (.tuple ds)) (sd : SeqAt.shaped d = true) (se : PyData.canLayAll0 ds = true) (h : Q (.bl (ds.any fun z => PyData.eqv z d)) H) : rInU K x y H Q := ⟨d, ds, hd, he, sd, se, h⟩
theorem g_notInU {d : PyData} {ds : List PyData} (hd : Dp K H x d) (he : Dp K H y (.list ds) ∨ Dp K H y (.tuple ds)) (sd : SeqAt.shaped d = true) (se : PyData.canLayAll0 ds = true) (h : Q (.bl (!ds.any fun z => PyData.eqv z d)) H) : rNotInU K x y H Q := ⟨d, ds, hd, he, sd, se, h⟩
theorem g_inDcS {a : Addr} {kvs : List (Key × V)} {k : Str} (hs : H a = some (.dK kvs)) (h : Q (.bl (valV kvs (Sum.inr k : Key)).isSome) H) : rInDc (.str k) (.ref a) H Q := ⟨a, _, rfl, DGet.k (k := Sum.inr k) hs, h⟩
theorem g_notInDcS {a : Addr} {kvs : List (Key × V)} {k : Str} (hs : H a = some (.dK kvs)) (h : Q (.bl (!(valV kvs (Sum.inr k : Key)).isSome)) H) : rNotInDc (.str k) (.ref a) H Q := ⟨a, _, rfl, DGet.k (k := Sum.inr k) hs, h⟩
theorem g_dget (h : ta σ H fun x H1 => tb σ H1 fun y H2 => ∃ a v, x = .ref a ∧ DGet H2 a y (some v) ∧ Q v H2) : tDGet ta tb σ H Q := h
theorem g_dgetS {a : Addr} {kvs : List (Key × V)} {k : Str} {Q : V → Prop} (hs : H a = some (.dK kvs)) (hv : valV kvs (Sum.inr k : Key) = some v) (h : Q v) : ∃ a' v', V.ref a = .ref a' ∧ DGet H a' (.str k) (some v') ∧ Q v' := ⟨a, v, rfl, hv ▸ DGet.k (k := Sum.inr k) hs, h⟩
theorem g_dput {td ty tv : TE} (h : tv σ H fun v H1 => td σ H1 fun x H2 => ty σ H2 fun y H3 => ∃ a H4, x = .ref a ∧ DPut H3 a y v H4 ∧ D.nx σ H4) : sDPut td ty tv D σ H := h
theorem g_dputS {a : Addr} {kvs : List (Key × V)} {k : Str} {R : Hp → Prop} (hs : H a = some (.dK kvs)) (hl : kvs.length < sizeLine) (h : R (upd H a (.dK (putK kvs (Sum.inr k : Key) v)))) : ∃ a' H4, V.ref a = .ref a' ∧ DPut H a' (.str k) v H4 ∧ R H4 := ⟨a, _, rfl, DPut.k (k := Sum.inr k) hs hl, h⟩
theorem g_dnew (h : ∀ p, H p = none → Q (.ref p) (upd H p (.dK []))) : tDNewK σ H Q := h
theorem g_inSg {c : Nat} {z : Str} (h : Q (.bl (decide (c ∈ z.cps.toList))) H) : rInSg (.str ⟨#[c]⟩) (.str z) H Q := ⟨c, z, rfl, rfl, h⟩
theorem g_notNn (h : Q (.bl (!decide (x = .non))) H) : rNotNn x .non H Q := ⟨rfl, h⟩
theorem g_isNn (h : Q (.bl (decide (x = .non))) H) : rIsNn x .non H Q := ⟨rfl, h⟩
theorem g_isi {T U : String} {b : Bool} (ty : TyX K H x (.type T)) (hk : kitB T U = some b) (h : Q (.bl b) H) : rIsi K [x, .ty U] H Q := ⟨x, .ty U, .type T, .type U, b, rfl, .ty U, ty, kit_ty hk, h⟩
theorem g_all {a : Addr} {bs : List Bool} (hs : SqL K H a (bs.map V.bl)) (h : Q (.bl (bs.all id)) H) : rAll K [.ref a] H Q := ⟨a, bs, rfl, hs, h⟩
theorem g_any {a : Addr} {bs : List Bool} (hs : SqL K H a (bs.map V.bl)) (h : Q (.bl (bs.any id)) H) : rAny K [.ref a] H Q := ⟨a, bs, rfl, hs, h⟩
theorem g_addT {i j : Str} (hl : i.length + j.length ≤ sizeLine) (h : Q (.str (i ++ j)) H) : rAddT (.str i) (.str j) H Q := ⟨i, j, rfl, rfl, hl, h⟩
theorem g_cat {p q : Addr} {xs ys : List V} (h1 : H p = some (.lst xs)) (h2 : H q = some (.lst ys)) (hl : xs.length + ys.length ≤ sizeLine) (h : ∀ r, H r = none → Q (.ref r) (upd H r (.lst (xs ++ ys)))) : rCat (.ref p) (.ref q) H Q := ⟨p, q, xs, ys, rfl, rfl, h1, h2, hl, h⟩
theorem g_sl {r : V → Option Int → Option Int → Hp → VK → Prop} {tl th : TO} (h : te σ H fun x H1 => tl σ H1 fun l H2 => th σ H2 fun u H3 => r x l u H3 Q) : tSl r te tl th σ H Q := h
theorem g_nopart {Q : Option Int → Hp → Prop} (h : Q none H) : tNoPart σ H Q := h
theorem g_part {Q : Option Int → Hp → Prop} (h : te σ H fun x H1 => ∃ i, x = .int i ∧ Q (some i) H1) : tPart te σ H Q := h
theorem g_parti {i : Int} {Q : Int → Prop} (h : Q i) : ∃ j, V.int i = .int j ∧ Q j := ⟨i, rfl, h⟩
theorem g_slL {a : Addr} {xs : List V} {lo hi : Option Int} (hs : SqL K H a xs) (h : ∀ p, H p = none → Q (.ref p) (upd H p (.lst (cutV xs lo hi)))) : rSlL K (.ref a) lo hi H Q := ⟨a, xs, rfl, hs, h⟩
theorem g_slS {z : Str} {lo hi : Option Int} (hl : z.length ≤ sizeLine) (h : Q (.str (cutS z lo hi)) H) : rSlS (.str z) lo hi H Q := ⟨z, rfl, hl, h⟩
theorem g_meth {C : Addr} {m : Str} {sp : Sp} {dvs : List V} {E : XK} {t : TA} (h : ta σ H fun x H1 => ∃ a dx fs, x = .ref a ∧ H1 a = some (.ins C dx fs) ∧ fs.lookup m = none ∧ t σ H1 fun vs H2 => sp (x :: (vs ++ dvs)) H2 Q E) : tMeth C m sp dvs E ta t σ H Q := h
theorem g_methI {C a dx : Addr} {fs : List (Str × V)} {m : Str} {R : Prop} (hs : H a = some (.ins C dx fs)) (hm : fs.lookup m = none) (h : R) : ∃ a' dx fs, V.ref a = .ref a' ∧ H a' = some (.ins C dx fs) ∧ fs.lookup m = none ∧ R := ⟨a, dx, fs, rfl, hs, hm, h⟩
theorem g_make {C : Addr} {sp : Sp} {dvs : List V} {E : XK} {t : TA} (h : t σ H fun vs H1 => ∀ x dx, H1 x = none → H1 dx = none → dx ≠ x →
  sp (.ref x :: (vs ++ dvs)) (upd (upd H1 dx (.own x)) x (.ins C dx [])) (fun v H2 => v = .non ∧ Q (.ref x) H2) E) : tMake C sp dvs E t σ H Q := h
theorem g_fldE {f : Str} (h : te σ H fun x H1 => ∃ a C dx fs v, x = .ref a ∧ H1 a = some (.ins C dx fs) ∧ Cls K C ∧ NoAttr K C f ∧ fs.lookup f = some v ∧ Q v H1) : tFld K te f σ H Q := h
theorem g_fldI {f : Str} {a C dx : Addr} {fs : List (Str × V)} {R : V → Prop} (hs : H a = some (.ins C dx fs)) (hc : Cls K C) (hn : NoAttr K C f) (hl : fs.lookup f = some v) (h : R v) :
    ∃ a' C dx fs v', V.ref a = .ref a' ∧ H a' = some (.ins C dx fs) ∧ Cls K C ∧ NoAttr K C f ∧ fs.lookup f = some v' ∧ R v' := ⟨a, C, dx, fs, v, rfl, hs, hc, hn, hl, h⟩
theorem g_sfld {f : Str} {tv : TE} (h : tv σ H fun y H1 => ta σ H1 fun x H2 => ∃ a C dx fs, x = .ref a ∧ H2 a = some (.ins C dx fs) ∧ Cls K C ∧ NoAttr K C f ∧ fs.length < 1000 ∧ D.nx σ (upd H2 a (.ins C dx (putF f y fs)))) : sFld K ta tv f D σ H := h
theorem g_sfldI {f : Str} {a C dx : Addr} {fs : List (Str × V)} {R : Addr → Addr → Addr → List (Str × V) → Prop} (hs : H a = some (.ins C dx fs)) (hc : Cls K C) (hn : NoAttr K C f) (hl : fs.length < 1000) (h : R a C dx fs) :
    ∃ a' C dx fs, V.ref a = .ref a' ∧ H a' = some (.ins C dx fs) ∧ Cls K C ∧ NoAttr K C f ∧ fs.length < 1000 ∧ R a' C dx fs := ⟨a, C, dx, fs, rfl, hs, hc, hn, hl, h⟩
end
end WK
namespace WK
open PySem L2
/-! ### rivers, plainly -/
abbrev LET : Str := "abcdefghijklmnopqrstuvwxyz"
def isName (z : Str) : Bool := decide (1 ≤ z.length) && decide (z.length ≤ 8) && z.cps.toList.all fun c => decide (c ∈ LET.cps.toList)
abbrev Rows := List (Str × Str)
def wrs (rows : Rows) : List Str := rows.map (·.1)
def low (rows : Rows) (w : Str) : Str := ((rows.find? fun r => decide (r.1 = w)).map (·.2)).getD "sea"
def crs (rows : Rows) : Nat → Str → List Str
  | 0, _ => []
  | n + 1, w => if w = "sea" then [] else w :: crs rows n (low rows w)
structure Good (rows : Rows) : Prop where
  pos : 1 ≤ rows.length
  le : rows.length ≤ 40
  nm : ∀ r ∈ rows, isName r.1 = true ∧ isName r.2 = true
  nosea : ∀ r ∈ rows, r.1 ≠ "sea"
  nd : (wrs rows).Nodup
  dn : ∀ r ∈ rows, r.2 = "sea" ∨ r.2 ∈ wrs rows
  rank : ∃ rk : Str → Nat, ∀ r ∈ rows, rk r.1 < rows.length ∧ (r.2 ≠ "sea" → rk r.2 < rk r.1)
def rowsD (rows : Rows) : PyData := .list (rows.map fun r => .tuple [.str r.1, .str r.2])
def rowsK (rows : Rows) : List (Key × V) := rows.map fun r => (Sum.inr r.1, V.str r.2)
def strsV (ws : List Str) : List V := ws.map V.str
theorem find_map_rows (w : Str) : ∀ rows : Rows, ((rowsK rows).find? fun kv => decide (kv.1 = (Sum.inr w : Key))).map (·.2) = ((rows.find? fun r => decide (r.1 = w)).map fun r => V.str r.2)
  | [] => rfl
  | r :: rows => by
    have ih := find_map_rows w rows
    by_cases h : r.1 = w
    · have h' : (Sum.inr r.1 : Key) = Sum.inr w := by rw [h]
      show (List.find? _ (((Sum.inr r.1 : Key), V.str r.2) :: rowsK rows)).map _ = _
      rw [List.find?_cons_of_pos (by simpa using h'), List.find?_cons_of_pos (by simpa using h)]
      rfl
    · have h' : ¬ (Sum.inr r.1 : Key) = Sum.inr w := fun e => h (Sum.inr.inj e)
      show (List.find? _ (((Sum.inr r.1 : Key), V.str r.2) :: rowsK rows)).map _ = _
      rw [List.find?_cons_of_neg (by simpa using h'), List.find?_cons_of_neg (by simpa using h)]
      exact ih
theorem valV_rows (rows : Rows) (w : Str) : valV (rowsK rows) (Sum.inr w : Key) = (rows.find? fun r => decide (r.1 = w)).map fun r => V.str r.2 := find_map_rows w rows
theorem find_some {rows : Rows} {w : Str} (h : w ∈ wrs rows) : ∃ r, rows.find? (fun r => decide (r.1 = w)) = some r ∧ r ∈ rows ∧ r.1 = w := by
  obtain ⟨r, hr, e⟩ := List.mem_map.mp h
  cases q : rows.find? fun r => decide (r.1 = w) with
  | none =>
    have := List.find?_eq_none.mp q r hr
    simp [e] at this
  | some r' =>
    refine ⟨r', rfl, List.mem_of_find?_eq_some q, ?_⟩
    have := List.find?_some q
    simpa using this
theorem find_none {rows : Rows} {w : Str} (h : w ∉ wrs rows) : rows.find? (fun r => decide (r.1 = w)) = none := by
  refine List.find?_eq_none.mpr fun r hr e => h ?_
  have : r.1 = w := by simpa using e
  exact List.mem_map.mpr ⟨r, hr, this⟩
theorem valV_in {rows : Rows} {w : Str} (h : w ∈ wrs rows) : valV (rowsK rows) (Sum.inr w : Key) = some (.str (low rows w)) := by
  obtain ⟨r, e, _, _⟩ := find_some h
  rw [valV_rows, e]; unfold low; rw [e]; rfl
theorem valV_out {rows : Rows} {w : Str} (h : w ∉ wrs rows) : valV (rowsK rows) (Sum.inr w : Key) = none := by
  rw [valV_rows, find_none h]; rfl
theorem low_row {rows : Rows} {w : Str} (h : w ∈ wrs rows) : (w, low rows w) ∈ rows := by
  obtain ⟨r, e, hr, rfl⟩ := find_some h
  unfold low; rw [e]; exact hr
theorem Good.low_of {rows : Rows} (g : Good rows) {r : Str × Str} (h : r ∈ rows) : low rows r.1 = r.2 := by
  have h1 : r.1 ∈ wrs rows := List.mem_map.mpr ⟨r, h, rfl⟩
  obtain ⟨r', e, hr', q⟩ := find_some h1
  have nd := g.nd
  unfold low; rw [e]
  show r'.2 = r.2
  have : r' = r := by
    have key : ∀ (l : Rows), (l.map (·.1)).Nodup → ∀ a ∈ l, ∀ b ∈ l, a.1 = b.1 → a = b := by
      intro l
      induction l with
      | nil => intro _ a ha; cases ha
      | cons c l ih =>
        intro nd a ha b hb e
        rw [List.map_cons, List.nodup_cons] at nd
        rcases List.mem_cons.mp ha with ha1 | ha1
        · rcases List.mem_cons.mp hb with hb1 | hb1
          · rw [ha1, hb1]
          · exact absurd (show c.1 ∈ l.map (·.1) from List.mem_map.mpr ⟨b, hb1, by rw [← e, ha1]⟩) nd.1
        · rcases List.mem_cons.mp hb with hb1 | hb1
          · exact absurd (show c.1 ∈ l.map (·.1) from List.mem_map.mpr ⟨a, ha1, by rw [e, hb1]⟩) nd.1
          · exact ih nd.2 a ha1 b hb1 e
    exact key rows nd r' hr' r h q
  rw [this]
theorem Good.low_in {rows : Rows} (g : Good rows) {w : Str} (h : w ∈ wrs rows) : low rows w = "sea" ∨ low rows w ∈ wrs rows := g.dn _ (low_row h)
theorem Good.ne_sea {rows : Rows} (g : Good rows) {w : Str} (h : w ∈ wrs rows) : w ≠ "sea" := by
  obtain ⟨r, hr, rfl⟩ := List.mem_map.mp h
  exact g.nosea r hr
/-- down n steps, the weir then reached -/
def down (rows : Rows) : Nat → Str → Str
  | 0, w => w
  | n + 1, w => if w = "sea" then "sea" else down rows n (low rows w)
theorem down_sea (rows : Rows) : ∀ n, down rows n "sea" = "sea"
  | 0 => rfl
  | n + 1 => by unfold down; rw [if_pos rfl]
theorem crs_sea (rows : Rows) : ∀ n, crs rows n "sea" = []
  | 0 => rfl
  | n + 1 => by unfold crs; rw [if_pos rfl]
/-- the course is over within as many steps as there are rows -/
theorem Good.ends {rows : Rows} (g : Good rows) {w : Str} (h : w ∈ wrs rows) : down rows rows.length w = "sea" := by
  obtain ⟨rk, hrk⟩ := g.rank
  have key : ∀ n w, w ∈ wrs rows → rk w < n → down rows n w = "sea" := by
    intro n
    induction n with
    | zero => intro w _ h; exact absurd h (Nat.not_lt_zero _)
    | succ n ih =>
      intro w hw hn
      unfold down
      rw [if_neg (g.ne_sea hw)]
      rcases g.low_in hw with e | hl
      · rw [e]; exact down_sea rows n
      · by_cases e : low rows w = "sea"
        · rw [e]; exact down_sea rows n
        · have := (hrk _ (low_row hw)).2 e
          exact ih _ hl (Nat.lt_of_lt_of_le this (Nat.le_of_lt_succ hn))
  exact key _ w h (hrk _ (low_row h)).1
end WK
namespace WK
open PySem L2
local macro_rules | `(tactic| walk_at "kb") => `(tactic| first | exact kb_str_str | exact kb_str_int | exact kb_str_bool | exact kb_str_list | exact kb_str_tuple | exact kb_str_dict | exact kb_int_str | exact kb_int_int | exact kb_int_bool | exact kb_int_list | exact kb_int_tuple | exact kb_int_dict | exact kb_bool_str | exact kb_bool_int | exact kb_bool_bool | exact kb_bool_list | exact kb_bool_tuple | exact kb_bool_dict | exact kb_list_str | exact kb_list_int | exact kb_list_bool | exact kb_list_list | exact kb_list_tuple | exact kb_list_dict | exact kb_tuple_str | exact kb_tuple_int | exact kb_tuple_bool | exact kb_tuple_list | exact kb_tuple_tuple | exact kb_tuple_dict | exact kb_dict_str | exact kb_dict_int | exact kb_dict_bool | exact kb_dict_list | exact kb_dict_tuple | exact kb_dict_dict | exact kb_NoneType_str | exact kb_NoneType_int | exact kb_NoneType_bool | exact kb_NoneType_list | exact kb_NoneType_tuple | exact kb_NoneType_dict)
local macro_rules | `(tactic| walk_at "hn") => `(tactic| first
  | assumption
  | ((with_reducible refine' Ex.nn ?hne ?hnh); (case hnh => assumption); (case hne => walk_at "ex"))
  | ((with_reducible refine' Kp.nn ?hnk ?hnb ?hnh); (case hnh => assumption); (case hnk => assumption); (case hnb => assumption))
  | ((with_reducible refine del_none ?_); walk_at "hn")
  | ((with_reducible refine' Eq.trans (upd_ne ?hnq) ?_); (case hnq => walk_at "ne"); walk_at "hn"))
local macro_rules | `(tactic| walk_at "ne") => `(tactic| first
  | assumption
  | exact Ne.symm (by assumption)
  | exact Bag.ne (by assumption) (by assumption)
  | exact Ne.symm (Bag.ne (by assumption) (by assumption))
  | exact ne_of_none (by assumption) (by assumption)
  | exact Ne.symm (ne_of_none (by assumption) (by assumption)))
local macro_rules | `(tactic| walk_at "ex") => `(tactic| first
  | assumption
  | with_reducible exact Ex.refl _
  | ((with_reducible refine' Ex.mut ?exm ?exn); (case exn => walk_at "hn"); (case exm => walk_at "ex"))
  | ((with_reducible refine' Ex.trans ?exa ?exb); (case exb => assumption); (case exa => walk_at "ex"))
  | ((with_reducible refine' Ex.trans ?exa (Ex.new ?exn)); (case exn => walk_at "hn"); (case exa => walk_at "ex")))
local macro_rules | `(tactic| walk_at "hp") => `(tactic| first
  | assumption
  | with_reducible exact upd_same
  | ((with_reducible refine' up_new ?hpn ?hpr); (case hpn => walk_at "hn"); (case hpr => walk_at "hp"))
  | ((with_reducible refine' up_ne ?hpn ?hpr); (case hpr => walk_at "hp"); (case hpn => walk_at "ne"))
  | ((with_reducible refine' hp_kp ?hph ?hpk); (case hph => assumption); (case hpk => assumption))
  | ((with_reducible refine' hp_del ?hph); (case hph => assumption))
  | ((with_reducible refine' hp_ex ?hph ?hpe); (case hph => assumption); (case hpe => walk_at "ex")))
local macro_rules | `(tactic| walk_at "sq") => `(tactic| first
  | assumption
  | ((with_reducible refine' SqL.of ?sof); (case sof => walk_at "hp"))
  | ((with_reducible refine' SqT.of ?sof); (case sof => walk_at "hp"))
  | ((with_reducible refine' sl_new ?hpn ?hpr); (case hpn => walk_at "hn"); (case hpr => walk_at "sq"))
  | ((with_reducible refine' st_new ?hpn ?hpr); (case hpn => walk_at "hn"); (case hpr => walk_at "sq"))
  | ((with_reducible refine' sl_kp ?hph ?hpk); (case hph => assumption); (case hpk => assumption))
  | ((with_reducible refine' st_kp ?hph ?hpk); (case hph => assumption); (case hpk => assumption))
  | ((with_reducible refine' sl_del ?hph); (case hph => assumption))
  | ((with_reducible refine' st_del ?hph); (case hph => assumption))
  | ((with_reducible refine' sl_ex ?hph ?hpe); (case hph => assumption); (case hpe => walk_at "ex"))
  | ((with_reducible refine' st_ex ?hph ?hpe); (case hph => assumption); (case hpe => walk_at "ex")))
local macro_rules | `(tactic| walk_at "ty") => `(tactic| first
  | exact TyX.base (.str _)
  | exact TyX.base (.int _)
  | exact TyX.base (.bl _)
  | exact TyX.base .non
  | exact ty_L (by walk_at "sq")
  | exact ty_T (by walk_at "sq"))
local macro_rules | `(tactic| walk_at "sz") => `(tactic| first | omega | exact sz_le (by omega) | exact sz_lt (by omega) | (refine sz_le ?_; simp; omega) | (refine sz_lt ?_; simp; omega) | (refine sz_le ?_; simp))
local macro_rules | `(tactic| walk_at "side") => `(tactic| first | assumption | omega | (refine ⟨?_, ?_⟩ <;> omega) | (exact .inl ⟨by omega, by omega⟩) | (exact .inr ⟨by omega, by omega⟩) | (exact ⟨by decide, by decide, by decide⟩) | rfl)
local macro_rules | `(tactic| walk_at "g1") => `(tactic| first
  | with_reducible first
    | refine g_seq ?_ | refine g_asg ?_ | refine g_name ?_ | refine g_op ?_ | refine g_c ?_ | refine g_cons ?_ | refine g_nil ?_ | refine g_cb ?_ | refine g_call ?_ | refine g_ret ?_ | refine g_drop ?_ | refine g_next ?_
    | refine g_ifS ?_ | refine g_if ?_ | refine g_test ?_ | refine g_tB ?_ | refine g_bl ?_ | refine g_and ?_ | refine g_or ?_ | refine g_not ?_ | refine g_andV ?_ | refine g_orV ?_ | refine g_notV ?_
    | refine g_un ?_ | refine g_neg ?_ | refine g_rI0 ?_ | refine g_int1 ?_ | refine g_abs ?_ | refine g_mx2 ?_ | refine g_mn2 ?_ | refine g_par ?_ | refine g_par2 ?_ | refine g_chain ?_
    | refine g_for ?_ | refine g_lc ?_ | refine g_dc ?_ | refine g_iList ?_ | refine g_iTup ?_ | refine g_iStr ?_ | refine g_iRng1 ?_ | refine g_iEnum ?_ | refine g_itS ?_ | refine g_gcons ?_ | refine g_gnil ?_
    | refine g_dget ?_ | refine g_dput ?_ | refine g_dnew ?_ | refine g_inSg ?_ | refine g_notNn ?_ | refine g_isNn ?_ | refine g_sl ?_ | refine g_nopart ?_ | refine g_part ?_ | refine g_parti ?_ | refine g_meth ?_ | refine g_make ?_ | refine g_fldE ?_ | refine g_sfld ?_
    | refine g_sub ?_ | refine g_lst ?_ | refine g_tup ?_ | refine g_bm ?_ | refine g_bm0 ?_ | refine g_tyS ?_ | refine g_yes ?_ | refine iteT ?_ | refine iteF ?_ | refine iteNT ?_ | refine iteNF ?_
  | ((with_reducible refine' g_var ?ev ?_); (case ev => rfl))
  | ((with_reducible refine' g_rI ?ec ?_); (case ec => walk_at "side"))
  | ((with_reducible refine' g_ixL ?es ?ea ?_); (case es => walk_at "sq"); (case ea => first | rfl | assumption))
  | ((with_reducible refine' g_ixT ?es ?ea ?_); (case es => walk_at "sq"); (case ea => first | rfl | assumption))
  | ((with_reducible refine' g_lenL ?es ?_); (case es => walk_at "sq"))
  | ((with_reducible refine' g_lenT ?es ?_); (case es => walk_at "sq"))
  | ((with_reducible refine' g_lenS ?es ?_); (case es => walk_at "sz"))
  | ((with_reducible refine' g_lenD ?es ?_); (case es => walk_at "hp"))
  | ((with_reducible refine' g_listL ?es ?_); (case es => walk_at "sq"))
  | ((with_reducible refine' g_listT ?es ?_); (case es => walk_at "sq"))
  | ((with_reducible refine' g_tupL ?es ?_); (case es => walk_at "sq"))
  | ((with_reducible refine' g_tyL ?es ?_); (case es => walk_at "sq"))
  | ((with_reducible refine g_eqS ?es ?_); (case es => rfl))
  | ((with_reducible refine g_neS ?es ?_); (case es => rfl))
  | ((with_reducible refine' g_inDcS ?es ?_); (case es => walk_at "hp"))
  | ((with_reducible refine' g_notInDcS ?es ?_); (case es => walk_at "hp"))
  | ((with_reducible refine' g_dgetS ?es ?ev ?_); (case es => walk_at "hp"); (case ev => first | assumption | walk_at "dv"))
  | ((with_reducible refine' g_dputS ?es ?el ?_); (case es => walk_at "hp"); (case el => walk_at "sz"))
  | ((with_reducible refine' g_fldI ?es ?ec ?en ?el ?_); (case es => walk_at "hp"); (case ec => assumption); (case en => assumption); (case el => first | assumption | walk_at "fl"))
  | ((with_reducible refine' g_methI ?es ?em ?_); (case es => walk_at "hp"); (case em => first | assumption | walk_at "fl"))
  | ((with_reducible refine' g_sfldI ?es ?ec ?en ?el ?_); (case es => walk_at "hp"); (case ec => assumption); (case en => assumption); (case el => first | assumption | walk_at "fl"))
  | ((with_reducible refine' g_isi ?et ?ek ?_); (case et => walk_at "ty"); (case ek => walk_at "kb"))
  | ((with_reducible refine g_addT ?el ?_); (case el => walk_at "sz"))
  | ((with_reducible refine' g_cat ?e1 ?e2 ?el ?_); (case e1 => walk_at "hp"); (case e2 => walk_at "hp"); (case el => walk_at "sz"))
  | ((with_reducible refine' g_slL ?es ?_); (case es => walk_at "sq"))
  | ((with_reducible refine g_slS ?el ?_); (case el => walk_at "sz"))
  | ((with_reducible refine' g_itL ?es ?_); (case es => walk_at "sq"))
  | ((with_reducible refine' g_itT ?es ?_); (case es => walk_at "sq"))
  | ((with_reducible refine' g_itE ?es ?_); (case es => walk_at "sq"))
  | ((with_reducible refine' g_itR ?es ?_); (case es => (constructor <;> omega)))
  | ((with_reducible refine' g_gtup ?es ?en ?_); (case es => walk_at "sq"); (case en => first | rfl | assumption))
  | ((with_reducible refine' g_setL ?es ?ej ?_); (case es => walk_at "hp"); (case ej => first | rfl | assumption))
  | ((with_reducible refine' g_app ?es ?el ?_); (case es => walk_at "hp"); (case el => walk_at "sz")))
local macro_rules | `(tactic| walk_at "go") => `(tactic| repeat (walk_at "g1"))
abbrev N_l_take : List Str := ["_law_bag_here", "_law_many", "_law_digit"]
def t_l_take (K : PySem.W.Frag) : TS :=
  (tSeq (tIfS (tTest (tOp rGtI (tOp (rIx K) (tVar 0) (tC (.int 0))) (tC (.int 0)))) (tSeq (tAsg (tOp rModI (tCB rInt1 (tCons (tOp (rIx K) (tVar 0) (tC (.int 0))) tNil)) (tVar 1)) (gName 2))
  (tSeq (tAsg (tOp rDivI (tOp (rIx K) (tVar 0) (tC (.int 0))) (tVar 1)) (gSub (tVar 0) (tC (.int 0)) rSetL))
  (tRet (tVar 2)))) tNext)
  (tSeq (tAsg (tOp rModI (tCB rInt1 (tCons (tOp rAddI (tOp rMulI (tOp (rIx K) (tVar 0) (tC (.int 1))) (tC (.int 38177))) (tC (.int 4001))) tNil)) (tC (.int 2147483587))) (gSub (tVar 0) (tC (.int 1)) rSetL))
  (tRet (tOp rModI (tOp rDivI (tOp rModI (tCB rInt1 (tCons (tOp rMulI (tOp rDivI (tOp (rIx K) (tVar 0) (tC (.int 1))) (tC (.int 11))) (tC (.int 52817))) tNil)) (tC (.int 2147483629))) (tC (.int 32))) (tVar 1)))))
def sp_l_take (K : PySem.W.Frag) : Sp := fun vs H Q _ => ∃ (b : Addr) (m : Int), vs = [.ref b, .int m] ∧ Bag H b ∧ 0 < m ∧ m < 1073741824 ∧
  ∀ (r : Int) (H' : Hp), 0 ≤ r → r < m → Kp b H H' → Q (.int r) H'
theorem pure_l_take {K : PySem.W.Frag} (vs : List V) (H : Hp) (Q : VK) (E : XK) (h : sp_l_take K vs H Q E) : t_l_take K { nx := fun _ H' => Q .non H', rt := Q } (start N_l_take vs) H := by
  obtain ⟨b, m, rfl, ⟨x, y, hb, hx, hy⟩, hm, hm2, k⟩ := h
  unfold t_l_take
  walk_at "go"
  refine ite2 (fun h => ?_) (fun h => ?_)
  · walk_at "go"
    exact k (x % m) _ (Int.emod_nonneg _ (by omega)) (Int.emod_lt_of_pos _ hm) (Kp.turn (Int.ediv_nonneg hx (by omega)) hy)
  · walk_at "go"
    exact k _ _ (Int.emod_nonneg _ (by omega)) (Int.emod_lt_of_pos _ hm) (Kp.turn hx (Int.emod_nonneg _ (by decide)))
abbrev N_l_of : List Str := ["_law_bag_here", "_law_some"]
def t_l_of (K : PySem.W.Frag) : TS :=
  (tRet (tOp (rIx K) (tVar 1) (tCall (sp_l_take K) [] E0 (tCons (tVar 0) (tCons (tCB (rLenU K) (tCons (tVar 1) tNil)) tNil)))))
def sp_l_of (K : PySem.W.Frag) : Sp := fun vs H Q _ => ∃ (b l : Addr) (xs : List V), vs = [.ref b, .ref l] ∧ Bag H b ∧ SqL K (del H b) l xs ∧ 0 < xs.length ∧ xs.length < 1000000 ∧
  ∀ (H' : Hp) (j : Nat) (v : V), Kp b H H' → xs[j]? = some v → Q v H'
theorem pure_l_of {K : PySem.W.Frag} (vs : List V) (H : Hp) (Q : VK) (E : XK) (h : sp_l_of K vs H Q E) : t_l_of K { nx := fun _ H' => Q .non H', rt := Q } (start N_l_of vs) H := by
  obtain ⟨b, l, xs, rfl, hb, hl, h0, h1, k⟩ := h
  unfold t_l_of
  walk_at "go"
  refine ⟨b, _, rfl, hb, by omega, by omega, fun r H' r0 r1 kp => ?_⟩
  obtain ⟨j, rfl⟩ : ∃ j : Nat, r = (j : Int) := ⟨r.toNat, by omega⟩
  have hj : j < xs.length := by omega
  have hv : xs[j]? = some xs[j] := List.getElem?_eq_getElem hj
  have ha : atI xs (j : Int) = some xs[j] := atI_nat hv
  walk_at "go"
  exact k _ _ _ kp hv
theorem perm_erase {α : Type} : ∀ {l : List α} {j : Nat} (h : j < l.length), ([l[j]] ++ l.eraseIdx j).Perm l
  | a :: l, 0, _ => List.Perm.refl _
  | a :: l, j + 1, h => by
    have hj : j < l.length := by simpa using h
    have ih := perm_erase (l := l) (j := j) hj
    show (l[j] :: a :: l.eraseIdx j).Perm (a :: l)
    exact (List.Perm.swap _ _ _).trans (List.Perm.cons _ ih)
abbrev N_l_mixed : List Str := ["_law_bag_here", "_law_some", "_law_rest", "_law_found", "_law_k"]
def t_l_mixed (K : PySem.W.Frag) : TS :=
  (tSeq (tPar 2 3 (tCons (tCB (rListOf K) (tCons (tVar 1) tNil)) (tCons (tLst tNil) tNil)))
  (tSeq (tFor (iRng1 (tCons (tCB (rLenU K) (tCons (tVar 1) tNil)) tNil)) (gName 4) (tDrop (tBM K "list" rAppend (tVar 3) (tCons (tBM K "list" rPopAt (tVar 2) (tCons (tCall (sp_l_take K) [] E0 (tCons (tVar 0) (tCons (tCB (rLenU K) (tCons (tVar 2) tNil)) tNil))) tNil)) tNil))))
  (tRet (tVar 3))))
def sp_l_mixed (K : PySem.W.Frag) : Sp := fun vs H Q _ => ∃ (b l : Addr) (xs : List V), vs = [.ref b, .ref l] ∧ Bag H b ∧ SqL K (del H b) l xs ∧ xs.length < 1000000 ∧
  ∀ (p : Addr) (H' : Hp) (ys : List V), ys.Perm xs → Kp b H H' → H p = none → H' p = some (.lst ys) → Q (.ref p) H'
theorem pure_l_mixed {K : PySem.W.Frag} (vs : List V) (H : Hp) (Q : VK) (E : XK) (h : sp_l_mixed K vs H Q E) : t_l_mixed K { nx := fun _ H' => Q .non H', rt := Q } (start N_l_mixed vs) H := by
  obtain ⟨b, l, xs, rfl, hb, hl, h1, k⟩ := h
  unfold t_l_mixed
  walk_at "go"
  intro p hp
  walk_at "go"
  refine ⟨Nat.zero_le _, fun q hq => ?_⟩
  have qp : q ≠ p := fun e => by subst e; rw [upd_same] at hq; cases hq
  have hq0 : H q = none := by rw [upd_ne qp] at hq; exact hq
  have pb : p ≠ b := hb.ne hp
  have qb : q ≠ b := hb.ne hq0
  walk_at "go"
  refine for_R xs.length (fun i σ' H' => ∃ (rest found : List V) (v : Option V), σ' = [some (.ref b), some (.ref l), some (.ref p), some (.ref q), v] ∧ Kp b H H' ∧ H' p = some (.lst rest) ∧ H' q = some (.lst found) ∧ (found ++ rest).Perm xs ∧ found.length = i) ?_ ?_ ?_
  · exact ⟨xs, [], none, rfl, ((Kp.refl hb).mut pb hp).mut qb hq0, by rw [upd_ne (Ne.symm qp)]; exact upd_same, upd_same, List.Perm.refl _, rfl⟩
  · rintro i _ H1 hi ⟨rest, found, v, rfl, kp, e1, e2, pm, hl⟩
    have hlen := pm.length_eq
    rw [List.length_append] at hlen
    walk_at "go"
    refine ⟨b, _, rfl, kp.bag, by omega, by omega, fun r H2 r0 r1 kp2 => ?_⟩
    obtain ⟨j, rfl⟩ : ∃ j : Nat, r = (j : Int) := ⟨r.toNat, by omega⟩
    have hj : j < rest.length := by omega
    have d1 : del H1 b p = some (.lst rest) := del_some pb e1
    have d2 : del H1 b q = some (.lst found) := del_some qb e2
    walk_at "go"
    refine g_popAt (hp_kp d1 kp2) (by omega) hj ?_
    walk_at "go"
    refine ⟨rest.eraseIdx j, found ++ [rest[j]], _, rfl, ((kp.trans kp2).mut pb hp).mut qb hq0, by rw [upd_ne (Ne.symm qp)]; exact upd_same, upd_same, ?_, by simp [hl]⟩
    refine List.Perm.trans ?_ pm
    rw [List.append_assoc]
    exact List.Perm.append_left _ (perm_erase hj)
  · rintro _ H1 ⟨rest, found, v, rfl, kp, e1, e2, pm, hl⟩
    have hlen := pm.length_eq
    rw [List.length_append] at hlen
    have h0 : rest = [] := List.length_eq_zero_iff.mp (by omega)
    subst h0
    rw [List.append_nil] at pm
    walk_at "go"
    exact k q H1 found pm kp hq0 e2
end WK
namespace WK
open PySem L2
section
variable {K : PySem.W.Frag} {H : Hp} {a : Addr} {xs : List V}
theorem ty_L (h : SqL K H a xs) : TyX K H (.ref a) (.type "list") := by
  rcases h with h | ⟨o, its, n, h1, h2, _⟩
  · rcases h with h | ⟨o, h⟩
    · exact .base (.lst h)
    · exact .base (.frz h)
  · exact .kList h1 h2
theorem ty_T (h : SqT K H a xs) : TyX K H (.ref a) (.type "tuple") := by
  rcases h with h | ⟨o, its, n, h1, h2, _⟩
  · rcases h with h | ⟨o, h⟩
    · exact .base (.tup h)
    · exact .fTuple h
  · exact .kTuple h1 h2
end
local macro_rules | `(tactic| walk_at "kb") => `(tactic| first | exact kb_str_str | exact kb_str_int | exact kb_str_bool | exact kb_str_list | exact kb_str_tuple | exact kb_str_dict | exact kb_int_str | exact kb_int_int | exact kb_int_bool | exact kb_int_list | exact kb_int_tuple | exact kb_int_dict | exact kb_bool_str | exact kb_bool_int | exact kb_bool_bool | exact kb_bool_list | exact kb_bool_tuple | exact kb_bool_dict | exact kb_list_str | exact kb_list_int | exact kb_list_bool | exact kb_list_list | exact kb_list_tuple | exact kb_list_dict | exact kb_tuple_str | exact kb_tuple_int | exact kb_tuple_bool | exact kb_tuple_list | exact kb_tuple_tuple | exact kb_tuple_dict | exact kb_dict_str | exact kb_dict_int | exact kb_dict_bool | exact kb_dict_list | exact kb_dict_tuple | exact kb_dict_dict | exact kb_NoneType_str | exact kb_NoneType_int | exact kb_NoneType_bool | exact kb_NoneType_list | exact kb_NoneType_tuple | exact kb_NoneType_dict)
local macro_rules | `(tactic| walk_at "hn") => `(tactic| first
  | assumption
  | ((with_reducible refine' Ex.nn ?hne ?hnh); (case hnh => assumption); (case hne => walk_at "ex"))
  | ((with_reducible refine' Kp.nn ?hnk ?hnb ?hnh); (case hnh => assumption); (case hnk => assumption); (case hnb => assumption))
  | ((with_reducible refine del_none ?_); walk_at "hn")
  | ((with_reducible refine' Eq.trans (upd_ne ?hnq) ?_); (case hnq => walk_at "ne"); walk_at "hn"))
local macro_rules | `(tactic| walk_at "ne") => `(tactic| first
  | assumption
  | exact Ne.symm (by assumption)
  | exact Bag.ne (by assumption) (by assumption)
  | exact Ne.symm (Bag.ne (by assumption) (by assumption))
  | exact ne_of_none (by assumption) (by assumption)
  | exact Ne.symm (ne_of_none (by assumption) (by assumption)))
local macro_rules | `(tactic| walk_at "ex") => `(tactic| first
  | assumption
  | with_reducible exact Ex.refl _
  | ((with_reducible refine' Ex.mut ?exm ?exn); (case exn => walk_at "hn"); (case exm => walk_at "ex"))
  | ((with_reducible refine' Ex.trans ?exa ?exb); (case exb => assumption); (case exa => walk_at "ex"))
  | ((with_reducible refine' Ex.trans ?exa (Ex.new ?exn)); (case exn => walk_at "hn"); (case exa => walk_at "ex")))
local macro_rules | `(tactic| walk_at "hp") => `(tactic| first
  | assumption
  | with_reducible exact upd_same
  | ((with_reducible refine' up_new ?hpn ?hpr); (case hpn => walk_at "hn"); (case hpr => walk_at "hp"))
  | ((with_reducible refine' up_ne ?hpn ?hpr); (case hpr => walk_at "hp"); (case hpn => walk_at "ne"))
  | ((with_reducible refine' hp_kp ?hph ?hpk); (case hph => assumption); (case hpk => assumption))
  | ((with_reducible refine' hp_del ?hph); (case hph => assumption))
  | ((with_reducible refine' hp_ex ?hph ?hpe); (case hph => assumption); (case hpe => walk_at "ex")))
local macro_rules | `(tactic| walk_at "sq") => `(tactic| first
  | assumption
  | ((with_reducible refine' SqL.of ?sof); (case sof => walk_at "hp"))
  | ((with_reducible refine' SqT.of ?sof); (case sof => walk_at "hp"))
  | ((with_reducible refine' sl_new ?hpn ?hpr); (case hpn => walk_at "hn"); (case hpr => walk_at "sq"))
  | ((with_reducible refine' st_new ?hpn ?hpr); (case hpn => walk_at "hn"); (case hpr => walk_at "sq"))
  | ((with_reducible refine' sl_kp ?hph ?hpk); (case hph => assumption); (case hpk => assumption))
  | ((with_reducible refine' st_kp ?hph ?hpk); (case hph => assumption); (case hpk => assumption))
  | ((with_reducible refine' sl_del ?hph); (case hph => assumption))
  | ((with_reducible refine' st_del ?hph); (case hph => assumption))
  | ((with_reducible refine' sl_ex ?hph ?hpe); (case hph => assumption); (case hpe => walk_at "ex"))
  | ((with_reducible refine' st_ex ?hph ?hpe); (case hph => assumption); (case hpe => walk_at "ex")))
local macro_rules | `(tactic| walk_at "ty") => `(tactic| first
  | exact TyX.base (.str _)
  | exact TyX.base (.int _)
  | exact TyX.base (.bl _)
  | exact TyX.base .non
  | exact ty_L (by walk_at "sq")
  | exact ty_T (by walk_at "sq"))
local macro_rules | `(tactic| walk_at "sz") => `(tactic| first | omega | exact sz_le (by omega) | exact sz_lt (by omega) | (refine sz_le ?_; simp; omega) | (refine sz_lt ?_; simp; omega) | (refine sz_le ?_; simp))
local macro_rules | `(tactic| walk_at "side") => `(tactic| first | assumption | omega | (refine ⟨?_, ?_⟩ <;> omega) | (exact .inl ⟨by omega, by omega⟩) | (exact .inr ⟨by omega, by omega⟩) | (exact ⟨by decide, by decide, by decide⟩) | rfl)
local macro_rules | `(tactic| walk_at "g1") => `(tactic| first
  | with_reducible first
    | refine g_seq ?_ | refine g_asg ?_ | refine g_name ?_ | refine g_op ?_ | refine g_c ?_ | refine g_cons ?_ | refine g_nil ?_ | refine g_cb ?_ | refine g_call ?_ | refine g_ret ?_ | refine g_drop ?_ | refine g_next ?_
    | refine g_ifS ?_ | refine g_if ?_ | refine g_test ?_ | refine g_tB ?_ | refine g_bl ?_ | refine g_and ?_ | refine g_or ?_ | refine g_not ?_ | refine g_andV ?_ | refine g_orV ?_ | refine g_notV ?_
    | refine g_un ?_ | refine g_neg ?_ | refine g_rI0 ?_ | refine g_int1 ?_ | refine g_abs ?_ | refine g_mx2 ?_ | refine g_mn2 ?_ | refine g_par ?_ | refine g_par2 ?_ | refine g_chain ?_
    | refine g_for ?_ | refine g_lc ?_ | refine g_dc ?_ | refine g_iList ?_ | refine g_iTup ?_ | refine g_iStr ?_ | refine g_iRng1 ?_ | refine g_iEnum ?_ | refine g_itS ?_ | refine g_gcons ?_ | refine g_gnil ?_
    | refine g_dget ?_ | refine g_dput ?_ | refine g_dnew ?_ | refine g_inSg ?_ | refine g_notNn ?_ | refine g_isNn ?_ | refine g_sl ?_ | refine g_nopart ?_ | refine g_part ?_ | refine g_parti ?_ | refine g_meth ?_ | refine g_make ?_ | refine g_fldE ?_ | refine g_sfld ?_
    | refine g_sub ?_ | refine g_lst ?_ | refine g_tup ?_ | refine g_bm ?_ | refine g_bm0 ?_ | refine g_tyS ?_ | refine g_yes ?_ | refine iteT ?_ | refine iteF ?_ | refine iteNT ?_ | refine iteNF ?_
  | ((with_reducible refine' g_var ?ev ?_); (case ev => rfl))
  | ((with_reducible refine' g_rI ?ec ?_); (case ec => walk_at "side"))
  | ((with_reducible refine' g_ixL ?es ?ea ?_); (case es => walk_at "sq"); (case ea => first | rfl | assumption))
  | ((with_reducible refine' g_ixT ?es ?ea ?_); (case es => walk_at "sq"); (case ea => first | rfl | assumption))
  | ((with_reducible refine' g_lenL ?es ?_); (case es => walk_at "sq"))
  | ((with_reducible refine' g_lenT ?es ?_); (case es => walk_at "sq"))
  | ((with_reducible refine' g_lenS ?es ?_); (case es => walk_at "sz"))
  | ((with_reducible refine' g_lenD ?es ?_); (case es => walk_at "hp"))
  | ((with_reducible refine' g_listL ?es ?_); (case es => walk_at "sq"))
  | ((with_reducible refine' g_listT ?es ?_); (case es => walk_at "sq"))
  | ((with_reducible refine' g_tupL ?es ?_); (case es => walk_at "sq"))
  | ((with_reducible refine' g_tyL ?es ?_); (case es => walk_at "sq"))
  | ((with_reducible refine g_eqS ?es ?_); (case es => rfl))
  | ((with_reducible refine g_neS ?es ?_); (case es => rfl))
  | ((with_reducible refine' g_inDcS ?es ?_); (case es => walk_at "hp"))
  | ((with_reducible refine' g_notInDcS ?es ?_); (case es => walk_at "hp"))
  | ((with_reducible refine' g_dgetS ?es ?ev ?_); (case es => walk_at "hp"); (case ev => first | assumption | walk_at "dv"))
  | ((with_reducible refine' g_dputS ?es ?el ?_); (case es => walk_at "hp"); (case el => walk_at "sz"))
  | ((with_reducible refine' g_fldI ?es ?ec ?en ?el ?_); (case es => walk_at "hp"); (case ec => assumption); (case en => assumption); (case el => first | assumption | walk_at "fl"))
  | ((with_reducible refine' g_methI ?es ?em ?_); (case es => walk_at "hp"); (case em => first | assumption | walk_at "fl"))
  | ((with_reducible refine' g_sfldI ?es ?ec ?en ?el ?_); (case es => walk_at "hp"); (case ec => assumption); (case en => assumption); (case el => first | assumption | walk_at "fl"))
  | ((with_reducible refine' g_isi ?et ?ek ?_); (case et => walk_at "ty"); (case ek => walk_at "kb"))
  | ((with_reducible refine g_addT ?el ?_); (case el => walk_at "sz"))
  | ((with_reducible refine' g_cat ?e1 ?e2 ?el ?_); (case e1 => walk_at "hp"); (case e2 => walk_at "hp"); (case el => walk_at "sz"))
  | ((with_reducible refine' g_slL ?es ?_); (case es => walk_at "sq"))
  | ((with_reducible refine g_slS ?el ?_); (case el => walk_at "sz"))
  | ((with_reducible refine' g_itL ?es ?_); (case es => walk_at "sq"))
  | ((with_reducible refine' g_itT ?es ?_); (case es => walk_at "sq"))
  | ((with_reducible refine' g_itE ?es ?_); (case es => walk_at "sq"))
  | ((with_reducible refine' g_itR ?es ?_); (case es => (constructor <;> omega)))
  | ((with_reducible refine' g_gtup ?es ?en ?_); (case es => walk_at "sq"); (case en => first | rfl | assumption))
  | ((with_reducible refine' g_setL ?es ?ej ?_); (case es => walk_at "hp"); (case ej => first | rfl | assumption))
  | ((with_reducible refine' g_app ?es ?el ?_); (case es => walk_at "hp"); (case el => walk_at "sz")))
local macro_rules | `(tactic| walk_at "go") => `(tactic| repeat (walk_at "g1"))
theorem lc_S {σ : L2.St} {H : Hp} {Q : VK} {g : TG} {tt : TT} {te : TE} {vs : List Nat} {z : Str} (Pv : Addr → Nat → List V → Hp → Prop) (h0 : ∀ C, H C = none → Pv C 0 [] (upd H C (.lst [])))
    (hs : ∀ C i acc H c, z.cps.toList[i]? = some c → H C = some (.lst acc) → acc.length ≤ i → Pv C i acc H → g (.str ⟨#[c]⟩) (wipe σ vs) H fun σ2 H2 => wipe σ2 vs = wipe σ vs ∧ tt σ2 H2 fun b H3 =>
      if b = true then te σ2 H3 fun y H4 => ∃ acc, H4 C = some (.lst acc) ∧ acc.length < sizeLine ∧ LcN C (Pv C) (i + 1) (upd H4 C (.lst (acc ++ [y]))) else LcN C (Pv C) (i + 1) H3)
    (hd : ∀ C acc H', H C = none → H' C = some (.lst acc) → acc.length ≤ z.cps.size → Pv C z.cps.size acc H' → Q (.ref C) H') : LcP (Its z) g tt te vs σ Q H := by
  refine lc_any z.cps.size Pv h0 (fun C i acc H hi hp => hi) (fun C acc H hp => Nat.le_refl _) (fun C i acc H x H' hi e zz hp hy => ?_) hd
  obtain ⟨rfl, c, hc, rfl⟩ := hy
  exact hs C i acc H' c (by simpa using hc) e zz hp
abbrev N_is_name : List Str := ["value", "letter"]
def t_is_name (K : PySem.W.Frag) : TS :=
  (tSeq (tIfS (tOr (tNot (tB (tCB (rIsi K) (tCons (tVar 0) (tCons (tC (.ty "str")) tNil))))) (tNot (tTest (tChain rLeI rLeI (tC (.int 1)) (tCB (rLenU K) (tCons (tVar 0) tNil)) (tC (.int 8)))))) (tRet (tC (.bl false))) tNext)
  (tRet (tCB (rAll K) (tCons (tLc (iStr (tVar 0)) (gName 1) tYes (tOp rInSg (tVar 1) (tC (.str "abcdefghijklmnopqrstuvwxyz"))) [1]) tNil))))
def sp_is_name (K : PySem.W.Frag) : Sp := fun vs H Q _ => ∃ z : Str, vs = [.str z] ∧ z.length ≤ 100000 ∧ ∀ H', Ex H H' → Q (.bl (isName z)) H'
theorem len_is_name {K : PySem.W.Frag} {vs : List V} {H : Hp} {Q : VK} {E : XK} (h : sp_is_name K vs H Q E) : vs.length = 1 := by obtain ⟨_, rfl, _⟩ := h; rfl
theorem pure_is_name {K : PySem.W.Frag} (vs : List V) (H : Hp) (Q : VK) (E : XK) (h : sp_is_name K vs H Q E) : t_is_name K { nx := fun _ H' => Q .non H', rt := Q } (start N_is_name vs) H := by
  obtain ⟨z, rfl, hz, k⟩ := h
  unfold t_is_name
  walk_at "go"
  have e1 : isName z = (decide (1 ≤ z.length) && decide (z.length ≤ 8) && z.cps.toList.all fun c => decide (c ∈ LET.cps.toList)) := rfl
  refine iteD (fun h1 => ?_) (fun h1 => ?_)
  · walk_at "go"
    refine iteN (fun h2 => ?_) (fun h2 => ?_)
    · walk_at "go"
      have e2 : isName z = false := by rw [e1, decide_eq_false (show ¬ z.length ≤ 8 by omega)]; simp
      rw [← e2]; exact k _ (Ex.refl _)
    · walk_at "go"
      refine lc_S (fun C i acc H' => H C = none ∧ Ex H H' ∧ acc = (z.cps.toList.take i).map fun c => V.bl (decide (c ∈ LET.cps.toList))) (fun C hC => ⟨hC, Ex.new hC, rfl⟩) ?_ ?_
      · rintro C i acc H1 c hc hA hl ⟨hC, hE, e⟩
        have hi : i < z.cps.toList.length := (List.getElem?_eq_some_iff.mp hc).1
        have hz2 : z.cps.toList.length ≤ 8 := by
          have : z.cps.toList.length = z.length := rfl
          omega
        refine ⟨rfl, ?_⟩
        walk_at "go"
        refine lc_add hA hl (by omega) ⟨hC, Ex.mut hE hC, ?_⟩
        rw [e, List.take_add_one, hc, List.map_append]; rfl
      · rintro C acc H1 hC hA hl ⟨_, hE, e⟩
        have e3 : acc = (z.cps.toList.map fun c => decide (c ∈ LET.cps.toList)).map V.bl := by
          rw [e, List.map_map, List.take_of_length_le (by simp)]; rfl
        rw [e3] at hA
        walk_at "go"
        refine g_all (SqL.of hA) ?_
        have e2 : isName z = (z.cps.toList.map fun c => decide (c ∈ LET.cps.toList)).all id := by
          rw [e1, decide_eq_true (show 1 ≤ z.length by omega), decide_eq_true (show z.length ≤ 8 by omega), List.all_map]; rfl
        rw [← e2]; exact k _ hE
  · walk_at "go"
    have e2 : isName z = false := by rw [e1, decide_eq_false (show ¬ 1 ≤ z.length by omega)]; simp
    rw [← e2]; exact k _ (Ex.refl _)
abbrev N_is_wrong_row : List Str := ["entry", "earlier", "weir", "below"]
def t_is_wrong_row (K : PySem.W.Frag) : TS :=
  (tSeq (tIfS (tOr (tNot (tB (tCB (rIsi K) (tCons (tVar 0) (tCons (tC (.ty "tuple")) tNil))))) (tTest (tOp (rNeU K) (tCB (rLenU K) (tCons (tVar 0) tNil)) (tC (.int 2))))) (tRet (tC (.bl true))) tNext)
  (tSeq (tAsg (tVar 0) (gTup K 2 (gCons (gName 2) (gCons (gName 3) gNil))))
  (tSeq (tIfS (tOr (tNot (tB (tCall (sp_is_name K) [] E0 (tCons (tVar 2) tNil)))) (tNot (tB (tCall (sp_is_name K) [] E0 (tCons (tVar 3) tNil))))) (tRet (tC (.bl true))) tNext)
  (tRet (tOrV (tOp (rEqU K) (tVar 2) (tC (.str "sea"))) (tOp rInDc (tVar 2) (tVar 1)))))))
/-- a pair of texts behind the rows kvs -/
def sp_is_wrong_row (K : PySem.W.Frag) : Sp := fun vs H Q _ => ∃ (t a : Addr) (w b : Str) (kvs : List (Key × V)), vs = [.ref t, .ref a] ∧ SqT K H t [.str w, .str b] ∧ H a = some (.dK kvs) ∧ w.length ≤ 100000 ∧ b.length ≤ 100000 ∧
  ∀ H', Ex H H' → Q (.bl (!isName w || !isName b || decide (w = "sea") || (valV kvs (Sum.inr w : Key)).isSome)) H'
theorem len_is_wrong_row {K : PySem.W.Frag} {vs : List V} {H : Hp} {Q : VK} {E : XK} (h : sp_is_wrong_row K vs H Q E) : vs.length = 2 := by obtain ⟨_, _, _, _, _, rfl, _⟩ := h; rfl
theorem pure_is_wrong_row {K : PySem.W.Frag} (vs : List V) (H : Hp) (Q : VK) (E : XK) (h : sp_is_wrong_row K vs H Q E) : t_is_wrong_row K { nx := fun _ H' => Q .non H', rt := Q } (start N_is_wrong_row vs) H := by
  obtain ⟨t, a, w, b, kvs, rfl, ht, ha, lw, lb, k⟩ := h
  unfold t_is_wrong_row
  walk_at "go"
  refine iteN (fun h => absurd rfl h) (fun _ => ?_)
  walk_at "go"
  refine ⟨w, rfl, lw, fun H1 e1 => ?_⟩
  walk_at "go"
  refine iteNB (fun h => ?_) (fun hw => ?_)
  · walk_at "go"
    have := k _ e1
    rw [h] at this; simpa using this
  walk_at "go"
  refine ⟨b, rfl, lb, fun H2 e2 => ?_⟩
  walk_at "go"
  have e12 := e1.trans e2
  refine iteNB (fun h => ?_) (fun hb => ?_)
  · walk_at "go"
    have := k _ e12
    rw [h] at this; simpa using this
  walk_at "go"
  have kk := k _ e12
  rw [hw, hb] at kk
  refine iteD (fun h => ?_) (fun h => ?_)
  · have h' : w = "sea" := by simpa using h
    rw [h'] at kk
    simpa using kk
  · have h' : ¬ w = "sea" := by simpa using h
    walk_at "go"
    rw [decide_eq_false h'] at kk
    simpa using kk
end WK
namespace WK
open PySem L2
local macro_rules | `(tactic| walk_at "kb") => `(tactic| first | exact kb_str_str | exact kb_str_int | exact kb_str_bool | exact kb_str_list | exact kb_str_tuple | exact kb_str_dict | exact kb_int_str | exact kb_int_int | exact kb_int_bool | exact kb_int_list | exact kb_int_tuple | exact kb_int_dict | exact kb_bool_str | exact kb_bool_int | exact kb_bool_bool | exact kb_bool_list | exact kb_bool_tuple | exact kb_bool_dict | exact kb_list_str | exact kb_list_int | exact kb_list_bool | exact kb_list_list | exact kb_list_tuple | exact kb_list_dict | exact kb_tuple_str | exact kb_tuple_int | exact kb_tuple_bool | exact kb_tuple_list | exact kb_tuple_tuple | exact kb_tuple_dict | exact kb_dict_str | exact kb_dict_int | exact kb_dict_bool | exact kb_dict_list | exact kb_dict_tuple | exact kb_dict_dict | exact kb_NoneType_str | exact kb_NoneType_int | exact kb_NoneType_bool | exact kb_NoneType_list | exact kb_NoneType_tuple | exact kb_NoneType_dict)
local macro_rules | `(tactic| walk_at "hn") => `(tactic| first
  | assumption
  | ((with_reducible refine' Ex.nn ?hne ?hnh); (case hnh => assumption); (case hne => walk_at "ex"))
  | ((with_reducible refine' Kp.nn ?hnk ?hnb ?hnh); (case hnh => assumption); (case hnk => assumption); (case hnb => assumption))
  | ((with_reducible refine del_none ?_); walk_at "hn")
  | ((with_reducible refine' Eq.trans (upd_ne ?hnq) ?_); (case hnq => walk_at "ne"); walk_at "hn"))
local macro_rules | `(tactic| walk_at "ne") => `(tactic| first
  | assumption
  | exact Ne.symm (by assumption)
  | exact Bag.ne (by assumption) (by assumption)
  | exact Ne.symm (Bag.ne (by assumption) (by assumption))
  | exact ne_of_none (by assumption) (by assumption)
  | exact Ne.symm (ne_of_none (by assumption) (by assumption)))
local macro_rules | `(tactic| walk_at "ex") => `(tactic| first
  | assumption
  | with_reducible exact Ex.refl _
  | ((with_reducible refine' Ex.mut ?exm ?exn); (case exn => walk_at "hn"); (case exm => walk_at "ex"))
  | ((with_reducible refine' Ex.trans ?exa ?exb); (case exb => assumption); (case exa => walk_at "ex"))
  | ((with_reducible refine' Ex.trans ?exa (Ex.new ?exn)); (case exn => walk_at "hn"); (case exa => walk_at "ex")))
local macro_rules | `(tactic| walk_at "hp") => `(tactic| first
  | assumption
  | with_reducible exact upd_same
  | ((with_reducible refine' up_new ?hpn ?hpr); (case hpn => walk_at "hn"); (case hpr => walk_at "hp"))
  | ((with_reducible refine' up_ne ?hpn ?hpr); (case hpr => walk_at "hp"); (case hpn => walk_at "ne"))
  | ((with_reducible refine' hp_kp ?hph ?hpk); (case hph => assumption); (case hpk => assumption))
  | ((with_reducible refine' hp_del ?hph); (case hph => assumption))
  | ((with_reducible refine' hp_ex ?hph ?hpe); (case hph => assumption); (case hpe => walk_at "ex")))
local macro_rules | `(tactic| walk_at "sq") => `(tactic| first
  | assumption
  | ((with_reducible refine' SqL.of ?sof); (case sof => walk_at "hp"))
  | ((with_reducible refine' SqT.of ?sof); (case sof => walk_at "hp"))
  | ((with_reducible refine' sl_new ?hpn ?hpr); (case hpn => walk_at "hn"); (case hpr => walk_at "sq"))
  | ((with_reducible refine' st_new ?hpn ?hpr); (case hpn => walk_at "hn"); (case hpr => walk_at "sq"))
  | ((with_reducible refine' sl_kp ?hph ?hpk); (case hph => assumption); (case hpk => assumption))
  | ((with_reducible refine' st_kp ?hph ?hpk); (case hph => assumption); (case hpk => assumption))
  | ((with_reducible refine' sl_del ?hph); (case hph => assumption))
  | ((with_reducible refine' st_del ?hph); (case hph => assumption))
  | ((with_reducible refine' sl_ex ?hph ?hpe); (case hph => assumption); (case hpe => walk_at "ex"))
  | ((with_reducible refine' st_ex ?hph ?hpe); (case hph => assumption); (case hpe => walk_at "ex")))
local macro_rules | `(tactic| walk_at "ty") => `(tactic| first
  | exact TyX.base (.str _)
  | exact TyX.base (.int _)
  | exact TyX.base (.bl _)
  | exact TyX.base .non
  | exact ty_L (by walk_at "sq")
  | exact ty_T (by walk_at "sq"))
local macro_rules | `(tactic| walk_at "sz") => `(tactic| first | omega | exact sz_le (by omega) | exact sz_lt (by omega) | (refine sz_le ?_; simp; omega) | (refine sz_lt ?_; simp; omega) | (refine sz_le ?_; simp))
local macro_rules | `(tactic| walk_at "side") => `(tactic| first | assumption | omega | (refine ⟨?_, ?_⟩ <;> omega) | (exact .inl ⟨by omega, by omega⟩) | (exact .inr ⟨by omega, by omega⟩) | (exact ⟨by decide, by decide, by decide⟩) | rfl)
local macro_rules | `(tactic| walk_at "g1") => `(tactic| first
  | with_reducible first
    | refine g_seq ?_ | refine g_asg ?_ | refine g_name ?_ | refine g_op ?_ | refine g_c ?_ | refine g_cons ?_ | refine g_nil ?_ | refine g_cb ?_ | refine g_call ?_ | refine g_ret ?_ | refine g_drop ?_ | refine g_next ?_
    | refine g_ifS ?_ | refine g_if ?_ | refine g_test ?_ | refine g_tB ?_ | refine g_bl ?_ | refine g_and ?_ | refine g_or ?_ | refine g_not ?_ | refine g_andV ?_ | refine g_orV ?_ | refine g_notV ?_
    | refine g_un ?_ | refine g_neg ?_ | refine g_rI0 ?_ | refine g_int1 ?_ | refine g_abs ?_ | refine g_mx2 ?_ | refine g_mn2 ?_ | refine g_par ?_ | refine g_par2 ?_ | refine g_chain ?_
    | refine g_for ?_ | refine g_lc ?_ | refine g_dc ?_ | refine g_iList ?_ | refine g_iTup ?_ | refine g_iStr ?_ | refine g_iRng1 ?_ | refine g_iEnum ?_ | refine g_itS ?_ | refine g_gcons ?_ | refine g_gnil ?_
    | refine g_dget ?_ | refine g_dput ?_ | refine g_dnew ?_ | refine g_inSg ?_ | refine g_notNn ?_ | refine g_isNn ?_ | refine g_sl ?_ | refine g_nopart ?_ | refine g_part ?_ | refine g_parti ?_ | refine g_meth ?_ | refine g_make ?_ | refine g_fldE ?_ | refine g_sfld ?_
    | refine g_sub ?_ | refine g_lst ?_ | refine g_tup ?_ | refine g_bm ?_ | refine g_bm0 ?_ | refine g_tyS ?_ | refine g_yes ?_ | refine iteT ?_ | refine iteF ?_ | refine iteNT ?_ | refine iteNF ?_
  | ((with_reducible refine' g_var ?ev ?_); (case ev => rfl))
  | ((with_reducible refine' g_rI ?ec ?_); (case ec => walk_at "side"))
  | ((with_reducible refine' g_ixL ?es ?ea ?_); (case es => walk_at "sq"); (case ea => first | rfl | assumption))
  | ((with_reducible refine' g_ixT ?es ?ea ?_); (case es => walk_at "sq"); (case ea => first | rfl | assumption))
  | ((with_reducible refine' g_lenL ?es ?_); (case es => walk_at "sq"))
  | ((with_reducible refine' g_lenT ?es ?_); (case es => walk_at "sq"))
  | ((with_reducible refine' g_lenS ?es ?_); (case es => walk_at "sz"))
  | ((with_reducible refine' g_lenD ?es ?_); (case es => walk_at "hp"))
  | ((with_reducible refine' g_listL ?es ?_); (case es => walk_at "sq"))
  | ((with_reducible refine' g_listT ?es ?_); (case es => walk_at "sq"))
  | ((with_reducible refine' g_tupL ?es ?_); (case es => walk_at "sq"))
  | ((with_reducible refine' g_tyL ?es ?_); (case es => walk_at "sq"))
  | ((with_reducible refine g_eqS ?es ?_); (case es => rfl))
  | ((with_reducible refine g_neS ?es ?_); (case es => rfl))
  | ((with_reducible refine' g_inDcS ?es ?_); (case es => walk_at "hp"))
  | ((with_reducible refine' g_notInDcS ?es ?_); (case es => walk_at "hp"))
  | ((with_reducible refine' g_dgetS ?es ?ev ?_); (case es => walk_at "hp"); (case ev => first | assumption | walk_at "dv"))
  | ((with_reducible refine' g_dputS ?es ?el ?_); (case es => walk_at "hp"); (case el => walk_at "sz"))
  | ((with_reducible refine' g_fldI ?es ?ec ?en ?el ?_); (case es => walk_at "hp"); (case ec => assumption); (case en => assumption); (case el => first | assumption | walk_at "fl"))
  | ((with_reducible refine' g_methI ?es ?em ?_); (case es => walk_at "hp"); (case em => first | assumption | walk_at "fl"))
  | ((with_reducible refine' g_sfldI ?es ?ec ?en ?el ?_); (case es => walk_at "hp"); (case ec => assumption); (case en => assumption); (case el => first | assumption | walk_at "fl"))
  | ((with_reducible refine' g_isi ?et ?ek ?_); (case et => walk_at "ty"); (case ek => walk_at "kb"))
  | ((with_reducible refine g_addT ?el ?_); (case el => walk_at "sz"))
  | ((with_reducible refine' g_cat ?e1 ?e2 ?el ?_); (case e1 => walk_at "hp"); (case e2 => walk_at "hp"); (case el => walk_at "sz"))
  | ((with_reducible refine' g_slL ?es ?_); (case es => walk_at "sq"))
  | ((with_reducible refine g_slS ?el ?_); (case el => walk_at "sz"))
  | ((with_reducible refine' g_itL ?es ?_); (case es => walk_at "sq"))
  | ((with_reducible refine' g_itT ?es ?_); (case es => walk_at "sq"))
  | ((with_reducible refine' g_itE ?es ?_); (case es => walk_at "sq"))
  | ((with_reducible refine' g_itR ?es ?_); (case es => (constructor <;> omega)))
  | ((with_reducible refine' g_gtup ?es ?en ?_); (case es => walk_at "sq"); (case en => first | rfl | assumption))
  | ((with_reducible refine' g_setL ?es ?ej ?_); (case es => walk_at "hp"); (case ej => first | rfl | assumption))
  | ((with_reducible refine' g_app ?es ?el ?_); (case es => walk_at "hp"); (case el => walk_at "sz")))
local macro_rules | `(tactic| walk_at "go") => `(tactic| repeat (walk_at "g1"))
theorem dpAll_at {K : PySem.W.Frag} {G : Hp} : ∀ {rs : List V} {ds : List PyData}, DpAll K G rs ds → rs.length = ds.length ∧ ∀ (i : Nat) x, rs[i]? = some x → ∃ d, ds[i]? = some d ∧ Dp K G x d
  | _, _, .nil => ⟨rfl, fun i x h => by simp at h⟩
  | _, _, .cons h t => by
    obtain ⟨l, f⟩ := dpAll_at t
    refine ⟨by simp [l], fun i x hx => ?_⟩
    cases i with
    | zero => simp at hx; subst hx; exact ⟨_, rfl, h⟩
    | succ i => simp at hx; simpa using f i x hx
theorem dp_pair {K : PySem.W.Frag} {G : Hp} {x : V} {u v : Str} (h : Dp K G x (.tuple [.str u, .str v])) : ∃ t, x = .ref t ∧ SqT K G t [.str u, .str v] := by
  cases h with
  | tup s ha =>
    cases ha with
    | cons h1 h2 =>
      cases h1
      cases h2 with
      | cons h3 h4 =>
        cases h3
        cases h4
        exact ⟨_, rfl, s⟩
theorem rows_at {K : PySem.W.Frag} {G : Hp} {p : Addr} {rows : Rows} (h : Dp K G (.ref p) (rowsD rows)) :
    ∃ rs, SqL K G p rs ∧ rs.length = rows.length ∧ ∀ (i : Nat) x, rs[i]? = some x → ∃ t r, x = .ref t ∧ rows[i]? = some r ∧ SqT K G t [.str r.1, .str r.2] := by
  cases h with
  | lst s ha =>
    obtain ⟨l, f⟩ := dpAll_at ha
    refine ⟨_, s, by simpa using l, fun i x hx => ?_⟩
    obtain ⟨d, hd, hp⟩ := f i x hx
    rw [List.getElem?_map] at hd
    cases hr : rows[i]? with
    | none => rw [hr] at hd; cases hd
    | some r =>
      rw [hr] at hd
      cases hd
      obtain ⟨t, rfl, st⟩ := dp_pair hp
      exact ⟨t, r, rfl, rfl, st⟩
theorem rowsK_take {rows : Rows} (nd : (wrs rows).Nodup) {i : Nat} {r : Str × Str} (h : rows[i]? = some r) : valV (rowsK (rows.take i)) (Sum.inr r.1 : Key) = none ∧ putK (rowsK (rows.take i)) (Sum.inr r.1 : Key) (.str r.2) = rowsK (rows.take (i + 1)) := by
  have h1 : r.1 ∉ wrs (rows.take i) := by
    intro hm
    obtain ⟨hi, e⟩ := List.getElem?_eq_some_iff.mp h
    obtain ⟨q, hq, eq⟩ := List.mem_map.mp hm
    obtain ⟨j, hj, ej⟩ := List.mem_take_iff_getElem.mp hq
    have hj2 : j < rows.length := by omega
    have hji : j < i := by omega
    have a1 : (wrs rows)[j]'(by simpa [wrs] using hj2) = r.1 := by simp [wrs, ej, eq]
    have a2 : (wrs rows)[i]'(by simpa [wrs] using hi) = r.1 := by simp [wrs, e]
    have := (List.getElem_inj nd).mp (a1.trans a2.symm)
    omega
  have h2 := valV_out h1
  refine ⟨h2, ?_⟩
  rw [putK_new _ h2, List.take_add_one, h]
  simp [rowsK]
abbrev N_reaches_sea : List Str := ["weir", "lower", "step"]
def t_reaches_sea (K : PySem.W.Frag) : TS :=
  (tSeq (tFor (iRng1 (tCons (tCB (rLenU K) (tCons (tVar 1) tNil)) tNil)) (gName 2) (tSeq (tIfS (tTest (tOp (rEqU K) (tVar 0) (tC (.str "sea")))) (tRet (tC (.bl true))) tNext)
  (tAsg (tDGet (tVar 1) (tVar 0)) (gName 0))))
  (tRet (tOp (rEqU K) (tVar 0) (tC (.str "sea")))))
def sp_reaches_sea (K : PySem.W.Frag) : Sp := fun vs H Q _ => ∃ (w : Str) (a : Addr) (rows : Rows), vs = [.str w, .ref a] ∧ H a = some (.dK (rowsK rows)) ∧ Good rows ∧ w ∈ wrs rows ∧ ∀ H', Ex H H' → Q (.bl true) H'
theorem len_reaches_sea {K : PySem.W.Frag} {vs : List V} {H : Hp} {Q : VK} {E : XK} (h : sp_reaches_sea K vs H Q E) : vs.length = 2 := by obtain ⟨_, _, _, rfl, _⟩ := h; rfl
theorem pure_reaches_sea {K : PySem.W.Frag} (vs : List V) (H : Hp) (Q : VK) (E : XK) (h : sp_reaches_sea K vs H Q E) : t_reaches_sea K { nx := fun _ H' => Q .non H', rt := Q } (start N_reaches_sea vs) H := by
  obtain ⟨w, a, rows, rfl, ha, g, hw, k⟩ := h
  have hlen : (rowsK rows).length = rows.length := by simp [rowsK]
  have h40 := g.le
  unfold t_reaches_sea
  walk_at "go"
  refine for_R rows.length (fun i σ' H' => ∃ (u : Str) (v : Option V), σ' = [some (.str u), some (.ref a), v] ∧ H' = H ∧ (u = "sea" ∨ u ∈ wrs rows) ∧ down rows (rows.length - i) u = "sea") ?_ ?_ ?_ (by simp [hlen])
  · exact ⟨w, none, rfl, rfl, .inr hw, g.ends hw⟩
  · rintro i _ _ hi ⟨u, v, rfl, rfl, hu, hd⟩
    walk_at "go"
    refine iteD (fun h => ?_) (fun h => ?_)
    · walk_at "go"
      exact k _ (Ex.refl _)
    · have h' : ¬ u = "sea" := by simpa using h
      rcases hu with hu | hu
      · exact absurd hu h'
      have hv := valV_in hu
      walk_at "go"
      refine ⟨low rows u, _, rfl, rfl, g.low_in hu, ?_⟩
      have e : rows.length - i = (rows.length - (i + 1)) + 1 := by omega
      rw [e] at hd
      unfold down at hd
      rw [if_neg h'] at hd
      exact hd
  · rintro _ _ ⟨u, v, rfl, rfl, hu, hd⟩
    rw [Nat.sub_self] at hd
    have hd : u = "sea" := hd
    subst hd
    walk_at "go"
    exact k _ (Ex.refl _)
abbrev N_course_of : List Str := ["weir", "lower", "found"]
def t_course_of (K : PySem.W.Frag) : TS :=
  (tSeq (tAsg (tLst tNil) (gName 2))
  (tSeq (tWhile (tTest (tOp (rNeU K) (tVar 0) (tC (.str "sea")))) (tSeq (tDrop (tBM K "list" rAppend (tVar 2) (tCons (tVar 0) tNil)))
  (tAsg (tDGet (tVar 1) (tVar 0)) (gName 0))))
  (tRet (tCB (rTupOf K) (tCons (tVar 2) tNil)))))
def sp_course_of (K : PySem.W.Frag) : Sp := fun vs H Q _ => ∃ (w : Str) (a : Addr) (rows : Rows), vs = [.str w, .ref a] ∧ H a = some (.dK (rowsK rows)) ∧ Good rows ∧ w ∈ wrs rows ∧
  ∀ p H', H p = none → Ex H H' → H' p = some (.tup (strsV (crs rows rows.length w))) → Q (.ref p) H'
theorem len_course_of {K : PySem.W.Frag} {vs : List V} {H : Hp} {Q : VK} {E : XK} (h : sp_course_of K vs H Q E) : vs.length = 2 := by obtain ⟨_, _, _, rfl, _⟩ := h; rfl
theorem pure_course_of {K : PySem.W.Frag} (vs : List V) (H : Hp) (Q : VK) (E : XK) (h : sp_course_of K vs H Q E) : t_course_of K { nx := fun _ H' => Q .non H', rt := Q } (start N_course_of vs) H := by
  obtain ⟨w, a, rows, rfl, ha, g, hw, k⟩ := h
  have h40 := g.le
  unfold t_course_of
  walk_at "go"
  refine ⟨Nat.zero_le _, fun p hp => ?_⟩
  walk_at "go"
  refine ⟨fun m σ' H' => ∃ (u : Str) (acc : List Str), σ' = [some (.str u), some (.ref a), some (.ref p)] ∧ Ex H H' ∧ H' p = some (.lst (strsV acc)) ∧ (u = "sea" ∨ u ∈ wrs rows) ∧ down rows m u = "sea" ∧ acc ++ crs rows m u = crs rows rows.length w ∧ acc.length + m ≤ 40, ⟨rows.length, w, [], rfl, Ex.new hp, upd_same, .inr hw, g.ends hw, rfl, by simpa using h40⟩, ?_⟩
  rintro m _ H1 ⟨u, acc, rfl, hE, hA, hu, hd, hc, hz⟩
  walk_at "go"
  refine iteN (fun h => ?_) (fun h => ?_)
  · have h' : ¬ u = "sea" := by simpa using h
    rcases hu with hu | hu
    · exact absurd hu h'
    have hv := valV_in hu
    refine ⟨fun σ' H' => ∃ m', m' < m ∧ ∃ (u : Str) (acc : List Str), σ' = [some (.str u), some (.ref a), some (.ref p)] ∧ Ex H H' ∧ H' p = some (.lst (strsV acc)) ∧ (u = "sea" ∨ u ∈ wrs rows) ∧ down rows m' u = "sea" ∧ acc ++ crs rows m' u = crs rows rows.length w ∧ acc.length + m' ≤ 40, fun _ _ z => z, ?_⟩
    cases m with
    | zero => exact absurd hd h'
    | succ m =>
      unfold down at hd
      rw [if_neg h'] at hd
      rw [show crs rows (m + 1) u = if u = "sea" then [] else u :: crs rows m (low rows u) from rfl, if_neg h'] at hc
      have hl : (strsV acc).length < 10000000 := by simp [strsV]; omega
      have hap : a ≠ p := ne_of_none ha hp
      walk_at "go"
      refine ⟨m, Nat.lt_succ_self _, low rows u, acc ++ [u], rfl, Ex.mut hE hp, by rw [upd_same]; simp [strsV], g.low_in hu, hd, by rw [List.append_assoc]; exact hc, by simp; omega⟩
  · have h' : u = "sea" := by simpa using h
    subst h'
    rw [crs_sea, List.append_nil] at hc
    subst hc
    walk_at "go"
    intro q hq
    refine k q _ (hE.nn hq) (hE.trans (Ex.new hq)) upd_same
abbrev N_river_fault : List Str := ["rows", "lower", "place", "entry"]
def t_river_fault (K : PySem.W.Frag) : TS :=
  (tSeq (tIfS (tOr (tNot (tB (tCB (rIsi K) (tCons (tVar 0) (tCons (tC (.ty "list")) tNil))))) (tNot (tTest (tChain rLeI rLeI (tC (.int 1)) (tCB (rLenU K) (tCons (tVar 0) tNil)) (tC (.int 40)))))) (tRet (tUn (rU fun i => .int (-i)) (tC (.int 1)))) tNext)
  (tSeq (tAsg tDNewK (gName 1))
  (tSeq (tFor (iEnum K (tCons (tVar 0) tNil)) (gTup K 2 (gCons (gName 2) (gCons (gName 3) gNil))) (tSeq (tIfS (tB (tCall (sp_is_wrong_row K) [] E0 (tCons (tVar 3) (tCons (tVar 1) tNil)))) (tRet (tVar 2)) tNext)
  (sDPut (tVar 1) (tOp (rIx K) (tVar 3) (tC (.int 0))) (tOp (rIx K) (tVar 3) (tC (.int 1))))))
  (tSeq (tFor (iEnum K (tCons (tVar 0) tNil)) (gTup K 2 (gCons (gName 2) (gCons (gName 3) gNil))) (tIfS (tAnd (tTest (tOp (rNeU K) (tOp (rIx K) (tVar 3) (tC (.int 1))) (tC (.str "sea")))) (tTest (tOp rNotInDc (tOp (rIx K) (tVar 3) (tC (.int 1))) (tVar 1)))) (tRet (tVar 2)) tNext))
  (tSeq (tFor (iEnum K (tCons (tVar 0) tNil)) (gTup K 2 (gCons (gName 2) (gCons (gName 3) gNil))) (tIfS (tNot (tB (tCall (sp_reaches_sea K) [] E0 (tCons (tOp (rIx K) (tVar 3) (tC (.int 0))) (tCons (tVar 1) tNil))))) (tRet (tVar 2)) tNext))
  (tRet (tC .non)))))))
def sp_river_fault (K : PySem.W.Frag) : Sp := fun vs H Q _ => ∃ (a : Addr) (rows : Rows), vs = [.ref a] ∧ Dp K H (.ref a) (rowsD rows) ∧ Good rows ∧ ∀ H', Ex H H' → Q .non H'
theorem len_river_fault {K : PySem.W.Frag} {vs : List V} {H : Hp} {Q : VK} {E : XK} (h : sp_river_fault K vs H Q E) : vs.length = 1 := by obtain ⟨_, _, rfl, _⟩ := h; rfl
theorem isName_len {z : Str} (h : isName z = true) : z.length ≤ 100000 := by
  unfold isName at h
  simp only [Bool.and_eq_true, decide_eq_true_eq] at h
  omega
theorem pure_river_fault {K : PySem.W.Frag} (vs : List V) (H : Hp) (Q : VK) (E : XK) (h : sp_river_fault K vs H Q E) : t_river_fault K { nx := fun _ H' => Q .non H', rt := Q } (start N_river_fault vs) H := by
  obtain ⟨a, rows, rfl, hD, g, k⟩ := h
  obtain ⟨rs, hs, hl, hat⟩ := rows_at hD
  have h40 := g.le
  have h1 := g.pos
  unfold t_river_fault
  walk_at "go"
  refine iteD (fun _ => ?_) (fun h => absurd (show (1 : Int) ≤ rs.length by omega) h)
  walk_at "go"
  refine iteN (fun h => absurd (show (rs.length : Int) ≤ 40 by omega) h) (fun _ => ?_)
  walk_at "go"
  intro d hd
  walk_at "go"
  have hn : ∀ H', Ex H H' → SqL K H' a rs := fun H' e => sl_ex hs e
  refine for_E (xs := rs) (fun i σ' H' => ∃ (p e : Option V), σ' = [some (.ref a), some (.ref d), p, e] ∧ Ex H H' ∧ H' d = some (.dK (rowsK (rows.take i)))) ⟨none, none, rfl, Ex.new hd, upd_same⟩ (fun i σ' H' ⟨_, _, _, e, _⟩ => hn _ e) ?_ ?_
  · rintro i x _ H1 T hx ⟨p, e, rfl, hE, hdk⟩ hT
    obtain ⟨t, r, rfl, hr, ht⟩ := hat i x hx
    have hrm : r ∈ rows := List.mem_of_getElem? hr
    obtain ⟨n1, n2⟩ := g.nm r hrm
    obtain ⟨v1, v2⟩ := rowsK_take g.nd hr
    have ht1 : SqT K (upd H1 T (.tup [.int (i : Nat), .ref t])) t [.str r.1, .str r.2] := st_new hT (st_ex ht hE)
    have hd1 : upd H1 T (.tup [.int (i : Nat), .ref t]) d = some (.dK (rowsK (rows.take i))) := up_new hT hdk
    have hlk : (rowsK (rows.take i)).length ≤ 40 := by simp [rowsK]; omega
    walk_at "go"
    refine ⟨t, d, r.1, r.2, _, rfl, ht1, hd1, isName_len n1, isName_len n2, fun H2 e2 => ?_⟩
    rw [n1, n2, v1, decide_eq_false (g.nosea r hrm)]
    have ht2 : SqT K H2 t [.str r.1, .str r.2] := st_ex ht1 e2
    have hd2 := e2 _ _ hd1
    walk_at "go"
    refine iteF ?_
    walk_at "go"
    exact ⟨_, _, rfl, Ex.mut ((hE.trans (Ex.new hT)).trans e2) hd, by rw [v2]; exact upd_same⟩
  · rintro _ H1 ⟨p, e, rfl, hE, hdk⟩
    rw [hl, List.take_length] at hdk
    walk_at "go"
    refine for_E (xs := rs) (fun i σ' H' => ∃ (p e : Option V), σ' = [some (.ref a), some (.ref d), p, e] ∧ Ex H H' ∧ H' d = some (.dK (rowsK rows))) ⟨_, _, rfl, hE, hdk⟩ (fun i σ' H' ⟨_, _, _, e, _⟩ => hn _ e) ?_ ?_
    · rintro i x _ H2 T hx ⟨p, e, rfl, hE, hdk⟩ hT
      obtain ⟨t, r, rfl, hr, ht⟩ := hat i x hx
      have hrm : r ∈ rows := List.mem_of_getElem? hr
      have ht1 : SqT K (upd H2 T (.tup [.int (i : Nat), .ref t])) t [.str r.1, .str r.2] := st_new hT (st_ex ht hE)
      have hd1 : upd H2 T (.tup [.int (i : Nat), .ref t]) d = some (.dK (rowsK rows)) := up_new hT hdk
      walk_at "go"
      refine iteN (fun h => ?_) (fun h => ?_)
      · have h' : ¬ r.2 = "sea" := by simpa using h
        have hm := (g.dn r hrm).resolve_left h'
        have hv := valV_in hm
        walk_at "go"
        rw [hv]
        refine iteF ?_
        walk_at "go"
        exact ⟨_, _, rfl, hE.trans (Ex.new hT), hd1⟩
      · walk_at "go"
        exact ⟨_, _, rfl, hE.trans (Ex.new hT), hd1⟩
    · rintro _ H2 ⟨p, e, rfl, hE, hdk⟩
      walk_at "go"
      refine for_E (xs := rs) (fun i σ' H' => ∃ (p e : Option V), σ' = [some (.ref a), some (.ref d), p, e] ∧ Ex H H' ∧ H' d = some (.dK (rowsK rows))) ⟨_, _, rfl, hE, hdk⟩ (fun i σ' H' ⟨_, _, _, e, _⟩ => hn _ e) ?_ ?_
      · rintro i x _ H3 T hx ⟨p, e, rfl, hE, hdk⟩ hT
        obtain ⟨t, r, rfl, hr, ht⟩ := hat i x hx
        have hrm : r ∈ rows := List.mem_of_getElem? hr
        have ht1 : SqT K (upd H3 T (.tup [.int (i : Nat), .ref t])) t [.str r.1, .str r.2] := st_new hT (st_ex ht hE)
        have hd1 : upd H3 T (.tup [.int (i : Nat), .ref t]) d = some (.dK (rowsK rows)) := up_new hT hdk
        walk_at "go"
        refine ⟨r.1, d, rows, rfl, hd1, g, List.mem_map.mpr ⟨r, hrm, rfl⟩, fun H4 e4 => ?_⟩
        walk_at "go"
        exact ⟨_, _, rfl, (hE.trans (Ex.new hT)).trans e4, e4 _ _ hd1⟩
      · rintro _ H3 ⟨p, e, rfl, hE, hdk⟩
        walk_at "go"
        exact k _ hE
end WK
namespace WK
open PySem L2
/-! ### the river as an object -/
structure GRiver (K : PySem.W.Frag) : Prop where
  cl : Cls K (He.ga K "River")
  nw : NoAttr K (He.ga K "River") "weirs"
  nl : NoAttr K (He.ga K "River") "lower"
  nc : NoAttr K (He.ga K "River") "courses"
def rfs (tw dl dc : Addr) : List (Str × V) := [("weirs", .ref tw), ("lower", .ref dl), ("courses", .ref dc)]
theorem sne1 : ¬ (("lower" : Str) = "weirs") := by decide +kernel
theorem sne2 : ¬ (("courses" : Str) = "weirs") := by decide +kernel
theorem sne3 : ¬ (("courses" : Str) = "lower") := by decide +kernel
theorem sne4 : ¬ (("weirs" : Str) = "lower") := by decide +kernel
theorem sne5 : ¬ (("weirs" : Str) = "courses") := by decide +kernel
theorem sne6 : ¬ (("lower" : Str) = "courses") := by decide +kernel
theorem lk_cons (f g : Str) (v : V) (r : List (Str × V)) : ((g, v) :: r).lookup f = if f = g then some v else r.lookup f := by
  by_cases h : f = g
  · subst h; rw [if_pos rfl, List.lookup_cons_self]
  · rw [if_neg h]
    show (match f == g with | true => some v | false => r.lookup f) = _
    rw [beq_eq_false_iff_ne.mpr h]
theorem rfs_weirs (tw dl dc : Addr) : (rfs tw dl dc).lookup ("weirs" : Str) = some (.ref tw) := by unfold rfs; rw [lk_cons, if_pos rfl]
theorem rfs_lower (tw dl dc : Addr) : (rfs tw dl dc).lookup ("lower" : Str) = some (.ref dl) := by unfold rfs; rw [lk_cons, if_neg sne1, lk_cons, if_pos rfl]
theorem rfs_courses (tw dl dc : Addr) : (rfs tw dl dc).lookup ("courses" : Str) = some (.ref dc) := by unfold rfs; rw [lk_cons, if_neg sne2, lk_cons, if_neg sne3, lk_cons, if_pos rfl]
theorem rfs_no {m : Str} (tw dl dc : Addr) (h1 : ¬ m = "weirs") (h2 : ¬ m = "lower") (h3 : ¬ m = "courses") : (rfs tw dl dc).lookup m = none := by unfold rfs; rw [lk_cons, if_neg h1, lk_cons, if_neg h2, lk_cons, if_neg h3]; rfl
theorem rfs_need (tw dl dc : Addr) : (rfs tw dl dc).lookup ("need" : Str) = none := rfs_no _ _ _ (by decide +kernel) (by decide +kernel) (by decide +kernel)
theorem rfs_rows (tw dl dc : Addr) : (rfs tw dl dc).lookup ("rows" : Str) = none := rfs_no _ _ _ (by decide +kernel) (by decide +kernel) (by decide +kernel)
theorem rfs_below (tw dl dc : Addr) : (rfs tw dl dc).lookup ("below" : Str) = none := rfs_no _ _ _ (by decide +kernel) (by decide +kernel) (by decide +kernel)
theorem rfs_above (tw dl dc : Addr) : (rfs tw dl dc).lookup ("above" : Str) = none := rfs_no _ _ _ (by decide +kernel) (by decide +kernel) (by decide +kernel)
theorem rfs_course (tw dl dc : Addr) : (rfs tw dl dc).lookup ("course" : Str) = none := rfs_no _ _ _ (by decide +kernel) (by decide +kernel) (by decide +kernel)
theorem rfs_depth (tw dl dc : Addr) : (rfs tw dl dc).lookup ("depth" : Str) = none := rfs_no _ _ _ (by decide +kernel) (by decide +kernel) (by decide +kernel)
theorem rfs_upstream (tw dl dc : Addr) : (rfs tw dl dc).lookup ("upstream" : Str) = none := rfs_no _ _ _ (by decide +kernel) (by decide +kernel) (by decide +kernel)
theorem put1 (t : V) : putF "weirs" t [] = ([("weirs", t)] : List (Str × V)) := rfl
theorem put2 (t u : V) : putF "lower" u ([("weirs", t)] : List (Str × V)) = ([("weirs", t), ("lower", u)] : List (Str × V)) := by
  show (if ("weirs" : Str) = "lower" then _ else (("weirs" : Str), t) :: putF "lower" u []) = ([("weirs", t), ("lower", u)] : List (Str × V))
  rw [if_neg sne4]; rfl
theorem put3 (t u v : V) : putF "courses" v ([("weirs", t), ("lower", u)] : List (Str × V)) = ([("weirs", t), ("lower", u), ("courses", v)] : List (Str × V)) := by
  show (if ("weirs" : Str) = "courses" then _ else (("weirs" : Str), t) :: (if ("lower" : Str) = "courses" then _ else (("lower" : Str), u) :: putF "courses" v [])) = ([("weirs", t), ("lower", u), ("courses", v)] : List (Str × V))
  rw [if_neg sne5, if_neg sne6]; rfl
/-- the river of the rows stands at p -/
structure RiverAt (K : PySem.W.Frag) (H : Hp) (p : Addr) (rows : Rows) : Prop where
  ex : ∃ (dx tw dl dc : Addr) (cs : List (Key × V)), H p = some (.ins (He.ga K "River") dx (rfs tw dl dc)) ∧ H tw = some (.tup (strsV (wrs rows))) ∧ H dl = some (.dK (rowsK rows)) ∧ H dc = some (.dK cs) ∧
    (∀ w ∈ wrs rows, ∃ t, valV cs (Sum.inr w : Key) = some (.ref t) ∧ H t = some (.tup (strsV (crs rows rows.length w))))
  good : Good rows
theorem RiverAt.mono {K : PySem.W.Frag} {H H' : Hp} {p : Addr} {rows : Rows} (r : RiverAt K H p rows) (e : Ex H H') : RiverAt K H' p rows := by
  obtain ⟨⟨dx, tw, dl, dc, cs, h1, h2, h3, h4, h5⟩, g⟩ := r
  exact ⟨⟨dx, tw, dl, dc, cs, e _ _ h1, e _ _ h2, e _ _ h3, e _ _ h4, fun w hw => by obtain ⟨t, a, b⟩ := h5 w hw; exact ⟨t, a, e _ _ b⟩⟩, g⟩
local macro_rules | `(tactic| walk_at "kb") => `(tactic| first | exact kb_str_str | exact kb_str_int | exact kb_str_bool | exact kb_str_list | exact kb_str_tuple | exact kb_str_dict | exact kb_int_str | exact kb_int_int | exact kb_int_bool | exact kb_int_list | exact kb_int_tuple | exact kb_int_dict | exact kb_bool_str | exact kb_bool_int | exact kb_bool_bool | exact kb_bool_list | exact kb_bool_tuple | exact kb_bool_dict | exact kb_list_str | exact kb_list_int | exact kb_list_bool | exact kb_list_list | exact kb_list_tuple | exact kb_list_dict | exact kb_tuple_str | exact kb_tuple_int | exact kb_tuple_bool | exact kb_tuple_list | exact kb_tuple_tuple | exact kb_tuple_dict | exact kb_dict_str | exact kb_dict_int | exact kb_dict_bool | exact kb_dict_list | exact kb_dict_tuple | exact kb_dict_dict | exact kb_NoneType_str | exact kb_NoneType_int | exact kb_NoneType_bool | exact kb_NoneType_list | exact kb_NoneType_tuple | exact kb_NoneType_dict)
local macro_rules | `(tactic| walk_at "hn") => `(tactic| first
  | assumption
  | ((with_reducible refine' Ex.nn ?hne ?hnh); (case hnh => assumption); (case hne => walk_at "ex"))
  | ((with_reducible refine' Kp.nn ?hnk ?hnb ?hnh); (case hnh => assumption); (case hnk => assumption); (case hnb => assumption))
  | ((with_reducible refine del_none ?_); walk_at "hn")
  | ((with_reducible refine' Eq.trans (upd_ne ?hnq) ?_); (case hnq => walk_at "ne"); walk_at "hn"))
local macro_rules | `(tactic| walk_at "ne") => `(tactic| first
  | assumption
  | exact Ne.symm (by assumption)
  | exact Bag.ne (by assumption) (by assumption)
  | exact Ne.symm (Bag.ne (by assumption) (by assumption))
  | exact ne_of_none (by assumption) (by assumption)
  | exact Ne.symm (ne_of_none (by assumption) (by assumption)))
local macro_rules | `(tactic| walk_at "ex") => `(tactic| first
  | assumption
  | with_reducible exact Ex.refl _
  | ((with_reducible refine' Ex.mut ?exm ?exn); (case exn => walk_at "hn"); (case exm => walk_at "ex"))
  | ((with_reducible refine' Ex.trans ?exa ?exb); (case exb => assumption); (case exa => walk_at "ex"))
  | ((with_reducible refine' Ex.trans ?exa (Ex.new ?exn)); (case exn => walk_at "hn"); (case exa => walk_at "ex")))
local macro_rules | `(tactic| walk_at "hp") => `(tactic| first
  | assumption
  | with_reducible exact upd_same
  | ((with_reducible refine' up_new ?hpn ?hpr); (case hpn => walk_at "hn"); (case hpr => walk_at "hp"))
  | ((with_reducible refine' up_ne ?hpn ?hpr); (case hpr => walk_at "hp"); (case hpn => walk_at "ne"))
  | ((with_reducible refine' hp_kp ?hph ?hpk); (case hph => assumption); (case hpk => assumption))
  | ((with_reducible refine' hp_del ?hph); (case hph => assumption))
  | ((with_reducible refine' hp_ex ?hph ?hpe); (case hph => assumption); (case hpe => walk_at "ex")))
local macro_rules | `(tactic| walk_at "sq") => `(tactic| first
  | assumption
  | ((with_reducible refine' SqL.of ?sof); (case sof => walk_at "hp"))
  | ((with_reducible refine' SqT.of ?sof); (case sof => walk_at "hp"))
  | ((with_reducible refine' sl_new ?hpn ?hpr); (case hpn => walk_at "hn"); (case hpr => walk_at "sq"))
  | ((with_reducible refine' st_new ?hpn ?hpr); (case hpn => walk_at "hn"); (case hpr => walk_at "sq"))
  | ((with_reducible refine' sl_kp ?hph ?hpk); (case hph => assumption); (case hpk => assumption))
  | ((with_reducible refine' st_kp ?hph ?hpk); (case hph => assumption); (case hpk => assumption))
  | ((with_reducible refine' sl_del ?hph); (case hph => assumption))
  | ((with_reducible refine' st_del ?hph); (case hph => assumption))
  | ((with_reducible refine' sl_ex ?hph ?hpe); (case hph => assumption); (case hpe => walk_at "ex"))
  | ((with_reducible refine' st_ex ?hph ?hpe); (case hph => assumption); (case hpe => walk_at "ex")))
local macro_rules | `(tactic| walk_at "ty") => `(tactic| first
  | exact TyX.base (.str _)
  | exact TyX.base (.int _)
  | exact TyX.base (.bl _)
  | exact TyX.base .non
  | exact ty_L (by walk_at "sq")
  | exact ty_T (by walk_at "sq"))
local macro_rules | `(tactic| walk_at "sz") => `(tactic| first | omega | exact sz_le (by omega) | exact sz_lt (by omega) | (refine sz_le ?_; simp; omega) | (refine sz_lt ?_; simp; omega) | (refine sz_le ?_; simp))
local macro_rules | `(tactic| walk_at "side") => `(tactic| first | assumption | omega | (refine ⟨?_, ?_⟩ <;> omega) | (exact .inl ⟨by omega, by omega⟩) | (exact .inr ⟨by omega, by omega⟩) | (exact ⟨by decide, by decide, by decide⟩) | rfl)
local macro_rules | `(tactic| walk_at "g1") => `(tactic| first
  | with_reducible first
    | refine g_seq ?_ | refine g_asg ?_ | refine g_name ?_ | refine g_op ?_ | refine g_c ?_ | refine g_cons ?_ | refine g_nil ?_ | refine g_cb ?_ | refine g_call ?_ | refine g_ret ?_ | refine g_drop ?_ | refine g_next ?_
    | refine g_ifS ?_ | refine g_if ?_ | refine g_test ?_ | refine g_tB ?_ | refine g_bl ?_ | refine g_and ?_ | refine g_or ?_ | refine g_not ?_ | refine g_andV ?_ | refine g_orV ?_ | refine g_notV ?_
    | refine g_un ?_ | refine g_neg ?_ | refine g_rI0 ?_ | refine g_int1 ?_ | refine g_abs ?_ | refine g_mx2 ?_ | refine g_mn2 ?_ | refine g_par ?_ | refine g_par2 ?_ | refine g_chain ?_
    | refine g_for ?_ | refine g_lc ?_ | refine g_dc ?_ | refine g_iList ?_ | refine g_iTup ?_ | refine g_iStr ?_ | refine g_iRng1 ?_ | refine g_iEnum ?_ | refine g_itS ?_ | refine g_gcons ?_ | refine g_gnil ?_
    | refine g_dget ?_ | refine g_dput ?_ | refine g_dnew ?_ | refine g_inSg ?_ | refine g_notNn ?_ | refine g_isNn ?_ | refine g_sl ?_ | refine g_nopart ?_ | refine g_part ?_ | refine g_parti ?_ | refine g_meth ?_ | refine g_make ?_ | refine g_fldE ?_ | refine g_sfld ?_
    | refine g_sub ?_ | refine g_lst ?_ | refine g_tup ?_ | refine g_bm ?_ | refine g_bm0 ?_ | refine g_tyS ?_ | refine g_yes ?_ | refine iteT ?_ | refine iteF ?_ | refine iteNT ?_ | refine iteNF ?_
  | ((with_reducible refine' g_var ?ev ?_); (case ev => rfl))
  | ((with_reducible refine' g_rI ?ec ?_); (case ec => walk_at "side"))
  | ((with_reducible refine' g_ixL ?es ?ea ?_); (case es => walk_at "sq"); (case ea => first | rfl | assumption))
  | ((with_reducible refine' g_ixT ?es ?ea ?_); (case es => walk_at "sq"); (case ea => first | rfl | assumption))
  | ((with_reducible refine' g_lenL ?es ?_); (case es => walk_at "sq"))
  | ((with_reducible refine' g_lenT ?es ?_); (case es => walk_at "sq"))
  | ((with_reducible refine' g_lenS ?es ?_); (case es => walk_at "sz"))
  | ((with_reducible refine' g_lenD ?es ?_); (case es => walk_at "hp"))
  | ((with_reducible refine' g_listL ?es ?_); (case es => walk_at "sq"))
  | ((with_reducible refine' g_listT ?es ?_); (case es => walk_at "sq"))
  | ((with_reducible refine' g_tupL ?es ?_); (case es => walk_at "sq"))
  | ((with_reducible refine' g_tyL ?es ?_); (case es => walk_at "sq"))
  | ((with_reducible refine g_eqS ?es ?_); (case es => rfl))
  | ((with_reducible refine g_neS ?es ?_); (case es => rfl))
  | ((with_reducible refine' g_inDcS ?es ?_); (case es => walk_at "hp"))
  | ((with_reducible refine' g_notInDcS ?es ?_); (case es => walk_at "hp"))
  | ((with_reducible refine' g_dgetS ?es ?ev ?_); (case es => walk_at "hp"); (case ev => first | assumption | walk_at "dv"))
  | ((with_reducible refine' g_dputS ?es ?el ?_); (case es => walk_at "hp"); (case el => walk_at "sz"))
  | ((with_reducible refine' g_fldI ?es ?ec ?en ?el ?_); (case es => walk_at "hp"); (case ec => assumption); (case en => assumption); (case el => first | assumption | walk_at "fl"))
  | ((with_reducible refine' g_methI ?es ?em ?_); (case es => walk_at "hp"); (case em => first | assumption | walk_at "fl"))
  | ((with_reducible refine' g_sfldI ?es ?ec ?en ?el ?_); (case es => walk_at "hp"); (case ec => assumption); (case en => assumption); (case el => first | assumption | walk_at "fl"))
  | ((with_reducible refine' g_isi ?et ?ek ?_); (case et => walk_at "ty"); (case ek => walk_at "kb"))
  | ((with_reducible refine g_addT ?el ?_); (case el => walk_at "sz"))
  | ((with_reducible refine' g_cat ?e1 ?e2 ?el ?_); (case e1 => walk_at "hp"); (case e2 => walk_at "hp"); (case el => walk_at "sz"))
  | ((with_reducible refine' g_slL ?es ?_); (case es => walk_at "sq"))
  | ((with_reducible refine g_slS ?el ?_); (case el => walk_at "sz"))
  | ((with_reducible refine' g_itL ?es ?_); (case es => walk_at "sq"))
  | ((with_reducible refine' g_itT ?es ?_); (case es => walk_at "sq"))
  | ((with_reducible refine' g_itE ?es ?_); (case es => walk_at "sq"))
  | ((with_reducible refine' g_itR ?es ?_); (case es => (constructor <;> omega)))
  | ((with_reducible refine' g_gtup ?es ?en ?_); (case es => walk_at "sq"); (case en => first | rfl | assumption))
  | ((with_reducible refine' g_setL ?es ?ej ?_); (case es => walk_at "hp"); (case ej => first | rfl | assumption))
  | ((with_reducible refine' g_app ?es ?el ?_); (case es => walk_at "hp"); (case el => walk_at "sz")))
local macro_rules | `(tactic| walk_at "go") => `(tactic| repeat (walk_at "g1"))
local macro_rules | `(tactic| walk_at "fl") => `(tactic| first | exact rfs_weirs _ _ _ | exact rfs_lower _ _ _ | exact rfs_courses _ _ _ | exact rfs_need _ _ _ | exact rfs_rows _ _ _ | exact rfs_below _ _ _ | exact rfs_above _ _ _ | exact rfs_course _ _ _ | exact rfs_depth _ _ _ | exact rfs_upstream _ _ _ | (simp only [List.length]; decide))
abbrev N_River__init_ : List Str := ["self", "rows", "place", "weir", "below"]
def t_River__init_ (K : PySem.W.Frag) : TS :=
  (tSeq (tAsg (tCall (sp_river_fault K) [] E0 (tCons (tVar 1) tNil)) (gName 2))
  (tSeq (tIfS (tTest (tOp rNotNn (tVar 2) (tC .non))) tNever tNext)
  (tSeq (sFld K (tVar 0) (tCB (rTupOf K) (tCons (tLc (iList K (tVar 1)) (gTup K 2 (gCons (gName 3) (gCons (gName 4) gNil))) tYes (tVar 3) [3, 4]) tNil)) "weirs")
  (tSeq (sFld K (tVar 0) (tDc (iList K (tVar 1)) (gTup K 2 (gCons (gName 3) (gCons (gName 4) gNil))) tYes (tVar 3) (tVar 4) [3, 4]) "lower")
  (sFld K (tVar 0) (tDc (iTup K (tFld K (tVar 0) "weirs")) (gName 3) tYes (tVar 3) (tCall (sp_course_of K) [] E0 (tCons (tVar 3) (tCons (tFld K (tVar 0) "lower") tNil))) [3]) "courses")))))
def sp_River__init_ (K : PySem.W.Frag) : Sp := fun vs H Q _ => ∃ (p dx a : Addr) (rows : Rows), vs = [.ref p, .ref a] ∧ H p = some (.ins (He.ga K "River") dx []) ∧ Dp K (del H p) (.ref a) (rowsD rows) ∧ Good rows ∧
  ∀ H', Ex (del H p) H' → RiverAt K H' p rows → Q .non H'
theorem len_River__init_ {K : PySem.W.Frag} {vs : List V} {H : Hp} {Q : VK} {E : XK} (h : sp_River__init_ K vs H Q E) : vs.length = 2 := by obtain ⟨_, _, _, _, rfl, _⟩ := h; rfl
theorem pure_River__init_ {K : PySem.W.Frag} (G : GRiver K) (vs : List V) (H : Hp) (Q : VK) (E : XK) (h : sp_River__init_ K vs H Q E) : t_River__init_ K { nx := fun _ H' => Q .non H', rt := Q } (start N_River__init_ vs) H := by
  obtain ⟨p, dx, a, rows, rfl, hp, hD, g, k⟩ := h
  obtain ⟨rs, hs, hl, hat⟩ := rows_at hD
  have h40 := g.le
  have gcl := G.cl
  have gnw := G.nw
  have gnl := G.nl
  have gnc := G.nc
  have np : del H p p = none := del_same
  unfold t_River__init_
  walk_at "go"
  refine ⟨a, rows, rfl, Dp.mono (ex_del H p) hD, g, fun H1 e1 => ?_⟩
  have f1 : Ex (del H p) H1 := (ex_del H p).trans e1
  have hp1 := e1 _ _ hp
  walk_at "go"
  refine iteF ?_
  walk_at "go"
  refine lc_L (xs := rs) (fun C i acc H' => H1 C = none ∧ Ex H1 H' ∧ acc = strsV ((wrs rows).take i)) (fun C hC => ⟨hC, Ex.new hC, by simp [strsV]⟩) (fun C i acc H' ⟨_, e, _⟩ => sl_ex hs (f1.trans e)) ?_ ?_
  · rintro C i acc H2 x hx hA hlz ⟨hC, hE, e⟩
    obtain ⟨t, r, rfl, hr, ht⟩ := hat i x hx
    have hi : i < rows.length := (List.getElem?_eq_some_iff.mp hr).1
    have ht2 := st_ex ht (f1.trans hE)
    walk_at "go"
    refine ⟨rfl, ?_⟩
    walk_at "go"
    refine lc_add hA hlz (by omega) ⟨hC, Ex.mut hE hC, ?_⟩
    rw [e, List.take_add_one, show (wrs rows)[i]? = some r.1 by simp [wrs, hr]]
    simp [strsV]
  · rintro C acc H2 hC hA hlz ⟨_, hE, e⟩
    have e' : acc = strsV (wrs rows) := by rw [e, List.take_of_length_le (by simp [wrs, hl])]
    subst e'
    have hp2 := hE _ _ hp1
    have f2 := f1.trans hE
    walk_at "go"
    intro tw htw
    have hp3 : upd H2 tw (.tup (strsV (wrs rows))) p = some (.ins (He.ga K "River") dx []) := up_new htw hp2
    have ptw : tw ≠ p := Ne.symm (ne_of_none hp2 htw)
    walk_at "go"
    rw [put1]
    generalize hH3 : upd (upd H2 tw (.tup (strsV (wrs rows)))) p (.ins (He.ga K "River") dx [("weirs", .ref tw)]) = H3
    have q1 : H3 p = some (.ins (He.ga K "River") dx [("weirs", .ref tw)]) := by rw [← hH3]; exact upd_same
    have q2 : H3 tw = some (.tup (strsV (wrs rows))) := by rw [← hH3, upd_ne ptw]; exact upd_same
    have f3 : Ex (del H p) H3 := by rw [← hH3]; exact Ex.mut (f2.trans (Ex.new htw)) np
    walk_at "go"
    refine dc_L (xs := rs) (fun C i acc H' => H3 C = none ∧ Ex H3 H' ∧ acc = rowsK (rows.take i)) (fun C hC => ⟨hC, Ex.new hC, by simp [rowsK]⟩) (fun C i acc H' ⟨_, e, _⟩ => sl_ex hs (f3.trans e)) ?_ ?_
    · rintro C i acc H4 x hx hA hlz ⟨hC, hE, rfl⟩
      obtain ⟨t, r, rfl, hr, ht⟩ := hat i x hx
      have hi : i < rows.length := (List.getElem?_eq_some_iff.mp hr).1
      have ht2 := st_ex ht (f3.trans hE)
      obtain ⟨v1, v2⟩ := rowsK_take g.nd hr
      walk_at "go"
      refine ⟨rfl, ?_⟩
      walk_at "go"
      exact dc_add (k := Sum.inr r.1) hA hlz (by omega) ⟨hC, Ex.mut hE hC, v2⟩
    · rintro dl acc H4 hdl hA hlz ⟨_, hE, e⟩
      rw [hl, List.take_length] at e
      subst e
      have q3 := hE _ _ q1
      have q4 := hE _ _ q2
      have pdl : dl ≠ p := Ne.symm (ne_of_none q1 hdl)
      have f4 := f3.trans hE
      walk_at "go"
      rw [put2]
      generalize hH5 : upd H4 p (.ins (He.ga K "River") dx [("weirs", .ref tw), ("lower", .ref dl)]) = H5
      have r1 : H5 p = some (.ins (He.ga K "River") dx [("weirs", .ref tw), ("lower", .ref dl)]) := by rw [← hH5]; exact upd_same
      have r2 : H5 tw = some (.tup (strsV (wrs rows))) := by rw [← hH5, upd_ne ptw]; exact q4
      have r3 : H5 dl = some (.dK (rowsK rows)) := by rw [← hH5, upd_ne pdl]; exact hA
      have f5 : Ex (del H p) H5 := by rw [← hH5]; exact Ex.mut f4 np
      have lk1 : List.lookup ("weirs" : Str) [(("weirs" : Str), V.ref tw), ("lower", .ref dl)] = some (.ref tw) := by rw [lk_cons, if_pos rfl]
      have lk2 : List.lookup ("lower" : Str) [(("weirs" : Str), V.ref tw), ("lower", .ref dl)] = some (.ref dl) := by rw [lk_cons, if_neg sne1, lk_cons, if_pos rfl]
      walk_at "go"
      refine dc_T (xs := strsV (wrs rows)) (fun C i acc H' => H5 C = none ∧ Ex H5 H' ∧ ∀ w ∈ (wrs rows).take i, ∃ t, valV acc (Sum.inr w : Key) = some (.ref t) ∧ H' t = some (.tup (strsV (crs rows rows.length w)))) (fun C hC => ⟨hC, Ex.new hC, fun w hw => by simp at hw⟩) (fun C i acc H' ⟨_, e, _⟩ => SqT.of (e _ _ r2)) ?_ ?_
      · rintro C i acc H6 x hx hA6 hlz ⟨hC, hE6, hW⟩
        rw [strsV, List.getElem?_map] at hx
        cases hwi : (wrs rows)[i]? with
        | none => rw [hwi] at hx; cases hx
        | some w =>
          rw [hwi] at hx
          cases hx
          have hwm : w ∈ wrs rows := List.mem_of_getElem? hwi
          have hi : i < (wrs rows).length := (List.getElem?_eq_some_iff.mp hwi).1
          have hwl : (wrs rows).length = rows.length := by simp [wrs]
          have r16 := hE6 _ _ r1
          have r36 := hE6 _ _ r3
          walk_at "go"
          refine ⟨rfl, ?_⟩
          walk_at "go"
          refine ⟨w, dl, rows, rfl, r36, g, hwm, fun q H7 hq e7 hq7 => ?_⟩
          have hC7 := e7 _ _ hA6
          have qC : q ≠ C := ne_of hq7 hC7 (by intro z; cases z)
          refine dc_add (k := Sum.inr w) hC7 hlz (by omega) ⟨hC, Ex.mut (hE6.trans e7) hC, fun u hu => ?_⟩
          rw [valV_put]
          by_cases huw : u = w
          · subst huw
            exact ⟨q, by rw [if_pos rfl], by rw [upd_ne qC]; exact hq7⟩
          · rw [List.take_add_one, hwi] at hu
            have hu' : u ∈ (wrs rows).take i := by
              rcases List.mem_append.mp hu with h | h
              · exact h
              · simp at h; exact absurd h huw
            obtain ⟨t, a1, a2⟩ := hW u hu'
            have tC : t ≠ C := ne_of a2 hA6 (by intro z; cases z)
            exact ⟨t, by rw [if_neg (fun e => huw (Sum.inr.inj e))]; exact a1, by rw [upd_ne tC]; exact e7 _ _ a2⟩
      · rintro dc acc H6 hdc hA6 hlz ⟨_, hE6, hW⟩
        have r16 := hE6 _ _ r1
        have r26 := hE6 _ _ r2
        have r36 := hE6 _ _ r3
        have pdc : dc ≠ p := Ne.symm (ne_of_none r1 hdc)
        walk_at "go"
        rw [put3]
        refine k _ (Ex.mut (f5.trans hE6) np) ⟨⟨dx, tw, dl, dc, acc, upd_same, by rw [upd_ne ptw]; exact r26, by rw [upd_ne pdl]; exact r36, by rw [upd_ne pdc]; exact hA6, fun w hw => ?_⟩, g⟩
        obtain ⟨t, a1, a2⟩ := hW w (by rw [List.take_of_length_le (by simp [strsV])]; exact hw)
        have tp : t ≠ p := ne_of a2 r16 (by intro z; cases z)
        exact ⟨t, a1, by rw [upd_ne tp]; exact a2⟩
end WK
namespace WK
open PySem L2
/-! ### own errors with one field -/
structure GExc (K : PySem.W.Frag) (x f : Str) : Prop where
  ox : OexC K (He.ga K x)
  no : PySem.W.findIn K (.ref (He.ga K x)) f = some none
structure XCal (P : Program) (w : World) (K : PySem.W.Frag) (mg : Str → Option Value) (base : Heap) (k : Nat) (x : Str) (ps : List Str) (sp : Sp) : Prop where
  fn : ∃ fd, FnOk P w K mg base (L2.CX P w) k (He.ma K (He.ga K x) "__init__") fd ps sp ∧ Binds K fd ps []
  ox : OexC K (He.ga K x)
  ic : PySem.W.findIn K (.ref (He.ga K x)) "__init__" = some (some (.ref (He.ma K (He.ga K x) "__init__")))
  ti : PySem.W.typeIn K (.ref (He.ma K (He.ga K x) "__init__")) = some (.type "function")
  gl : mg x = some (.ref (He.ga K x))
def tRaiseO (C : Addr) (sp : Sp) (ta : TA) (W : WX) : TS := fun _ σ H => tMkO C sp [] ta σ H fun cls d H' => W cls d σ H'
theorem ps_raiseO {X : Cx} {W : WX} {k : Nat} {x : Str} {ps : List Str} {sp : Sp} {p pos pos' : Pos} {e : Expr} {es : List Expr} {ta : TA} (hc : X.calm = true) (tk : Takes X W) (C : XCal X.prog X.w X.K X.mg X.base k x ps sp) (hr : Room (k + 1) X.A) (hg : Gl X x) (ha : PA X (e :: es) ta)
    (hdb : (x == ("__debug__" : Str)) = false := by decide) (he : starEach (e :: es) X.env = (false, eval e X.env) :: starEach es X.env := by rfl) (hpl : (backTo pos (starEach es X.env)).any (·.1) = false := by rfl) :
    PS X (.Raise (some (.Call (.Name x p) (e :: es) [] pos)) none pos') (tRaiseO (He.ga X.K x) sp ta W) := by
  obtain ⟨⟨fd, F, b⟩, ox, ic, ti, gl⟩ := C
  exact ps_raise hc tk (pmk_oex ox ic ti F hr b .nil passL hg gl ha hdb he hpl)
def sp_xinit (x f : Str) (K : PySem.W.Frag) : Sp := fun vs H Q _ => ∃ (a : Addr) (v : V), vs = [.ref a, v] ∧ H a = some (exo a (He.ga K x) none) ∧
  ∀ dx, H dx = none → dx ≠ a → Q .non (upd (upd H dx (exd dx [(f, v)])) a (exo a (He.ga K x) (some dx)))
theorem len_xinit {x f : Str} {K : PySem.W.Frag} {vs : List V} {H : Hp} {Q : VK} {E : XK} (h : sp_xinit x f K vs H Q E) : vs.length = 2 := by obtain ⟨_, _, rfl, _⟩ := h; rfl
def t_xinit (f : Str) (K : PySem.W.Frag) : TS := tOst K f (tVar 0) (tVar 1)
theorem pure_xinit {x f : Str} {K : PySem.W.Frag} (G : GExc K x f) {N : List Str} (hN : N.length = 2) (vs : List V) (H : Hp) (Q : VK) (E : XK) (h : sp_xinit x f K vs H Q E) : t_xinit f K { nx := fun _ H' => Q .non H', rt := Q } (L2.start N vs) H := by
  obtain ⟨a, v, rfl, ha, k⟩ := h
  have e : L2.start N [.ref a, v] = [some (.ref a), some v] := by unfold L2.start; rw [hN]; rfl
  rw [e]
  exact ⟨v, rfl, .ref a, rfl, a, _, rfl, G.ox, G.no, .inl ⟨ha, k⟩⟩
theorem raise_go {x f : Str} {K : PySem.W.Frag} {E : XK} {H : Hp} {v : V} (h : ∀ d H', H d = none → Ex H H' → H' d = some (.xd [(f, v)]) → E (.ref (He.ga K x)) (some d) H') :
    [v].length ≤ 1000 ∧ ∀ a, H a = none → sp_xinit x f K (.ref a :: ([v] ++ [])) (upd H a (exo a (He.ga K x) none))
      (fun u H2 => u = .non ∧ ∃ (d : Addr) (fs : List (Str × V)), H2 a = some (exo a (He.ga K x) (some d)) ∧ H2 d = some (exd d fs) ∧ H d = none ∧ E (.ref (He.ga K x)) (some d) (upd (del H2 a) d (.xd fs))) (fun _ _ _ => False) := by
  refine ⟨by simp, fun a ha => ⟨a, v, rfl, upd_same, fun dx hdx dxa => ⟨rfl, dx, [(f, v)], upd_same, by rw [upd_ne dxa, upd_same], ?_, ?_⟩⟩⟩
  · rw [upd_ne dxa] at hdx; exact hdx
  · have hd0 : H dx = none := by rw [upd_ne dxa] at hdx; exact hdx
    refine h dx _ hd0 (fun b o e => ?_) upd_same
    have bd : b ≠ dx := ne_of_none e hd0
    have ba : b ≠ a := ne_of_none e ha
    rw [upd_ne bd, del_ne ba, upd_ne ba, upd_ne bd, upd_ne ba]
    exact e
/-! ### data: texts -/
theorem dpAll_strs {K : PySem.W.Frag} {H : Hp} : ∀ ws : List Str, DpAll K H (strsV ws) (ws.map PyData.str)
  | [] => .nil
  | w :: ws => .cons (.str w) (dpAll_strs ws)
theorem dp_strsT {K : PySem.W.Frag} {H : Hp} {a : Addr} {ws : List Str} (h : SqT K H a (strsV ws)) : Dp K H (.ref a) (.tuple (ws.map .str)) := .tup h (dpAll_strs ws)
theorem dp_strsL {K : PySem.W.Frag} {H : Hp} {a : Addr} {ws : List Str} (h : SqL K H a (strsV ws)) : Dp K H (.ref a) (.list (ws.map .str)) := .lst h (dpAll_strs ws)
theorem LET_ok : LET.cps.toList.all (fun c => decide (c < 0x110000)) = true := by decide +kernel
theorem isName_ok {z : Str} (h : isName z = true) : PyData.strOk z = true := by
  unfold isName at h
  simp only [Bool.and_eq_true, List.all_eq_true, decide_eq_true_eq] at h
  have hL := LET_ok
  rw [List.all_eq_true] at hL
  unfold PyData.strOk
  rw [Array.all_eq_true']
  intro c hc
  exact hL c (h.2 c (by simpa using hc))
theorem can_str {z : Str} (h : PyData.strOk z = true) : PyData.canLay0 (.str z) = true := by unfold PyData.canLay0; exact h
theorem can_strs : ∀ {ws : List Str}, (∀ w ∈ ws, PyData.strOk w = true) → PyData.canLayAll0 (ws.map PyData.str) = true
  | [], _ => by simp [PyData.canLayAll0]
  | w :: ws, h => by
    rw [List.map_cons, PyData.canLayAll0, can_str (h w (List.mem_cons_self ..)), can_strs fun u hu => h u (List.mem_cons_of_mem _ hu)]
    rfl
theorem shaped_str {z : Str} (h : PyData.strOk z = true) : SeqAt.shaped (.str z) = true := by
  unfold SeqAt.shaped
  rw [can_str h]
  simp [PyData.depth]
theorem depth_strs : ∀ ws : List Str, PyData.depthAll (ws.map PyData.str) = 0
  | [] => by simp [PyData.depthAll]
  | w :: ws => by rw [List.map_cons, PyData.depthAll, depth_strs ws]; simp [PyData.depth]
theorem shaped_list {ds : List PyData} (h1 : PyData.canLayAll0 ds = true) (h2 : PyData.depthAll ds ≤ 60) : SeqAt.shaped (.list ds) = true := by
  unfold SeqAt.shaped
  rw [PyData.canLay0, h1, PyData.depth]
  simp; omega
theorem shaped_tuple {ds : List PyData} (h1 : PyData.canLayAll0 ds = true) (h2 : PyData.depthAll ds ≤ 60) : SeqAt.shaped (.tuple ds) = true := by
  unfold SeqAt.shaped
  rw [PyData.canLay0, h1, PyData.depth]
  simp; omega
theorem Good.okw {rows : Rows} (g : Good rows) : ∀ w ∈ wrs rows, PyData.strOk w = true := fun w hw => by
  obtain ⟨r, hr, rfl⟩ := List.mem_map.mp hw
  exact isName_ok (g.nm r hr).1
/-- the value is one of the weirs -/
def isW (rows : Rows) (d : PyData) : Bool := (wrs rows).any fun w => PyData.eqv (.str w) d
theorem eqv_str {w : Str} {d : PyData} (h : PyData.eqv (.str w) d = true) : d = .str w := by
  cases d <;> simp [PyData.eqv] at h
  rw [h]
theorem eqv_strs (a b : Str) : PyData.eqv (.str a) (.str b) = decide (a = b) := by
  simp only [PyData.eqv]
  by_cases h : a = b
  · subst h; simp
  · rw [decide_eq_false h]; exact beq_eq_false_iff_ne.mpr h
theorem isW_yes {rows : Rows} {d : PyData} (h : isW rows d = true) : ∃ w, d = .str w ∧ w ∈ wrs rows := by
  unfold isW at h
  rw [List.any_eq_true] at h
  obtain ⟨w, hw, e⟩ := h
  exact ⟨w, eqv_str e, hw⟩
theorem isW_of {rows : Rows} {w : Str} (h : w ∈ wrs rows) : isW rows (.str w) = true := by
  unfold isW
  rw [List.any_eq_true]
  exact ⟨w, h, by rw [eqv_strs]; simp⟩
theorem dp_isStr {K : PySem.W.Frag} {H : Hp} {v : V} {w : Str} (h : Dp K H v (.str w)) : v = .str w := by cases h; rfl
local macro_rules | `(tactic| walk_at "kb") => `(tactic| first | exact kb_str_str | exact kb_str_int | exact kb_str_bool | exact kb_str_list | exact kb_str_tuple | exact kb_str_dict | exact kb_int_str | exact kb_int_int | exact kb_int_bool | exact kb_int_list | exact kb_int_tuple | exact kb_int_dict | exact kb_bool_str | exact kb_bool_int | exact kb_bool_bool | exact kb_bool_list | exact kb_bool_tuple | exact kb_bool_dict | exact kb_list_str | exact kb_list_int | exact kb_list_bool | exact kb_list_list | exact kb_list_tuple | exact kb_list_dict | exact kb_tuple_str | exact kb_tuple_int | exact kb_tuple_bool | exact kb_tuple_list | exact kb_tuple_tuple | exact kb_tuple_dict | exact kb_dict_str | exact kb_dict_int | exact kb_dict_bool | exact kb_dict_list | exact kb_dict_tuple | exact kb_dict_dict | exact kb_NoneType_str | exact kb_NoneType_int | exact kb_NoneType_bool | exact kb_NoneType_list | exact kb_NoneType_tuple | exact kb_NoneType_dict)
local macro_rules | `(tactic| walk_at "hn") => `(tactic| first
  | assumption
  | ((with_reducible refine' Ex.nn ?hne ?hnh); (case hnh => assumption); (case hne => walk_at "ex"))
  | ((with_reducible refine' Kp.nn ?hnk ?hnb ?hnh); (case hnh => assumption); (case hnk => assumption); (case hnb => assumption))
  | ((with_reducible refine del_none ?_); walk_at "hn")
  | ((with_reducible refine' Eq.trans (upd_ne ?hnq) ?_); (case hnq => walk_at "ne"); walk_at "hn"))
local macro_rules | `(tactic| walk_at "ne") => `(tactic| first
  | assumption
  | exact Ne.symm (by assumption)
  | exact Bag.ne (by assumption) (by assumption)
  | exact Ne.symm (Bag.ne (by assumption) (by assumption))
  | exact ne_of_none (by assumption) (by assumption)
  | exact Ne.symm (ne_of_none (by assumption) (by assumption)))
local macro_rules | `(tactic| walk_at "ex") => `(tactic| first
  | assumption
  | with_reducible exact Ex.refl _
  | ((with_reducible refine' Ex.mut ?exm ?exn); (case exn => walk_at "hn"); (case exm => walk_at "ex"))
  | ((with_reducible refine' Ex.trans ?exa ?exb); (case exb => assumption); (case exa => walk_at "ex"))
  | ((with_reducible refine' Ex.trans ?exa (Ex.new ?exn)); (case exn => walk_at "hn"); (case exa => walk_at "ex")))
local macro_rules | `(tactic| walk_at "hp") => `(tactic| first
  | assumption
  | with_reducible exact upd_same
  | ((with_reducible refine' up_new ?hpn ?hpr); (case hpn => walk_at "hn"); (case hpr => walk_at "hp"))
  | ((with_reducible refine' up_ne ?hpn ?hpr); (case hpr => walk_at "hp"); (case hpn => walk_at "ne"))
  | ((with_reducible refine' hp_kp ?hph ?hpk); (case hph => assumption); (case hpk => assumption))
  | ((with_reducible refine' hp_del ?hph); (case hph => assumption))
  | ((with_reducible refine' hp_ex ?hph ?hpe); (case hph => assumption); (case hpe => walk_at "ex")))
local macro_rules | `(tactic| walk_at "sq") => `(tactic| first
  | assumption
  | ((with_reducible refine' SqL.of ?sof); (case sof => walk_at "hp"))
  | ((with_reducible refine' SqT.of ?sof); (case sof => walk_at "hp"))
  | ((with_reducible refine' sl_new ?hpn ?hpr); (case hpn => walk_at "hn"); (case hpr => walk_at "sq"))
  | ((with_reducible refine' st_new ?hpn ?hpr); (case hpn => walk_at "hn"); (case hpr => walk_at "sq"))
  | ((with_reducible refine' sl_kp ?hph ?hpk); (case hph => assumption); (case hpk => assumption))
  | ((with_reducible refine' st_kp ?hph ?hpk); (case hph => assumption); (case hpk => assumption))
  | ((with_reducible refine' sl_del ?hph); (case hph => assumption))
  | ((with_reducible refine' st_del ?hph); (case hph => assumption))
  | ((with_reducible refine' sl_ex ?hph ?hpe); (case hph => assumption); (case hpe => walk_at "ex"))
  | ((with_reducible refine' st_ex ?hph ?hpe); (case hph => assumption); (case hpe => walk_at "ex")))
local macro_rules | `(tactic| walk_at "ty") => `(tactic| first
  | exact TyX.base (.str _)
  | exact TyX.base (.int _)
  | exact TyX.base (.bl _)
  | exact TyX.base .non
  | exact ty_L (by walk_at "sq")
  | exact ty_T (by walk_at "sq"))
local macro_rules | `(tactic| walk_at "sz") => `(tactic| first | omega | exact sz_le (by omega) | exact sz_lt (by omega) | (refine sz_le ?_; simp; omega) | (refine sz_lt ?_; simp; omega) | (refine sz_le ?_; simp))
local macro_rules | `(tactic| walk_at "side") => `(tactic| first | assumption | omega | (refine ⟨?_, ?_⟩ <;> omega) | (exact .inl ⟨by omega, by omega⟩) | (exact .inr ⟨by omega, by omega⟩) | (exact ⟨by decide, by decide, by decide⟩) | rfl)
local macro_rules | `(tactic| walk_at "g1") => `(tactic| first
  | with_reducible first
    | refine g_seq ?_ | refine g_asg ?_ | refine g_name ?_ | refine g_op ?_ | refine g_c ?_ | refine g_cons ?_ | refine g_nil ?_ | refine g_cb ?_ | refine g_call ?_ | refine g_ret ?_ | refine g_drop ?_ | refine g_next ?_
    | refine g_ifS ?_ | refine g_if ?_ | refine g_test ?_ | refine g_tB ?_ | refine g_bl ?_ | refine g_and ?_ | refine g_or ?_ | refine g_not ?_ | refine g_andV ?_ | refine g_orV ?_ | refine g_notV ?_
    | refine g_un ?_ | refine g_neg ?_ | refine g_rI0 ?_ | refine g_int1 ?_ | refine g_abs ?_ | refine g_mx2 ?_ | refine g_mn2 ?_ | refine g_par ?_ | refine g_par2 ?_ | refine g_chain ?_
    | refine g_for ?_ | refine g_lc ?_ | refine g_dc ?_ | refine g_iList ?_ | refine g_iTup ?_ | refine g_iStr ?_ | refine g_iRng1 ?_ | refine g_iEnum ?_ | refine g_itS ?_ | refine g_gcons ?_ | refine g_gnil ?_
    | refine g_dget ?_ | refine g_dput ?_ | refine g_dnew ?_ | refine g_inSg ?_ | refine g_notNn ?_ | refine g_isNn ?_ | refine g_sl ?_ | refine g_nopart ?_ | refine g_part ?_ | refine g_parti ?_ | refine g_meth ?_ | refine g_make ?_ | refine g_fldE ?_ | refine g_sfld ?_
    | refine g_sub ?_ | refine g_lst ?_ | refine g_tup ?_ | refine g_bm ?_ | refine g_bm0 ?_ | refine g_tyS ?_ | refine g_yes ?_ | refine iteT ?_ | refine iteF ?_ | refine iteNT ?_ | refine iteNF ?_
  | ((with_reducible refine' g_var ?ev ?_); (case ev => rfl))
  | ((with_reducible refine' g_rI ?ec ?_); (case ec => walk_at "side"))
  | ((with_reducible refine' g_ixL ?es ?ea ?_); (case es => walk_at "sq"); (case ea => first | rfl | assumption))
  | ((with_reducible refine' g_ixT ?es ?ea ?_); (case es => walk_at "sq"); (case ea => first | rfl | assumption))
  | ((with_reducible refine' g_lenL ?es ?_); (case es => walk_at "sq"))
  | ((with_reducible refine' g_lenT ?es ?_); (case es => walk_at "sq"))
  | ((with_reducible refine' g_lenS ?es ?_); (case es => walk_at "sz"))
  | ((with_reducible refine' g_lenD ?es ?_); (case es => walk_at "hp"))
  | ((with_reducible refine' g_listL ?es ?_); (case es => walk_at "sq"))
  | ((with_reducible refine' g_listT ?es ?_); (case es => walk_at "sq"))
  | ((with_reducible refine' g_tupL ?es ?_); (case es => walk_at "sq"))
  | ((with_reducible refine' g_tyL ?es ?_); (case es => walk_at "sq"))
  | ((with_reducible refine g_eqS ?es ?_); (case es => rfl))
  | ((with_reducible refine g_neS ?es ?_); (case es => rfl))
  | ((with_reducible refine' g_inDcS ?es ?_); (case es => walk_at "hp"))
  | ((with_reducible refine' g_notInDcS ?es ?_); (case es => walk_at "hp"))
  | ((with_reducible refine' g_dgetS ?es ?ev ?_); (case es => walk_at "hp"); (case ev => first | assumption | walk_at "dv"))
  | ((with_reducible refine' g_dputS ?es ?el ?_); (case es => walk_at "hp"); (case el => walk_at "sz"))
  | ((with_reducible refine' g_fldI ?es ?ec ?en ?el ?_); (case es => walk_at "hp"); (case ec => assumption); (case en => assumption); (case el => first | assumption | walk_at "fl"))
  | ((with_reducible refine' g_methI ?es ?em ?_); (case es => walk_at "hp"); (case em => first | assumption | walk_at "fl"))
  | ((with_reducible refine' g_sfldI ?es ?ec ?en ?el ?_); (case es => walk_at "hp"); (case ec => assumption); (case en => assumption); (case el => first | assumption | walk_at "fl"))
  | ((with_reducible refine' g_isi ?et ?ek ?_); (case et => walk_at "ty"); (case ek => walk_at "kb"))
  | ((with_reducible refine g_addT ?el ?_); (case el => walk_at "sz"))
  | ((with_reducible refine' g_cat ?e1 ?e2 ?el ?_); (case e1 => walk_at "hp"); (case e2 => walk_at "hp"); (case el => walk_at "sz"))
  | ((with_reducible refine' g_slL ?es ?_); (case es => walk_at "sq"))
  | ((with_reducible refine g_slS ?el ?_); (case el => walk_at "sz"))
  | ((with_reducible refine' g_itL ?es ?_); (case es => walk_at "sq"))
  | ((with_reducible refine' g_itT ?es ?_); (case es => walk_at "sq"))
  | ((with_reducible refine' g_itE ?es ?_); (case es => walk_at "sq"))
  | ((with_reducible refine' g_itR ?es ?_); (case es => (constructor <;> omega)))
  | ((with_reducible refine' g_gtup ?es ?en ?_); (case es => walk_at "sq"); (case en => first | rfl | assumption))
  | ((with_reducible refine' g_setL ?es ?ej ?_); (case es => walk_at "hp"); (case ej => first | rfl | assumption))
  | ((with_reducible refine' g_app ?es ?el ?_); (case es => walk_at "hp"); (case el => walk_at "sz")))
local macro_rules | `(tactic| walk_at "go") => `(tactic| repeat (walk_at "g1"))
local macro_rules | `(tactic| walk_at "fl") => `(tactic| first | exact rfs_weirs _ _ _ | exact rfs_lower _ _ _ | exact rfs_courses _ _ _ | exact rfs_need _ _ _ | exact rfs_rows _ _ _ | exact rfs_below _ _ _ | exact rfs_above _ _ _ | exact rfs_course _ _ _ | exact rfs_depth _ _ _ | exact rfs_upstream _ _ _ | (simp only [List.length]; decide))
/-- what is wished of NoWeir with the value v -/
def XNoWeir (K : PySem.W.Frag) (H : Hp) (v : V) (E : XK) : Prop := ∀ H' dd, Ex H H' → H dd = none → H' dd = some (.xd [("name", v)]) → E (.ref (He.ga K "NoWeir")) (some dd) H'
theorem XNoWeir.mono {K : PySem.W.Frag} {H H1 : Hp} {v : V} {E : XK} (h : XNoWeir K H v E) (e : Ex H H1) : XNoWeir K H1 v E := fun H' dd e' n q => h H' dd (e.trans e') (e.nn n) q
abbrev sp_NoWeir__init_ := sp_xinit "NoWeir" "name"
abbrev N_River_need : List Str := ["self", "weir"]
def t_River_need (K : PySem.W.Frag) (E : XK) : TS :=
  (tIfS (tTest (tOp (rNotInU K) (tVar 1) (tFld K (tVar 0) "weirs"))) (tRaiseO (He.ga K "NoWeir") (sp_NoWeir__init_ K) (tCons (tVar 1) tNil) (fun cls d _ H => E cls d H)) tNext)
def sp_River_need (K : PySem.W.Frag) : Sp := fun vs H Q E => ∃ (p : Addr) (rows : Rows) (v : V) (d : PyData), vs = [.ref p, v] ∧ RiverAt K H p rows ∧ Dp K H v d ∧ SeqAt.shaped d = true ∧
  (isW rows d = true → ∀ H', Ex H H' → Q .non H') ∧ (isW rows d = false → XNoWeir K H v E)
theorem len_River_need {K : PySem.W.Frag} {vs : List V} {H : Hp} {Q : VK} {E : XK} (h : sp_River_need K vs H Q E) : vs.length = 2 := by obtain ⟨_, _, _, _, rfl, _⟩ := h; rfl
theorem pure_River_need {K : PySem.W.Frag} (G : GRiver K) (vs : List V) (H : Hp) (Q : VK) (E : XK) (h : sp_River_need K vs H Q E) : t_River_need K E { nx := fun _ H' => Q .non H', rt := Q } (start N_River_need vs) H := by
  obtain ⟨p, rows, v, d, rfl, ⟨⟨dx, tw, dl, dc, cs, h1, h2, h3, h4, h5⟩, g⟩, hd, sd, k1, k2⟩ := h
  have gcl := G.cl
  have gnw := G.nw
  unfold t_River_need
  walk_at "go"
  refine g_notInU hd (.inr (dp_strsT (SqT.of h2))) sd (can_strs g.okw) ?_
  have e : ((wrs rows).map PyData.str).any (fun z => PyData.eqv z d) = isW rows d := by unfold isW; rw [List.any_map]; rfl
  rw [e]
  walk_at "go"
  refine iteNB (fun hw => ?_) (fun hw => ?_)
  · show tMkO _ _ _ _ _ _ _
    unfold tMkO
    walk_at "go"
    exact raise_go fun dd H' n e q => k2 hw H' dd e n q
  · walk_at "go"
    exact k1 hw _ (Ex.refl _)
end WK
namespace WK
open PySem L2
local macro_rules | `(tactic| walk_at "kb") => `(tactic| first | exact kb_str_str | exact kb_str_int | exact kb_str_bool | exact kb_str_list | exact kb_str_tuple | exact kb_str_dict | exact kb_int_str | exact kb_int_int | exact kb_int_bool | exact kb_int_list | exact kb_int_tuple | exact kb_int_dict | exact kb_bool_str | exact kb_bool_int | exact kb_bool_bool | exact kb_bool_list | exact kb_bool_tuple | exact kb_bool_dict | exact kb_list_str | exact kb_list_int | exact kb_list_bool | exact kb_list_list | exact kb_list_tuple | exact kb_list_dict | exact kb_tuple_str | exact kb_tuple_int | exact kb_tuple_bool | exact kb_tuple_list | exact kb_tuple_tuple | exact kb_tuple_dict | exact kb_dict_str | exact kb_dict_int | exact kb_dict_bool | exact kb_dict_list | exact kb_dict_tuple | exact kb_dict_dict | exact kb_NoneType_str | exact kb_NoneType_int | exact kb_NoneType_bool | exact kb_NoneType_list | exact kb_NoneType_tuple | exact kb_NoneType_dict)
local macro_rules | `(tactic| walk_at "hn") => `(tactic| first
  | assumption
  | ((with_reducible refine' Ex.nn ?hne ?hnh); (case hnh => assumption); (case hne => walk_at "ex"))
  | ((with_reducible refine' Kp.nn ?hnk ?hnb ?hnh); (case hnh => assumption); (case hnk => assumption); (case hnb => assumption))
  | ((with_reducible refine del_none ?_); walk_at "hn")
  | ((with_reducible refine' Eq.trans (upd_ne ?hnq) ?_); (case hnq => walk_at "ne"); walk_at "hn"))
local macro_rules | `(tactic| walk_at "ne") => `(tactic| first
  | assumption
  | exact Ne.symm (by assumption)
  | exact Bag.ne (by assumption) (by assumption)
  | exact Ne.symm (Bag.ne (by assumption) (by assumption))
  | exact ne_of_none (by assumption) (by assumption)
  | exact Ne.symm (ne_of_none (by assumption) (by assumption)))
local macro_rules | `(tactic| walk_at "ex") => `(tactic| first
  | assumption
  | with_reducible exact Ex.refl _
  | ((with_reducible refine' Ex.mut ?exm ?exn); (case exn => walk_at "hn"); (case exm => walk_at "ex"))
  | ((with_reducible refine' Ex.trans ?exa ?exb); (case exb => assumption); (case exa => walk_at "ex"))
  | ((with_reducible refine' Ex.trans ?exa (Ex.new ?exn)); (case exn => walk_at "hn"); (case exa => walk_at "ex")))
local macro_rules | `(tactic| walk_at "hp") => `(tactic| first
  | assumption
  | with_reducible exact upd_same
  | ((with_reducible refine' up_new ?hpn ?hpr); (case hpn => walk_at "hn"); (case hpr => walk_at "hp"))
  | ((with_reducible refine' up_ne ?hpn ?hpr); (case hpr => walk_at "hp"); (case hpn => walk_at "ne"))
  | ((with_reducible refine' hp_kp ?hph ?hpk); (case hph => assumption); (case hpk => assumption))
  | ((with_reducible refine' hp_del ?hph); (case hph => assumption))
  | ((with_reducible refine' hp_ex ?hph ?hpe); (case hph => assumption); (case hpe => walk_at "ex")))
local macro_rules | `(tactic| walk_at "sq") => `(tactic| first
  | assumption
  | ((with_reducible refine' SqL.of ?sof); (case sof => walk_at "hp"))
  | ((with_reducible refine' SqT.of ?sof); (case sof => walk_at "hp"))
  | ((with_reducible refine' sl_new ?hpn ?hpr); (case hpn => walk_at "hn"); (case hpr => walk_at "sq"))
  | ((with_reducible refine' st_new ?hpn ?hpr); (case hpn => walk_at "hn"); (case hpr => walk_at "sq"))
  | ((with_reducible refine' sl_kp ?hph ?hpk); (case hph => assumption); (case hpk => assumption))
  | ((with_reducible refine' st_kp ?hph ?hpk); (case hph => assumption); (case hpk => assumption))
  | ((with_reducible refine' sl_del ?hph); (case hph => assumption))
  | ((with_reducible refine' st_del ?hph); (case hph => assumption))
  | ((with_reducible refine' sl_ex ?hph ?hpe); (case hph => assumption); (case hpe => walk_at "ex"))
  | ((with_reducible refine' st_ex ?hph ?hpe); (case hph => assumption); (case hpe => walk_at "ex")))
local macro_rules | `(tactic| walk_at "ty") => `(tactic| first
  | exact TyX.base (.str _)
  | exact TyX.base (.int _)
  | exact TyX.base (.bl _)
  | exact TyX.base .non
  | exact ty_L (by walk_at "sq")
  | exact ty_T (by walk_at "sq"))
local macro_rules | `(tactic| walk_at "sz") => `(tactic| first | omega | exact sz_le (by omega) | exact sz_lt (by omega) | (refine sz_le ?_; simp; omega) | (refine sz_lt ?_; simp; omega) | (refine sz_le ?_; simp))
local macro_rules | `(tactic| walk_at "side") => `(tactic| first | assumption | omega | (refine ⟨?_, ?_⟩ <;> omega) | (exact .inl ⟨by omega, by omega⟩) | (exact .inr ⟨by omega, by omega⟩) | (exact ⟨by decide, by decide, by decide⟩) | rfl)
local macro_rules | `(tactic| walk_at "g1") => `(tactic| first
  | with_reducible first
    | refine g_seq ?_ | refine g_asg ?_ | refine g_name ?_ | refine g_op ?_ | refine g_c ?_ | refine g_cons ?_ | refine g_nil ?_ | refine g_cb ?_ | refine g_call ?_ | refine g_ret ?_ | refine g_drop ?_ | refine g_next ?_
    | refine g_ifS ?_ | refine g_if ?_ | refine g_test ?_ | refine g_tB ?_ | refine g_bl ?_ | refine g_and ?_ | refine g_or ?_ | refine g_not ?_ | refine g_andV ?_ | refine g_orV ?_ | refine g_notV ?_
    | refine g_un ?_ | refine g_neg ?_ | refine g_rI0 ?_ | refine g_int1 ?_ | refine g_abs ?_ | refine g_mx2 ?_ | refine g_mn2 ?_ | refine g_par ?_ | refine g_par2 ?_ | refine g_chain ?_
    | refine g_for ?_ | refine g_lc ?_ | refine g_dc ?_ | refine g_iList ?_ | refine g_iTup ?_ | refine g_iStr ?_ | refine g_iRng1 ?_ | refine g_iEnum ?_ | refine g_itS ?_ | refine g_gcons ?_ | refine g_gnil ?_
    | refine g_dget ?_ | refine g_dput ?_ | refine g_dnew ?_ | refine g_inSg ?_ | refine g_notNn ?_ | refine g_isNn ?_ | refine g_sl ?_ | refine g_nopart ?_ | refine g_part ?_ | refine g_parti ?_ | refine g_meth ?_ | refine g_make ?_ | refine g_fldE ?_ | refine g_sfld ?_
    | refine g_sub ?_ | refine g_lst ?_ | refine g_tup ?_ | refine g_bm ?_ | refine g_bm0 ?_ | refine g_tyS ?_ | refine g_yes ?_ | refine iteT ?_ | refine iteF ?_ | refine iteNT ?_ | refine iteNF ?_
  | ((with_reducible refine' g_var ?ev ?_); (case ev => rfl))
  | ((with_reducible refine' g_rI ?ec ?_); (case ec => walk_at "side"))
  | ((with_reducible refine' g_ixL ?es ?ea ?_); (case es => walk_at "sq"); (case ea => first | rfl | assumption))
  | ((with_reducible refine' g_ixT ?es ?ea ?_); (case es => walk_at "sq"); (case ea => first | rfl | assumption))
  | ((with_reducible refine' g_lenL ?es ?_); (case es => walk_at "sq"))
  | ((with_reducible refine' g_lenT ?es ?_); (case es => walk_at "sq"))
  | ((with_reducible refine' g_lenS ?es ?_); (case es => walk_at "sz"))
  | ((with_reducible refine' g_lenD ?es ?_); (case es => walk_at "hp"))
  | ((with_reducible refine' g_listL ?es ?_); (case es => walk_at "sq"))
  | ((with_reducible refine' g_listT ?es ?_); (case es => walk_at "sq"))
  | ((with_reducible refine' g_tupL ?es ?_); (case es => walk_at "sq"))
  | ((with_reducible refine' g_tyL ?es ?_); (case es => walk_at "sq"))
  | ((with_reducible refine g_eqS ?es ?_); (case es => rfl))
  | ((with_reducible refine g_neS ?es ?_); (case es => rfl))
  | ((with_reducible refine' g_inDcS ?es ?_); (case es => walk_at "hp"))
  | ((with_reducible refine' g_notInDcS ?es ?_); (case es => walk_at "hp"))
  | ((with_reducible refine' g_dgetS ?es ?ev ?_); (case es => walk_at "hp"); (case ev => first | assumption | walk_at "dv"))
  | ((with_reducible refine' g_dputS ?es ?el ?_); (case es => walk_at "hp"); (case el => walk_at "sz"))
  | ((with_reducible refine' g_fldI ?es ?ec ?en ?el ?_); (case es => walk_at "hp"); (case ec => assumption); (case en => assumption); (case el => first | assumption | walk_at "fl"))
  | ((with_reducible refine' g_methI ?es ?em ?_); (case es => walk_at "hp"); (case em => first | assumption | walk_at "fl"))
  | ((with_reducible refine' g_sfldI ?es ?ec ?en ?el ?_); (case es => walk_at "hp"); (case ec => assumption); (case en => assumption); (case el => first | assumption | walk_at "fl"))
  | ((with_reducible refine' g_isi ?et ?ek ?_); (case et => walk_at "ty"); (case ek => walk_at "kb"))
  | ((with_reducible refine g_addT ?el ?_); (case el => walk_at "sz"))
  | ((with_reducible refine' g_cat ?e1 ?e2 ?el ?_); (case e1 => walk_at "hp"); (case e2 => walk_at "hp"); (case el => walk_at "sz"))
  | ((with_reducible refine' g_slL ?es ?_); (case es => walk_at "sq"))
  | ((with_reducible refine g_slS ?el ?_); (case el => walk_at "sz"))
  | ((with_reducible refine' g_itL ?es ?_); (case es => walk_at "sq"))
  | ((with_reducible refine' g_itT ?es ?_); (case es => walk_at "sq"))
  | ((with_reducible refine' g_itE ?es ?_); (case es => walk_at "sq"))
  | ((with_reducible refine' g_itR ?es ?_); (case es => (constructor <;> omega)))
  | ((with_reducible refine' g_gtup ?es ?en ?_); (case es => walk_at "sq"); (case en => first | rfl | assumption))
  | ((with_reducible refine' g_setL ?es ?ej ?_); (case es => walk_at "hp"); (case ej => first | rfl | assumption))
  | ((with_reducible refine' g_app ?es ?el ?_); (case es => walk_at "hp"); (case el => walk_at "sz")))
local macro_rules | `(tactic| walk_at "go") => `(tactic| repeat (walk_at "g1"))
local macro_rules | `(tactic| walk_at "fl") => `(tactic| first | exact rfs_weirs _ _ _ | exact rfs_lower _ _ _ | exact rfs_courses _ _ _ | exact rfs_need _ _ _ | exact rfs_rows _ _ _ | exact rfs_below _ _ _ | exact rfs_above _ _ _ | exact rfs_course _ _ _ | exact rfs_depth _ _ _ | exact rfs_upstream _ _ _ | (simp only [List.length]; decide))
theorem lc_filterT {K : PySem.W.Frag} {σ : L2.St} {H : Hp} {Q : VK} {tt : TT} {tw : Addr} {ws : List Str} {j : Nat} (hs : H tw = some (.tup (strsV ws))) (hl : ws.length < 1000000) (hj : j < σ.length) (f : Str → Bool)
    (ht : ∀ w ∈ ws, ∀ H', Ex H H' → ∀ Qt : Bool → Hp → Prop, Qt (f w) H' → tt ((σ.set j none).set j (some (.str w))) H' Qt)
    (hq : ∀ C H', H C = none → Ex H H' → H' C = some (.lst (strsV (ws.filter f))) → Q (.ref C) H') : LcP (Itt K tw) (gName j) tt (tVar j) [j] σ Q H := by
  refine lc_T (xs := strsV ws) (fun C i acc H' => H C = none ∧ Ex H H' ∧ acc = strsV ((ws.take i).filter f)) (fun C hC => ⟨hC, Ex.new hC, by simp [strsV]⟩) (fun C i acc H' ⟨_, e, _⟩ => SqT.of (e _ _ hs)) ?_ ?_
  · rintro C i acc H2 x hx hA hlz ⟨hC, hE, e⟩
    rw [strsV, List.getElem?_map] at hx
    cases hwi : ws[i]? with
    | none => rw [hwi] at hx; cases hx
    | some w =>
      rw [hwi] at hx
      cases hx
      have hi : i < ws.length := (List.getElem?_eq_some_iff.mp hwi).1
      refine ⟨?_, ?_⟩
      · show (((σ.set j none).set j (some (.str w))).set j none) = σ.set j none
        rw [List.set_set, List.set_set]
      · refine ht w (List.mem_of_getElem? hwi) H2 hE _ ?_
        refine iteB (fun hf => ?_) (fun hf => ?_)
        · refine ⟨.str w, ?_, ?_⟩
          · show ((σ.set j none).set j (some (V.str w)))[j]? = some (some (V.str w))
            rw [List.getElem?_set_self (by simpa using hj)]
          · refine lc_add hA hlz (by omega) ⟨hC, Ex.mut hE hC, ?_⟩
            rw [e, List.take_add_one, hwi]
            simp [strsV, List.filter_append, hf]
        · refine ⟨acc, hA, by omega, hC, hE, ?_⟩
          rw [e, List.take_add_one, hwi]
          simp [strsV, List.filter_append, hf]
  · rintro C acc H2 hC hA hlz ⟨_, hE, e⟩
    rw [List.take_of_length_le (by simp [strsV])] at e
    subst e
    exact hq C H2 hC hE hA
abbrev N_River__len_ : List Str := ["self"]
def t_River__len_ (K : PySem.W.Frag) : TS :=
  (tRet (tCB (rLenU K) (tCons (tFld K (tVar 0) "weirs") tNil)))
def sp_River__len_ (K : PySem.W.Frag) : Sp := fun vs H Q _ => ∃ (p : Addr) (rows : Rows), vs = [.ref p] ∧ RiverAt K H p rows ∧ Q (.int rows.length) H
theorem len_River__len_ {K : PySem.W.Frag} {vs : List V} {H : Hp} {Q : VK} {E : XK} (h : sp_River__len_ K vs H Q E) : vs.length = 1 := by obtain ⟨_, _, rfl, _⟩ := h; rfl
theorem pure_River__len_ {K : PySem.W.Frag} (G : GRiver K) (vs : List V) (H : Hp) (Q : VK) (E : XK) (h : sp_River__len_ K vs H Q E) : t_River__len_ K { nx := fun _ H' => Q .non H', rt := Q } (start N_River__len_ vs) H := by
  obtain ⟨p, rows, rfl, ⟨⟨dx, tw, dl, dc, cs, h1, h2, h3, h4, h5⟩, g⟩, k⟩ := h
  have gcl := G.cl
  have gnw := G.nw
  unfold t_River__len_
  walk_at "go"
  have e : (strsV (wrs rows)).length = rows.length := by simp [strsV, wrs]
  rw [e]; exact k
abbrev N_River_rows : List Str := ["self", "weir"]
def t_River_rows (K : PySem.W.Frag) : TS :=
  (tRet (tLc (iTup K (tFld K (tVar 0) "weirs")) (gName 1) tYes (tTup (tCons (tVar 1) (tCons (tDGet (tFld K (tVar 0) "lower") (tVar 1)) tNil))) [1]))
def sp_River_rows (K : PySem.W.Frag) : Sp := fun vs H Q _ => ∃ (p : Addr) (rows : Rows), vs = [.ref p] ∧ RiverAt K H p rows ∧
  ∀ (q : Addr) (H' : Hp) (rs : List V), H q = none → Ex H H' → H' q = some (.lst rs) → Dp K H' (.ref q) (rowsD rows) → Q (.ref q) H'
theorem len_River_rows {K : PySem.W.Frag} {vs : List V} {H : Hp} {Q : VK} {E : XK} (h : sp_River_rows K vs H Q E) : vs.length = 1 := by obtain ⟨_, _, rfl, _⟩ := h; rfl
theorem dpAll_snoc {K : PySem.W.Frag} {H : Hp} {v : V} {d : PyData} (h2 : Dp K H v d) : ∀ {vs : List V} {ds : List PyData}, DpAll K H vs ds → DpAll K H (vs ++ [v]) (ds ++ [d])
  | _, _, .nil => .cons h2 .nil
  | _, _, .cons h t => .cons h (dpAll_snoc h2 t)
theorem dp_pairI {K : PySem.W.Frag} {H : Hp} {t : Addr} {u v : Str} (h : SqT K H t [.str u, .str v]) : Dp K H (.ref t) (.tuple [.str u, .str v]) := .tup h (.cons (.str u) (.cons (.str v) .nil))
theorem pure_River_rows {K : PySem.W.Frag} (G : GRiver K) (vs : List V) (H : Hp) (Q : VK) (E : XK) (h : sp_River_rows K vs H Q E) : t_River_rows K { nx := fun _ H' => Q .non H', rt := Q } (start N_River_rows vs) H := by
  obtain ⟨p, rows, rfl, ⟨⟨dx, tw, dl, dc, cs, h1, h2, h3, h4, h5⟩, g⟩, k⟩ := h
  have gcl := G.cl
  have gnw := G.nw
  have gnl := G.nl
  have h40 := g.le
  have hwl : (wrs rows).length = rows.length := by simp [wrs]
  unfold t_River_rows
  walk_at "go"
  refine lc_T (xs := strsV (wrs rows)) (fun C i acc H' => H C = none ∧ Ex H H' ∧ ∃ G', Ex H G' ∧ Ex G' H' ∧ G' C = none ∧ DpAll K G' acc ((rows.take i).map fun r => .tuple [.str r.1, .str r.2])) (fun C hC => ⟨hC, Ex.new hC, H, Ex.refl _, Ex.new hC, hC, by simp; exact .nil⟩) (fun C i acc H' ⟨_, e, _⟩ => SqT.of (e _ _ h2)) ?_ ?_
  · rintro C i acc H2 x hx hA hlz ⟨hC, hE, G', e1, e2, e3, hD⟩
    rw [strsV, List.getElem?_map] at hx
    cases hwi : (wrs rows)[i]? with
    | none => rw [hwi] at hx; cases hx
    | some w =>
      rw [hwi] at hx
      cases hx
      have hwm : w ∈ wrs rows := List.mem_of_getElem? hwi
      have hi : i < (wrs rows).length := (List.getElem?_eq_some_iff.mp hwi).1
      have hr : rows[i]? = some (w, low rows w) := by
        unfold wrs at hwi
        rw [List.getElem?_map] at hwi
        cases hri : rows[i]? with
        | none => rw [hri] at hwi; cases hwi
        | some r =>
          rw [hri] at hwi
          cases hwi
          rw [g.low_of (List.mem_of_getElem? hri)]
      have hv := valV_in hwm
      have r1 := hE _ _ h1
      have r3 := hE _ _ h3
      walk_at "go"
      refine ⟨rfl, ?_⟩
      walk_at "go"
      refine ⟨sz_le (by simp), fun t ht => ?_⟩
      have tC : t ≠ C := fun z => by subst z; rw [hA] at ht; cases ht
      refine lc_add (up_new ht hA) hlz (by omega) ⟨hC, Ex.mut (hE.trans (Ex.new ht)) hC, upd G' t (.tup [.str w, .str (low rows w)]), e1.trans (Ex.new (e2.nn ht)), ?_, by rw [upd_ne (Ne.symm tC)]; exact e3, ?_⟩
      · intro b o hb
        by_cases hbt : b = t
        · subst hbt
          rw [upd_same] at hb
          rw [upd_ne tC, upd_same]; exact hb
        · rw [upd_ne hbt] at hb
          have hbC : b ≠ C := ne_of_none hb e3
          rw [upd_ne hbC, upd_ne hbt]
          exact e2 _ _ hb
      · rw [List.take_add_one, hr, List.map_append]
        exact dpAll_snoc (dp_pairI (SqT.of upd_same)) (DpAll.mono (Ex.new (e2.nn ht)) hD)
  · rintro C acc H2 hC hA hlz ⟨_, hE, G', e1, e2, e3, hD⟩
    have e : (strsV (wrs rows)).length = rows.length := by simp [strsV, wrs]
    rw [e, List.take_length] at hD
    exact k C H2 acc hC hE hA (.lst (SqL.of hA) (DpAll.mono e2 hD))
abbrev N_River_below : List Str := ["self", "weir"]
def t_River_below (K : PySem.W.Frag) (E : XK) : TS :=
  (tSeq (tDrop (tMeth (He.ga K "River") "need" (sp_River_need K) [] E (tVar 0) (tCons (tVar 1) tNil)))
  (tRet (tDGet (tFld K (tVar 0) "lower") (tVar 1))))
def sp_River_below (K : PySem.W.Frag) : Sp := fun vs H Q E => ∃ (p : Addr) (rows : Rows) (v : V) (d : PyData), vs = [.ref p, v] ∧ RiverAt K H p rows ∧ Dp K H v d ∧ SeqAt.shaped d = true ∧
  (∀ w, d = .str w → w ∈ wrs rows → ∀ H', Ex H H' → Q (.str (low rows w)) H') ∧ (isW rows d = false → XNoWeir K H v E)
theorem len_River_below {K : PySem.W.Frag} {vs : List V} {H : Hp} {Q : VK} {E : XK} (h : sp_River_below K vs H Q E) : vs.length = 2 := by obtain ⟨_, _, _, _, rfl, _⟩ := h; rfl
theorem pure_River_below {K : PySem.W.Frag} (G : GRiver K) (vs : List V) (H : Hp) (Q : VK) (E : XK) (h : sp_River_below K vs H Q E) : t_River_below K E { nx := fun _ H' => Q .non H', rt := Q } (start N_River_below vs) H := by
  obtain ⟨p, rows, v, d, rfl, R, hd, sd, k1, k2⟩ := h
  obtain ⟨⟨dx, tw, dl, dc, cs, h1, h2, h3, h4, h5⟩, g⟩ := id R
  have gcl := G.cl
  have gnl := G.nl
  unfold t_River_below
  walk_at "go"
  refine ⟨p, rows, v, d, rfl, R, hd, sd, fun hw H1 e1 => ?_, k2⟩
  obtain ⟨w, rfl, hwm⟩ := isW_yes hw
  cases dp_isStr hd
  have hv := valV_in hwm
  walk_at "go"
  exact k1 w rfl hwm H1 e1
abbrev N_River_course : List Str := ["self", "weir"]
def t_River_course (K : PySem.W.Frag) (E : XK) : TS :=
  (tSeq (tDrop (tMeth (He.ga K "River") "need" (sp_River_need K) [] E (tVar 0) (tCons (tVar 1) tNil)))
  (tRet (tDGet (tFld K (tVar 0) "courses") (tVar 1))))
def sp_River_course (K : PySem.W.Frag) : Sp := fun vs H Q E => ∃ (p : Addr) (rows : Rows) (v : V) (d : PyData), vs = [.ref p, v] ∧ RiverAt K H p rows ∧ Dp K H v d ∧ SeqAt.shaped d = true ∧
  (∀ w, d = .str w → w ∈ wrs rows → ∀ t H', Ex H H' → H' t = some (.tup (strsV (crs rows rows.length w))) → Q (.ref t) H') ∧ (isW rows d = false → XNoWeir K H v E)
theorem len_River_course {K : PySem.W.Frag} {vs : List V} {H : Hp} {Q : VK} {E : XK} (h : sp_River_course K vs H Q E) : vs.length = 2 := by obtain ⟨_, _, _, _, rfl, _⟩ := h; rfl
theorem pure_River_course {K : PySem.W.Frag} (G : GRiver K) (vs : List V) (H : Hp) (Q : VK) (E : XK) (h : sp_River_course K vs H Q E) : t_River_course K E { nx := fun _ H' => Q .non H', rt := Q } (start N_River_course vs) H := by
  obtain ⟨p, rows, v, d, rfl, R, hd, sd, k1, k2⟩ := h
  obtain ⟨⟨dx, tw, dl, dc, cs, h1, h2, h3, h4, h5⟩, g⟩ := id R
  have gcl := G.cl
  have gnc := G.nc
  unfold t_River_course
  walk_at "go"
  refine ⟨p, rows, v, d, rfl, R, hd, sd, fun hw H1 e1 => ?_, k2⟩
  obtain ⟨w, rfl, hwm⟩ := isW_yes hw
  cases dp_isStr hd
  obtain ⟨t, hv, ht⟩ := h5 w hwm
  walk_at "go"
  exact k1 w rfl hwm t H1 e1 (e1 _ _ ht)
abbrev N_River_depth : List Str := ["self", "weir"]
def t_River_depth (K : PySem.W.Frag) (E : XK) : TS :=
  (tRet (tCB (rLenU K) (tCons (tMeth (He.ga K "River") "course" (sp_River_course K) [] E (tVar 0) (tCons (tVar 1) tNil)) tNil)))
def sp_River_depth (K : PySem.W.Frag) : Sp := fun vs H Q E => ∃ (p : Addr) (rows : Rows) (v : V) (d : PyData), vs = [.ref p, v] ∧ RiverAt K H p rows ∧ Dp K H v d ∧ SeqAt.shaped d = true ∧
  (∀ w, d = .str w → w ∈ wrs rows → ∀ H', Ex H H' → Q (.int (crs rows rows.length w).length) H') ∧ (isW rows d = false → XNoWeir K H v E)
theorem len_River_depth {K : PySem.W.Frag} {vs : List V} {H : Hp} {Q : VK} {E : XK} (h : sp_River_depth K vs H Q E) : vs.length = 2 := by obtain ⟨_, _, _, _, rfl, _⟩ := h; rfl
theorem pure_River_depth {K : PySem.W.Frag} (vs : List V) (H : Hp) (Q : VK) (E : XK) (h : sp_River_depth K vs H Q E) : t_River_depth K E { nx := fun _ H' => Q .non H', rt := Q } (start N_River_depth vs) H := by
  obtain ⟨p, rows, v, d, rfl, R, hd, sd, k1, k2⟩ := h
  obtain ⟨⟨dx, tw, dl, dc, cs, h1, h2, h3, h4, h5⟩, g⟩ := id R
  unfold t_River_depth
  walk_at "go"
  refine ⟨p, rows, v, d, rfl, R, hd, sd, fun w ew hwm t H1 e1 ht => ?_, k2⟩
  walk_at "go"
  have e : (strsV (crs rows rows.length w)).length = (crs rows rows.length w).length := by simp [strsV]
  rw [e]
  exact k1 w ew hwm H1 e1
/-- the weirs directly above -/
def aboveL (rows : Rows) (d : PyData) : List Str := (wrs rows).filter fun w => PyData.eqv (.str (low rows w)) d
def upL (rows : Rows) (w : Str) : List Str := (wrs rows).filter fun o => decide (w ∈ crs rows rows.length o)
abbrev N_River_above : List Str := ["self", "weir", "one"]
def t_River_above (K : PySem.W.Frag) (E : XK) : TS :=
  (tSeq (tIfS (tTest (tOp (rNeU K) (tVar 1) (tC (.str "sea")))) (tDrop (tMeth (He.ga K "River") "need" (sp_River_need K) [] E (tVar 0) (tCons (tVar 1) tNil))) tNext)
  (tRet (tCB (rTupOf K) (tCons (tLc (iTup K (tFld K (tVar 0) "weirs")) (gName 2) (tTest (tOp (rEqU K) (tDGet (tFld K (tVar 0) "lower") (tVar 2)) (tVar 1))) (tVar 2) [2]) tNil))))
def sp_River_above (K : PySem.W.Frag) : Sp := fun vs H Q E => ∃ (p : Addr) (rows : Rows) (v : V) (d : PyData), vs = [.ref p, v] ∧ RiverAt K H p rows ∧ Dp K H v d ∧ SeqAt.shaped d = true ∧
  (d = .str "sea" ∨ isW rows d = true → ∀ t H', H t = none → Ex H H' → H' t = some (.tup (strsV (aboveL rows d))) → Q (.ref t) H') ∧ (d ≠ .str "sea" → isW rows d = false → XNoWeir K H v E)
theorem len_River_above {K : PySem.W.Frag} {vs : List V} {H : Hp} {Q : VK} {E : XK} (h : sp_River_above K vs H Q E) : vs.length = 2 := by obtain ⟨_, _, _, _, rfl, _⟩ := h; rfl
theorem sea_ok : PyData.strOk ("sea" : Str) = true := by decide +kernel
theorem Good.low_ok {rows : Rows} (g : Good rows) {w : Str} (h : w ∈ wrs rows) : PyData.strOk (low rows w) = true := isName_ok (g.nm _ (low_row h)).2
theorem pure_River_above {K : PySem.W.Frag} (G : GRiver K) (vs : List V) (H : Hp) (Q : VK) (E : XK) (h : sp_River_above K vs H Q E) : t_River_above K E { nx := fun _ H' => Q .non H', rt := Q } (start N_River_above vs) H := by
  obtain ⟨p, rows, v, d, rfl, R, hd, sd, k1, k2⟩ := h
  obtain ⟨⟨dx, tw, dl, dc, cs, h1, h2, h3, h4, h5⟩, g⟩ := id R
  have gcl := G.cl
  have gnw := G.nw
  have gnl := G.nl
  have h40 := g.le
  have hwl : (wrs rows).length = rows.length := by simp [wrs]
  have last : (d = .str "sea" ∨ isW rows d = true) → ∀ H1, Ex H H1 → (tRet (tCB (rTupOf K) (tCons (tLc (iTup K (tFld K (tVar 0) "weirs")) (gName 2) (tTest (tOp (rEqU K) (tDGet (tFld K (tVar 0) "lower") (tVar 2)) (tVar 1))) (tVar 2) [2]) tNil))) { nx := fun _ H' => Q .non H', rt := Q } (start N_River_above [.ref p, v]) H1 := by
    intro hdd H1 e1
    have r1 := e1 _ _ h1
    have r2 := e1 _ _ h2
    walk_at "go"
    refine lc_filterT r2 (by omega) (by show 2 < 3; decide) (fun w => PyData.eqv (.str (low rows w)) d) (fun w hw H2 e2 Qt hQ => ?_) (fun C H2 hC e2 hA => ?_)
    · have hv := valV_in hw
      have r3 := e2 _ _ (e1 _ _ h3)
      have r4 := e2 _ _ r1
      walk_at "go"
      refine g_eqD (.str _) (Dp.mono (e1.trans e2) hd) (shaped_str (g.low_ok hw)) sd ?_
      walk_at "go"
      exact hQ
    · walk_at "go"
      intro t ht
      exact k1 hdd t _ (e1.nn (e2.nn ht)) (e1.trans (e2.trans (Ex.new ht))) upd_same
  unfold t_River_above
  walk_at "go"
  refine g_neD hd (.str _) sd (shaped_str sea_ok) ?_
  walk_at "go"
  refine iteNB (fun hs => ?_) (fun hs => ?_)
  · walk_at "go"
    have hne : d ≠ .str "sea" := fun z => by rw [z, eqv_strs] at hs; simp at hs
    refine ⟨p, rows, v, d, rfl, R, hd, sd, fun hw H1 e1 => ?_, k2 hne⟩
    exact last (.inr hw) H1 e1
  · refine last (.inl ?_) H (Ex.refl _)
    cases d <;> simp [PyData.eqv] at hs
    rw [hs]
abbrev N_River_upstream : List Str := ["self", "weir", "one"]
def t_River_upstream (K : PySem.W.Frag) (E : XK) : TS :=
  (tSeq (tDrop (tMeth (He.ga K "River") "need" (sp_River_need K) [] E (tVar 0) (tCons (tVar 1) tNil)))
  (tRet (tCB (rTupOf K) (tCons (tLc (iTup K (tFld K (tVar 0) "weirs")) (gName 2) (tTest (tOp (rInU K) (tVar 1) (tDGet (tFld K (tVar 0) "courses") (tVar 2)))) (tVar 2) [2]) tNil))))
def sp_River_upstream (K : PySem.W.Frag) : Sp := fun vs H Q E => ∃ (p : Addr) (rows : Rows) (v : V) (d : PyData), vs = [.ref p, v] ∧ RiverAt K H p rows ∧ Dp K H v d ∧ SeqAt.shaped d = true ∧
  (∀ w, d = .str w → w ∈ wrs rows → ∀ t H', H t = none → Ex H H' → H' t = some (.tup (strsV (upL rows w))) → Q (.ref t) H') ∧ (isW rows d = false → XNoWeir K H v E)
theorem len_River_upstream {K : PySem.W.Frag} {vs : List V} {H : Hp} {Q : VK} {E : XK} (h : sp_River_upstream K vs H Q E) : vs.length = 2 := by obtain ⟨_, _, _, _, rfl, _⟩ := h; rfl
theorem crs_in {rows : Rows} (g : Good rows) : ∀ n w, w ∈ wrs rows → ∀ u ∈ crs rows n w, u ∈ wrs rows
  | 0, _, _, u, hu => by simp [crs] at hu
  | n + 1, w, hw, u, hu => by
    rw [show crs rows (n + 1) w = if w = "sea" then [] else w :: crs rows n (low rows w) from rfl, if_neg (g.ne_sea hw)] at hu
    rcases List.mem_cons.mp hu with e | hu
    · rw [e]; exact hw
    · rcases g.low_in hw with e | hl
      · rw [e, crs_sea] at hu; simp at hu
      · exact crs_in g n _ hl u hu
theorem pure_River_upstream {K : PySem.W.Frag} (G : GRiver K) (vs : List V) (H : Hp) (Q : VK) (E : XK) (h : sp_River_upstream K vs H Q E) : t_River_upstream K E { nx := fun _ H' => Q .non H', rt := Q } (start N_River_upstream vs) H := by
  obtain ⟨p, rows, v, d, rfl, R, hd, sd, k1, k2⟩ := h
  obtain ⟨⟨dx, tw, dl, dc, cs, h1, h2, h3, h4, h5⟩, g⟩ := id R
  have gcl := G.cl
  have gnw := G.nw
  have gnc := G.nc
  have h40 := g.le
  have hwl : (wrs rows).length = rows.length := by simp [wrs]
  unfold t_River_upstream
  walk_at "go"
  refine ⟨p, rows, v, d, rfl, R, hd, sd, fun hw H1 e1 => ?_, k2⟩
  obtain ⟨w, rfl, hwm⟩ := isW_yes hw
  cases dp_isStr hd
  have r1 := e1 _ _ h1
  have r2 := e1 _ _ h2
  walk_at "go"
  refine lc_filterT r2 (by omega) (by show 2 < 3; decide) (fun o => decide (w ∈ crs rows rows.length o)) (fun o ho H2 e2 Qt hQ => ?_) (fun C H2 hC e2 hA => ?_)
  · obtain ⟨t, hv, ht⟩ := h5 o ho
    have r4 := e2 _ _ (e1 _ _ h4)
    have r5 := e2 _ _ (e1 _ _ ht)
    have r6 := e2 _ _ r1
    walk_at "go"
    refine g_inU (.str _) (.inr (dp_strsT (SqT.of r5))) sd (can_strs fun u hu => g.okw u (crs_in g _ o ho u hu)) ?_
    walk_at "go"
    have e : ((crs rows rows.length o).map PyData.str).any (fun z => PyData.eqv z (.str w)) = decide (w ∈ crs rows rows.length o) := by
      rw [List.any_map, Bool.eq_iff_iff, List.any_eq_true, decide_eq_true_eq]
      constructor
      · rintro ⟨x, hx, q⟩
        have q' : PyData.eqv (.str x) (.str w) = true := q
        rw [eqv_strs] at q'
        have q2 : x = w := by simpa using q'
        rw [← q2]; exact hx
      · intro hx
        exact ⟨w, hx, by show PyData.eqv (.str w) (.str w) = true; rw [eqv_strs]; simp⟩
    rw [e]; exact hQ
  · walk_at "go"
    intro t ht
    exact k1 w rfl hwm t _ (e1.nn (e2.nn ht)) (e1.trans (e2.trans (Ex.new ht))) upd_same
end WK
/-! own things: iteration by __iter__ that hands back iter(a tuple), in by it -/
namespace WK
open PySem L2 PySem.Spec PyProof.Rows
def TItO (it t : Addr) (i : Nat) : HO := .ext fun h => h.IsTupleIter it t i
theorem titO_ok {P : Program} {w : World} {H : Hp} {h : Heap} {it t : Addr} {i : Nat} (e : h.IsTupleIter it t i) : ObjOk P w H h it (TItO it t i) :=
  ⟨e, (let ⟨o, ho, _⟩ := e; ⟨o, ho⟩), fun h1 h2 ⟨o, ho, r⟩ k => ⟨o, k o ho, r⟩⟩
theorem call_iter_tup {prog : Program} {w : World} {A : Around} {E : Value → Shared → Prop} {s : Shared} {t : Addr} {items : Array Value} {Q : Value → Shared → Prop} (ht : s.heap.IsTuple t items)
    (h : Q (.ref s.heap.objs.size) { s with heap := s.heap.push { cls := .type "tuple_iterator", data := .fields #[.ref t, .int 0 0] } }) : wpAny (model prog w) A (call (.builtin "iter") [.ref t]) Q E s := by
  refine Calls.call_function_entry (by decide +kernel) (by decide +kernel) PySem.W.kdk_entry_iter (PySem.W.kdk_args_iter _) ?_
  unfold Builtin.«iter»
  refine wpAny_bind (m := someArgs "iter" 1 2 _) (wpAny_of_eq (a := [Value.ref t]) (by first | rfl | kernel_rfl!) ?_)
  show wpAny _ _ (pyIter (.ref t) >>= _) _ _ _
  refine wpAny_bind (wpAny_pyIter_tuple ht ?_)
  exact wpAny_pure ⟨_, rfl, h⟩
/-- iter(t), t a tuple; n: what the new thing is not below -/
def rIterTN (K : PySem.W.Frag) (n : Nat) : List V → Hp → VK → Prop := fun xs H Q => ∃ (t : Addr) (zs : List V), xs = [.ref t] ∧ SqT K H t zs ∧ ∀ it, H it = none → n ≤ it → Q (.ref it) (upd H it (TItO it t 0))
theorem call_iterTN {X : Cx} : CallR X (.builtin "iter") (rIterTN X.K X.s_0.heap.objs.size) := by
  intro pins s σ H xs us Q I r h
  obtain ⟨t, zs, rfl, hq, q⟩ := h
  obtain ⟨u, rfl, ru⟩ := vals1 r
  cases ru
  obtain ⟨its, rv, pl, hz⟩ := I.tuple hq
  refine call_iter_tup pl ?_
  exact ⟨.ref s.heap.objs.size, _, I.laid (t' := s.toks) (fun b u e => Heap.get?_push_of_some _ e) (Nat.le_refl _) (titO_ok ⟨_, Heap.get?_push_size _ rfl, rfl, rfl⟩), rfl, q _ (I.hok.fresh (Nat.le_refl _)) I.sz⟩
/-- the def at f hands back iter(self.fld), fld a tuple -/
def IterOk (P : Program) (w : World) (K : PySem.W.Frag) (mg : Str → Option Value) (base : Heap) (f : Addr) (fld : Str) : Prop :=
  ∀ (A : Around) (outer : List Env) (s : Shared) (H : Hp) (p C dx tw : Addr) (fs : List (Str × V)) (xs : List V) (Q : VK), Room 1 A → Env0 P w K mg base A outer s H → H p = some (.ins C dx fs) → Cls K C → NoAttr K C fld → fs.lookup fld = some (.ref tw) → SqT K H tw xs →
    (∀ it, H it = none → s.heap.objs.size ≤ it → Q (.ref it) (upd H it (TItO it tw 0))) → codeAny (model P w) A (.call (.ref f) ⟨[.ref p], []⟩) (CR (L2.CX P w) outer P w H s Q E0) s
/-- what a class must have, whose instances are walked by such a def -/
structure ItCl (K : PySem.W.Frag) (C f : Addr) (fld : Str) : Prop where
  it : PySem.W.findIn K (.ref C) "__iter__" = some (some (.ref f))
  fn : PySem.W.isFn K (.ref f) = true
  cn : PySem.W.findIn K (.ref C) "__contains__" = some none
  cl : Cls K C
  no : NoAttr K C fld
section
variable {X : Cx} {pins : List (Addr × Obj)} {σ : L2.St} {H : Hp} {s : Shared}
theorem own_iter {p C dx tw f : Addr} {fs : List (Str × V)} {xs : List V} {fld : Str} (I : Inv X pins σ H s) (T : ItCl X.K C f fld) (IT : IterOk X.prog X.w X.K X.mg X.base f fld) (hr : Room 1 X.A) (hp : H p = some (.ins C dx fs)) (hl : fs.lookup fld = some (.ref tw)) (hs : SqT X.K H tw xs)
    {Q : Value → Shared → Prop} {E : Value → Shared → Prop} (h : ∀ it s', H it = none → X.s_0.heap.objs.size ≤ it → Inv X pins σ (upd H it (TItO it tw 0)) s' → Q (.ref it) s') : wpAny (model X.prog X.w) X.A (pyIter (.ref p)) Q E s := by
  obtain ⟨mA, J, _⟩ := ins_get I.hok hp
  obtain ⟨od, J, _⟩ := J.look
  obtain ⟨m, hF⟩ := I.fr
  refine PySem.W.owit_iter hF I.ok.mod.kin J T.it T.fn ?_
  refine wpAny_call (codeAny_mono (IT X.A X.stack s H p C dx tw fs xs (fun v H' => ∃ it, v = .ref it ∧ H it = none ∧ s.heap.objs.size ≤ it ∧ H' = upd H it (TItO it tw 0)) hr I.env0 hp T.cl T.no hl hs (fun it h1 h2 => ⟨it, rfl, h1, h2, rfl⟩)) fun r s' hq => ?_)
  cases r with
  | error e => exact absurd hq (by
      intro z
      obtain ⟨_, _, _, _, _, _, _, _, _, _, _, _, q⟩ := z
      exact q)
  | ok fl =>
    cases fl with
    | ret u =>
      obtain ⟨v, H', I', rv, it, rfl, h1, h2, rfl⟩ := I.after hq
      cases rv
      have hit := (I'.hok it _ upd_same).1
      show PySem.W.OwitIt _ _ _ _ _ _
      unfold PySem.W.OwitIt
      exact wpAny_specialOf hit.typeIs F.slot_tuple_iterator_next.lookup (h it s' h1 (Nat.le_trans I.sz h2) I')
    | next => exact False.elim hq
    | brk => exact False.elim hq
    | cont => exact False.elim hq
/-- for x in o -/
def iOwn (K : PySem.W.Frag) (c fld : Str) (te : TE) : TI := fun σ H R => te σ H fun x H1 => ∃ (p dx tw : Addr) (fs : List (Str × V)) (xs : List V), x = .ref p ∧ H1 p = some (.ins (He.ga K c) dx fs) ∧ fs.lookup fld = some (.ref tw) ∧ SqT K H1 tw xs ∧ R (Itt K tw) H1
theorem pi_own {tg e : Expr} {te : TE} {c fld : Str} {f : Addr} (he : PE X e te) (IT : IterOk X.prog X.w X.K X.mg X.base f fld) (T : ItCl X.K (He.ga X.K c) f fld) (hr : Room 1 X.A) : PI X tg e (iOwn X.K c fld te) := by
  refine ⟨fun pins s σ H R I h => ?_⟩
  refine thn (he.run pins s σ H _ I h) fun u s1 ⟨x, H1, I1, rx, p, dx, tw, fs, xs, ex, hp, hl, hs, hR⟩ => ?_
  subst ex
  cases rx
  refine own_iter I1 T IT hr hp hl hs fun it s' h1 h2 I2 => ?_
  have hit := (I2.hok it _ upd_same).1
  refine ⟨it, [it], _, Itt X.K tw, H1, rfl, ?_, turn_tuple tw it, hit, ?_, hR⟩
  · have := ItX.inv_drop I2 (a := it) upd_same
    rw [ItX.dropH_upd h1] at this
    exact this
  · intro b hb
    have e : b = it := by simpa using hb
    subst e
    have := ItX.inv_fp I2 (a := b) upd_same h2
    rw [ItX.dropH_upd h1] at this
    exact this
/-! ### in -/
theorem plain_ci : plainId "proto.contains_iter" = true := by decide +kernel
theorem entry_ci : entryFor table "proto.contains_iter" = some Builtin.«proto.contains_iter» := entryFor_of_fast (by kernel_rfl)
theorem ci_loop {tw it : Addr} {ws : List Str} {v : V} {u : Value} {d : PyData} (hh : X.A.handled = none) (hu : X.A.units + 65 < cLine) (hn : H it = none) (hy : X.s_0.heap.objs.size ≤ it) (hw : H tw = some (.tup (ws.map V.str))) (hd : Dp X.K H v d) (rv : RelV v u) (sd : SeqAt.shaped d = true)
    (hok : ∀ w ∈ ws, PyData.strOk w = true) : ∀ (n i : Nat), ws.length - i = n → i ≤ ws.length → ∀ s, Inv X pins σ (upd H it (TItO it tw i)) s →
      codeAny (model X.prog X.w) X.A (.builtin "proto.contains_iter" ⟨[.ref it, u], []⟩) (fun r s' => match r with
        | .ok (.ret z) => z = .bool ((ws.drop i).any fun w => PyData.eqv (.str w) d) ∧ Inv X pins σ H s'
        | .ok _ => False
        | .error _ => False) s := by
  intro n
  induction n with
  | zero =>
    intro i hi hle s I
    have ei : i = ws.length := by omega
    subst ei
    refine codeAny_builtin entry_ci ?_
    rw [Around.under_plainId plain_ci _]
    show wpAny _ X.A.in1 (pyNext (.ref it) >>= _) _ _ s
    have hit := (I.hok it _ upd_same).1
    have hw' : SqT X.K (upd H it (TItO it tw ws.length)) tw (ws.map V.str) := SqT.of (up_new hn hw)
    obtain ⟨its, rvs, pl, hz⟩ := I.tuple hw'
    have hlen : its.length = ws.length := by have := rvs.length; simpa using this.symm
    refine wpAny_bind (wpAny_pyNext_tuple_end (A := X.A.in1) hh hit pl (by simp [hlen]) fun h' hx => ?_)
    have I0 := ItX.inv_drop I (a := it) upd_same
    have fp := ItX.inv_fp I (a := it) upd_same hy
    rw [ItX.dropH_upd hn] at I0 fp
    obtain ⟨f1, f2, f3, f4, f5, f6⟩ := fp
    have I1 := I0.turned (t' := s.toks) (h' := h') (it := it) (fun b o hb e => hx b o hb e) f1 f2 f4 f5 f6
    refine wpAny_bind (wpAny_rule (wpAny_pure ⟨?_, I1⟩))
    simp
  | succ n ih =>
    intro i hi hle s I
    have hlt : i < ws.length := by omega
    refine codeAny_builtin entry_ci ?_
    rw [Around.under_plainId plain_ci _]
    show wpAny _ X.A.in1 (pyNext (.ref it) >>= _) _ _ s
    have hit := (I.hok it _ upd_same).1
    have hw' : SqT X.K (upd H it (TItO it tw i)) tw (ws.map V.str) := SqT.of (up_new hn hw)
    obtain ⟨its, rvs, pl, hz⟩ := I.tuple hw'
    obtain ⟨y, hy1, hy2⟩ := Vals.get (i := i) (x := .str ws[i]) rvs (by simp [hlt])
    refine wpAny_bind (wpAny_pyNext_tuple_item (A := X.A.in1) hit pl (x := y) (by simpa using hy1) fun h' hit' hsm => ?_)
    have I1 : Inv X pins σ (upd H it (TItO it tw (i + 1))) { s with heap := h' } := by
      have := I.write (x := it) (e := it) (o := TItO it tw (i + 1)) (t' := s.toks) (h' := h') (by rw [upd_same]; trivial) (.inl rfl) (fun b o hb e => hsm.extBut b o hb e) (by obtain ⟨o, ho, _⟩ := hit'; exact ⟨o, ho⟩) (titO_ok hit')
      rw [upd_upd] at this
      exact this
    have mn : Ex H (upd H it (TItO it tw (i + 1))) := Ex.new hn
    obtain ⟨as, r1⟩ := Dp.reads I1 d v u (Dp.mono mn hd) rv
    obtain ⟨bs, r2⟩ := Dp.reads I1 (.str ws[i]) (.str ws[i]) y (.str _) hy2
    have hcy : PyData.canLay0 (.str ws[i]) = true := by unfold PyData.canLay0; exact hok _ (List.getElem_mem hlt)
    have hq := SeqAt.eqAt_reads (.str ws[i]) d X.A.in1 { s with heap := h' } y u bs as r2 r1 hcy (SeqAt.canLay_of_shaped sd) (by
      have : min (PyData.depth (.str ws[i])) d.depth = 0 := by simp [PyData.depth]
      rw [this]
      show X.A.units + 1 + 0 < cLine
      omega)
    show wpAny _ X.A.in1 (eqBool y u >>= _) _ _ _
    refine wpAny_bind (hq _ _ _ _ ?_)
    have ed : (ws.drop i).any (fun w => PyData.eqv (.str w) d) = (PyData.eqv (.str ws[i]) d || (ws.drop (i + 1)).any fun w => PyData.eqv (.str w) d) := by
      rw [List.drop_eq_getElem_cons hlt, List.any_cons]
    cases hb : PyData.eqv (.str ws[i]) d with
    | true =>
      have I2 := ItX.inv_drop I1 (a := it) upd_same
      rw [ItX.dropH_upd hn] at I2
      refine wpAny_bind (wpAny_rule (wpAny_pure ⟨?_, I2⟩))
      rw [ed, hb]; rfl
    | false =>
      refine wpAny_pure ⟨plainId_quiet plain_ci _, ?_⟩
      refine codeAny_mono (ih (i + 1) (by omega) (by omega) _ I1) fun r s' hr => ?_
      cases r with
      | error e => exact hr
      | ok fl =>
        cases fl with
        | ret z => exact ⟨by rw [hr.1, ed, hb]; rfl, hr.2⟩
        | next => exact hr
        | brk => exact hr
        | cont => exact hr
end
end WK
/-! own things: in, len, ==, != -/
namespace WK
open PySem L2 PySem.Spec PyProof.Rows
section
variable {X : Cx} {pins : List (Addr × Obj)} {σ : L2.St} {H : Hp} {s : Shared}
theorem own_contains {p C dx tw f : Addr} {fs : List (Str × V)} {ws : List Str} {fld : Str} {v : V} {u : Value} {d : PyData} (I : Inv X pins σ H s) (T : ItCl X.K C f fld) (IT : IterOk X.prog X.w X.K X.mg X.base f fld) (hr : Room 1 X.A) (hu : X.A.units + 65 < cLine) (hp : H p = some (.ins C dx fs)) (hl : fs.lookup fld = some (.ref tw))
    (hw : H tw = some (.tup (ws.map V.str))) (hd : Dp X.K H v d) (rv : RelV v u) (sd : SeqAt.shaped d = true) (hok : ∀ w ∈ ws, PyData.strOk w = true) {Q : Bool → Shared → Prop} (h : ∀ s', Inv X pins σ H s' → Q (ws.any fun w => PyData.eqv (.str w) d) s') :
    wpAny (model X.prog X.w) X.A (contains (.ref p) u) Q X.xe s := by
  obtain ⟨mA, J, _⟩ := ins_get I.hok hp
  obtain ⟨od, J, _⟩ := J.look
  have X₀ := I.kIn
  unfold contains
  refine wpAny_holding ?_
  show wpAny _ _ (specialOf (.ref p) "__contains__" >>= _) _ _ _
  refine wpAny_bind (wpAny_bind (J.type.here ((PySem.W.looks_findIn X₀ T.cn).here ?_)))
  show wpAny _ _ (callSpecialUnlessNone? (.ref p) "__contains__" [u] _ >>= _) _ _ _
  unfold callSpecialUnlessNone?
  refine wpAny_bind (wpAny_bind (wpAny_bind (J.type.here ((PySem.W.looks_findIn X₀ T.cn).here ?_))))
  refine wpAny_pure ?_
  refine wpAny_bind (wpAny_rule ?_)
  refine wpAny_bind (wpAny_tryCatch ?_)
  refine own_iter I T IT hr hp hl (SqT.of hw) fun it s' h1 h2 I2 => ?_
  refine wpAny_bind (wpAny_runValue (codeAny_mono (ci_loop hr.hd hu h1 h2 hw hd rv sd hok _ 0 rfl (Nat.zero_le _) s' I2) fun r s2 q => ?_))
  cases r with
  | error e => exact q.elim
  | ok fl =>
    cases fl with
    | ret z =>
      obtain ⟨rfl, I3⟩ := q
      exact wpAny_pure (h s2 I3)
    | next => exact q.elim
    | brk => exact q.elim
    | cont => exact q.elim
def rInOwn (K : PySem.W.Frag) (c fld : Str) : R2 := fun x y H Q => ∃ (p dx tw : Addr) (fs : List (Str × V)) (ws : List Str) (d : PyData), y = .ref p ∧ H p = some (.ins (He.ga K c) dx fs) ∧ fs.lookup fld = some (.ref tw) ∧ H tw = some (.tup (ws.map V.str)) ∧ Dp K H x d ∧ SeqAt.shaped d = true ∧ (∀ w ∈ ws, PyData.strOk w = true) ∧
  Q (.bl (ws.any fun w => PyData.eqv (.str w) d)) H
def rNotInOwn (K : PySem.W.Frag) (c fld : Str) : R2 := fun x y H Q => ∃ (p dx tw : Addr) (fs : List (Str × V)) (ws : List Str) (d : PyData), y = .ref p ∧ H p = some (.ins (He.ga K c) dx fs) ∧ fs.lookup fld = some (.ref tw) ∧ H tw = some (.tup (ws.map V.str)) ∧ Dp K H x d ∧ SeqAt.shaped d = true ∧ (∀ w ∈ ws, PyData.strOk w = true) ∧
  Q (.bl (!ws.any fun w => PyData.eqv (.str w) d)) H
theorem op_inOwn {c fld : Str} {f : Addr} (IT : IterOk X.prog X.w X.K X.mg X.base f fld) (T : ItCl X.K (He.ga X.K c) f fld) (hr : Room 1 X.A) (hu : X.A.units + 65 < cLine) : OpR X (compareOp .In) (rInOwn X.K c fld) := by
  intro pins s σ H x y v u Q I rx ry h
  obtain ⟨p, dx, tw, fs, ws, d, rfl, hp, hl, hw, hd, sd, hok, q⟩ := h
  cases ry
  show wpAny _ _ (contains (.ref p) v >>= _) _ _ _
  refine wpAny_bind (own_contains I T IT hr hu hp hl hw hd rx sd hok fun s' I' => ?_)
  exact wpAny_pure ⟨.bl _, H, I', rfl, q⟩
theorem op_notInOwn {c fld : Str} {f : Addr} (IT : IterOk X.prog X.w X.K X.mg X.base f fld) (T : ItCl X.K (He.ga X.K c) f fld) (hr : Room 1 X.A) (hu : X.A.units + 65 < cLine) : OpR X (compareOp .NotIn) (rNotInOwn X.K c fld) := by
  intro pins s σ H x y v u Q I rx ry h
  obtain ⟨p, dx, tw, fs, ws, d, rfl, hp, hl, hw, hd, sd, hok, q⟩ := h
  cases ry
  show wpAny _ _ (contains (.ref p) v >>= _) _ _ _
  refine wpAny_bind (own_contains I T IT hr hu hp hl hw hd rx sd hok fun s' I' => ?_)
  exact wpAny_pure ⟨.bl _, H, I', rfl, q⟩
/-! ### a method run at any place below the body -/
theorem run_at {k : Nat} {f : Addr} {fd : FuncData} {ps : List Str} {sp : Sp} {A : Around} (F : FnOk X.prog X.w X.K X.mg X.base (L2.CX X.prog X.w) k f fd ps sp) (hb : Binds X.K fd ps []) (hr : Room k A) (hf : A.frames = X.A.frames) (I : Inv X pins σ H s) {vs : List V} {us : List Value} (r : Vals vs us) {Q : VK} (hsp : sp vs H Q E0)
    {R : Value → Shared → Prop} {E : Value → Shared → Prop} (h : ∀ v u H' s', Inv X pins σ H' s' → RelV v u → Q v H' → R u s') : wpAny (model X.prog X.w) A (call (.ref f) us) R E s := by
  have e0 : Env0 X.prog X.w X.K X.mg X.base A X.stack s H := by
    have e := I.env0
    exact ⟨by rw [hf]; exact e.frames, e.mod, e.bs, e.bsz, e.funs, e.frf, e.hok, e.bare⟩
  have hl := F.len _ _ _ _ hsp
  refine wpAny_call (codeAny_mono (F.run A X.stack s H ⟨us, []⟩ us vs _ E0 hr e0 (by
    have := hb s us I.kIn (by rw [List.append_nil, ← r.length]; exact hl)
    simpa using this) r hsp) fun r s' hq => ?_)
  cases r with
  | error e => exact absurd hq (by
      intro z
      obtain ⟨_, _, _, _, _, _, _, _, _, _, _, _, q⟩ := z
      exact q)
  | ok fl =>
    cases fl with
    | ret u =>
      obtain ⟨v, H', I', rv, q⟩ := I.after hq
      exact h v u H' s' I' rv q
    | next => exact False.elim hq
    | brk => exact False.elim hq
    | cont => exact False.elim hq
/-- len(o) -/
def rLenOwn (K : PySem.W.Frag) (c : Str) (sp : Sp) : List V → Hp → VK → Prop := fun xs H Q => ∃ (p dx : Addr) (fs : List (Str × V)), xs = [.ref p] ∧ H p = some (.ins (He.ga K c) dx fs) ∧ sp [.ref p] H (fun v H' => ∃ n : Int, v = .int n ∧ (0 ≤ n ∧ n < 2 ^ 63) ∧ Q (.int n) H') E0
theorem cr_lenOwn {k : Nat} {c : Str} {ps : List Str} {sp : Sp} (M : MCal X.prog X.w X.K X.mg X.base k c "__len__" ps sp) (hr : Room (k + 1) X.A) : CallR X (.builtin "len") (rLenOwn X.K c sp) := by
  intro pins s σ H xs us Q I r h
  obtain ⟨p, dx, fs, rfl, hp, hs⟩ := h
  obtain ⟨u, rfl, ru⟩ := vals1 r
  cases ru
  obtain ⟨⟨fd, F, b⟩, mt⟩ := M
  obtain ⟨mA, J, _⟩ := ins_get I.hok hp
  obtain ⟨od, J, _⟩ := J.look
  obtain ⟨m, hF⟩ := I.fr
  refine PySem.W.len_K hF I.ok.mod.kin J mt.at_ mt.fn ?_
  refine run_at (A := X.A.in1) (vs := [.ref p]) F b hr.in1 rfl I (.cons rfl .nil) hs fun v u H' s' I' rv q => ?_
  obtain ⟨n, rfl, hn, q⟩ := q
  obtain ⟨t, rfl⟩ := rv
  exact ⟨hn, .int n, H', I'.tok _, ⟨_, rfl⟩, q⟩
/-- o == y -/
def rEqOwn (K : PySem.W.Frag) (c : Str) (sp : Sp) : R2 := fun x y H Q => ∃ (p dx : Addr) (fs : List (Str × V)) (tb : Value), x = .ref p ∧ H p = some (.ins (He.ga K c) dx fs) ∧ TyX K H y tb ∧ PySem.W.notFirst K (He.ga K c) tb = true ∧ sp [.ref p, y] H (fun v H' => ∃ b, v = .bl b ∧ Q (.bl b) H') E0
theorem op_eqOwn {k : Nat} {c : Str} {ps : List Str} {sp : Sp} (M : MCal X.prog X.w X.K X.mg X.base k c "__eq__" ps sp) (hr : Room k X.A) : OpR X (compareOp .Eq) (rEqOwn X.K c sp) := by
  intro pins s σ H x y v u Q I rx ry h
  obtain ⟨p, dx, fs, tb, rfl, hp, ty, nf, hs⟩ := h
  cases rx
  obtain ⟨⟨fd, F, b⟩, mt⟩ := M
  obtain ⟨mA, J, _⟩ := ins_get I.hok hp
  obtain ⟨od, J, _⟩ := J.look
  obtain ⟨m, hF⟩ := I.fr
  obtain ⟨P, Z, hP, _⟩ := kit_of I ry ty
  show wpAny (model X.prog X.w) X.A (richCompare .Eq (.ref p) u) (EP X pins σ Q) X.xe s
  refine PySem.W.cmp_K (op := .Eq) hr.units0 hF I.ok.mod.kin J (Z.ty _ _ I.kIn hP) nf mt.at_ mt.fn ?_
  refine run_at (vs := [.ref p, y]) F b hr rfl I (.cons rfl (.cons ry .nil)) hs fun v u H' s' I' rv q => ?_
  obtain ⟨b, rfl, q⟩ := q
  cases rv
  exact ⟨.bl b, H', I', rfl, q⟩
end
end WK
namespace PySem.W
open PySem PySem.Calls PyProof.Rows Builtin
section
variable {prog : Program} {w : World} {A : Around} {E : Value → Shared → Prop} {s : Shared} {K : Frag} {x C L f : Addr} {h₀ : Heap} {m : Str → Option Value} {ox : Obj} {od : Option Obj} {name : Str} {b tb : Value}
theorem wk_ifBound {M : Model} {id : String} {args : List Value} {Q : Option Value → Shared → Prop} (X : K.In s.heap) (I : InstAt s.heap x ox C od) (hs : findIn K (.ref C) name = some (some (.builtin id))) (hb : ∀ self, bindSpecial (.builtin id) self = pure (.builtin id, [self]))
    (h : wpAny M A (call (.builtin id) (.ref x :: args)) (fun v => Q (some v)) E s) : wpAny M A (callSpecialIfBound? (.ref x) name args) Q E s := by
  simp only [callSpecialIfBound?, bindSpecialIfBound?]
  refine wpAny_holding (wpAny_bind (wpAny_bind (wpAny_bind (I.type.here ((looks_findIn X hs).here ?_)))))
  refine wpAny_bind (wpAny_askSetting (wpAny_ite ?_))
  have fin : wpAny M A (call (.builtin id) ([.ref x] ++ args) >>= fun v => pure (some v)) Q E s := wpAny_bind (wpAny_mono h (fun v s' h' => wpAny_pure h') fun _ _ h' => h')
  rw [hb]
  split
  · exact wpAny_bind (wpAny_pure (wpAny_pure (by exact fin)))
  · exact wpAny_tryCatch (wpAny_bind (wpAny_pure (wpAny_pure (by exact fin))))
theorem wk_ne {Q : Value → Shared → Prop} (hu : A.units + 1 < cLine) (F : Fr h₀ L s.heap m) (X₀ : K.In h₀) (I : InstAt s.heap x ox C od) (hb : Looks (model prog w) s.heap (typeOf b) tb) (hn : notFirst K C tb = true)
    (hne : findIn K (.ref C) "__ne__" = some (some (.builtin "object.__ne__"))) (hob : subIn K (.ref C) (.type "object") = some true) (hs : findIn K (.ref C) "__eq__" = some (some (.ref f))) (hf : isFn K (.ref f) = true)
    (h : wpAny (model prog w) A.in1 (call (.ref f) [.ref x, b]) (fun v s' => ∃ r, v = .bool r ∧ Q (.bool (!r)) s') E s) : wpAny (model prog w) A (richCompare .NotEq (.ref x) b) Q E s := by
  have X := X₀.keeps F.keep
  have sub : Looks (model prog w) s.heap (isInstance (.ref x) (.type "object")) true := (I.type (M := model prog w)).andThen (looks_subIn X hob)
  have body : ∀ {R : Fin → Shared → Prop} {E' : Value → Shared → Prop}, wpAny (model prog w) A.in1 (call (.ref f) [.ref x, b]) (fun v s' => ∃ r, v = .bool r ∧ R (.done (.ret (.bool (!r)))) s') E' s → wpAny (model prog w) A.in1 (Builtin.«object.__ne__» ⟨[.ref x, b], []⟩) R E' s := by
    intro R E' hc
    unfold Builtin.«object.__ne__»
    repeat (first
      | with_reducible refine wpAny_cRoomFor hu ?_
      | (refine wpAny_bind (m := callSpecialIfBound? (.ref x) (Str.ofString "__eq__") [b])
          (ifBound_K X I hs hf (wpAny_mono hc (fun r s' hr => by
            obtain ⟨b, rfl, hq⟩ := hr
            repeat (first | exact hq | exact wpAny_pure hq | exact wpAny_truthy_bool hq | (refine wpAny_bind (m := truthy (.bool _)) (wpAny_truthy_bool ?_)) | wp_step)) fun _ _ e => e)))
      | wp_step)
  have one : wpAny (model prog w) A (tryCompare (.ref x) "__ne__" b) (fun r s' => ∃ v, r = some v ∧ Q v s') E s := by
    unfold tryCompare
    refine wpAny_bind (wk_ifBound X I hne PySem.F.cmp_object.ne.bind ?_)
    refine wpAny_call (codeAny_call_builtin PySem.F.cmp_object.ne.plain PySem.F.cmpEntry_ne ?_)
    refine check_slot PySem.F.cmpKind_ne PySem.F.cmpSplit_ne sub (PySem.F.cmpArgs_ne _ _) ?_
    refine body (wpAny_mono h (fun v s' hv => ?_) fun _ _ e => e)
    obtain ⟨r, rfl, hq⟩ := hv
    exact ⟨r, rfl, wpAny_pure ⟨_, rfl, hq⟩⟩
  unfold richCompare
  simp only [oneThing_ref]
  refine wpAny_holding (wpAny_bind (wpAny_cRoomFor (Nat.lt_of_succ_lt hu) ?_))
  refine wpAny_bind (I.type.here (wpAny_bind (hb.here ?_)))
  split
  · rename_i q
    have e : subIn K tb (.ref C) = some false := by
      rcases Bool.or_eq_true_iff.mp hn with e | e
      · rw [beq_iff_eq.mp e] at q; simp at q
      · exact beq_iff_eq.mp e
    refine wpAny_bind ((looks_subIn X e).here ?_)
    simp only [Bool.false_eq_true, if_false]
    refine wpAny_bind (wpAny_mono one (fun r s' z => ?_) fun _ _ e => e)
    obtain ⟨v, rfl, hq⟩ := z
    exact wpAny_pure hq
  · refine wpAny_bind (wpAny_pure ?_)
    simp only [Bool.false_eq_true, if_false]
    refine wpAny_bind (wpAny_mono one (fun r s' z => ?_) fun _ _ e => e)
    obtain ⟨v, rfl, hq⟩ := z
    exact wpAny_pure hq
end
end PySem.W
namespace WK
open PySem L2 PySem.Spec PyProof.Rows
section
variable {X : Cx} {pins : List (Addr × Obj)} {σ : L2.St} {H : Hp} {s : Shared}
structure NeCl (K : PySem.W.Frag) (C : Addr) : Prop where
  ne : PySem.W.findIn K (.ref C) "__ne__" = some (some (.builtin "object.__ne__"))
  ob : PySem.W.subIn K (.ref C) (.type "object") = some true
/-- o != y -/
def rNeOwn (K : PySem.W.Frag) (c : Str) (sp : Sp) : R2 := fun x y H Q => ∃ (p dx : Addr) (fs : List (Str × V)) (tb : Value), x = .ref p ∧ H p = some (.ins (He.ga K c) dx fs) ∧ TyX K H y tb ∧ PySem.W.notFirst K (He.ga K c) tb = true ∧ sp [.ref p, y] H (fun v H' => ∃ b, v = .bl b ∧ Q (.bl (!b)) H') E0
theorem op_neOwn {k : Nat} {c : Str} {ps : List Str} {sp : Sp} (M : MCal X.prog X.w X.K X.mg X.base k c "__eq__" ps sp) (N : NeCl X.K (He.ga X.K c)) (hr : Room (k + 1) X.A) : OpR X (compareOp .NotEq) (rNeOwn X.K c sp) := by
  intro pins s σ H x y v u Q I rx ry h
  obtain ⟨p, dx, fs, tb, rfl, hp, ty, nf, hs⟩ := h
  cases rx
  obtain ⟨⟨fd, F, b⟩, mt⟩ := M
  obtain ⟨mA, J, _⟩ := ins_get I.hok hp
  obtain ⟨od, J, _⟩ := J.look
  obtain ⟨m, hF⟩ := I.fr
  obtain ⟨P, Z, hP, _⟩ := kit_of I ry ty
  show wpAny (model X.prog X.w) X.A (richCompare .NotEq (.ref p) u) (EP X pins σ Q) X.xe s
  refine PySem.W.wk_ne (by have := hr.un; omega) hF I.ok.mod.kin J (Z.ty _ _ I.kIn hP) nf N.ne N.ob mt.at_ mt.fn ?_
  refine run_at (A := X.A.in1) (vs := [.ref p, y]) F b hr.in1 rfl I (.cons rfl (.cons ry .nil)) hs fun v u H' s' I' rv q => ?_
  obtain ⟨b, rfl, q⟩ := q
  cases rv
  exact ⟨b, rfl, .bl (!b), H', I', rfl, q⟩
end
end WK
namespace WK
open PySem L2 PySem.Spec PyProof.Rows
/-! ### dicts compared -/
def dEq (ls ks : List (Key × V)) : Bool := ks.all fun p => match valV ls p.1 with
  | some y => eqV p.2 y
  | Option.none => false
theorem hits_dEq {A : Around} {s : Shared} {ls : List (Key × V)} {vb : List (Key × Value)} (rb : KV ls vb) (hf : ∀ k y, valV ls k = some y → flatV y = true) {ks : List (Key × V)} {va : List (Key × Value)} (ra : KV ks va) :
    (∀ p ∈ ks, flatV p.2 = true) → PySem.W.KeqHits A s vb va (dEq ls ks) := by
  unfold KV at ra
  induction ra with
  | nil => intro _; exact .nil
  | @cons p q ps qs h t ih =>
    intro hp
    obtain ⟨h1, h2⟩ := h
    have f := hp p List.mem_cons_self
    obtain ⟨k, v⟩ := q
    have h1' : p.1 = k := h1
    have rr := rb.val p.1
    have ih' := ih fun p' hm => hp p' (List.mem_cons_of_mem _ hm)
    cases hv : valV ls p.1 with
    | none =>
      rw [hv] at rr
      have e : dEq ls (p :: ps) = false := by unfold dEq; rw [List.all_cons, hv]; rfl
      rw [e]
      refine .miss ?_
      rw [← h1']
      revert rr
      cases valueAt vb p.1 with
      | none => intro _; rfl
      | some y => intro z; exact z.elim
    | some y =>
      rw [hv] at rr
      obtain ⟨u, hu, ru⟩ := rr.some_of
      have e : dEq ls (p :: ps) = (eqV p.2 y && dEq ls ps) := by unfold dEq; rw [List.all_cons, hv]
      rw [e]
      rw [h1'] at hu
      exact .hit hu (eqAt_V h2 ru f (hf _ _ hv)) ih'
def rEqDs : R2 := fun x y H Q => ∃ (a b : Addr) (ks ls : List (Key × V)), x = .ref a ∧ y = .ref b ∧ H a = some (.dK ks) ∧ H b = some (.dK ls) ∧ (∀ p ∈ ks, flatV p.2 = true) ∧ (∀ k z, valV ls k = some z → flatV z = true) ∧ Q (.bl (ks.length == ls.length && dEq ls ks)) H
theorem op_eqDs {X : Cx} (hu : X.A.units < cLine) : OpR X (compareOp .Eq) rEqDs := by
  intro pins s σ H x y v u Q I rx ry h
  obtain ⟨a, b, ks, ls, rfl, rfl, ea, eb, hp, hf, q⟩ := h
  obtain rfl : v = Value.ref a := rx
  obtain rfl : u = Value.ref b := ry
  obtain ⟨_, ya, va, ra, da⟩ := (show ObjOk X.prog X.w H s.heap a (.dK ks) from I.hok a _ ea)
  obtain ⟨_, yb, vb, rb, db⟩ := (show ObjOk X.prog X.w H s.heap b (.dK ls) from I.hok b _ eb)
  refine PySem.W.keq_eq (knd := mixKind X.prog X.w) (r := dEq ls ks) ya yb da db hu (fun _ => hits_dEq rb hf ra hp) (fin_bl I q ?_)
  rw [← ra.length, ← rb.length]
def rNeDs : R2 := fun x y H Q => ∃ (a b : Addr) (ks ls : List (Key × V)), x = .ref a ∧ y = .ref b ∧ H a = some (.dK ks) ∧ H b = some (.dK ls) ∧ (∀ p ∈ ks, flatV p.2 = true) ∧ (∀ k z, valV ls k = some z → flatV z = true) ∧ Q (.bl (!(ks.length == ls.length && dEq ls ks))) H
theorem op_neDs {X : Cx} (hu : X.A.units < cLine) : OpR X (compareOp .NotEq) rNeDs := by
  intro pins s σ H x y v u Q I rx ry h
  obtain ⟨a, b, ks, ls, rfl, rfl, ea, eb, hp, hf, q⟩ := h
  obtain rfl : v = Value.ref a := rx
  obtain rfl : u = Value.ref b := ry
  obtain ⟨_, ya, va, ra, da⟩ := (show ObjOk X.prog X.w H s.heap a (.dK ks) from I.hok a _ ea)
  obtain ⟨_, yb, vb, rb, db⟩ := (show ObjOk X.prog X.w H s.heap b (.dK ls) from I.hok b _ eb)
  refine PySem.W.keq_ne (knd := mixKind X.prog X.w) (r := dEq ls ks) ya yb da db hu (fun _ => hits_dEq rb hf ra hp) (fin_bl I q ?_)
  rw [← ra.length, ← rb.length]
/-! ### __iter__ that hands back iter(self.fld) -/
theorem iter_of {P : Program} {w : World} {K : PySem.W.Frag} {mg : Str → Option Value} {base : Heap} {x qual fld self : Str} {params : Arguments} {scope : Scope} {f : Addr} {fd : FuncData} {p1 p2 p3 p4 p5 : Pos}
    (F : FunD K x qual params [.Return (some (.Call (.Name "iter" p1) [.Attribute (.Name self p2) fld p3] [] p4)) p5] scope [] [] f fd) (S : FnScope [self] [self] scope) (hbd : L2.Binds K fd [self] []) (hi : mg "iter" = none)
    (hg : scope.names.lookup ("iter" : Str) = some .globalImplicit) (hv : Vis scope self) (hb : ∀ env, attributeBase (.Name self p2) fld env (eval (.Name self p2) env) = eval (.Name self p2) env) (hd : (self == ("__debug__" : Str)) = false := by decide) (hcd : (self == ("__classdict__" : Str)) = false := by decide) : IterOk P w K mg base f fld := by
  intro A outer s H p C dx tw fs xs Q hr e0 hp hc hn hl hs hq
  obtain ⟨oc, od, dV, kV, doc, pm, an, cdv, ct, osl, rfl, lk, hcd', _, _⟩ := F.ex
  refine LamX.run_ofS (CX := L2.CX P w) (k := 0) (N := [self]) (ps := [self]) (us := [.ref p]) (vs := [.ref p]) lk hcd' S hr e0 (hbd s [.ref p] (e0.mod.kin.keeps fun b o e => (e0.bs b o e).1) rfl) (.cons rfl .nil) rfl fun hr' => ?_
  refine ⟨_, pss_one (ps_ret (pe_callB call_iterTN hg hi bt_iter (pa_cons (pe_fld (pe_var (X := cxOf (L2.CX P w) P w K mg base [self] qual scope f cdv A outer s H E0) (i := 0) rfl hv hd hcd) (hb _)) pa_nil))), ?_⟩
  refine ⟨.ref p, rfl, p, C, dx, fs, .ref tw, rfl, hp, hc, hn, hl, tw, xs, rfl, hs, fun it h1 h2 => hq it h1 h2⟩
end WK
namespace WK
open PySem L2
local macro_rules | `(tactic| walk_at "kb") => `(tactic| first | exact kb_str_str | exact kb_str_int | exact kb_str_bool | exact kb_str_list | exact kb_str_tuple | exact kb_str_dict | exact kb_int_str | exact kb_int_int | exact kb_int_bool | exact kb_int_list | exact kb_int_tuple | exact kb_int_dict | exact kb_bool_str | exact kb_bool_int | exact kb_bool_bool | exact kb_bool_list | exact kb_bool_tuple | exact kb_bool_dict | exact kb_list_str | exact kb_list_int | exact kb_list_bool | exact kb_list_list | exact kb_list_tuple | exact kb_list_dict | exact kb_tuple_str | exact kb_tuple_int | exact kb_tuple_bool | exact kb_tuple_list | exact kb_tuple_tuple | exact kb_tuple_dict | exact kb_dict_str | exact kb_dict_int | exact kb_dict_bool | exact kb_dict_list | exact kb_dict_tuple | exact kb_dict_dict | exact kb_NoneType_str | exact kb_NoneType_int | exact kb_NoneType_bool | exact kb_NoneType_list | exact kb_NoneType_tuple | exact kb_NoneType_dict)
local macro_rules | `(tactic| walk_at "hn") => `(tactic| first
  | assumption
  | ((with_reducible refine' Ex.nn ?hne ?hnh); (case hnh => assumption); (case hne => walk_at "ex"))
  | ((with_reducible refine' Kp.nn ?hnk ?hnb ?hnh); (case hnh => assumption); (case hnk => assumption); (case hnb => assumption))
  | ((with_reducible refine del_none ?_); walk_at "hn")
  | ((with_reducible refine' Eq.trans (upd_ne ?hnq) ?_); (case hnq => walk_at "ne"); walk_at "hn"))
local macro_rules | `(tactic| walk_at "ne") => `(tactic| first
  | assumption
  | exact Ne.symm (by assumption)
  | exact Bag.ne (by assumption) (by assumption)
  | exact Ne.symm (Bag.ne (by assumption) (by assumption))
  | exact ne_of_none (by assumption) (by assumption)
  | exact Ne.symm (ne_of_none (by assumption) (by assumption)))
local macro_rules | `(tactic| walk_at "ex") => `(tactic| first
  | assumption
  | with_reducible exact Ex.refl _
  | ((with_reducible refine' Ex.mut ?exm ?exn); (case exn => walk_at "hn"); (case exm => walk_at "ex"))
  | ((with_reducible refine' Ex.trans ?exa ?exb); (case exb => assumption); (case exa => walk_at "ex"))
  | ((with_reducible refine' Ex.trans ?exa (Ex.new ?exn)); (case exn => walk_at "hn"); (case exa => walk_at "ex")))
local macro_rules | `(tactic| walk_at "hp") => `(tactic| first
  | assumption
  | with_reducible exact upd_same
  | ((with_reducible refine' up_new ?hpn ?hpr); (case hpn => walk_at "hn"); (case hpr => walk_at "hp"))
  | ((with_reducible refine' up_ne ?hpn ?hpr); (case hpr => walk_at "hp"); (case hpn => walk_at "ne"))
  | ((with_reducible refine' hp_kp ?hph ?hpk); (case hph => assumption); (case hpk => assumption))
  | ((with_reducible refine' hp_del ?hph); (case hph => assumption))
  | ((with_reducible refine' hp_ex ?hph ?hpe); (case hph => assumption); (case hpe => walk_at "ex")))
local macro_rules | `(tactic| walk_at "sq") => `(tactic| first
  | assumption
  | ((with_reducible refine' SqL.of ?sof); (case sof => walk_at "hp"))
  | ((with_reducible refine' SqT.of ?sof); (case sof => walk_at "hp"))
  | ((with_reducible refine' sl_new ?hpn ?hpr); (case hpn => walk_at "hn"); (case hpr => walk_at "sq"))
  | ((with_reducible refine' st_new ?hpn ?hpr); (case hpn => walk_at "hn"); (case hpr => walk_at "sq"))
  | ((with_reducible refine' sl_kp ?hph ?hpk); (case hph => assumption); (case hpk => assumption))
  | ((with_reducible refine' st_kp ?hph ?hpk); (case hph => assumption); (case hpk => assumption))
  | ((with_reducible refine' sl_del ?hph); (case hph => assumption))
  | ((with_reducible refine' st_del ?hph); (case hph => assumption))
  | ((with_reducible refine' sl_ex ?hph ?hpe); (case hph => assumption); (case hpe => walk_at "ex"))
  | ((with_reducible refine' st_ex ?hph ?hpe); (case hph => assumption); (case hpe => walk_at "ex")))
local macro_rules | `(tactic| walk_at "ty") => `(tactic| first
  | exact TyX.base (.str _)
  | exact TyX.base (.int _)
  | exact TyX.base (.bl _)
  | exact TyX.base .non
  | exact ty_L (by walk_at "sq")
  | exact ty_T (by walk_at "sq"))
local macro_rules | `(tactic| walk_at "sz") => `(tactic| first | omega | exact sz_le (by omega) | exact sz_lt (by omega) | (refine sz_le ?_; simp; omega) | (refine sz_lt ?_; simp; omega) | (refine sz_le ?_; simp))
local macro_rules | `(tactic| walk_at "side") => `(tactic| first | assumption | omega | (refine ⟨?_, ?_⟩ <;> omega) | (exact .inl ⟨by omega, by omega⟩) | (exact .inr ⟨by omega, by omega⟩) | (exact ⟨by decide, by decide, by decide⟩) | rfl)
local macro_rules | `(tactic| walk_at "g1") => `(tactic| first
  | with_reducible first
    | refine g_seq ?_ | refine g_asg ?_ | refine g_name ?_ | refine g_op ?_ | refine g_c ?_ | refine g_cons ?_ | refine g_nil ?_ | refine g_cb ?_ | refine g_call ?_ | refine g_ret ?_ | refine g_drop ?_ | refine g_next ?_
    | refine g_ifS ?_ | refine g_if ?_ | refine g_test ?_ | refine g_tB ?_ | refine g_bl ?_ | refine g_and ?_ | refine g_or ?_ | refine g_not ?_ | refine g_andV ?_ | refine g_orV ?_ | refine g_notV ?_
    | refine g_un ?_ | refine g_neg ?_ | refine g_rI0 ?_ | refine g_int1 ?_ | refine g_abs ?_ | refine g_mx2 ?_ | refine g_mn2 ?_ | refine g_par ?_ | refine g_par2 ?_ | refine g_chain ?_
    | refine g_for ?_ | refine g_lc ?_ | refine g_dc ?_ | refine g_iList ?_ | refine g_iTup ?_ | refine g_iStr ?_ | refine g_iRng1 ?_ | refine g_iEnum ?_ | refine g_itS ?_ | refine g_gcons ?_ | refine g_gnil ?_
    | refine g_dget ?_ | refine g_dput ?_ | refine g_dnew ?_ | refine g_inSg ?_ | refine g_notNn ?_ | refine g_isNn ?_ | refine g_sl ?_ | refine g_nopart ?_ | refine g_part ?_ | refine g_parti ?_ | refine g_meth ?_ | refine g_make ?_ | refine g_fldE ?_ | refine g_sfld ?_
    | refine g_sub ?_ | refine g_lst ?_ | refine g_tup ?_ | refine g_bm ?_ | refine g_bm0 ?_ | refine g_tyS ?_ | refine g_yes ?_ | refine iteT ?_ | refine iteF ?_ | refine iteNT ?_ | refine iteNF ?_
  | ((with_reducible refine' g_var ?ev ?_); (case ev => rfl))
  | ((with_reducible refine' g_rI ?ec ?_); (case ec => walk_at "side"))
  | ((with_reducible refine' g_ixL ?es ?ea ?_); (case es => walk_at "sq"); (case ea => first | rfl | assumption))
  | ((with_reducible refine' g_ixT ?es ?ea ?_); (case es => walk_at "sq"); (case ea => first | rfl | assumption))
  | ((with_reducible refine' g_lenL ?es ?_); (case es => walk_at "sq"))
  | ((with_reducible refine' g_lenT ?es ?_); (case es => walk_at "sq"))
  | ((with_reducible refine' g_lenS ?es ?_); (case es => walk_at "sz"))
  | ((with_reducible refine' g_lenD ?es ?_); (case es => walk_at "hp"))
  | ((with_reducible refine' g_listL ?es ?_); (case es => walk_at "sq"))
  | ((with_reducible refine' g_listT ?es ?_); (case es => walk_at "sq"))
  | ((with_reducible refine' g_tupL ?es ?_); (case es => walk_at "sq"))
  | ((with_reducible refine' g_tyL ?es ?_); (case es => walk_at "sq"))
  | ((with_reducible refine g_eqS ?es ?_); (case es => rfl))
  | ((with_reducible refine g_neS ?es ?_); (case es => rfl))
  | ((with_reducible refine' g_inDcS ?es ?_); (case es => walk_at "hp"))
  | ((with_reducible refine' g_notInDcS ?es ?_); (case es => walk_at "hp"))
  | ((with_reducible refine' g_dgetS ?es ?ev ?_); (case es => walk_at "hp"); (case ev => first | assumption | walk_at "dv"))
  | ((with_reducible refine' g_dputS ?es ?el ?_); (case es => walk_at "hp"); (case el => walk_at "sz"))
  | ((with_reducible refine' g_fldI ?es ?ec ?en ?el ?_); (case es => walk_at "hp"); (case ec => assumption); (case en => assumption); (case el => first | assumption | walk_at "fl"))
  | ((with_reducible refine' g_methI ?es ?em ?_); (case es => walk_at "hp"); (case em => first | assumption | walk_at "fl"))
  | ((with_reducible refine' g_sfldI ?es ?ec ?en ?el ?_); (case es => walk_at "hp"); (case ec => assumption); (case en => assumption); (case el => first | assumption | walk_at "fl"))
  | ((with_reducible refine' g_isi ?et ?ek ?_); (case et => walk_at "ty"); (case ek => walk_at "kb"))
  | ((with_reducible refine g_addT ?el ?_); (case el => walk_at "sz"))
  | ((with_reducible refine' g_cat ?e1 ?e2 ?el ?_); (case e1 => walk_at "hp"); (case e2 => walk_at "hp"); (case el => walk_at "sz"))
  | ((with_reducible refine' g_slL ?es ?_); (case es => walk_at "sq"))
  | ((with_reducible refine g_slS ?el ?_); (case el => walk_at "sz"))
  | ((with_reducible refine' g_itL ?es ?_); (case es => walk_at "sq"))
  | ((with_reducible refine' g_itT ?es ?_); (case es => walk_at "sq"))
  | ((with_reducible refine' g_itE ?es ?_); (case es => walk_at "sq"))
  | ((with_reducible refine' g_itR ?es ?_); (case es => (constructor <;> omega)))
  | ((with_reducible refine' g_gtup ?es ?en ?_); (case es => walk_at "sq"); (case en => first | rfl | assumption))
  | ((with_reducible refine' g_setL ?es ?ej ?_); (case es => walk_at "hp"); (case ej => first | rfl | assumption))
  | ((with_reducible refine' g_app ?es ?el ?_); (case es => walk_at "hp"); (case el => walk_at "sz")))
local macro_rules | `(tactic| walk_at "go") => `(tactic| repeat (walk_at "g1"))
abbrev N_l_bag : List Str := ["_law_script", "_law_at", "_law_salt", "_law_cell", "_law_blend", "_law_k", "_law_each"]
def t_l_bag (K : PySem.W.Frag) : TS :=
  (tSeq (tAsg (tIf (tTest (tOp rLtI (tVar 1) (tCB (rLenU K) (tCons (tVar 0) tNil)))) (tOp (rIx K) (tVar 0) (tVar 1)) (tC (.int 0))) (gName 3))
  (tSeq (tAsg (tOp rAddI (tVar 2) (tOp rMulI (tC (.int 1009)) (tVar 1))) (gName 4))
  (tSeq (tFor (iEnum K (tCons (tSl (rSlL K) (tVar 0) tNoPart (tPart (tC (.int 63)))) tNil)) (gTup K 2 (gCons (gName 5) (gCons (gName 6) gNil))) (tAsg (tOp rModI (tCB rInt1 (tCons (tOp rAddI (tOp rAddI (tOp rAddI (tOp rMulI (tVar 4) (tC (.int 44497))) (tOp rModI (tCB rInt1 (tCons (tVar 6) tNil)) (tC (.int 2147483549)))) (tOp rMulI (tC (.int 71)) (tVar 5))) (tC (.int 9))) tNil)) (tC (.int 2147483549))) (gName 4)))
  (tRet (tLst (tCons (tIf (tTest (tOp rGeI (tCB rAbs (tCons (tVar 3) tNil)) (tOp rPowI (tC (.int 10)) (tC (.int 18))))) (tCB rAbs (tCons (tVar 3) tNil)) (tC (.int 0))) (tCons (tVar 4) tNil)))))))
def sp_l_bag (K : PySem.W.Frag) : Sp := fun vs H Q _ => ∃ (sc : Addr) (xs : List Int) (a z : Int), vs = [.ref sc, .int a, .int z] ∧ SqL K H sc (xs.map V.int) ∧ 0 ≤ a ∧ 0 ≤ z ∧
  ∀ (p : Addr) (H' : Hp), H p = none → Ex H H' → Bag H' p → Q (.ref p) H'
theorem len_l_bag {K : PySem.W.Frag} {vs : List V} {H : Hp} {Q : VK} {E : XK} (h : sp_l_bag K vs H Q E) : vs.length = 3 := by obtain ⟨_, _, _, _, rfl, _⟩ := h; rfl
theorem cutV_mem {xs : List V} {lo hi : Option Int} {x : V} (h : x ∈ cutV xs lo hi) : x ∈ xs := List.mem_of_mem_drop (List.mem_of_mem_take h)
theorem pure_l_bag {K : PySem.W.Frag} (vs : List V) (H : Hp) (Q : VK) (E : XK) (h : sp_l_bag K vs H Q E) : t_l_bag K { nx := fun _ H' => Q .non H', rt := Q } (start N_l_bag vs) H := by
  obtain ⟨sc, xs, a, z, rfl, hs, ha, hz, k⟩ := h
  have rest : ∀ c : Int, (tSeq (tAsg (tOp rAddI (tVar 2) (tOp rMulI (tC (.int 1009)) (tVar 1))) (gName 4))
  (tSeq (tFor (iEnum K (tCons (tSl (rSlL K) (tVar 0) tNoPart (tPart (tC (.int 63)))) tNil)) (gTup K 2 (gCons (gName 5) (gCons (gName 6) gNil))) (tAsg (tOp rModI (tCB rInt1 (tCons (tOp rAddI (tOp rAddI (tOp rAddI (tOp rMulI (tVar 4) (tC (.int 44497))) (tOp rModI (tCB rInt1 (tCons (tVar 6) tNil)) (tC (.int 2147483549)))) (tOp rMulI (tC (.int 71)) (tVar 5))) (tC (.int 9))) tNil)) (tC (.int 2147483549))) (gName 4)))
  (tRet (tLst (tCons (tIf (tTest (tOp rGeI (tCB rAbs (tCons (tVar 3) tNil)) (tOp rPowI (tC (.int 10)) (tC (.int 18))))) (tCB rAbs (tCons (tVar 3) tNil)) (tC (.int 0))) (tCons (tVar 4) tNil)))))) { nx := fun _ H' => Q .non H', rt := Q } [some (.ref sc), some (.int a), some (.int z), some (.int c), none, none, none] H := by
    intro c
    walk_at "go"
    intro p hp
    walk_at "go"
    refine for_E (xs := cutV (xs.map V.int) Option.none (some 63)) (fun i σ' H' => ∃ (bl : Int) (v w : Option V), σ' = [some (.ref sc), some (.int a), some (.int z), some (.int c), some (.int bl), v, w] ∧ Ex H H' ∧ H' p = some (.lst (cutV (xs.map V.int) Option.none (some 63))) ∧ 0 ≤ bl) ?_ ?_ ?_ ?_
    · exact ⟨_, _, _, rfl, Ex.new hp, upd_same, by omega⟩
    · rintro i σ' H' ⟨_, _, _, _, _, e, _⟩
      exact SqL.of e
    · rintro i x _ H1 T hx ⟨bl, v, w, rfl, e1, hl, hb⟩ hT
      obtain ⟨y, _, rfl⟩ := List.mem_map.mp (cutV_mem (List.mem_of_getElem? hx))
      have hT2 : upd H1 T (.tup [.int (i : Nat), .int y]) T = some (.tup [.int (i : Nat), .int y]) := upd_same
      walk_at "go"
      exact ⟨_, _, _, rfl, e1.trans (Ex.new hT), up_new hT hl, Int.emod_nonneg _ (by decide)⟩
    · rintro _ H1 ⟨bl, v, w, rfl, e1, hl, hb⟩
      walk_at "go"
      refine iteD (fun h => ?_) (fun h => ?_)
      · walk_at "go"
        refine ⟨sz_le (by show 2 ≤ _; omega), fun q hq => ?_⟩
        exact k q _ (e1.nn hq) (e1.trans (Ex.new hq)) ⟨_, bl, upd_same, by split <;> omega, hb⟩
      · walk_at "go"
        refine ⟨sz_le (by show 2 ≤ _; omega), fun q hq => ?_⟩
        exact k q _ (e1.nn hq) (e1.trans (Ex.new hq)) ⟨0, bl, upd_same, by omega, hb⟩
  unfold t_l_bag
  walk_at "go"
  refine iteD (fun h => ?_) (fun h => ?_)
  · obtain ⟨j, rfl⟩ : ∃ j : Nat, a = (j : Int) := ⟨a.toNat, by omega⟩
    have hj : j < xs.length := by simpa using h
    have hv : (xs.map V.int)[j]? = some (.int xs[j]) := by simp [hj]
    have hat : atI (xs.map V.int) (j : Int) = some (.int xs[j]) := atI_nat hv
    iterate 5 (walk_at "g1")
    exact rest _
  · iterate 2 (walk_at "g1")
    exact rest 0
/-! ### a list of pairs as a dict -/
theorem merge_rows {rows : Rows} (nd : (wrs rows).Nodup) : mergeK [] (rowsK rows) = rowsK rows := by
  have key : ∀ (n : Nat), n ≤ rows.length → (rowsK (rows.take n)).foldl (fun acc kv => putK acc kv.1 kv.2) [] = rowsK (rows.take n) := by
    intro n
    induction n with
    | zero => intro _; simp [rowsK]
    | succ n ih =>
      intro hn
      have hr : rows[n]? = some rows[n] := List.getElem?_eq_getElem hn
      obtain ⟨v1, v2⟩ := rowsK_take nd hr
      have e : rowsK (rows.take (n + 1)) = rowsK (rows.take n) ++ [((Sum.inr rows[n].1 : Key), V.str rows[n].2)] := by
        unfold rowsK
        rw [List.take_add_one, hr]
        rw [List.map_append]; rfl
      rw [e, List.foldl_append, ih (by omega)]
      show putK _ _ _ = _
      rw [← e]
      exact v2
  have := key rows.length (Nat.le_refl _)
  rw [List.take_length] at this
  exact this
theorem paired_rows {K : PySem.W.Frag} {G : Hp} : ∀ {rs : List V} {rows : Rows}, rs.length = rows.length → (∀ (i : Nat) x, rs[i]? = some x → ∃ t r, x = .ref t ∧ rows[i]? = some r ∧ SqT K G t [.str r.1, .str r.2]) →
    ∃ ps : List Addr, rs = ps.map V.ref ∧ Paired (fun p kv => SqT K G p [kV kv.1, kv.2]) ps (rowsK rows)
  | [], [], _, _ => ⟨[], rfl, .nil⟩
  | x :: rs, r :: rows, hl, h => by
    obtain ⟨t, r', rfl, e, st⟩ := h 0 x rfl
    cases e
    obtain ⟨ps, e2, hp⟩ := paired_rows (rs := rs) (rows := rows) (by simpa using hl) (fun i y hy => h (i + 1) y hy)
    exact ⟨t :: ps, by rw [e2]; rfl, .cons st hp⟩
theorem g_dictRows {K : PySem.W.Frag} {H : Hp} {a : Addr} {rows : Rows} {Q : VK} (h : Dp K H (.ref a) (rowsD rows)) (nd : (wrs rows).Nodup) (k : ∀ p, H p = none → Q (.ref p) (upd H p (.dK (rowsK rows)))) : rDictP K [.ref a] H Q := by
  obtain ⟨rs, hs, hl, hat⟩ := rows_at h
  obtain ⟨ps, e, hp⟩ := paired_rows hl hat
  subst e
  refine ⟨a, ps, rowsK rows, rfl, hs, hp, ?_⟩
  rw [merge_rows nd]
  exact k
abbrev N_l_course : List Str := ["_law_rows", "_law_weir", "_law_below", "_law_found", "_law_k"]
def t_l_course (K : PySem.W.Frag) : TS :=
  (tSeq (tPar 2 3 (tCons (tCB (rDictP K) (tCons (tVar 0) tNil)) (tCons (tLst tNil) tNil)))
  (tSeq (tFor (iRng1 (tCons (tCB (rLenU K) (tCons (tVar 0) tNil)) tNil)) (gName 4) (tIfS (tTest (tOp (rNeU K) (tVar 1) (tC (.str "sea")))) (tSeq (tDrop (tBM K "list" rAppend (tVar 3) (tCons (tVar 1) tNil)))
  (tAsg (tDGet (tVar 2) (tVar 1)) (gName 1))) tNext))
  (tRet (tVar 3))))
def sp_l_course (K : PySem.W.Frag) : Sp := fun vs H Q _ => ∃ (a : Addr) (rows : Rows) (w : Str), vs = [.ref a, .str w] ∧ Dp K H (.ref a) (rowsD rows) ∧ Good rows ∧ w ∈ wrs rows ∧
  ∀ (p : Addr) (H' : Hp), H p = none → Ex H H' → H' p = some (.lst (strsV (crs rows rows.length w))) → Q (.ref p) H'
theorem len_l_course {K : PySem.W.Frag} {vs : List V} {H : Hp} {Q : VK} {E : XK} (h : sp_l_course K vs H Q E) : vs.length = 2 := by obtain ⟨_, _, _, rfl, _⟩ := h; rfl
theorem pure_l_course {K : PySem.W.Frag} (vs : List V) (H : Hp) (Q : VK) (E : XK) (h : sp_l_course K vs H Q E) : t_l_course K { nx := fun _ H' => Q .non H', rt := Q } (start N_l_course vs) H := by
  obtain ⟨a, rows, w, rfl, hD, g, hw, k⟩ := h
  obtain ⟨rs, hs, hl, hat⟩ := rows_at hD
  have h40 := g.le
  unfold t_l_course
  walk_at "go"
  refine g_dictRows hD g.nd fun d hd => ?_
  walk_at "go"
  refine ⟨Nat.zero_le _, fun q hq => ?_⟩
  have qd : d ≠ q := fun e => by subst e; rw [upd_same] at hq; cases hq
  have hq0 : H q = none := (Ex.new hd).nn hq
  walk_at "go"
  refine for_R rows.length (fun i σ' H' => ∃ (found : List Str) (u : Str) (v : Option V), σ' = [some (.ref a), some (.str u), some (.ref d), some (.ref q), v] ∧ Ex H H' ∧ H' d = some (.dK (rowsK rows)) ∧ H' q = some (.lst (strsV found)) ∧ (u = "sea" ∨ u ∈ wrs rows) ∧ found.length ≤ i ∧ crs rows rows.length w = found ++ crs rows (rows.length - i) u) ?_ ?_ ?_ (hj := by omega)
  · exact ⟨[], w, none, rfl, ((Ex.new hd).trans (Ex.new hq)), up_new hq upd_same, upd_same, .inr hw, Nat.le_refl _, rfl⟩
  · rintro i _ H1 hi ⟨found, u, v, rfl, e1, h1, h2, hu, hf, hc⟩
    walk_at "go"
    have hfl : (strsV found).length = found.length := by simp [strsV]
    refine iteN (fun hne => ?_) (fun he => ?_)
    · have hne' : u ≠ "sea" := fun e => hne (by rw [e])
      have hum : u ∈ wrs rows := by rcases hu with h | h; exact absurd h hne'; exact h
      have hv := valV_in hum
      walk_at "go"
      refine ⟨found ++ [u], low rows u, _, rfl, Ex.mut e1 hq0, by rw [upd_ne qd]; exact h1, by rw [upd_same]; simp [strsV], g.low_in hum, by simp; omega, ?_⟩
      rw [hc, show rows.length - i = (rows.length - (i + 1)) + 1 by omega]
      simp [crs, hne']
    · have he' : u = "sea" := by injection he
      walk_at "go"
      refine ⟨found, u, _, rfl, e1, h1, h2, hu, by omega, ?_⟩
      rw [hc, he', crs_sea, crs_sea]
  · rintro _ H1 ⟨found, u, v, rfl, e1, h1, h2, hu, hf, hc⟩
    walk_at "go"
    refine k q H1 hq0 e1 ?_
    rw [hc, Nat.sub_self]
    simp [crs]; exact h2
end WK
namespace WK
open PySem L2
/-! ### names, plainly -/
abbrev cl (z : Str) : List Nat := z.cps.toList
theorem cl_app (a b : Str) : cl (a ++ b) = cl a ++ cl b := by
  show (a.cps ++ b.cps).toList = _
  simp
theorem cl_len (a : Str) : a.length = (cl a).length := by
  show a.cps.size = a.cps.toList.length
  simp
theorem cl_inj {a b : Str} (h : cl a = cl b) : a = b := by
  cases a; cases b
  simp only [cl] at h
  rw [Array.toList_inj.mp h]
theorem cl_empty : cl ("" : Str) = [] := by decide +kernel
theorem cl_one (c : Nat) : cl ⟨#[c]⟩ = [c] := rfl
theorem glue_cl (ys : List Str) : cl (Txt.join "" ys) = (ys.map cl).flatten := by
  have key : ∀ (l : List Str) (init : Array Nat), (l.foldl (fun acc p => acc ++ ("" : Str).cps ++ p.cps) init).toList = init.toList ++ (l.map cl).flatten := by
    intro l
    induction l with
    | nil => intro init; simp
    | cons y l ih =>
      intro init
      have e : (init ++ ("" : Str).cps ++ y.cps).toList = init.toList ++ cl y := by
        rw [Array.toList_append, Array.toList_append]
        have := cl_empty
        simp only [cl] at this
        rw [this]; simp
      rw [List.foldl_cons, ih, e]
      simp
  cases ys with
  | nil => rfl
  | cons y ys =>
    have := key ys y.cps
    simpa [Txt.join, Builtin.Str.glued] using this
def ltr (i : Nat) : Nat := LET.cps.toList.getD i 0
theorem ltr_is : ∀ i, i < 26 → ltr i = 97 + i := by
  have : (List.range 26).all (fun i => ltr i == 97 + i) = true := by decide +kernel
  intro i hi
  have := List.all_eq_true.mp this i (List.mem_range.mpr hi)
  simpa using this
theorem LET_len : LET.cps.toList.length = 26 := by decide +kernel
theorem LET_at {i : Nat} (h : i < 26) : LET.cps.toList[i]? = some (ltr i) := by
  have h' : i < LET.cps.toList.length := by rw [LET_len]; exact h
  rw [List.getElem?_eq_getElem h']
  unfold ltr
  rw [List.getD_eq_getElem?_getD, List.getElem?_eq_getElem h']; rfl
theorem ltr_in {i : Nat} (h : i < 26) : ltr i ∈ LET.cps.toList := List.mem_of_getElem? (LET_at h)
/-- the mark of name k -/
def mkS (st m k : Nat) : Str := (⟨#[ltr ((st + 5 * k) % 26)]⟩ : Str) ++ (if m > 26 then (⟨#[ltr (k / 26)]⟩ : Str) else "")
theorem mk_cl (st m k : Nat) : cl (mkS st m k) = ltr ((st + 5 * k) % 26) :: (if m > 26 then [ltr (k / 26)] else []) := by
  unfold mkS
  rw [cl_app, cl_one]
  by_cases h : m > 26
  · rw [if_pos h, if_pos h, cl_one]; rfl
  · rw [if_neg h, if_neg h, cl_empty]; rfl
theorem mk_len (st m k : Nat) : (cl (mkS st m k)).length = if m > 26 then 2 else 1 := by
  rw [mk_cl]; split <;> rfl
theorem mk_inj {st m k j : Nat} (hm : m ≤ 40) (hk : k < m) (hj : j < m) (h : cl (mkS st m k) = cl (mkS st m j)) : k = j := by
  rw [mk_cl, mk_cl] at h
  have h1 := (List.cons.inj h).1
  have h2 := (List.cons.inj h).2
  rw [ltr_is _ (Nat.mod_lt _ (by decide)), ltr_is _ (Nat.mod_lt _ (by decide))] at h1
  by_cases hb : m > 26
  · rw [if_pos hb, if_pos hb] at h2
    have h3 := (List.cons.inj h2).1
    rw [ltr_is _ (by omega), ltr_is _ (by omega)] at h3
    omega
  · omega
theorem mk_in {st m k : Nat} (hm : m ≤ 40) (hk : k < m) : ∀ c ∈ cl (mkS st m k), c ∈ LET.cps.toList := by
  rw [mk_cl]
  intro c hc
  rcases List.mem_cons.mp hc with e | hc
  · rw [e]; exact ltr_in (Nat.mod_lt _ (by decide))
  · by_cases hb : m > 26
    · rw [if_pos hb] at hc
      have : c = ltr (k / 26) := by simpa using hc
      rw [this]; exact ltr_in (by omega)
    · rw [if_neg hb] at hc; simp at hc
theorem isName_of {z : Str} (h1 : 1 ≤ (cl z).length) (h2 : (cl z).length ≤ 8) (h3 : ∀ c ∈ cl z, c ∈ LET.cps.toList) : isName z = true := by
  unfold isName
  rw [cl_len]
  simp only [Bool.and_eq_true, decide_eq_true_eq, List.all_eq_true]
  exact ⟨⟨h1, h2⟩, h3⟩
theorem cutS_cl (z : Str) (lo hi : Option Int) : cl (cutS z lo hi) = ((cl z).drop (HT.sIx z.length 0 lo)).take (HT.sIx z.length z.length hi - HT.sIx z.length 0 lo) := rfl
theorem cutS_in {z : Str} {lo hi : Option Int} {c : Nat} (h : c ∈ cl (cutS z lo hi)) : c ∈ cl z := List.mem_of_mem_drop (List.mem_of_mem_take h)
/-- the four shapes -/
def nmS (base mark : Str) (k : Nat) : Nat → Str
  | 0 => base ++ mark
  | 1 => mark ++ base
  | 2 => mark ++ cutS base Option.none (some ((k : Int) % ((base.length : Int) + 1)))
  | _ => cutS base Option.none (some 1) ++ mark ++ cutS base (some 1) Option.none
def preS (base : Str) : Nat → List Nat
  | 0 => cl base
  | 1 => []
  | 2 => []
  | _ => cl (cutS base Option.none (some 1))
theorem nm_cl (base mark : Str) (k r : Nat) : ∃ post, cl (nmS base mark k r) = preS base r ++ cl mark ++ post ∧ (preS base r).length + post.length ≤ (cl base).length ∧ (∀ c ∈ preS base r, c ∈ cl base) ∧ ∀ c ∈ post, c ∈ cl base := by
  match r with
  | 0 => exact ⟨[], by show cl (base ++ mark) = cl base ++ cl mark ++ []; rw [cl_app]; simp, by simp [preS], fun c h => h, fun c h => by simp at h⟩
  | 1 => exact ⟨cl base, by show cl (mark ++ base) = [] ++ cl mark ++ cl base; rw [cl_app]; simp, by simp [preS], fun c h => by simp [preS] at h, fun c h => h⟩
  | 2 => exact ⟨cl (cutS base Option.none (some ((k : Int) % ((base.length : Int) + 1)))), by show cl (mark ++ cutS base Option.none (some ((k : Int) % ((base.length : Int) + 1)))) = [] ++ cl mark ++ _; rw [cl_app]; simp, by
      have := cutS_length base Option.none (some ((k : Int) % ((base.length : Int) + 1)))
      rw [cl_len, cl_len] at this
      simp only [preS, List.length_nil, Nat.zero_add]
      exact this, fun c h => by simp [preS] at h, fun c h => cutS_in h⟩
  | r + 3 =>
    refine ⟨cl (cutS base (some 1) Option.none), by show cl (cutS base Option.none (some 1) ++ mark ++ cutS base (some 1) Option.none) = cl (cutS base Option.none (some 1)) ++ _ ++ _; rw [cl_app, cl_app], ?_, fun c h => cutS_in h, fun c h => cutS_in h⟩
    show (cl (cutS base Option.none (some 1))).length + _ ≤ _
    rw [cutS_cl, cutS_cl, HT.sIx_none, HT.sIx_none]
    rw [show (some (1 : Int)) = some ((1 : Nat) : Int) from rfl, HT.sIx_nat, HT.sIx_nat]
    simp only [List.length_take, List.length_drop]
    have := cl_len base
    omega
def finS (z : Str) : Str := if z = "sea" then "seas" else z
theorem seas_cl : cl ("seas" : Str) = cl ("sea" : Str) ++ [115] := by decide +kernel
theorem seas_name : isName ("seas" : Str) = true := by decide +kernel
theorem seas_ne : ("seas" : Str) ≠ "sea" := by decide +kernel
theorem fin_ne (z : Str) : finS z ≠ "sea" := by
  unfold finS
  by_cases h : z = "sea"
  · rw [if_pos h]; exact seas_ne
  · rw [if_neg h]; exact h
theorem fin_cl {z : Str} {a : List Nat} {post : List Nat} (h : cl z = a ++ post) : ∃ post', cl (finS z) = a ++ post' := by
  unfold finS
  by_cases e : z = "sea"
  · rw [if_pos e]
    rw [e] at h
    exact ⟨post ++ [115], by rw [seas_cl, h, List.append_assoc]⟩
  · rw [if_neg e]; exact ⟨post, h⟩
theorem fin_name {z : Str} (h : isName z = true) : isName (finS z) = true := by
  unfold finS
  by_cases e : z = "sea"
  · rw [if_pos e]; exact seas_name
  · rw [if_neg e]; exact h
structure Names (ns : List Str) : Prop where
  nm : ∀ n ∈ ns, isName n = true
  nosea : ∀ n ∈ ns, n ≠ "sea"
  pf : ∀ (i j : Nat) a b z, ns[i]? = some a → ns[j]? = some b → cl a ++ z = cl b → i = j
def nameL (base : Str) (st m r n : Nat) : List Str := (List.range n).map fun k => finS (nmS base (mkS st m k) k r)
theorem names_ok {base : Str} {st m r : Nat} (hm : m ≤ 40) (hb : (cl base).length ≤ 6) (hl : ∀ c ∈ cl base, c ∈ LET.cps.toList) : Names (nameL base st m r m) := by
  have one : ∀ k, k < m → isName (nmS base (mkS st m k) k r) = true := by
    intro k hk
    obtain ⟨post, e, h1, h2, h3⟩ := nm_cl base (mkS st m k) k r
    have hml := mk_len st m k
    have hlen : (cl (nmS base (mkS st m k) k r)).length = (preS base r).length + (cl (mkS st m k)).length + post.length := by rw [e]; simp only [List.length_append]
    have h1' : 1 ≤ (cl (mkS st m k)).length ∧ (cl (mkS st m k)).length ≤ 2 := by rw [hml]; split <;> omega
    refine isName_of (by omega) (by omega) fun c hc => ?_
    rw [e] at hc
    rcases List.mem_append.mp hc with hc | hc
    · rcases List.mem_append.mp hc with hc | hc
      · exact hl c (h2 c hc)
      · exact mk_in hm hk c hc
    · exact hl c (h3 c hc)
  have at_ : ∀ {i : Nat} {a : Str}, (nameL base st m r m)[i]? = some a → i < m ∧ a = finS (nmS base (mkS st m i) i r) := by
    intro i a h
    unfold nameL at h
    rw [List.getElem?_map] at h
    cases hi : (List.range m)[i]? with
    | none => rw [hi] at h; cases h
    | some j =>
      rw [hi] at h
      cases h
      obtain ⟨h1, h2⟩ := List.getElem?_eq_some_iff.mp hi
      rw [List.getElem_range] at h2
      rw [List.length_range] at h1
      subst h2
      exact ⟨h1, rfl⟩
  refine ⟨fun n hn => ?_, fun n hn => ?_, fun i j a b z ha hb' e => ?_⟩
  · obtain ⟨k, hk, rfl⟩ := List.mem_map.mp hn
    exact fin_name (one k (List.mem_range.mp hk))
  · obtain ⟨k, hk, rfl⟩ := List.mem_map.mp hn
    exact fin_ne _
  · obtain ⟨hi, rfl⟩ := at_ ha
    obtain ⟨hj, rfl⟩ := at_ hb'
    obtain ⟨p1, e1, _⟩ := nm_cl base (mkS st m i) i r
    obtain ⟨p2, e2, _⟩ := nm_cl base (mkS st m j) j r
    obtain ⟨q1, f1⟩ := fin_cl e1
    obtain ⟨q2, f2⟩ := fin_cl e2
    rw [f1, f2] at e
    have hlen : (cl (mkS st m i)).length = (cl (mkS st m j)).length := by rw [mk_len, mk_len]
    rw [List.append_assoc, List.append_assoc, List.append_assoc] at e
    have e' := List.append_cancel_left e
    exact mk_inj hm hi hj (List.append_inj_left e' hlen)
theorem nameL_succ (base : Str) (st m r n : Nat) : nameL base st m r (n + 1) = nameL base st m r n ++ [finS (nmS base (mkS st m n) n r)] := by
  unfold nameL
  rw [List.range_succ, List.map_append]; rfl
theorem Names.nd {ns : List Str} (h : Names ns) : ns.Nodup := by
  refine List.pairwise_iff_getElem.mpr fun i j hi hj hij e => ?_
  have := h.pf i j _ _ [] (List.getElem?_eq_getElem hi) (List.getElem?_eq_getElem hj) (by rw [e]; simp)
  omega
local macro_rules | `(tactic| walk_at "kb") => `(tactic| first | exact kb_str_str | exact kb_str_int | exact kb_str_bool | exact kb_str_list | exact kb_str_tuple | exact kb_str_dict | exact kb_int_str | exact kb_int_int | exact kb_int_bool | exact kb_int_list | exact kb_int_tuple | exact kb_int_dict | exact kb_bool_str | exact kb_bool_int | exact kb_bool_bool | exact kb_bool_list | exact kb_bool_tuple | exact kb_bool_dict | exact kb_list_str | exact kb_list_int | exact kb_list_bool | exact kb_list_list | exact kb_list_tuple | exact kb_list_dict | exact kb_tuple_str | exact kb_tuple_int | exact kb_tuple_bool | exact kb_tuple_list | exact kb_tuple_tuple | exact kb_tuple_dict | exact kb_dict_str | exact kb_dict_int | exact kb_dict_bool | exact kb_dict_list | exact kb_dict_tuple | exact kb_dict_dict | exact kb_NoneType_str | exact kb_NoneType_int | exact kb_NoneType_bool | exact kb_NoneType_list | exact kb_NoneType_tuple | exact kb_NoneType_dict)
local macro_rules | `(tactic| walk_at "hn") => `(tactic| first
  | assumption
  | ((with_reducible refine' Ex.nn ?hne ?hnh); (case hnh => assumption); (case hne => walk_at "ex"))
  | ((with_reducible refine' Kp.nn ?hnk ?hnb ?hnh); (case hnh => assumption); (case hnk => assumption); (case hnb => assumption))
  | ((with_reducible refine del_none ?_); walk_at "hn")
  | ((with_reducible refine' Eq.trans (upd_ne ?hnq) ?_); (case hnq => walk_at "ne"); walk_at "hn"))
local macro_rules | `(tactic| walk_at "ne") => `(tactic| first
  | assumption
  | exact Ne.symm (by assumption)
  | exact Bag.ne (by assumption) (by assumption)
  | exact Ne.symm (Bag.ne (by assumption) (by assumption))
  | exact ne_of_none (by assumption) (by assumption)
  | exact Ne.symm (ne_of_none (by assumption) (by assumption)))
local macro_rules | `(tactic| walk_at "ex") => `(tactic| first
  | assumption
  | with_reducible exact Ex.refl _
  | ((with_reducible refine' Ex.mut ?exm ?exn); (case exn => walk_at "hn"); (case exm => walk_at "ex"))
  | ((with_reducible refine' Ex.trans ?exa ?exb); (case exb => assumption); (case exa => walk_at "ex"))
  | ((with_reducible refine' Ex.trans ?exa (Ex.new ?exn)); (case exn => walk_at "hn"); (case exa => walk_at "ex")))
local macro_rules | `(tactic| walk_at "hp") => `(tactic| first
  | assumption
  | with_reducible exact upd_same
  | ((with_reducible refine' up_new ?hpn ?hpr); (case hpn => walk_at "hn"); (case hpr => walk_at "hp"))
  | ((with_reducible refine' up_ne ?hpn ?hpr); (case hpr => walk_at "hp"); (case hpn => walk_at "ne"))
  | ((with_reducible refine' hp_kp ?hph ?hpk); (case hph => assumption); (case hpk => assumption))
  | ((with_reducible refine' hp_del ?hph); (case hph => assumption))
  | ((with_reducible refine' hp_ex ?hph ?hpe); (case hph => assumption); (case hpe => walk_at "ex")))
local macro_rules | `(tactic| walk_at "sq") => `(tactic| first
  | assumption
  | ((with_reducible refine' SqL.of ?sof); (case sof => walk_at "hp"))
  | ((with_reducible refine' SqT.of ?sof); (case sof => walk_at "hp"))
  | ((with_reducible refine' sl_new ?hpn ?hpr); (case hpn => walk_at "hn"); (case hpr => walk_at "sq"))
  | ((with_reducible refine' st_new ?hpn ?hpr); (case hpn => walk_at "hn"); (case hpr => walk_at "sq"))
  | ((with_reducible refine' sl_kp ?hph ?hpk); (case hph => assumption); (case hpk => assumption))
  | ((with_reducible refine' st_kp ?hph ?hpk); (case hph => assumption); (case hpk => assumption))
  | ((with_reducible refine' sl_del ?hph); (case hph => assumption))
  | ((with_reducible refine' st_del ?hph); (case hph => assumption))
  | ((with_reducible refine' sl_ex ?hph ?hpe); (case hph => assumption); (case hpe => walk_at "ex"))
  | ((with_reducible refine' st_ex ?hph ?hpe); (case hph => assumption); (case hpe => walk_at "ex")))
local macro_rules | `(tactic| walk_at "ty") => `(tactic| first
  | exact TyX.base (.str _)
  | exact TyX.base (.int _)
  | exact TyX.base (.bl _)
  | exact TyX.base .non
  | exact ty_L (by walk_at "sq")
  | exact ty_T (by walk_at "sq"))
local macro_rules | `(tactic| walk_at "sz") => `(tactic| first | omega | exact sz_le (by omega) | exact sz_lt (by omega) | (refine sz_le ?_; simp; omega) | (refine sz_lt ?_; simp; omega) | (refine sz_le ?_; simp))
local macro_rules | `(tactic| walk_at "side") => `(tactic| first | assumption | omega | (refine ⟨?_, ?_⟩ <;> omega) | (exact .inl ⟨by omega, by omega⟩) | (exact .inr ⟨by omega, by omega⟩) | (exact ⟨by decide, by decide, by decide⟩) | rfl)
local macro_rules | `(tactic| walk_at "g1") => `(tactic| first
  | with_reducible first
    | refine g_seq ?_ | refine g_asg ?_ | refine g_name ?_ | refine g_op ?_ | refine g_c ?_ | refine g_cons ?_ | refine g_nil ?_ | refine g_cb ?_ | refine g_call ?_ | refine g_ret ?_ | refine g_drop ?_ | refine g_next ?_
    | refine g_ifS ?_ | refine g_if ?_ | refine g_test ?_ | refine g_tB ?_ | refine g_bl ?_ | refine g_and ?_ | refine g_or ?_ | refine g_not ?_ | refine g_andV ?_ | refine g_orV ?_ | refine g_notV ?_
    | refine g_un ?_ | refine g_neg ?_ | refine g_rI0 ?_ | refine g_int1 ?_ | refine g_abs ?_ | refine g_mx2 ?_ | refine g_mn2 ?_ | refine g_par ?_ | refine g_par2 ?_ | refine g_chain ?_
    | refine g_for ?_ | refine g_lc ?_ | refine g_dc ?_ | refine g_iList ?_ | refine g_iTup ?_ | refine g_iStr ?_ | refine g_iRng1 ?_ | refine g_iEnum ?_ | refine g_itS ?_ | refine g_gcons ?_ | refine g_gnil ?_
    | refine g_dget ?_ | refine g_dput ?_ | refine g_dnew ?_ | refine g_inSg ?_ | refine g_notNn ?_ | refine g_isNn ?_ | refine g_sl ?_ | refine g_nopart ?_ | refine g_part ?_ | refine g_parti ?_ | refine g_meth ?_ | refine g_make ?_ | refine g_fldE ?_ | refine g_sfld ?_
    | refine g_sub ?_ | refine g_lst ?_ | refine g_tup ?_ | refine g_bm ?_ | refine g_bm0 ?_ | refine g_tyS ?_ | refine g_yes ?_ | refine iteT ?_ | refine iteF ?_ | refine iteNT ?_ | refine iteNF ?_
  | ((with_reducible refine' g_var ?ev ?_); (case ev => rfl))
  | ((with_reducible refine' g_rI ?ec ?_); (case ec => walk_at "side"))
  | ((with_reducible refine' g_ixL ?es ?ea ?_); (case es => walk_at "sq"); (case ea => first | rfl | assumption))
  | ((with_reducible refine' g_ixT ?es ?ea ?_); (case es => walk_at "sq"); (case ea => first | rfl | assumption))
  | ((with_reducible refine' g_lenL ?es ?_); (case es => walk_at "sq"))
  | ((with_reducible refine' g_lenT ?es ?_); (case es => walk_at "sq"))
  | ((with_reducible refine' g_lenS ?es ?_); (case es => walk_at "sz"))
  | ((with_reducible refine' g_lenD ?es ?_); (case es => walk_at "hp"))
  | ((with_reducible refine' g_listL ?es ?_); (case es => walk_at "sq"))
  | ((with_reducible refine' g_listT ?es ?_); (case es => walk_at "sq"))
  | ((with_reducible refine' g_tupL ?es ?_); (case es => walk_at "sq"))
  | ((with_reducible refine' g_tyL ?es ?_); (case es => walk_at "sq"))
  | ((with_reducible refine g_eqS ?es ?_); (case es => rfl))
  | ((with_reducible refine g_neS ?es ?_); (case es => rfl))
  | ((with_reducible refine' g_inDcS ?es ?_); (case es => walk_at "hp"))
  | ((with_reducible refine' g_notInDcS ?es ?_); (case es => walk_at "hp"))
  | ((with_reducible refine' g_dgetS ?es ?ev ?_); (case es => walk_at "hp"); (case ev => first | assumption | walk_at "dv"))
  | ((with_reducible refine' g_dputS ?es ?el ?_); (case es => walk_at "hp"); (case el => walk_at "sz"))
  | ((with_reducible refine' g_fldI ?es ?ec ?en ?el ?_); (case es => walk_at "hp"); (case ec => assumption); (case en => assumption); (case el => first | assumption | walk_at "fl"))
  | ((with_reducible refine' g_methI ?es ?em ?_); (case es => walk_at "hp"); (case em => first | assumption | walk_at "fl"))
  | ((with_reducible refine' g_sfldI ?es ?ec ?en ?el ?_); (case es => walk_at "hp"); (case ec => assumption); (case en => assumption); (case el => first | assumption | walk_at "fl"))
  | ((with_reducible refine' g_isi ?et ?ek ?_); (case et => walk_at "ty"); (case ek => walk_at "kb"))
  | ((with_reducible refine g_addT ?el ?_); (case el => walk_at "sz"))
  | ((with_reducible refine' g_cat ?e1 ?e2 ?el ?_); (case e1 => walk_at "hp"); (case e2 => walk_at "hp"); (case el => walk_at "sz"))
  | ((with_reducible refine' g_slL ?es ?_); (case es => walk_at "sq"))
  | ((with_reducible refine g_slS ?el ?_); (case el => walk_at "sz"))
  | ((with_reducible refine' g_itL ?es ?_); (case es => walk_at "sq"))
  | ((with_reducible refine' g_itT ?es ?_); (case es => walk_at "sq"))
  | ((with_reducible refine' g_itE ?es ?_); (case es => walk_at "sq"))
  | ((with_reducible refine' g_itR ?es ?_); (case es => (constructor <;> omega)))
  | ((with_reducible refine' g_gtup ?es ?en ?_); (case es => walk_at "sq"); (case en => first | rfl | assumption))
  | ((with_reducible refine' g_setL ?es ?ej ?_); (case es => walk_at "hp"); (case ej => first | rfl | assumption))
  | ((with_reducible refine' g_app ?es ?el ?_); (case es => walk_at "hp"); (case el => walk_at "sz")))
local macro_rules | `(tactic| walk_at "go") => `(tactic| repeat (walk_at "g1"))
abbrev N_l_names : List Str := ["_law_bag_here", "_law_many", "_law_letters", "_law_base", "_law_start", "_law_shape", "_law_found", "_law_k", "_law_mark", "_law_some"]
abbrev tNmMark (K : PySem.W.Frag) : TE := (tOp rAddT (tOp (rIx K) (tVar 2) (tOp rModI (tOp rAddI (tVar 4) (tOp rMulI (tC (.int 5)) (tVar 7))) (tC (.int 26)))) (tIf (tTest (tOp rGtI (tVar 1) (tC (.int 26)))) (tOp (rIx K) (tVar 2) (tOp rDivI (tVar 7) (tC (.int 26)))) (tC (.str ""))))
abbrev tNmRest (K : PySem.W.Frag) : TS := (tSeq (tAsg (tLst (tCons (tOp rAddT (tVar 3) (tVar 8)) (tCons (tOp rAddT (tVar 8) (tVar 3)) (tCons (tOp rAddT (tVar 8) (tSl rSlS (tVar 3) tNoPart (tPart (tOp rModI (tVar 7) (tOp rAddI (tCB (rLenU K) (tCons (tVar 3) tNil)) (tC (.int 1))))))) (tCons (tOp rAddT (tOp rAddT (tSl rSlS (tVar 3) tNoPart (tPart (tC (.int 1)))) (tVar 8)) (tSl rSlS (tVar 3) (tPart (tC (.int 1))) tNoPart)) tNil))))) (gName 9))
  (tDrop (tBM K "list" rAppend (tVar 6) (tCons (tIf (tTest (tOp (rEqU K) (tOp (rIx K) (tVar 9) (tVar 5)) (tC (.str "sea")))) (tC (.str "seas")) (tOp (rIx K) (tVar 9) (tVar 5))) tNil))))
def t_l_names (K : PySem.W.Frag) : TS :=
  (tSeq (tAsg (tC (.str "abcdefghijklmnopqrstuvwxyz")) (gName 2))
  (tSeq (tAsg (tBM K "str" (rJoin K) (tC (.str "")) (tCons (tLc (iRng1 (tCons (tCall (sp_l_of K) [] E0 (tCons (tVar 0) (tCons (tLst (tCons (tC (.int 0)) (tCons (tC (.int 0)) (tCons (tC (.int 1)) (tCons (tC (.int 2)) (tCons (tC (.int 6)) tNil)))))) tNil))) tNil)) (gName 7) tYes (tOp (rIx K) (tVar 2) (tCall (sp_l_take K) [] E0 (tCons (tVar 0) (tCons (tC (.int 26)) tNil)))) [7]) tNil)) (gName 3))
  (tSeq (tPar 4 5 (tCons (tCall (sp_l_take K) [] E0 (tCons (tVar 0) (tCons (tC (.int 26)) tNil))) (tCons (tCall (sp_l_take K) [] E0 (tCons (tVar 0) (tCons (tC (.int 4)) tNil))) tNil)))
  (tSeq (tAsg (tLst tNil) (gName 6))
  (tSeq (tFor (iRng1 (tCons (tVar 1) tNil)) (gName 7) (tSeq (tAsg (tNmMark K) (gName 8))
  (tNmRest K)))
  (tRet (tVar 6)))))))
def sp_l_names (K : PySem.W.Frag) : Sp := fun vs H Q _ => ∃ (b : Addr) (m : Nat), vs = [.ref b, .int (m : Nat)] ∧ Bag H b ∧ 1 ≤ m ∧ m ≤ 40 ∧
  ∀ (p : Addr) (H' : Hp) (ns : List Str), Kp b H H' → H p = none → H' p = some (.lst (strsV ns)) → ns.length = m → Names ns → Q (.ref p) H'
theorem len_l_names {K : PySem.W.Frag} {vs : List V} {H : Hp} {Q : VK} {E : XK} (h : sp_l_names K vs H Q E) : vs.length = 2 := by obtain ⟨_, _, rfl, _⟩ := h; rfl
theorem g_joinE {K : PySem.W.Frag} {H : Hp} {Q : VK} {p : Addr} {ys : List Str} (hs : SqL K H p (ys.map V.str)) (hl : (ys.map (·.length)).sum ≤ 1000) (h : Q (.str (Txt.join "" ys)) H) : rJoin K (.str "") [.ref p] H Q :=
  ⟨"", p, ys, rfl, rfl, .inl hs, by rw [show ("" : Str).length = 0 by decide +kernel]; omega, h⟩
theorem g_ixSt {K : PySem.W.Frag} {H : Hp} {Q : VK} {i : Int} {j : Nat} (e : i = (j : Int)) (hj : j < 26) (h : Q (.str ⟨#[ltr j]⟩) H) : rIx K (.str LET) (.int i) H Q := by
  subst e
  refine g_ixS (sz_le ?_) (atI_nat (LET_at hj)) h
  rw [cl_len, cl, LET_len]; decide
theorem flat1 : ∀ cs : List Nat, ((cs.map fun c => (⟨#[c]⟩ : Str)).map cl).flatten = cs
  | [] => rfl
  | c :: cs => by
    have := flat1 cs
    simp only [List.map_cons, List.flatten_cons, this]
    rfl
theorem sum1 : ∀ cs : List Nat, ((cs.map fun c => (⟨#[c]⟩ : Str)).map (·.length)).sum = cs.length
  | [] => rfl
  | c :: cs => by
    have := sum1 cs
    simp only [List.map_cons, List.sum_cons, this, List.length_cons]
    show 1 + _ = _
    omega
theorem pure_l_names {K : PySem.W.Frag} (vs : List V) (H : Hp) (Q : VK) (E : XK) (h : sp_l_names K vs H Q E) : t_l_names K { nx := fun _ H' => Q .non H', rt := Q } (start N_l_names vs) H := by
  obtain ⟨b, m, rfl, hb, hm1, hm2, k⟩ := h
  unfold t_l_names
  walk_at "go"
  refine ⟨sz_le (by show 5 ≤ _; omega), fun p hp => ?_⟩
  have pb := hb.ne hp
  walk_at "go"
  refine ⟨b, p, _, rfl, hb.ex (Ex.new hp), SqL.of (del_some pb upd_same), by show 0 < 5; decide, by show 5 < 1000000; decide, fun H1 j v kp1 hv => ?_⟩
  obtain ⟨n, rfl, hn⟩ : ∃ n : Nat, v = .int (n : Nat) ∧ n ≤ 6 := by
    match j with
    | 0 => cases hv; exact ⟨0, rfl, by omega⟩
    | 1 => cases hv; exact ⟨0, rfl, by omega⟩
    | 2 => cases hv; exact ⟨1, rfl, by omega⟩
    | 3 => cases hv; exact ⟨2, rfl, by omega⟩
    | 4 => cases hv; exact ⟨6, rfl, by omega⟩
    | j + 5 => cases hv
  have kp0 : Kp b H H1 := (Kp.of_ex hb (Ex.new hp)).trans kp1
  walk_at "go"
  refine lc_R n (fun C i acc H' => H1 C = none ∧ Kp b H1 H' ∧ ∃ cs : List Nat, acc = cs.map (fun c => V.str ⟨#[c]⟩) ∧ ∀ c ∈ cs, c ∈ LET.cps.toList) (fun C hC => ⟨hC, Kp.of_ex kp0.bag (Ex.new hC), [], rfl, fun c h => by simp at h⟩) ?_ ?_ (hj := by omega)
  · rintro C i acc H2 hi hA hlz ⟨hC, kp, cs, rfl, hcs⟩
    have Cb := kp0.bag.ne hC
    walk_at "go"
    refine ⟨rfl, ?_⟩
    walk_at "go"
    refine ⟨b, _, rfl, kp.bag, by omega, by omega, fun r H3 r0 r1 kp3 => ?_⟩
    obtain ⟨j, rfl⟩ : ∃ j : Nat, r = (j : Int) := ⟨r.toNat, by omega⟩
    refine g_ixSt rfl (by omega) ?_
    refine lc_add (hp_kp (del_some Cb hA) kp3) hlz (by omega) ⟨hC, (kp.trans kp3).mut Cb hC, cs ++ [ltr j], by simp, fun c hc => ?_⟩
    rcases List.mem_append.mp hc with h | h
    · exact hcs c h
    · have : c = ltr j := by simpa using h
      rw [this]; exact ltr_in (by omega)
  · rintro C acc H2 hC hA hlz ⟨_, kp, cs, rfl, hcs⟩
    have hcl : cs.length ≤ 6 := by have : (cs.map (fun c => V.str ⟨#[c]⟩)).length ≤ n := hlz; simp at this; omega
    have kp2 := kp0.trans kp
    walk_at "go"
    refine g_joinE (ys := cs.map fun c => ⟨#[c]⟩) (SqL.of (by rw [hA]; simp)) (by rw [sum1]; omega) ?_
    generalize hbs : Txt.join "" (cs.map fun c => (⟨#[c]⟩ : Str)) = base
    have hbc : cl base = cs := by rw [← hbs, glue_cl, flat1]
    have hbl : (cl base).length ≤ 6 := by rw [hbc]; exact hcl
    have hbm : ∀ c ∈ cl base, c ∈ LET.cps.toList := by rw [hbc]; exact hcs
    have hbl' : base.length ≤ 6 := by rw [cl_len]; exact hbl
    walk_at "go"
    refine ⟨b, _, rfl, kp2.bag, by omega, by omega, fun s1 H3 r0 r1 kp3 => ?_⟩
    obtain ⟨st, rfl⟩ : ∃ j : Nat, s1 = (j : Int) := ⟨s1.toNat, by omega⟩
    walk_at "go"
    refine ⟨b, _, rfl, kp3.bag, by omega, by omega, fun s2 H4 r2 r3 kp4 => ?_⟩
    obtain ⟨r, rfl⟩ : ∃ j : Nat, s2 = (j : Int) := ⟨s2.toNat, by omega⟩
    have kp5 := (kp2.trans kp3).trans kp4
    walk_at "go"
    refine ⟨Nat.zero_le _, fun q hq => ?_⟩
    have qb := kp5.bag.ne hq
    have hq0 : H q = none := kp5.nn hb hq
    walk_at "go"
    refine for_R m (fun i σ' H' => ∃ (v w x : Option V), σ' = [some (.ref b), some (.int (m : Nat)), some (.str LET), some (.str base), some (.int (st : Nat)), some (.int (r : Nat)), some (.ref q), v, w, x] ∧ Kp b H H' ∧ H' q = some (.lst (strsV (nameL base st m r i)))) ?_ ?_ ?_ (hj := by omega)
    · exact ⟨_, _, _, rfl, kp5.grow (Ex.new hq), by rw [upd_same]; rfl⟩
    · rintro i _ H5 hi ⟨v, w, x, rfl, kp6, hA5⟩
      have rest : ∀ mark : Str, mark = mkS st m i → tNmRest K { nx := fun σ' H' => ∃ (v w x : Option V), σ' = [some (.ref b), some (.int (m : Nat)), some (.str LET), some (.str base), some (.int (st : Nat)), some (.int (r : Nat)), some (.ref q), v, w, x] ∧ Kp b H H' ∧ H' q = some (.lst (strsV (nameL base st m r (i + 1)))), ct := fun σ' H' => ∃ (v w x : Option V), σ' = [some (.ref b), some (.int (m : Nat)), some (.str LET), some (.str base), some (.int (st : Nat)), some (.int (r : Nat)), some (.ref q), v, w, x] ∧ Kp b H H' ∧ H' q = some (.lst (strsV (nameL base st m r (i + 1)))), bk := fun σ H' => tRet (tVar 6) { nx := fun _ H' => Q .non H', rt := Q } σ H', rt := Q } [some (.ref b), some (.int (m : Nat)), some (.str LET), some (.str base), some (.int (st : Nat)), some (.int (r : Nat)), some (.ref q), some (.int (i : Nat)), some (.str mark), x] H5 := by
        intro mark hmark
        have hml : mark.length ≤ 2 := by rw [hmark, cl_len, mk_len]; split <;> omega
        have hz : ∀ lo hi, (cutS base lo hi).length ≤ 6 := fun lo hi => Nat.le_trans (cutS_length _ _ _) hbl'
        have hz1 := hz Option.none (some 1)
        have hz2 := hz (some 1) Option.none
        have hz3 := hz Option.none (some ((i : Int) % ((base.length : Int) + 1)))
        have hz4 : (cutS base Option.none (some 1) ++ mark).length ≤ 8 := by rw [Str.length_append]; omega
        walk_at "go"
        refine ⟨sz_le (by show 4 ≤ _; omega), fun t ht => ?_⟩
        have tq : q ≠ t := fun e => by subst e; rw [ht] at hA5; cases hA5
        have hat : atI [V.str (base ++ mark), .str (mark ++ base), .str (mark ++ cutS base Option.none (some ((i : Int) % ((base.length : Int) + 1)))), .str (cutS base Option.none (some 1) ++ mark ++ cutS base (some 1) Option.none)] (r : Int) = some (.str (nmS base mark i r)) := by
          refine atI_nat ?_
          match r, r3 with
          | 0, _ => rfl
          | 1, _ => rfl
          | 2, _ => rfl
          | 3, _ => rfl
          | r + 4, h => exact absurd h (by omega)
        have hH6 : upd H5 t (.lst [V.str (base ++ mark), .str (mark ++ base), .str (mark ++ cutS base Option.none (some ((i : Int) % ((base.length : Int) + 1)))), .str (cutS base Option.none (some 1) ++ mark ++ cutS base (some 1) Option.none)]) q = some (.lst (strsV (nameL base st m r i))) := up_new ht hA5
        have hlen : (strsV (nameL base st m r i)).length ≤ 40 := by simp [strsV, nameL]; omega
        have fin : ∀ z : Str, z = finS (nmS base mark i r) → ∃ (v w x : Option V), [some (.ref b), some (.int (m : Nat)), some (.str LET), some (.str base), some (.int (st : Nat)), some (.int (r : Nat)), some (.ref q), some (.int (i : Nat)), some (.str mark), some (.ref t)] = [some (.ref b), some (.int (m : Nat)), some (.str LET), some (.str base), some (.int (st : Nat)), some (.int (r : Nat)), some (.ref q), v, w, x] ∧ Kp b H (upd (upd H5 t (.lst [V.str (base ++ mark), .str (mark ++ base), .str (mark ++ cutS base Option.none (some ((i : Int) % ((base.length : Int) + 1)))), .str (cutS base Option.none (some 1) ++ mark ++ cutS base (some 1) Option.none)])) q (.lst (strsV (nameL base st m r i) ++ [.str z]))) ∧ upd (upd H5 t (.lst [V.str (base ++ mark), .str (mark ++ base), .str (mark ++ cutS base Option.none (some ((i : Int) % ((base.length : Int) + 1)))), .str (cutS base Option.none (some 1) ++ mark ++ cutS base (some 1) Option.none)])) q (.lst (strsV (nameL base st m r i) ++ [.str z])) q = some (.lst (strsV (nameL base st m r (i + 1)))) := by
          intro z hz
          refine ⟨_, _, _, rfl, (kp6.grow (Ex.new ht)).mut qb hq0, ?_⟩
          rw [upd_same, nameL_succ, hz, hmark]
          simp [strsV]
        walk_at "go"
        refine iteD (fun h => ?_) (fun h => ?_)
        · have h' : nmS base mark i r = "sea" := by injection h
          walk_at "go"
          exact fin _ (by unfold finS; rw [if_pos h'])
        · have h' : ¬ nmS base mark i r = "sea" := fun e => h (by rw [e])
          walk_at "go"
          exact fin _ (by unfold finS; rw [if_neg h'])
      walk_at "go"
      refine g_ixSt (j := (st + 5 * i) % 26) (by omega) (Nat.mod_lt _ (by decide)) ?_
      walk_at "go"
      refine iteD (fun h => ?_) (fun h => ?_)
      · walk_at "go"
        refine g_ixSt (j := i / 26) (by omega) (by omega) ?_
        refine g_addT (sz_le (by show 1 + 1 ≤ _; omega)) ?_
        refine g_name ?_
        exact rest _ (by unfold mkS; rw [if_pos (show m > 26 by omega)])
      · refine g_c ?_
        refine g_addT (sz_le (by show 1 + 0 ≤ _; omega)) ?_
        refine g_name ?_
        exact rest _ (by unfold mkS; rw [if_neg (show ¬ m > 26 by omega)])
    · rintro _ H5 ⟨v, w, x, rfl, kp6, hA5⟩
      walk_at "go"
      exact k q H5 _ kp6 hq0 hA5 (by simp [nameL]) (names_ok hm2 hbl hbm)
end WK
namespace WK
open PySem L2
/-! ### rows, drawn -/
theorem perm_map {α β : Type} (f : α → β) {ys xs : List β} (h : ys.Perm xs) : ∀ zs : List α, xs = zs.map f → ∃ zs' : List α, ys = zs'.map f ∧ zs'.Perm zs := by
  induction h with
  | nil => intro zs e; exact ⟨[], rfl, (by cases zs with | nil => exact .nil | cons _ _ => cases e)⟩
  | cons a h ih =>
    intro zs e
    cases zs with
    | nil => cases e
    | cons z zs =>
      obtain ⟨e1, e2⟩ := List.cons.inj e
      obtain ⟨zs', h1, h2⟩ := ih zs e2
      exact ⟨z :: zs', by rw [h1, e1]; rfl, h2.cons z⟩
  | swap a b l =>
    intro zs e
    cases zs with
    | nil => cases e
    | cons z zs =>
      obtain ⟨e1, e2⟩ := List.cons.inj e
      cases zs with
      | nil => cases e2
      | cons y zs =>
        obtain ⟨e3, e4⟩ := List.cons.inj e2
        exact ⟨y :: z :: zs, by rw [e1, e3, e4]; rfl, List.Perm.swap _ _ _⟩
  | trans h1 h2 ih1 ih2 =>
    intro zs e
    obtain ⟨z1, e1, p1⟩ := ih2 zs e
    obtain ⟨z2, e2, p2⟩ := ih1 z1 e1
    exact ⟨z2, e2, p2.trans p1⟩
abbrev Zs := List (Addr × (Str × Str))
def zR (zs : Zs) : List V := zs.map fun z => V.ref z.1
def zW (zs : Zs) : Rows := zs.map (·.2)
theorem dp_zs {K : PySem.W.Frag} {G : Hp} : ∀ {zs : Zs}, (∀ z ∈ zs, SqT K G z.1 [.str z.2.1, .str z.2.2]) → DpAll K G (zR zs) ((zW zs).map fun r => .tuple [.str r.1, .str r.2])
  | [], _ => .nil
  | z :: zs, h => .cons (.tup (h z (by simp)) (.cons (.str _) (.cons (.str _) .nil))) (dp_zs fun y hy => h y (by simp [hy]))
theorem dp_rowsZ {K : PySem.W.Frag} {G : Hp} {p : Addr} {zs : Zs} (hp : SqL K G p (zR zs)) (h : ∀ z ∈ zs, SqT K G z.1 [.str z.2.1, .str z.2.2]) : Dp K G (.ref p) (rowsD (zW zs)) := .lst hp (dp_zs h)
theorem rows_zs {K : PySem.W.Frag} {G : Hp} {p : Addr} {rows : Rows} (h : Dp K G (.ref p) (rowsD rows)) : ∃ zs, SqL K G p (zR zs) ∧ zW zs = rows ∧ ∀ z ∈ zs, SqT K G z.1 [.str z.2.1, .str z.2.2] := by
  obtain ⟨rs, hs, hl, hat⟩ := rows_at h
  have key : ∀ (rs : List V) (rows : Rows), rs.length = rows.length → (∀ (i : Nat) x, rs[i]? = some x → ∃ t r, x = .ref t ∧ rows[i]? = some r ∧ SqT K G t [.str r.1, .str r.2]) → ∃ zs, rs = zR zs ∧ zW zs = rows ∧ ∀ z ∈ zs, SqT K G z.1 [.str z.2.1, .str z.2.2] := by
    intro rs
    induction rs with
    | nil => intro rows hl _; exact ⟨[], rfl, (by cases rows with | nil => rfl | cons _ _ => cases hl), fun z hz => by simp at hz⟩
    | cons x rs ih =>
      intro rows hl hat
      cases rows with
      | nil => cases hl
      | cons r rows =>
        obtain ⟨t, r', rfl, e, st⟩ := hat 0 x rfl
        cases e
        obtain ⟨zs, e1, e2, e3⟩ := ih rows (by simpa using hl) (fun i y hy => hat (i + 1) y hy)
        refine ⟨(t, r) :: zs, by rw [e1]; rfl, by rw [← e2]; rfl, fun z hz => ?_⟩
        rcases List.mem_cons.mp hz with h | h
        · rw [h]; exact st
        · exact e3 z h
  obtain ⟨zs, e1, e2, e3⟩ := key rs rows hl hat
  exact ⟨zs, by rw [← e1]; exact hs, e2, e3⟩
/-- no weir's name goes on into another's -/
def PF (rows : Rows) : Prop := ∀ a ∈ wrs rows, ∀ b ∈ wrs rows, ∀ z, cl a ++ z = cl b → z = []
theorem PF.perm {r1 r2 : Rows} (h : PF r1) (p : r2.Perm r1) : PF r2 := fun a ha b hb z e => h a ((p.map _).mem_iff.mp ha) b ((p.map _).mem_iff.mp hb) z e
theorem Good.perm {r1 r2 : Rows} (g : Good r1) (p : r2.Perm r1) : Good r2 := by
  have hm : ∀ {r}, r ∈ r2 → r ∈ r1 := fun h => p.mem_iff.mp h
  have hw : ∀ {w}, w ∈ wrs r1 → w ∈ wrs r2 := fun h => (p.map _).mem_iff.mpr h
  have hl := p.length_eq
  refine ⟨by rw [hl]; exact g.pos, by rw [hl]; exact g.le, fun r h => g.nm r (hm h), fun r h => g.nosea r (hm h), ((p.map _).nodup_iff).mpr g.nd, fun r h => ?_, ?_⟩
  · rcases g.dn r (hm h) with e | e
    · exact .inl e
    · exact .inr (hw e)
  · obtain ⟨rk, h⟩ := g.rank
    exact ⟨rk, fun r hr => by rw [hl]; exact h r (hm hr)⟩
theorem sea_name : isName ("sea" : Str) = true := by decide +kernel
theorem good_of {ns : List Str} {rows : Rows} (N : Names ns) (h1 : 1 ≤ ns.length) (h2 : ns.length ≤ 40) (hw : wrs rows = ns) (hd : ∀ (j : Nat) r, rows[j]? = some r → r.2 = "sea" ∨ ∃ l, l < j ∧ ns[l]? = some r.2) : Good rows ∧ PF rows := by
  have hl : rows.length = ns.length := by rw [← hw]; simp [wrs]
  have hat : ∀ (j : Nat) r, rows[j]? = some r → ns[j]? = some r.1 := fun j r h => by rw [← hw]; simp [wrs, h]
  have nd := N.nd
  have hmem : ∀ {r}, r ∈ rows → r.1 ∈ ns := fun h => by rw [← hw]; exact List.mem_map.mpr ⟨_, h, rfl⟩
  have hdm : ∀ {r}, r ∈ rows → r.2 = "sea" ∨ r.2 ∈ ns := fun h => by
    obtain ⟨j, hj⟩ := List.mem_iff_getElem?.mp h
    rcases hd j _ hj with e | ⟨l, _, e⟩
    · exact .inl e
    · exact .inr (List.mem_of_getElem? e)
  have idx : ∀ (j : Nat) w, ns[j]? = some w → ns.findIdx (fun n => decide (n = w)) = j := by
    intro j w hj
    obtain ⟨hjl, e⟩ := List.getElem?_eq_some_iff.mp hj
    have hlt : ns.findIdx (fun n => decide (n = w)) < ns.length := List.findIdx_lt_length_of_exists ⟨w, List.mem_of_getElem? hj, by simp⟩
    have h := List.findIdx_getElem (w := hlt)
    have h' : ns[ns.findIdx (fun n => decide (n = w))] = w := by simpa using h
    exact (List.getElem_inj nd).mp (h'.trans e.symm)
  refine ⟨⟨by omega, by omega, fun r h => ⟨N.nm _ (hmem h), ?_⟩, fun r h => N.nosea _ (hmem h), by rw [hw]; exact nd, fun r h => by rw [hw]; exact hdm h, ?_⟩, ?_⟩
  · rcases hdm h with e | e
    · rw [e]; exact sea_name
    · exact N.nm _ e
  · refine ⟨fun w => ns.findIdx (fun n => decide (n = w)), fun r h => ?_⟩
    obtain ⟨j, hj⟩ := List.mem_iff_getElem?.mp h
    have hj1 := idx j r.1 (hat j r hj)
    have hjl : j < rows.length := (List.getElem?_eq_some_iff.mp hj).1
    refine ⟨by show ns.findIdx _ < _; rw [hj1]; exact hjl, fun hne => ?_⟩
    rcases hd j _ hj with e | ⟨l, hlj, e⟩
    · exact absurd e hne
    · show ns.findIdx _ < ns.findIdx _
      rw [hj1, idx l r.2 e]; exact hlj
  · intro a ha b hb z e
    rw [hw] at ha hb
    obtain ⟨i, hi⟩ := List.mem_iff_getElem?.mp ha
    obtain ⟨j, hj⟩ := List.mem_iff_getElem?.mp hb
    have hij := N.pf i j a b z hi hj e
    subst hij
    rw [hi] at hj
    cases hj
    have : (cl a ++ z).length = (cl a).length := by rw [e]
    rw [List.length_append] at this
    exact List.length_eq_zero_iff.mp (by omega)
local macro_rules | `(tactic| walk_at "kb") => `(tactic| first | exact kb_str_str | exact kb_str_int | exact kb_str_bool | exact kb_str_list | exact kb_str_tuple | exact kb_str_dict | exact kb_int_str | exact kb_int_int | exact kb_int_bool | exact kb_int_list | exact kb_int_tuple | exact kb_int_dict | exact kb_bool_str | exact kb_bool_int | exact kb_bool_bool | exact kb_bool_list | exact kb_bool_tuple | exact kb_bool_dict | exact kb_list_str | exact kb_list_int | exact kb_list_bool | exact kb_list_list | exact kb_list_tuple | exact kb_list_dict | exact kb_tuple_str | exact kb_tuple_int | exact kb_tuple_bool | exact kb_tuple_list | exact kb_tuple_tuple | exact kb_tuple_dict | exact kb_dict_str | exact kb_dict_int | exact kb_dict_bool | exact kb_dict_list | exact kb_dict_tuple | exact kb_dict_dict | exact kb_NoneType_str | exact kb_NoneType_int | exact kb_NoneType_bool | exact kb_NoneType_list | exact kb_NoneType_tuple | exact kb_NoneType_dict)
local macro_rules | `(tactic| walk_at "hn") => `(tactic| first
  | assumption
  | ((with_reducible refine' Ex.nn ?hne ?hnh); (case hnh => assumption); (case hne => walk_at "ex"))
  | ((with_reducible refine' Kp.nn ?hnk ?hnb ?hnh); (case hnh => assumption); (case hnk => assumption); (case hnb => assumption))
  | ((with_reducible refine del_none ?_); walk_at "hn")
  | ((with_reducible refine' Eq.trans (upd_ne ?hnq) ?_); (case hnq => walk_at "ne"); walk_at "hn"))
local macro_rules | `(tactic| walk_at "ne") => `(tactic| first
  | assumption
  | exact Ne.symm (by assumption)
  | exact Bag.ne (by assumption) (by assumption)
  | exact Ne.symm (Bag.ne (by assumption) (by assumption))
  | exact ne_of_none (by assumption) (by assumption)
  | exact Ne.symm (ne_of_none (by assumption) (by assumption)))
local macro_rules | `(tactic| walk_at "ex") => `(tactic| first
  | assumption
  | with_reducible exact Ex.refl _
  | ((with_reducible refine' Ex.mut ?exm ?exn); (case exn => walk_at "hn"); (case exm => walk_at "ex"))
  | ((with_reducible refine' Ex.trans ?exa ?exb); (case exb => assumption); (case exa => walk_at "ex"))
  | ((with_reducible refine' Ex.trans ?exa (Ex.new ?exn)); (case exn => walk_at "hn"); (case exa => walk_at "ex")))
local macro_rules | `(tactic| walk_at "hp") => `(tactic| first
  | assumption
  | with_reducible exact upd_same
  | ((with_reducible refine' up_new ?hpn ?hpr); (case hpn => walk_at "hn"); (case hpr => walk_at "hp"))
  | ((with_reducible refine' up_ne ?hpn ?hpr); (case hpr => walk_at "hp"); (case hpn => walk_at "ne"))
  | ((with_reducible refine' hp_kp ?hph ?hpk); (case hph => assumption); (case hpk => assumption))
  | ((with_reducible refine' hp_del ?hph); (case hph => assumption))
  | ((with_reducible refine' hp_ex ?hph ?hpe); (case hph => assumption); (case hpe => walk_at "ex")))
local macro_rules | `(tactic| walk_at "sq") => `(tactic| first
  | assumption
  | ((with_reducible refine' SqL.of ?sof); (case sof => walk_at "hp"))
  | ((with_reducible refine' SqT.of ?sof); (case sof => walk_at "hp"))
  | ((with_reducible refine' sl_new ?hpn ?hpr); (case hpn => walk_at "hn"); (case hpr => walk_at "sq"))
  | ((with_reducible refine' st_new ?hpn ?hpr); (case hpn => walk_at "hn"); (case hpr => walk_at "sq"))
  | ((with_reducible refine' sl_kp ?hph ?hpk); (case hph => assumption); (case hpk => assumption))
  | ((with_reducible refine' st_kp ?hph ?hpk); (case hph => assumption); (case hpk => assumption))
  | ((with_reducible refine' sl_del ?hph); (case hph => assumption))
  | ((with_reducible refine' st_del ?hph); (case hph => assumption))
  | ((with_reducible refine' sl_ex ?hph ?hpe); (case hph => assumption); (case hpe => walk_at "ex"))
  | ((with_reducible refine' st_ex ?hph ?hpe); (case hph => assumption); (case hpe => walk_at "ex")))
local macro_rules | `(tactic| walk_at "ty") => `(tactic| first
  | exact TyX.base (.str _)
  | exact TyX.base (.int _)
  | exact TyX.base (.bl _)
  | exact TyX.base .non
  | exact ty_L (by walk_at "sq")
  | exact ty_T (by walk_at "sq"))
local macro_rules | `(tactic| walk_at "sz") => `(tactic| first | omega | exact sz_le (by omega) | exact sz_lt (by omega) | (refine sz_le ?_; simp; omega) | (refine sz_lt ?_; simp; omega) | (refine sz_le ?_; simp))
local macro_rules | `(tactic| walk_at "side") => `(tactic| first | assumption | omega | (refine ⟨?_, ?_⟩ <;> omega) | (exact .inl ⟨by omega, by omega⟩) | (exact .inr ⟨by omega, by omega⟩) | (exact ⟨by decide, by decide, by decide⟩) | rfl)
local macro_rules | `(tactic| walk_at "g1") => `(tactic| first
  | with_reducible first
    | refine g_seq ?_ | refine g_asg ?_ | refine g_name ?_ | refine g_op ?_ | refine g_c ?_ | refine g_cons ?_ | refine g_nil ?_ | refine g_cb ?_ | refine g_call ?_ | refine g_ret ?_ | refine g_drop ?_ | refine g_next ?_
    | refine g_ifS ?_ | refine g_if ?_ | refine g_test ?_ | refine g_tB ?_ | refine g_bl ?_ | refine g_and ?_ | refine g_or ?_ | refine g_not ?_ | refine g_andV ?_ | refine g_orV ?_ | refine g_notV ?_
    | refine g_un ?_ | refine g_neg ?_ | refine g_rI0 ?_ | refine g_int1 ?_ | refine g_abs ?_ | refine g_mx2 ?_ | refine g_mn2 ?_ | refine g_par ?_ | refine g_par2 ?_ | refine g_chain ?_
    | refine g_for ?_ | refine g_lc ?_ | refine g_dc ?_ | refine g_iList ?_ | refine g_iTup ?_ | refine g_iStr ?_ | refine g_iRng1 ?_ | refine g_iEnum ?_ | refine g_itS ?_ | refine g_gcons ?_ | refine g_gnil ?_
    | refine g_dget ?_ | refine g_dput ?_ | refine g_dnew ?_ | refine g_inSg ?_ | refine g_notNn ?_ | refine g_isNn ?_ | refine g_sl ?_ | refine g_nopart ?_ | refine g_part ?_ | refine g_parti ?_ | refine g_meth ?_ | refine g_make ?_ | refine g_fldE ?_ | refine g_sfld ?_
    | refine g_sub ?_ | refine g_lst ?_ | refine g_tup ?_ | refine g_bm ?_ | refine g_bm0 ?_ | refine g_tyS ?_ | refine g_yes ?_ | refine iteT ?_ | refine iteF ?_ | refine iteNT ?_ | refine iteNF ?_
  | ((with_reducible refine' g_var ?ev ?_); (case ev => rfl))
  | ((with_reducible refine' g_rI ?ec ?_); (case ec => walk_at "side"))
  | ((with_reducible refine' g_ixL ?es ?ea ?_); (case es => walk_at "sq"); (case ea => first | rfl | assumption))
  | ((with_reducible refine' g_ixT ?es ?ea ?_); (case es => walk_at "sq"); (case ea => first | rfl | assumption))
  | ((with_reducible refine' g_lenL ?es ?_); (case es => walk_at "sq"))
  | ((with_reducible refine' g_lenT ?es ?_); (case es => walk_at "sq"))
  | ((with_reducible refine' g_lenS ?es ?_); (case es => walk_at "sz"))
  | ((with_reducible refine' g_lenD ?es ?_); (case es => walk_at "hp"))
  | ((with_reducible refine' g_listL ?es ?_); (case es => walk_at "sq"))
  | ((with_reducible refine' g_listT ?es ?_); (case es => walk_at "sq"))
  | ((with_reducible refine' g_tupL ?es ?_); (case es => walk_at "sq"))
  | ((with_reducible refine' g_tyL ?es ?_); (case es => walk_at "sq"))
  | ((with_reducible refine g_eqS ?es ?_); (case es => rfl))
  | ((with_reducible refine g_neS ?es ?_); (case es => rfl))
  | ((with_reducible refine' g_inDcS ?es ?_); (case es => walk_at "hp"))
  | ((with_reducible refine' g_notInDcS ?es ?_); (case es => walk_at "hp"))
  | ((with_reducible refine' g_dgetS ?es ?ev ?_); (case es => walk_at "hp"); (case ev => first | assumption | walk_at "dv"))
  | ((with_reducible refine' g_dputS ?es ?el ?_); (case es => walk_at "hp"); (case el => walk_at "sz"))
  | ((with_reducible refine' g_fldI ?es ?ec ?en ?el ?_); (case es => walk_at "hp"); (case ec => assumption); (case en => assumption); (case el => first | assumption | walk_at "fl"))
  | ((with_reducible refine' g_methI ?es ?em ?_); (case es => walk_at "hp"); (case em => first | assumption | walk_at "fl"))
  | ((with_reducible refine' g_sfldI ?es ?ec ?en ?el ?_); (case es => walk_at "hp"); (case ec => assumption); (case en => assumption); (case el => first | assumption | walk_at "fl"))
  | ((with_reducible refine' g_isi ?et ?ek ?_); (case et => walk_at "ty"); (case ek => walk_at "kb"))
  | ((with_reducible refine g_addT ?el ?_); (case el => walk_at "sz"))
  | ((with_reducible refine' g_cat ?e1 ?e2 ?el ?_); (case e1 => walk_at "hp"); (case e2 => walk_at "hp"); (case el => walk_at "sz"))
  | ((with_reducible refine' g_slL ?es ?_); (case es => walk_at "sq"))
  | ((with_reducible refine g_slS ?el ?_); (case el => walk_at "sz"))
  | ((with_reducible refine' g_itL ?es ?_); (case es => walk_at "sq"))
  | ((with_reducible refine' g_itT ?es ?_); (case es => walk_at "sq"))
  | ((with_reducible refine' g_itE ?es ?_); (case es => walk_at "sq"))
  | ((with_reducible refine' g_itR ?es ?_); (case es => (constructor <;> omega)))
  | ((with_reducible refine' g_gtup ?es ?en ?_); (case es => walk_at "sq"); (case en => first | rfl | assumption))
  | ((with_reducible refine' g_setL ?es ?ej ?_); (case es => walk_at "hp"); (case ej => first | rfl | assumption))
  | ((with_reducible refine' g_app ?es ?el ?_); (case es => walk_at "hp"); (case el => walk_at "sz")))
local macro_rules | `(tactic| walk_at "go") => `(tactic| repeat (walk_at "g1"))
abbrev N_l_river : List Str := ["_law_bag_here", "_law_many", "_law_names_here", "_law_rows", "_law_k", "_law_way"]
def t_l_river (K : PySem.W.Frag) : TS :=
  (tSeq (tPar 2 3 (tCons (tCall (sp_l_names K) [] E0 (tCons (tVar 0) (tCons (tVar 1) tNil))) (tCons (tLst tNil) tNil)))
  (tSeq (tFor (iRng1 (tCons (tVar 1) tNil)) (gName 4) (tSeq (tAsg (tCall (sp_l_take K) [] E0 (tCons (tVar 0) (tCons (tC (.int 6)) tNil))) (gName 5))
  (tIfS (tOr (tTest (tOp (rEqU K) (tVar 4) (tC (.int 0)))) (tTest (tOp (rEqU K) (tVar 5) (tC (.int 0))))) (tDrop (tBM K "list" rAppend (tVar 3) (tCons (tTup (tCons (tOp (rIx K) (tVar 2) (tVar 4)) (tCons (tC (.str "sea")) tNil))) tNil))) (tDrop (tBM K "list" rAppend (tVar 3) (tCons (tTup (tCons (tOp (rIx K) (tVar 2) (tVar 4)) (tCons (tIf (tTest (tOp rLtI (tVar 5) (tC (.int 4)))) (tOp (rIx K) (tVar 2) (tOp rSubI (tVar 4) (tC (.int 1)))) (tOp (rIx K) (tVar 2) (tCall (sp_l_take K) [] E0 (tCons (tVar 0) (tCons (tVar 4) tNil))))) tNil))) tNil))))))
  (tRet (tCall (sp_l_mixed K) [] E0 (tCons (tVar 0) (tCons (tVar 3) tNil))))))
def sp_l_river (K : PySem.W.Frag) : Sp := fun vs H Q _ => ∃ (b : Addr) (m : Nat), vs = [.ref b, .int (m : Nat)] ∧ Bag H b ∧ 1 ≤ m ∧ m ≤ 40 ∧
  ∀ (p : Addr) (H' : Hp) (zs : Zs), Kp b H H' → H p = none → del H' b p = some (.lst (zR zs)) → (∀ z ∈ zs, del H' b z.1 = some (.tup [.str z.2.1, .str z.2.2])) → Good (zW zs) → PF (zW zs) → Q (.ref p) H'
theorem len_l_river {K : PySem.W.Frag} {vs : List V} {H : Hp} {Q : VK} {E : XK} (h : sp_l_river K vs H Q E) : vs.length = 2 := by obtain ⟨_, _, rfl, _⟩ := h; rfl
theorem pure_l_river {K : PySem.W.Frag} (vs : List V) (H : Hp) (Q : VK) (E : XK) (h : sp_l_river K vs H Q E) : t_l_river K { nx := fun _ H' => Q .non H', rt := Q } (start N_l_river vs) H := by
  obtain ⟨b, m, rfl, hb, hm1, hm2, k⟩ := h
  unfold t_l_river
  walk_at "go"
  refine ⟨b, m, rfl, hb, hm1, hm2, fun q H1 ns kp1 hq hA hnl N => ?_⟩
  have qb := hb.ne hq
  walk_at "go"
  refine ⟨Nat.zero_le _, fun p hp => ?_⟩
  have pb := kp1.bag.ne hp
  have hp0 : H p = none := kp1.nn hb hp
  have pq : q ≠ p := fun e => by subst e; rw [hA] at hp; cases hp
  walk_at "go"
  let Inv : Nat → L2.St → Hp → Prop := fun i σ' H' => ∃ (zs : Zs) (v w : Option V), σ' = [some (.ref b), some (.int (m : Nat)), some (.ref q), some (.ref p), v, w] ∧ Kp b H H' ∧ H' q = some (.lst (strsV ns)) ∧ H' p = some (.lst (zR zs)) ∧ zs.length = i ∧ (∀ z ∈ zs, H' z.1 = some (.tup [.str z.2.1, .str z.2.2])) ∧ wrs (zW zs) = ns.take i ∧ (∀ (j : Nat) r, (zW zs)[j]? = some r → r.2 = "sea" ∨ ∃ l, l < j ∧ ns[l]? = some r.2)
  refine for_R m Inv ?_ ?_ ?_ (hj := by omega)
  · exact ⟨[], _, _, rfl, (kp1.grow (Ex.new hp)), up_new hp hA, upd_same, rfl, fun z h => by simp at h, by simp [wrs, zW], fun j r h => by simp [zW] at h⟩
  · rintro i _ H2 hi ⟨zs, v, w, rfl, kp2, hq2, hp2, hzl, hz, hzw, hzd⟩
    have hni : ns[i]? = some (ns[i]'(by omega)) := List.getElem?_eq_getElem (by omega)
    generalize hnm : ns[i]'(by omega) = nm at hni
    have aty : ∀ (l : Nat) (x : Str), ns[l]? = some x → atI (strsV ns) (l : Int) = some (.str x) := fun l x h => atI_nat (by rw [strsV, List.getElem?_map, h]; rfl)
    walk_at "go"
    refine ⟨b, _, rfl, kp2.bag, by omega, by omega, fun way H3 r0 r1 kp3 => ?_⟩
    have hq3 : H3 q = some (.lst (strsV ns)) := hp_kp (del_some qb hq2) kp3
    have hp3 : H3 p = some (.lst (zR zs)) := hp_kp (del_some pb hp2) kp3
    have zb : ∀ z ∈ zs, z.1 ≠ b := fun z hm e => by
      have h1 := hz z hm
      obtain ⟨x, y, h2, _⟩ := kp2.bag
      rw [e, h2] at h1; cases h1
    have hz3 : ∀ z ∈ zs, H3 z.1 = some (.tup [.str z.2.1, .str z.2.2]) := fun z hm => hp_kp (del_some (zb z hm) (hz z hm)) kp3
    have kp03 := kp2.trans kp3
    -- the last step of both branches
    have step : ∀ (x : Str) (H4 : Hp) (t : Addr), Kp b H H4 → H4 q = some (.lst (strsV ns)) → H4 p = some (.lst (zR zs)) → (∀ z ∈ zs, H4 z.1 = some (.tup [.str z.2.1, .str z.2.2])) → (x = "sea" ∨ ∃ l, l < i ∧ ns[l]? = some x) → H4 t = none →
        Inv (i + 1) [some (.ref b), some (.int (m : Nat)), some (.ref q), some (.ref p), some (.int (i : Nat)), some (.int way)] (upd (upd H4 t (.tup [.str nm, .str x])) p (.lst (zR zs ++ [.ref t]))) := by
      intro x H4 t kp4 hq4 hp4 hz4 hx ht
      have tp : t ≠ p := fun e => by subst e; rw [hp4] at ht; cases ht
      refine ⟨zs ++ [(t, (nm, x))], _, _, rfl, (kp4.grow (Ex.new ht)).mut pb hp0, ?_, ?_, by simp [hzl], fun z hm => ?_, ?_, fun j r hr => ?_⟩
      · rw [upd_ne pq]; exact up_new ht hq4
      · rw [upd_same]; simp [zR]
      · rcases List.mem_append.mp hm with h | h
        · have h4 := hz4 z h
          have zp : z.1 ≠ p := fun e => by rw [e, hp4] at h4; cases h4
          rw [upd_ne zp]; exact up_new ht h4
        · have : z = (t, (nm, x)) := by simpa using h
          subst this
          rw [upd_ne tp]; exact upd_same
      · rw [List.take_add_one, hni, ← hzw]
        simp [wrs, zW]
      · have hzwl : (zW zs).length = i := by simp [zW, hzl]
        rw [show zW (zs ++ [(t, (nm, x))]) = zW zs ++ [(nm, x)] by simp [zW]] at hr
        by_cases hj : j < (zW zs).length
        · rw [List.getElem?_append_left hj] at hr
          exact hzd j r hr
        · rw [List.getElem?_append_right (by omega)] at hr
          have hj2 : j = i := by
            have := (List.getElem?_eq_some_iff.mp hr).1
            simp at this; omega
          subst hj2
          rw [hzwl, Nat.sub_self] at hr
          cases hr
          exact hx
    have hzR : (zR zs).length = i := by simp [zR, hzl]
    have ati := aty i nm hni
    have sea : (tDrop (tBM K "list" rAppend (tVar 3) (tCons (tTup (tCons (tOp (rIx K) (tVar 2) (tVar 4)) (tCons (tC (.str "sea")) tNil))) tNil))) { nx := Inv (i + 1), ct := Inv (i + 1), bk := fun σ H' => (tRet (tCall (sp_l_mixed K) [] E0 (tCons (tVar 0) (tCons (tVar 3) tNil)))) { nx := fun _ H' => Q .non H', rt := Q } σ H', rt := Q } [some (.ref b), some (.int (m : Nat)), some (.ref q), some (.ref p), some (.int (i : Nat)), some (.int way)] H3 := by
      walk_at "go"
      refine ⟨sz_le (by show 2 ≤ _; omega), fun t ht => ?_⟩
      walk_at "go"
      exact step "sea" H3 t kp03 hq3 hp3 hz3 (.inl rfl) ht
    walk_at "go"
    refine iteD (fun h => ?_) (fun h => ?_)
    · refine iteT ?_
      exact sea
    · have h0 : i ≠ 0 := fun e => h (by rw [e]; rfl)
      walk_at "go"
      refine iteD (fun h => ?_) (fun h => ?_)
      · exact sea
      · walk_at "go"
        refine iteD (fun h => ?_) (fun h => ?_)
        · have hpi : ns[i - 1]? = some (ns[i - 1]'(by omega)) := List.getElem?_eq_getElem (by omega)
          have at1 := aty (i - 1) _ hpi
          rw [show ((i - 1 : Nat) : Int) = (i : Int) - 1 by omega] at at1
          walk_at "go"
          refine ⟨sz_le (by show 2 ≤ _; omega), fun t ht => ?_⟩
          walk_at "go"
          exact step _ H3 t kp03 hq3 hp3 hz3 (.inr ⟨i - 1, by omega, hpi⟩) ht
        · walk_at "go"
          refine ⟨b, _, rfl, kp3.bag, by omega, by omega, fun l H4 r2 r3 kp4 => ?_⟩
          obtain ⟨l, rfl⟩ : ∃ j : Nat, l = (j : Int) := ⟨l.toNat, by omega⟩
          have hpi : ns[l]? = some (ns[l]'(by omega)) := List.getElem?_eq_getElem (by omega)
          have at1 := aty l _ hpi
          have hq4 : H4 q = some (.lst (strsV ns)) := hp_kp (del_some qb hq3) kp4
          have hp4 : H4 p = some (.lst (zR zs)) := hp_kp (del_some pb hp3) kp4
          have hz4 : ∀ z ∈ zs, H4 z.1 = some (.tup [.str z.2.1, .str z.2.2]) := fun z hm => hp_kp (del_some (zb z hm) (hz3 z hm)) kp4
          walk_at "go"
          refine ⟨sz_le (by show 2 ≤ _; omega), fun t ht => ?_⟩
          walk_at "go"
          exact step _ H4 t (kp03.trans kp4) hq4 hp4 hz4 (.inr ⟨l, by omega, hpi⟩) ht
  · rintro _ H2 ⟨zs, v, w, rfl, kp2, hq2, hp2, hzl, hz, hzw, hzd⟩
    have zb : ∀ z ∈ zs, z.1 ≠ b := fun z hm e => by
      have h1 := hz z hm
      obtain ⟨x, y, h2, _⟩ := kp2.bag
      rw [e, h2] at h1; cases h1
    rw [← hnl, List.take_length] at hzw
    obtain ⟨g, pf⟩ := good_of N (by omega) (by omega) hzw hzd
    walk_at "go"
    refine ⟨b, p, zR zs, rfl, kp2.bag, SqL.of (del_some pb hp2), by simp [zR, hzl]; omega, fun r H3 ys pm kp3 hr hr3 => ?_⟩
    obtain ⟨zs', rfl, pz⟩ := perm_map _ pm zs rfl
    have rb := kp2.bag.ne hr
    have pw : (zW zs').Perm (zW zs) := pz.map _
    refine k r H3 zs' (kp2.trans kp3) (kp2.nn hb hr) (del_some rb hr3) (fun z hm => ?_) (g.perm pw) (pf.perm pw)
    have hm' := pz.mem_iff.mp hm
    exact kp3.ex _ _ (del_some (zb z hm') (hz z hm'))
end WK
namespace WK
open PySem L2
/-! ### data compared -/
theorem eqvAll_strs : ∀ (as bs : List Str), PyData.eqvAll (as.map PyData.str) (bs.map PyData.str) = decide (as = bs)
  | [], [] => by simp [PyData.eqvAll]
  | [], b :: bs => by simp [PyData.eqvAll]
  | a :: as, [] => by simp [PyData.eqvAll]
  | a :: as, b :: bs => by
    rw [List.map_cons, List.map_cons, PyData.eqvAll, eqv_strs, eqvAll_strs as bs]
    by_cases h : a = b
    · subst h
      by_cases h2 : as = bs
      · subst h2; simp
      · simp [h2]
    · simp [h]
theorem eqv_strsT (as bs : List Str) : PyData.eqv (.tuple (as.map PyData.str)) (.tuple (bs.map PyData.str)) = decide (as = bs) := by rw [PyData.eqv]; exact eqvAll_strs as bs
theorem eqv_strsL (as bs : List Str) : PyData.eqv (.list (as.map PyData.str)) (.list (bs.map PyData.str)) = decide (as = bs) := by rw [PyData.eqv]; exact eqvAll_strs as bs
def rowD (r : Str × Str) : PyData := .tuple [.str r.1, .str r.2]
theorem eqv_row (a b : Str × Str) : PyData.eqv (rowD a) (rowD b) = decide (a = b) := by
  have := eqv_strsT [a.1, a.2] [b.1, b.2]
  have e : PyData.eqv (rowD a) (rowD b) = decide ([a.1, a.2] = [b.1, b.2]) := this
  rw [e]
  by_cases h : a = b
  · subst h; simp
  · rw [decide_eq_false h, decide_eq_false]
    intro z
    apply h
    obtain ⟨h1, h2⟩ := List.cons.inj z
    exact Prod.ext h1 (List.cons.inj h2).1
theorem eqv_rows : ∀ (as bs : Rows), PyData.eqv (rowsD as) (rowsD bs) = decide (as = bs) := by
  have key : ∀ (as bs : Rows), PyData.eqvAll (as.map rowD) (bs.map rowD) = decide (as = bs) := by
    intro as
    induction as with
    | nil => intro bs; cases bs <;> simp [PyData.eqvAll]
    | cons a as ih =>
      intro bs
      cases bs with
      | nil => simp [PyData.eqvAll]
      | cons b bs =>
        rw [List.map_cons, List.map_cons, PyData.eqvAll, eqv_row, ih bs]
        by_cases h : a = b
        · subst h
          by_cases h2 : as = bs
          · subst h2; simp
          · simp [h2]
        · simp [h]
  intro as bs
  show PyData.eqv (.list (as.map rowD)) (.list (bs.map rowD)) = _
  rw [PyData.eqv]; exact key as bs
theorem can_rows {rows : Rows} (h : ∀ r ∈ rows, PyData.strOk r.1 = true ∧ PyData.strOk r.2 = true) : PyData.canLayAll0 (rows.map rowD) = true ∧ PyData.depthAll (rows.map rowD) ≤ 1 := by
  induction rows with
  | nil => exact ⟨by simp [PyData.canLayAll0], by simp [PyData.depthAll]⟩
  | cons r rows ih =>
    obtain ⟨i1, i2⟩ := ih fun r hr => h r (List.mem_cons_of_mem _ hr)
    obtain ⟨h1, h2⟩ := h r (List.mem_cons_self ..)
    have c := can_strs (ws := [r.1, r.2]) (fun w hw => by
      rcases List.mem_cons.mp hw with e | hw
      · rw [e]; exact h1
      · have : w = r.2 := by simpa using hw
        rw [this]; exact h2)
    have dd := depth_strs [r.1, r.2]
    refine ⟨?_, ?_⟩
    · rw [List.map_cons, PyData.canLayAll0, i1]
      show (PyData.canLay0 (.tuple ([r.1, r.2].map PyData.str)) && true) = true
      rw [PyData.canLay0, c]; rfl
    · rw [List.map_cons, PyData.depthAll]
      have : PyData.depth (rowD r) = 1 := by
        show PyData.depth (.tuple ([r.1, r.2].map PyData.str)) = 1
        rw [PyData.depth, dd]
      omega
theorem shaped_rows {rows : Rows} (h : ∀ r ∈ rows, PyData.strOk r.1 = true ∧ PyData.strOk r.2 = true) : SeqAt.shaped (rowsD rows) = true := by
  obtain ⟨h1, h2⟩ := can_rows h
  exact shaped_list h1 (Nat.le_trans h2 (by decide))
theorem shaped_rowsT {rows : Rows} (h : ∀ r ∈ rows, PyData.strOk r.1 = true ∧ PyData.strOk r.2 = true) : SeqAt.shaped (.tuple (rows.map rowD)) = true := by
  obtain ⟨h1, h2⟩ := can_rows h
  exact shaped_tuple h1 (Nat.le_trans h2 (by decide))
theorem Good.okr {rows : Rows} (g : Good rows) : ∀ r ∈ rows, PyData.strOk r.1 = true ∧ PyData.strOk r.2 = true := fun r h => ⟨isName_ok (g.nm r h).1, isName_ok (g.nm r h).2⟩
theorem shaped_strsT {ws : List Str} (h : ∀ w ∈ ws, PyData.strOk w = true) : SeqAt.shaped (.tuple (ws.map PyData.str)) = true := shaped_tuple (can_strs h) (by rw [depth_strs]; omega)
theorem shaped_strsL {ws : List Str} (h : ∀ w ∈ ws, PyData.strOk w = true) : SeqAt.shaped (.list (ws.map PyData.str)) = true := shaped_list (can_strs h) (by rw [depth_strs]; omega)
/-! ### comprehensions over rows -/
theorem lc_rows {K : PySem.W.Frag} {σ : L2.St} {H : Hp} {Q : VK} {tt : TT} {te : TE} {a : Addr} {rows : Rows} {i j : Nat} (hD : Dp K H (.ref a) (rowsD rows)) (hl : rows.length ≤ 1000) (hw : ∀ u v, wipe (((wipe σ [i, j]).set i u).set j v) [i, j] = wipe σ [i, j]) (g : Str × Str → Option V)
    (body : ∀ r ∈ rows, ∀ H', Ex H H' → ∀ R : Option V → Hp → Prop, (∀ H'', Ex H' H'' → R (g r) H'') →
      tt (((wipe σ [i, j]).set i (some (.str r.1))).set j (some (.str r.2))) H' fun b H3 => if b = true then te (((wipe σ [i, j]).set i (some (.str r.1))).set j (some (.str r.2))) H3 fun y H4 => R (some y) H4 else R Option.none H3)
    (hq : ∀ C H', H C = none → Ex H H' → H' C = some (.lst (rows.filterMap g)) → Q (.ref C) H') : LcP (Itl K a) (gTup K 2 (gCons (gName i) (gCons (gName j) gNil))) tt te [i, j] σ Q H := by
  obtain ⟨rs, hs, hlr, hat⟩ := rows_at hD
  refine lc_L (xs := rs) (fun C n acc H' => H C = none ∧ Ex H H' ∧ acc = (rows.take n).filterMap g) (fun C hC => ⟨hC, Ex.new hC, by simp⟩) (fun C n acc H' ⟨_, e, _⟩ => sl_ex hs e) ?_ ?_
  · rintro C n acc H2 x hx hA hlz ⟨hC, hE, e⟩
    obtain ⟨t, r, rfl, hr, ht⟩ := hat n x hx
    have hn : n < rows.length := (List.getElem?_eq_some_iff.mp hr).1
    refine g_gtup (st_ex ht hE) rfl ?_
    refine g_gcons (g_name (g_gcons (g_name (g_gnil ?_))))
    refine ⟨hw _ _, ?_⟩
    refine body r (List.mem_of_getElem? hr) H2 hE (fun o H4 => match o with
      | some y => ∃ acc, H4 C = some (.lst acc) ∧ acc.length < sizeLine ∧ LcN C (fun n acc H' => H C = none ∧ Ex H H' ∧ acc = (rows.take n).filterMap g) (n + 1) (upd H4 C (.lst (acc ++ [y])))
      | Option.none => LcN C (fun n acc H' => H C = none ∧ Ex H H' ∧ acc = (rows.take n).filterMap g) (n + 1) H4) (fun H'' e2 => ?_)
    have hA' := e2 _ _ hA
    have et : (rows.take (n + 1)).filterMap g = (rows.take n).filterMap g ++ (match g r with | some y => [y] | Option.none => []) := by
      rw [List.take_add_one, hr, List.filterMap_append]
      congr 1
      cases hg : g r <;> simp [hg]
    cases hg : g r with
    | some y =>
      rw [hg] at et
      exact lc_add hA' hlz (by omega) ⟨hC, Ex.mut (hE.trans e2) hC, by rw [et, e]⟩
    | none =>
      rw [hg] at et
      exact ⟨acc, hA', by omega, hC, hE.trans e2, by rw [et, e]; simp⟩
  · rintro C acc H2 hC hA hlz ⟨_, hE, e⟩
    rw [List.take_of_length_le (by omega)] at e
    subst e
    exact hq C H2 hC hE hA
theorem fm_fst (rows : Rows) : rows.filterMap (fun r => some (V.str r.1)) = strsV (wrs rows) := by
  simp [strsV, wrs]
theorem fm_fstF (f : Str × Str → Bool) : ∀ rows : Rows, rows.filterMap (fun r => if f r = true then some (V.str r.1) else Option.none) = strsV (wrs (rows.filter f))
  | [] => rfl
  | r :: rows => by
    have ih := fm_fstF f rows
    by_cases h : f r = true
    · rw [List.filterMap_cons, if_pos h, List.filter_cons_of_pos h, ih]; rfl
    · rw [List.filterMap_cons, if_neg h, List.filter_cons_of_neg h, ih]
/-! ### the type of an own thing -/
def tyNames : List String := ["NoneType", "bool", "int", "str", "list", "tuple", "dict"]
structure GTy (K : PySem.W.Frag) (C : Addr) : Prop where
  cl : Cls K C
  ha : PySem.W.findIn K (.ref C) "__class__" = some (some (.builtin "object.__class__"))
  hn : PySem.W.specialIn K (.builtin "object.__class__") "__get__" = some (some (.builtin "getset_descriptor.__get__"))
  ht : PySem.W.takesIn K (.builtin "object.__class__") = some true
  hm : PySem.W.mroIn K C (.type "object") = some true
  no : ∀ T ∈ tyNames, PySem.W.kitOne K (.type T) (.ref C) = some false ∧ PySem.W.notFirst K C (.type T) = true
theorem GTy.ty {K : PySem.W.Frag} {C : Addr} (G : GTy K C) {H : Hp} {a dx : Addr} {fs : List (Str × V)} (e : H a = some (.ins C dx fs)) : TyX K H (.ref a) (.ref C) := .base (.ins e G.cl G.ha G.hn G.ht G.hm)
theorem kit_self {K : PySem.W.Frag} {C : Addr} : PySem.W.kitOne K (.ref C) (.ref C) = some true := by
  unfold PySem.W.kitOne
  rw [if_pos (by simp)]
theorem nf_self {K : PySem.W.Frag} {C : Addr} : PySem.W.notFirst K C (.ref C) = true := by simp [PySem.W.notFirst]
theorem g_isiO {K : PySem.W.Frag} {H : Hp} {Q : VK} {x : V} {t : Value} {C : Addr} {b : Bool} (ty : TyX K H x t) (hk : PySem.W.kitOne K t (.ref C) = some b) (h : Q (.bl b) H) : rIsi K [x, .ref C] H Q := ⟨x, .ref C, t, .ref C, b, rfl, .own C, ty, hk, h⟩
local macro_rules | `(tactic| walk_at "kb") => `(tactic| first | exact kb_str_str | exact kb_str_int | exact kb_str_bool | exact kb_str_list | exact kb_str_tuple | exact kb_str_dict | exact kb_int_str | exact kb_int_int | exact kb_int_bool | exact kb_int_list | exact kb_int_tuple | exact kb_int_dict | exact kb_bool_str | exact kb_bool_int | exact kb_bool_bool | exact kb_bool_list | exact kb_bool_tuple | exact kb_bool_dict | exact kb_list_str | exact kb_list_int | exact kb_list_bool | exact kb_list_list | exact kb_list_tuple | exact kb_list_dict | exact kb_tuple_str | exact kb_tuple_int | exact kb_tuple_bool | exact kb_tuple_list | exact kb_tuple_tuple | exact kb_tuple_dict | exact kb_dict_str | exact kb_dict_int | exact kb_dict_bool | exact kb_dict_list | exact kb_dict_tuple | exact kb_dict_dict | exact kb_NoneType_str | exact kb_NoneType_int | exact kb_NoneType_bool | exact kb_NoneType_list | exact kb_NoneType_tuple | exact kb_NoneType_dict)
local macro_rules | `(tactic| walk_at "hn") => `(tactic| first
  | assumption
  | ((with_reducible refine' Ex.nn ?hne ?hnh); (case hnh => assumption); (case hne => walk_at "ex"))
  | ((with_reducible refine' Kp.nn ?hnk ?hnb ?hnh); (case hnh => assumption); (case hnk => assumption); (case hnb => assumption))
  | ((with_reducible refine del_none ?_); walk_at "hn")
  | ((with_reducible refine' Eq.trans (upd_ne ?hnq) ?_); (case hnq => walk_at "ne"); walk_at "hn"))
local macro_rules | `(tactic| walk_at "ne") => `(tactic| first
  | assumption
  | exact Ne.symm (by assumption)
  | exact Bag.ne (by assumption) (by assumption)
  | exact Ne.symm (Bag.ne (by assumption) (by assumption))
  | exact ne_of_none (by assumption) (by assumption)
  | exact Ne.symm (ne_of_none (by assumption) (by assumption)))
local macro_rules | `(tactic| walk_at "ex") => `(tactic| first
  | assumption
  | with_reducible exact Ex.refl _
  | ((with_reducible refine' Ex.mut ?exm ?exn); (case exn => walk_at "hn"); (case exm => walk_at "ex"))
  | ((with_reducible refine' Ex.trans ?exa ?exb); (case exb => assumption); (case exa => walk_at "ex"))
  | ((with_reducible refine' Ex.trans ?exa (Ex.new ?exn)); (case exn => walk_at "hn"); (case exa => walk_at "ex")))
local macro_rules | `(tactic| walk_at "hp") => `(tactic| first
  | assumption
  | with_reducible exact upd_same
  | ((with_reducible refine' up_new ?hpn ?hpr); (case hpn => walk_at "hn"); (case hpr => walk_at "hp"))
  | ((with_reducible refine' up_ne ?hpn ?hpr); (case hpr => walk_at "hp"); (case hpn => walk_at "ne"))
  | ((with_reducible refine' hp_kp ?hph ?hpk); (case hph => assumption); (case hpk => assumption))
  | ((with_reducible refine' hp_del ?hph); (case hph => assumption))
  | ((with_reducible refine' hp_ex ?hph ?hpe); (case hph => assumption); (case hpe => walk_at "ex")))
local macro_rules | `(tactic| walk_at "sq") => `(tactic| first
  | assumption
  | ((with_reducible refine' SqL.of ?sof); (case sof => walk_at "hp"))
  | ((with_reducible refine' SqT.of ?sof); (case sof => walk_at "hp"))
  | ((with_reducible refine' sl_new ?hpn ?hpr); (case hpn => walk_at "hn"); (case hpr => walk_at "sq"))
  | ((with_reducible refine' st_new ?hpn ?hpr); (case hpn => walk_at "hn"); (case hpr => walk_at "sq"))
  | ((with_reducible refine' sl_kp ?hph ?hpk); (case hph => assumption); (case hpk => assumption))
  | ((with_reducible refine' st_kp ?hph ?hpk); (case hph => assumption); (case hpk => assumption))
  | ((with_reducible refine' sl_del ?hph); (case hph => assumption))
  | ((with_reducible refine' st_del ?hph); (case hph => assumption))
  | ((with_reducible refine' sl_ex ?hph ?hpe); (case hph => assumption); (case hpe => walk_at "ex"))
  | ((with_reducible refine' st_ex ?hph ?hpe); (case hph => assumption); (case hpe => walk_at "ex")))
local macro_rules | `(tactic| walk_at "ty") => `(tactic| first
  | exact TyX.base (.str _)
  | exact TyX.base (.int _)
  | exact TyX.base (.bl _)
  | exact TyX.base .non
  | exact ty_L (by walk_at "sq")
  | exact ty_T (by walk_at "sq"))
local macro_rules | `(tactic| walk_at "sz") => `(tactic| first | omega | exact sz_le (by omega) | exact sz_lt (by omega) | (refine sz_le ?_; simp; omega) | (refine sz_lt ?_; simp; omega) | (refine sz_le ?_; simp))
local macro_rules | `(tactic| walk_at "side") => `(tactic| first | assumption | omega | (refine ⟨?_, ?_⟩ <;> omega) | (exact .inl ⟨by omega, by omega⟩) | (exact .inr ⟨by omega, by omega⟩) | (exact ⟨by decide, by decide, by decide⟩) | rfl)
local macro_rules | `(tactic| walk_at "g1") => `(tactic| first
  | with_reducible first
    | refine g_seq ?_ | refine g_asg ?_ | refine g_name ?_ | refine g_op ?_ | refine g_c ?_ | refine g_cons ?_ | refine g_nil ?_ | refine g_cb ?_ | refine g_call ?_ | refine g_ret ?_ | refine g_drop ?_ | refine g_next ?_
    | refine g_ifS ?_ | refine g_if ?_ | refine g_test ?_ | refine g_tB ?_ | refine g_bl ?_ | refine g_and ?_ | refine g_or ?_ | refine g_not ?_ | refine g_andV ?_ | refine g_orV ?_ | refine g_notV ?_
    | refine g_un ?_ | refine g_neg ?_ | refine g_rI0 ?_ | refine g_int1 ?_ | refine g_abs ?_ | refine g_mx2 ?_ | refine g_mn2 ?_ | refine g_par ?_ | refine g_par2 ?_ | refine g_chain ?_
    | refine g_for ?_ | refine g_lc ?_ | refine g_dc ?_ | refine g_iList ?_ | refine g_iTup ?_ | refine g_iStr ?_ | refine g_iRng1 ?_ | refine g_iEnum ?_ | refine g_itS ?_ | refine g_gcons ?_ | refine g_gnil ?_
    | refine g_dget ?_ | refine g_dput ?_ | refine g_dnew ?_ | refine g_inSg ?_ | refine g_notNn ?_ | refine g_isNn ?_ | refine g_sl ?_ | refine g_nopart ?_ | refine g_part ?_ | refine g_parti ?_ | refine g_meth ?_ | refine g_make ?_ | refine g_fldE ?_ | refine g_sfld ?_
    | refine g_sub ?_ | refine g_lst ?_ | refine g_tup ?_ | refine g_bm ?_ | refine g_bm0 ?_ | refine g_tyS ?_ | refine g_yes ?_ | refine iteT ?_ | refine iteF ?_ | refine iteNT ?_ | refine iteNF ?_
  | ((with_reducible refine' g_var ?ev ?_); (case ev => rfl))
  | ((with_reducible refine' g_rI ?ec ?_); (case ec => walk_at "side"))
  | ((with_reducible refine' g_ixL ?es ?ea ?_); (case es => walk_at "sq"); (case ea => first | rfl | assumption))
  | ((with_reducible refine' g_ixT ?es ?ea ?_); (case es => walk_at "sq"); (case ea => first | rfl | assumption))
  | ((with_reducible refine' g_lenL ?es ?_); (case es => walk_at "sq"))
  | ((with_reducible refine' g_lenT ?es ?_); (case es => walk_at "sq"))
  | ((with_reducible refine' g_lenS ?es ?_); (case es => walk_at "sz"))
  | ((with_reducible refine' g_lenD ?es ?_); (case es => walk_at "hp"))
  | ((with_reducible refine' g_listL ?es ?_); (case es => walk_at "sq"))
  | ((with_reducible refine' g_listT ?es ?_); (case es => walk_at "sq"))
  | ((with_reducible refine' g_tupL ?es ?_); (case es => walk_at "sq"))
  | ((with_reducible refine' g_tyL ?es ?_); (case es => walk_at "sq"))
  | ((with_reducible refine g_eqS ?es ?_); (case es => rfl))
  | ((with_reducible refine g_neS ?es ?_); (case es => rfl))
  | ((with_reducible refine' g_inDcS ?es ?_); (case es => walk_at "hp"))
  | ((with_reducible refine' g_notInDcS ?es ?_); (case es => walk_at "hp"))
  | ((with_reducible refine' g_dgetS ?es ?ev ?_); (case es => walk_at "hp"); (case ev => first | assumption | walk_at "dv"))
  | ((with_reducible refine' g_dputS ?es ?el ?_); (case es => walk_at "hp"); (case el => walk_at "sz"))
  | ((with_reducible refine' g_fldI ?es ?ec ?en ?el ?_); (case es => walk_at "hp"); (case ec => assumption); (case en => assumption); (case el => first | assumption | walk_at "fl"))
  | ((with_reducible refine' g_methI ?es ?em ?_); (case es => walk_at "hp"); (case em => first | assumption | walk_at "fl"))
  | ((with_reducible refine' g_sfldI ?es ?ec ?en ?el ?_); (case es => walk_at "hp"); (case ec => assumption); (case en => assumption); (case el => first | assumption | walk_at "fl"))
  | ((with_reducible refine' g_isi ?et ?ek ?_); (case et => walk_at "ty"); (case ek => walk_at "kb"))
  | ((with_reducible refine g_addT ?el ?_); (case el => walk_at "sz"))
  | ((with_reducible refine' g_cat ?e1 ?e2 ?el ?_); (case e1 => walk_at "hp"); (case e2 => walk_at "hp"); (case el => walk_at "sz"))
  | ((with_reducible refine' g_slL ?es ?_); (case es => walk_at "sq"))
  | ((with_reducible refine g_slS ?el ?_); (case el => walk_at "sz"))
  | ((with_reducible refine' g_itL ?es ?_); (case es => walk_at "sq"))
  | ((with_reducible refine' g_itT ?es ?_); (case es => walk_at "sq"))
  | ((with_reducible refine' g_itE ?es ?_); (case es => walk_at "sq"))
  | ((with_reducible refine' g_itR ?es ?_); (case es => (constructor <;> omega)))
  | ((with_reducible refine' g_gtup ?es ?en ?_); (case es => walk_at "sq"); (case en => first | rfl | assumption))
  | ((with_reducible refine' g_setL ?es ?ej ?_); (case es => walk_at "hp"); (case ej => first | rfl | assumption))
  | ((with_reducible refine' g_app ?es ?el ?_); (case es => walk_at "hp"); (case el => walk_at "sz")))
local macro_rules | `(tactic| walk_at "go") => `(tactic| repeat (walk_at "g1"))
local macro_rules | `(tactic| walk_at "fl") => `(tactic| first | exact rfs_weirs _ _ _ | exact rfs_lower _ _ _ | exact rfs_courses _ _ _ | exact rfs_need _ _ _ | exact rfs_rows _ _ _ | exact rfs_below _ _ _ | exact rfs_above _ _ _ | exact rfs_course _ _ _ | exact rfs_depth _ _ _ | exact rfs_upstream _ _ _ | (simp only [List.length]; decide))
abbrev N_River__eq_ : List Str := ["self", "other"]
def t_River__eq_ (K : PySem.W.Frag) : TS :=
  (tRet (tAndV (tCB (rIsi K) (tCons (tVar 1) (tCons (tC (.ref (He.ga K "River"))) tNil))) (tAndV (tOp (rEqU K) (tFld K (tVar 0) "weirs") (tFld K (tVar 1) "weirs")) (tOp rEqDs (tFld K (tVar 0) "lower") (tFld K (tVar 1) "lower")))))
def sp_River__eq_ (K : PySem.W.Frag) : Sp := fun vs H Q _ => ∃ (p : Addr) (y : V) (rows : Rows), vs = [.ref p, y] ∧ RiverAt K H p rows ∧
  ((∃ (q : Addr) (rows' : Rows), y = .ref q ∧ RiverAt K H q rows' ∧ Q (.bl (decide (rows = rows'))) H) ∨ ∃ T ∈ tyNames, TyX K H y (.type T) ∧ Q (.bl false) H)
theorem len_River__eq_ {K : PySem.W.Frag} {vs : List V} {H : Hp} {Q : VK} {E : XK} (h : sp_River__eq_ K vs H Q E) : vs.length = 2 := by obtain ⟨_, _, _, rfl, _⟩ := h; rfl
theorem rowsK_flat (rows : Rows) : ∀ p ∈ rowsK rows, flatV p.2 = true := by
  intro p hp
  obtain ⟨r, _, rfl⟩ := List.mem_map.mp hp
  rfl
theorem rowsK_flatV (rows : Rows) : ∀ k z, valV (rowsK rows) k = some z → flatV z = true := by
  intro k z h
  unfold valV at h
  cases hf : (rowsK rows).find? (fun kv => decide (kv.1 = k)) with
  | none => rw [hf] at h; cases h
  | some kv =>
    rw [hf] at h
    cases h
    exact rowsK_flat rows kv (List.mem_of_find?_eq_some hf)
theorem dEq_rows {rows rows' : Rows} (g' : Good rows') (hw : wrs rows = wrs rows') : ((rowsK rows).length == (rowsK rows').length && dEq (rowsK rows') (rowsK rows)) = decide (rows = rows') := by
  have hl : rows.length = rows'.length := by have := congrArg List.length hw; simpa [wrs] using this
  have hl2 : ((rowsK rows).length == (rowsK rows').length) = true := by simp [rowsK, hl]
  rw [hl2, Bool.true_and]
  have hval : ∀ r ∈ rows, valV (rowsK rows') (Sum.inr r.1 : Key) = some (.str (low rows' r.1)) := fun r hr => valV_in (by rw [← hw]; exact List.mem_map.mpr ⟨r, hr, rfl⟩)
  have e : dEq (rowsK rows') (rowsK rows) = rows.all fun r => decide (r.2 = low rows' r.1) := by
    unfold dEq rowsK
    rw [List.all_map]
    rw [Bool.eq_iff_iff, List.all_eq_true, List.all_eq_true]
    constructor
    · intro h r hr
      have := h r hr
      simp only [Function.comp] at this
      have hv := hval r hr
      unfold rowsK at hv
      rw [hv] at this
      simp only [eqV] at this
      simpa using this
    · intro h r hr
      have := h r hr
      simp only [Function.comp]
      have hv := hval r hr
      unfold rowsK at hv
      rw [hv]
      simp only [eqV]
      simpa using this
  rw [e, Bool.eq_iff_iff, List.all_eq_true, decide_eq_true_eq]
  constructor
  · intro h
    refine List.ext_getElem hl fun i h1 h2 => ?_
    have f1 : (rows[i]).1 = (rows'[i]).1 := by
      have a1 : (wrs rows)[i]'(by simpa [wrs] using h1) = rows[i].1 := by simp [wrs]
      have a2 : (wrs rows')[i]'(by simpa [wrs] using h2) = rows'[i].1 := by simp [wrs]
      rw [← a1, ← a2]
      simp only [hw]
    have f2 := h rows[i] (List.getElem_mem h1)
    have f2' : rows[i].2 = low rows' rows[i].1 := by simpa using f2
    rw [f1, g'.low_of (List.getElem_mem h2)] at f2'
    exact Prod.ext f1 f2'
  · intro h r hr
    subst h
    simpa using (g'.low_of hr).symm
theorem pure_River__eq_ {K : PySem.W.Frag} (G : GRiver K) (T : GTy K (He.ga K "River")) (vs : List V) (H : Hp) (Q : VK) (E : XK) (h : sp_River__eq_ K vs H Q E) : t_River__eq_ K { nx := fun _ H' => Q .non H', rt := Q } (start N_River__eq_ vs) H := by
  obtain ⟨p, y, rows, rfl, ⟨⟨dx, tw, dl, dc, cs, h1, h2, h3, h4, h5⟩, g⟩, k⟩ := h
  have gcl := G.cl
  have gnw := G.nw
  have gnl := G.nl
  unfold t_River__eq_
  rcases k with ⟨q, rows', rfl, ⟨⟨dx', tw', dl', dc', cs', h1', h2', h3', h4', h5'⟩, g'⟩, k⟩ | ⟨N, hN, ty, k⟩
  · walk_at "go"
    refine g_isiO (T.ty h1') kit_self ?_
    walk_at "go"
    refine g_eqD (dp_strsT (SqT.of h2)) (dp_strsT (SqT.of h2')) (shaped_strsT g.okw) (shaped_strsT g'.okw) ?_
    rw [eqv_strsT]
    walk_at "go"
    refine iteD (fun hw => ?_) (fun hw => ?_)
    · walk_at "go"
      refine ⟨dl, dl', _, _, rfl, rfl, h3, h3', rowsK_flat rows, rowsK_flatV rows', ?_⟩
      rw [dEq_rows g' hw]; exact k
    · have : decide (rows = rows') = false := decide_eq_false fun e => hw (by rw [e])
      rw [this] at k
      exact k
  · walk_at "go"
    refine g_isiO ty (T.no N hN).1 ?_
    walk_at "go"
    exact k
end WK
namespace WK
open PySem L2
section
variable {K : PySem.W.Frag} {H : Hp} {p : Addr} {rows : Rows} {w : Str} {Q : VK} {E : XK}
theorem no_isW (h : w ∈ wrs rows) {P : Prop} (e : isW rows (.str w) = false) : P := by rw [isW_of h] at e; cases e
theorem use_below (R : RiverAt K H p rows) (h : w ∈ wrs rows) (k : ∀ H', Ex H H' → Q (.str (low rows w)) H') : sp_River_below K [.ref p, .str w] H Q E :=
  ⟨p, rows, .str w, .str w, rfl, R, .str w, shaped_str (R.good.okw w h), fun u e _ => by cases e; exact k, fun e => no_isW h e⟩
theorem use_course (R : RiverAt K H p rows) (h : w ∈ wrs rows) (k : ∀ t H', Ex H H' → H' t = some (.tup (strsV (crs rows rows.length w))) → Q (.ref t) H') : sp_River_course K [.ref p, .str w] H Q E :=
  ⟨p, rows, .str w, .str w, rfl, R, .str w, shaped_str (R.good.okw w h), fun u e _ => by cases e; exact k, fun e => no_isW h e⟩
theorem use_depth (R : RiverAt K H p rows) (h : w ∈ wrs rows) (k : ∀ H', Ex H H' → Q (.int (crs rows rows.length w).length) H') : sp_River_depth K [.ref p, .str w] H Q E :=
  ⟨p, rows, .str w, .str w, rfl, R, .str w, shaped_str (R.good.okw w h), fun u e _ => by cases e; exact k, fun e => no_isW h e⟩
theorem use_above (R : RiverAt K H p rows) (h : w = "sea" ∨ w ∈ wrs rows) (k : ∀ t H', H t = none → Ex H H' → H' t = some (.tup (strsV (aboveL rows (.str w)))) → Q (.ref t) H') : sp_River_above K [.ref p, .str w] H Q E := by
  have ok : PyData.strOk w = true := by rcases h with h | h; rw [h]; exact sea_ok; exact R.good.okw w h
  refine ⟨p, rows, .str w, .str w, rfl, R, .str w, shaped_str ok, fun _ => k, fun e1 e2 => ?_⟩
  rcases h with h | h
  · exact absurd (by rw [h]) e1
  · exact no_isW h e2
theorem use_upstream (R : RiverAt K H p rows) (h : w ∈ wrs rows) (k : ∀ t H', H t = none → Ex H H' → H' t = some (.tup (strsV (upL rows w))) → Q (.ref t) H') : sp_River_upstream K [.ref p, .str w] H Q E :=
  ⟨p, rows, .str w, .str w, rfl, R, .str w, shaped_str (R.good.okw w h), fun u e _ => by cases e; exact k, fun e => no_isW h e⟩
end
theorem crs_ok {rows : Rows} (g : Good rows) {w : Str} (h : w ∈ wrs rows) : ∀ u ∈ crs rows rows.length w, PyData.strOk u = true := fun u hu => g.okw u (crs_in g _ w h u hu)
theorem crs_len (rows : Rows) : ∀ n w, (crs rows n w).length ≤ n
  | 0, _ => by simp [crs]
  | n + 1, w => by
    rw [show crs rows (n + 1) w = if w = "sea" then [] else w :: crs rows n (low rows w) from rfl]
    split
    · simp
    · have := crs_len rows n (low rows w); simp; omega
theorem g_clear {H : Hp} {Q : VK} {l : Addr} {xs : List V} (h : H l = some (.lst xs)) (k : Q .non (upd H l (.lst []))) : rClear (.ref l) [] H Q := ⟨l, xs, rfl, rfl, h, k⟩
theorem dp_isInt {K : PySem.W.Frag} {H : Hp} (i : Int) : TyX K H (.int i) (.type "int") := .base (.int i)
theorem g_iOwn {K : PySem.W.Frag} {c fld : Str} {te : TE} {σ : L2.St} {H : Hp} {R : It → Hp → Prop} (h : te σ H fun x H1 => ∃ (p dx tw : Addr) (fs : List (Str × V)) (xs : List V), x = .ref p ∧ H1 p = some (.ins (He.ga K c) dx fs) ∧ fs.lookup fld = some (.ref tw) ∧ SqT K H1 tw xs ∧ R (Itt K tw) H1) : iOwn K c fld te σ H R := h
local macro_rules | `(tactic| walk_at "kb") => `(tactic| first | exact kb_str_str | exact kb_str_int | exact kb_str_bool | exact kb_str_list | exact kb_str_tuple | exact kb_str_dict | exact kb_int_str | exact kb_int_int | exact kb_int_bool | exact kb_int_list | exact kb_int_tuple | exact kb_int_dict | exact kb_bool_str | exact kb_bool_int | exact kb_bool_bool | exact kb_bool_list | exact kb_bool_tuple | exact kb_bool_dict | exact kb_list_str | exact kb_list_int | exact kb_list_bool | exact kb_list_list | exact kb_list_tuple | exact kb_list_dict | exact kb_tuple_str | exact kb_tuple_int | exact kb_tuple_bool | exact kb_tuple_list | exact kb_tuple_tuple | exact kb_tuple_dict | exact kb_dict_str | exact kb_dict_int | exact kb_dict_bool | exact kb_dict_list | exact kb_dict_tuple | exact kb_dict_dict | exact kb_NoneType_str | exact kb_NoneType_int | exact kb_NoneType_bool | exact kb_NoneType_list | exact kb_NoneType_tuple | exact kb_NoneType_dict)
local macro_rules | `(tactic| walk_at "hn") => `(tactic| first
  | assumption
  | ((with_reducible refine' Ex.nn ?hne ?hnh); (case hnh => assumption); (case hne => walk_at "ex"))
  | ((with_reducible refine' Kp.nn ?hnk ?hnb ?hnh); (case hnh => assumption); (case hnk => assumption); (case hnb => assumption))
  | ((with_reducible refine del_none ?_); walk_at "hn")
  | ((with_reducible refine' Eq.trans (upd_ne ?hnq) ?_); (case hnq => walk_at "ne"); walk_at "hn"))
local macro_rules | `(tactic| walk_at "ne") => `(tactic| first
  | assumption
  | exact Ne.symm (by assumption)
  | exact Bag.ne (by assumption) (by assumption)
  | exact Ne.symm (Bag.ne (by assumption) (by assumption))
  | exact ne_of_none (by assumption) (by assumption)
  | exact Ne.symm (ne_of_none (by assumption) (by assumption)))
local macro_rules | `(tactic| walk_at "ex") => `(tactic| first
  | assumption
  | with_reducible exact Ex.refl _
  | ((with_reducible refine' Ex.mut ?exm ?exn); (case exn => walk_at "hn"); (case exm => walk_at "ex"))
  | ((with_reducible refine' Ex.trans ?exa ?exb); (case exb => assumption); (case exa => walk_at "ex"))
  | ((with_reducible refine' Ex.trans ?exa (Ex.new ?exn)); (case exn => walk_at "hn"); (case exa => walk_at "ex")))
local macro_rules | `(tactic| walk_at "hp") => `(tactic| first
  | assumption
  | with_reducible exact upd_same
  | ((with_reducible refine' up_new ?hpn ?hpr); (case hpn => walk_at "hn"); (case hpr => walk_at "hp"))
  | ((with_reducible refine' up_ne ?hpn ?hpr); (case hpr => walk_at "hp"); (case hpn => walk_at "ne"))
  | ((with_reducible refine' hp_kp ?hph ?hpk); (case hph => assumption); (case hpk => assumption))
  | ((with_reducible refine' hp_del ?hph); (case hph => assumption))
  | ((with_reducible refine' hp_ex ?hph ?hpe); (case hph => assumption); (case hpe => walk_at "ex")))
local macro_rules | `(tactic| walk_at "sq") => `(tactic| first
  | assumption
  | ((with_reducible refine' SqL.of ?sof); (case sof => walk_at "hp"))
  | ((with_reducible refine' SqT.of ?sof); (case sof => walk_at "hp"))
  | ((with_reducible refine' sl_new ?hpn ?hpr); (case hpn => walk_at "hn"); (case hpr => walk_at "sq"))
  | ((with_reducible refine' st_new ?hpn ?hpr); (case hpn => walk_at "hn"); (case hpr => walk_at "sq"))
  | ((with_reducible refine' sl_kp ?hph ?hpk); (case hph => assumption); (case hpk => assumption))
  | ((with_reducible refine' st_kp ?hph ?hpk); (case hph => assumption); (case hpk => assumption))
  | ((with_reducible refine' sl_del ?hph); (case hph => assumption))
  | ((with_reducible refine' st_del ?hph); (case hph => assumption))
  | ((with_reducible refine' sl_ex ?hph ?hpe); (case hph => assumption); (case hpe => walk_at "ex"))
  | ((with_reducible refine' st_ex ?hph ?hpe); (case hph => assumption); (case hpe => walk_at "ex")))
local macro_rules | `(tactic| walk_at "ty") => `(tactic| first
  | exact TyX.base (.str _)
  | exact TyX.base (.int _)
  | exact TyX.base (.bl _)
  | exact TyX.base .non
  | exact ty_L (by walk_at "sq")
  | exact ty_T (by walk_at "sq"))
local macro_rules | `(tactic| walk_at "sz") => `(tactic| first | omega | exact sz_le (by omega) | exact sz_lt (by omega) | (refine sz_le ?_; simp; omega) | (refine sz_lt ?_; simp; omega) | (refine sz_le ?_; simp))
local macro_rules | `(tactic| walk_at "side") => `(tactic| first | assumption | omega | (refine ⟨?_, ?_⟩ <;> omega) | (exact .inl ⟨by omega, by omega⟩) | (exact .inr ⟨by omega, by omega⟩) | (exact ⟨by decide, by decide, by decide⟩) | rfl)
local macro_rules | `(tactic| walk_at "g1") => `(tactic| first
  | with_reducible first
    | refine g_seq ?_ | refine g_asg ?_ | refine g_name ?_ | refine g_op ?_ | refine g_c ?_ | refine g_cons ?_ | refine g_nil ?_ | refine g_cb ?_ | refine g_call ?_ | refine g_ret ?_ | refine g_drop ?_ | refine g_next ?_
    | refine g_ifS ?_ | refine g_if ?_ | refine g_test ?_ | refine g_tB ?_ | refine g_bl ?_ | refine g_and ?_ | refine g_or ?_ | refine g_not ?_ | refine g_andV ?_ | refine g_orV ?_ | refine g_notV ?_
    | refine g_un ?_ | refine g_neg ?_ | refine g_rI0 ?_ | refine g_int1 ?_ | refine g_abs ?_ | refine g_mx2 ?_ | refine g_mn2 ?_ | refine g_par ?_ | refine g_par2 ?_ | refine g_chain ?_
    | refine g_for ?_ | refine g_lc ?_ | refine g_dc ?_ | refine g_iList ?_ | refine g_iTup ?_ | refine g_iStr ?_ | refine g_iRng1 ?_ | refine g_iEnum ?_ | refine g_itS ?_ | refine g_gcons ?_ | refine g_gnil ?_
    | refine g_dget ?_ | refine g_dput ?_ | refine g_dnew ?_ | refine g_inSg ?_ | refine g_notNn ?_ | refine g_isNn ?_ | refine g_sl ?_ | refine g_nopart ?_ | refine g_part ?_ | refine g_parti ?_ | refine g_meth ?_ | refine g_make ?_ | refine g_fldE ?_ | refine g_sfld ?_
    | refine g_sub ?_ | refine g_lst ?_ | refine g_tup ?_ | refine g_bm ?_ | refine g_bm0 ?_ | refine g_tyS ?_ | refine g_yes ?_ | refine iteT ?_ | refine iteF ?_ | refine iteNT ?_ | refine iteNF ?_
  | ((with_reducible refine' g_var ?ev ?_); (case ev => rfl))
  | ((with_reducible refine' g_rI ?ec ?_); (case ec => walk_at "side"))
  | ((with_reducible refine' g_ixL ?es ?ea ?_); (case es => walk_at "sq"); (case ea => first | rfl | assumption))
  | ((with_reducible refine' g_ixT ?es ?ea ?_); (case es => walk_at "sq"); (case ea => first | rfl | assumption))
  | ((with_reducible refine' g_lenL ?es ?_); (case es => walk_at "sq"))
  | ((with_reducible refine' g_lenT ?es ?_); (case es => walk_at "sq"))
  | ((with_reducible refine' g_lenS ?es ?_); (case es => walk_at "sz"))
  | ((with_reducible refine' g_lenD ?es ?_); (case es => walk_at "hp"))
  | ((with_reducible refine' g_listL ?es ?_); (case es => walk_at "sq"))
  | ((with_reducible refine' g_listT ?es ?_); (case es => walk_at "sq"))
  | ((with_reducible refine' g_tupL ?es ?_); (case es => walk_at "sq"))
  | ((with_reducible refine' g_tyL ?es ?_); (case es => walk_at "sq"))
  | ((with_reducible refine g_eqS ?es ?_); (case es => rfl))
  | ((with_reducible refine g_neS ?es ?_); (case es => rfl))
  | ((with_reducible refine' g_inDcS ?es ?_); (case es => walk_at "hp"))
  | ((with_reducible refine' g_notInDcS ?es ?_); (case es => walk_at "hp"))
  | ((with_reducible refine' g_dgetS ?es ?ev ?_); (case es => walk_at "hp"); (case ev => first | assumption | walk_at "dv"))
  | ((with_reducible refine' g_dputS ?es ?el ?_); (case es => walk_at "hp"); (case el => walk_at "sz"))
  | ((with_reducible refine' g_fldI ?es ?ec ?en ?el ?_); (case es => walk_at "hp"); (case ec => assumption); (case en => assumption); (case el => first | assumption | walk_at "fl"))
  | ((with_reducible refine' g_methI ?es ?em ?_); (case es => walk_at "hp"); (case em => first | assumption | walk_at "fl"))
  | ((with_reducible refine' g_sfldI ?es ?ec ?en ?el ?_); (case es => walk_at "hp"); (case ec => assumption); (case en => assumption); (case el => first | assumption | walk_at "fl"))
  | ((with_reducible refine' g_isi ?et ?ek ?_); (case et => walk_at "ty"); (case ek => walk_at "kb"))
  | ((with_reducible refine g_addT ?el ?_); (case el => walk_at "sz"))
  | ((with_reducible refine' g_cat ?e1 ?e2 ?el ?_); (case e1 => walk_at "hp"); (case e2 => walk_at "hp"); (case el => walk_at "sz"))
  | ((with_reducible refine' g_slL ?es ?_); (case es => walk_at "sq"))
  | ((with_reducible refine g_slS ?el ?_); (case el => walk_at "sz"))
  | ((with_reducible refine' g_itL ?es ?_); (case es => walk_at "sq"))
  | ((with_reducible refine' g_itT ?es ?_); (case es => walk_at "sq"))
  | ((with_reducible refine' g_itE ?es ?_); (case es => walk_at "sq"))
  | ((with_reducible refine' g_itR ?es ?_); (case es => (constructor <;> omega)))
  | ((with_reducible refine' g_gtup ?es ?en ?_); (case es => walk_at "sq"); (case en => first | rfl | assumption))
  | ((with_reducible refine' g_setL ?es ?ej ?_); (case es => walk_at "hp"); (case ej => first | rfl | assumption))
  | ((with_reducible refine' g_app ?es ?el ?_); (case es => walk_at "hp"); (case el => walk_at "sz")))
local macro_rules | `(tactic| walk_at "go") => `(tactic| repeat (walk_at "g1"))
local macro_rules | `(tactic| walk_at "fl") => `(tactic| first | exact rfs_weirs _ _ _ | exact rfs_lower _ _ _ | exact rfs_courses _ _ _ | exact rfs_need _ _ _ | exact rfs_rows _ _ _ | exact rfs_below _ _ _ | exact rfs_above _ _ _ | exact rfs_course _ _ _ | exact rfs_depth _ _ _ | exact rfs_upstream _ _ _ | (simp only [List.length]; decide))
abbrev N_l_is_whole : List Str := ["_law_rows", "_law_weirs", "_law_weir", "_law_below"]
def t_l_is_whole (K : PySem.W.Frag) : TS :=
  (tSeq (tAsg (tLc (iList K (tVar 0)) (gTup K 2 (gCons (gName 2) (gCons (gName 3) gNil))) tYes (tVar 2) [2, 3]) (gName 1))
  (tRet (tAndV (tOp (rNeU K) (tVar 0) (tLst tNil)) (tCB (rAll K) (tCons (tLc (iList K (tVar 0)) (gTup K 2 (gCons (gName 2) (gCons (gName 3) gNil))) tYes (tOrV (tOp (rEqU K) (tVar 3) (tC (.str "sea"))) (tOp (rInU K) (tVar 3) (tVar 1))) [2, 3]) tNil)))))
def isWhole (rows : Rows) : Bool := !decide (rows = []) && rows.all fun r => decide (r.2 = "sea") || decide (r.2 ∈ wrs rows)
def sp_l_is_whole (K : PySem.W.Frag) : Sp := fun vs H Q _ => ∃ (a : Addr) (rows : Rows), vs = [.ref a] ∧ Dp K H (.ref a) (rowsD rows) ∧ rows.length ≤ 40 ∧ (∀ r ∈ rows, PyData.strOk r.1 = true ∧ PyData.strOk r.2 = true) ∧
  ∀ H', Ex H H' → Q (.bl (isWhole rows)) H'
theorem len_l_is_whole {K : PySem.W.Frag} {vs : List V} {H : Hp} {Q : VK} {E : XK} (h : sp_l_is_whole K vs H Q E) : vs.length = 1 := by obtain ⟨_, _, rfl, _⟩ := h; rfl
theorem any_strs (ws : List Str) (w : Str) : (ws.map PyData.str).any (fun z => PyData.eqv z (.str w)) = decide (w ∈ ws) := by
  rw [List.any_map, Bool.eq_iff_iff, List.any_eq_true, decide_eq_true_eq]
  constructor
  · rintro ⟨x, hx, q⟩
    have q' : PyData.eqv (.str x) (.str w) = true := q
    rw [eqv_strs] at q'
    have q2 : x = w := by simpa using q'
    rw [← q2]; exact hx
  · intro hx
    exact ⟨w, hx, by show PyData.eqv (.str w) (.str w) = true; rw [eqv_strs]; simp⟩
theorem pure_l_is_whole {K : PySem.W.Frag} (vs : List V) (H : Hp) (Q : VK) (E : XK) (h : sp_l_is_whole K vs H Q E) : t_l_is_whole K { nx := fun _ H' => Q .non H', rt := Q } (start N_l_is_whole vs) H := by
  obtain ⟨a, rows, rfl, hD, hl, hok, k⟩ := h
  obtain ⟨rs, hs, hlr, hat⟩ := rows_at hD
  have okw : ∀ w ∈ wrs rows, PyData.strOk w = true := fun w hw => by
    obtain ⟨r, hr, rfl⟩ := List.mem_map.mp hw
    exact (hok r hr).1
  unfold t_l_is_whole
  walk_at "go"
  refine lc_rows hD (by omega) (fun _ _ => rfl) (fun r => some (.str r.1)) (fun r hr H1 e1 R hR => ?_) (fun C H1 hC e1 hA => ?_)
  · walk_at "go"
    exact hR _ (Ex.refl _)
  · rw [fm_fst] at hA
    walk_at "go"
    refine ⟨Nat.zero_le _, fun q hq => ?_⟩
    have hD2 : Dp K (upd H1 q (.lst [])) (.ref a) (rowsD rows) := Dp.mono (e1.trans (Ex.new hq)) hD
    refine g_neD hD2 (.lst (SqL.of upd_same) .nil) (shaped_rows hok) (shaped_list (by simp [PyData.canLayAll0]) (by simp [PyData.depthAll])) ?_
    have e0 : PyData.eqv (rowsD rows) (.list []) = decide (rows = []) := eqv_rows rows []
    rw [e0]
    walk_at "go"
    refine iteN (fun hne => ?_) (fun he => ?_)
    · have hs2 := sl_ex hs (e1.trans (Ex.new (o := .lst []) hq))
      walk_at "go"
      refine lc_rows hD2 (by omega) (fun _ _ => rfl) (fun r => some (.bl (decide (r.2 = "sea") || decide (r.2 ∈ wrs rows)))) (fun r hr H2 e2 R hR => ?_) (fun D H2 hD' e2 hB => ?_)
      · walk_at "go"
        refine iteD (fun h => ?_) (fun h => ?_)
        · have h' : r.2 = "sea" := by injection h
          have : (decide (r.2 = "sea") || decide (r.2 ∈ wrs rows)) = true := by rw [decide_eq_true h']; rfl
          rw [this] at hR
          exact hR _ (Ex.refl _)
        · have h' : ¬ r.2 = "sea" := fun e => h (by rw [e])
          walk_at "go"
          refine g_inU (.str _) (.inl (dp_strsL (SqL.of (e2 _ _ (up_new hq hA))))) (shaped_str (hok r hr).2) (can_strs okw) ?_
          rw [any_strs]
          have : (decide (r.2 = "sea") || decide (r.2 ∈ wrs rows)) = decide (r.2 ∈ wrs rows) := by rw [decide_eq_false h']; rfl
          rw [this] at hR
          exact hR _ (Ex.refl _)
      · have eb : rows.filterMap (fun r : Str × Str => some (V.bl (decide (r.2 = "sea") || decide (r.2 ∈ wrs rows)))) = (rows.map fun r : Str × Str => (decide (r.2 = "sea") || decide (r.2 ∈ wrs rows))).map V.bl := by simp
        rw [eb] at hB
        walk_at "go"
        refine g_all (SqL.of hB) ?_
        have : isWhole rows = (rows.map fun r : Str × Str => (decide (r.2 = "sea") || decide (r.2 ∈ wrs rows))).all id := by
          unfold isWhole
          rw [decide_eq_false hne, List.all_map]; rfl
        rw [← this]
        exact k _ ((e1.trans (Ex.new hq)).trans e2)
    · have : isWhole rows = false := by unfold isWhole; rw [decide_eq_true he]; rfl
      rw [this] at k
      exact k _ (e1.trans (Ex.new hq))
abbrev N_l_told_right : List Str := ["_law_river_here", "_law_rows", "_law_weirs", "_law_told", "_law_weir", "_law_below", "_law_one"]
def t_l_told_right (K : PySem.W.Frag) : TS :=
  (tSeq (tAsg (tLc (iList K (tVar 1)) (gTup K 2 (gCons (gName 4) (gCons (gName 5) gNil))) tYes (tVar 4) [4, 5]) (gName 2))
  (tSeq (tIfS (tOr (tTest (tOp (rNeU K) (tFld K (tVar 0) "weirs") (tCB (rTupOf K) (tCons (tVar 2) tNil)))) (tOr (tTest (tOp (rNeU K) (tCB (rLenOwn K "River" (sp_River__len_ K)) (tCons (tVar 0) tNil)) (tCB (rLenU K) (tCons (tVar 1) tNil)))) (tTest (tOp (rNeU K) (tLc (iOwn K "River" "weirs" (tVar 0)) (gName 6) tYes (tVar 6) [6]) (tVar 2))))) (tRet (tC (.bl false))) tNext)
  (tSeq (tAsg (tMeth (He.ga K "River") "rows" (sp_River_rows K) [] E0 (tVar 0) tNil) (gName 3))
  (tSeq (tIfS (tOr (tNot (tB (tCB (rIsi K) (tCons (tVar 3) (tCons (tC (.ty "list")) tNil))))) (tTest (tOp (rNeU K) (tVar 3) (tVar 1)))) (tRet (tC (.bl false))) tNext)
  (tSeq (tDrop (tBM0 K "list" rClear (tVar 3)))
  (tRet (tAndV (tOp (rEqU K) (tMeth (He.ga K "River") "rows" (sp_River_rows K) [] E0 (tVar 0) tNil) (tVar 1)) (tOp (rEqU K) (tFld K (tVar 0) "weirs") (tCB (rTupOf K) (tCons (tVar 2) tNil))))))))))
def sp_l_told_right (K : PySem.W.Frag) : Sp := fun vs H Q _ => ∃ (p a : Addr) (rows : Rows), vs = [.ref p, .ref a] ∧ RiverAt K H p rows ∧ Dp K H (.ref a) (rowsD rows) ∧ ∀ H', Ex H H' → Q (.bl true) H'
theorem len_l_told_right {K : PySem.W.Frag} {vs : List V} {H : Hp} {Q : VK} {E : XK} (h : sp_l_told_right K vs H Q E) : vs.length = 2 := by obtain ⟨_, _, _, rfl, _⟩ := h; rfl
theorem pure_l_told_right {K : PySem.W.Frag} (G : GRiver K) (vs : List V) (H : Hp) (Q : VK) (E : XK) (h : sp_l_told_right K vs H Q E) : t_l_told_right K { nx := fun _ H' => Q .non H', rt := Q } (start N_l_told_right vs) H := by
  obtain ⟨p, a, rows, rfl, R0, hD, k⟩ := h
  obtain ⟨⟨dx, tw, dl, dc, cs, h1, h2, h3, h4, h5⟩, g⟩ := id R0
  obtain ⟨rs, hs, hlr, hat⟩ := rows_at hD
  have gcl := G.cl
  have gnw := G.nw
  have h40 := g.le
  unfold t_l_told_right
  walk_at "go"
  refine lc_rows hD (by omega) (fun _ _ => rfl) (fun r => some (.str r.1)) (fun r hr H1 e1 R hR => ?_) (fun C H1 hC e1 hA => ?_)
  · walk_at "go"
    exact hR _ (Ex.refl _)
  · rw [fm_fst] at hA
    have r1 := e1 _ _ h1
    have r2 := e1 _ _ h2
    walk_at "go"
    intro t ht
    have e2 : Ex H (upd H1 t (.tup (strsV (wrs rows)))) := e1.trans (Ex.new ht)
    refine g_neD (dp_strsT (SqT.of (up_new ht r2))) (dp_strsT (SqT.of upd_same)) (shaped_strsT g.okw) (shaped_strsT g.okw) ?_
    rw [eqv_strsT, decide_eq_true rfl]
    have hs2 := sl_ex hs e2
    walk_at "go"
    refine ⟨p, dx, _, rfl, up_new ht r1, p, rows, rfl, R0.mono e2, (rows.length : Int), rfl, by omega, ?_⟩
    walk_at "go"
    rw [hlr]
    rw [show (decide ((V.int (rows.length : Nat)) = V.int (rows.length : Nat))) = true from decide_eq_true rfl]
    walk_at "go"
    refine g_iOwn (g_var rfl ⟨p, dx, tw, _, strsV (wrs rows), rfl, up_new ht r1, rfs_weirs _ _ _, SqT.of (up_new ht r2), ?_⟩)
    have r22 : upd H1 t (.tup (strsV (wrs rows))) tw = some (.tup (strsV (wrs rows))) := up_new ht r2
    have yes : ∀ w ∈ wrs rows, ∀ H', Ex (upd H1 t (.tup (strsV (wrs rows)))) H' → ∀ Qt : Bool → Hp → Prop, Qt ((fun _ => true) w) H' → tYes (((List.set (start N_l_told_right [V.ref p, V.ref a]) 2 (some (V.ref C))).set 6 Option.none).set 6 (some (.str w))) H' Qt := fun w hw H' e Qt h => h
    refine lc_filterT (ws := wrs rows) (j := 6) r22 (by simp [wrs]; omega) (by show 6 < 7; decide) (fun _ => true) yes (fun D H3 hD3 e3 hB => ?_)
    rw [show (wrs rows).filter (fun _ => true) = wrs rows from List.filter_eq_self.mpr (fun _ _ => rfl)] at hB
    have hA3 := e3 _ _ (up_new ht hA)
    walk_at "go"
    refine g_neD (dp_strsL (SqL.of hB)) (dp_strsL (SqL.of hA3)) (shaped_strsL g.okw) (shaped_strsL g.okw) ?_
    rw [eqv_strsL, decide_eq_true rfl]
    have e4 : Ex H H3 := e2.trans e3
    have r14 := e4 _ _ h1
    walk_at "go"
    refine ⟨p, rows, rfl, R0.mono e4, fun q H5 rs5 hq e5 hq5 hD5 => ?_⟩
    walk_at "go"
    have e45 := e4.trans e5
    refine g_neD hD5 (Dp.mono e45 hD) (shaped_rows g.okr) (shaped_rows g.okr) ?_
    rw [eqv_rows, decide_eq_true rfl]
    walk_at "go"
    refine g_clear hq5 ?_
    have e6 : Ex H (upd H5 q (.lst [])) := Ex.mut e45 (e4.nn hq)
    have r16 := e6 _ _ h1
    have r26 := e6 _ _ h2
    have hA6 : upd H5 q (.lst []) C = some (.lst (strsV (wrs rows))) := by
      have hA5 := e5 _ _ hA3
      rw [upd_ne (fun e => by subst e; rw [hq] at hA3; cases hA3)]; exact hA5
    walk_at "go"
    refine ⟨p, rows, rfl, R0.mono e6, fun q2 H7 rs7 hq2 e7 hq7 hD7 => ?_⟩
    have e67 := e6.trans e7
    have r17 := e67 _ _ h1
    have r27 := e67 _ _ h2
    have hA7 := e7 _ _ hA6
    walk_at "go"
    refine g_eqD hD7 (Dp.mono e67 hD) (shaped_rows g.okr) (shaped_rows g.okr) ?_
    rw [eqv_rows, decide_eq_true rfl]
    walk_at "go"
    intro t2 ht2
    refine g_eqD (dp_strsT (SqT.of (up_new ht2 r27))) (dp_strsT (SqT.of upd_same)) (shaped_strsT g.okw) (shaped_strsT g.okw) ?_
    rw [eqv_strsT, decide_eq_true rfl]
    exact k _ (e67.trans (Ex.new ht2))
abbrev N_l_weir_right : List Str := ["_law_river_here", "_law_rows", "_law_courses", "_law_weir", "_law_course_here", "_law_depth", "_law_one", "_law_below"]
def t_l_weir_right (K : PySem.W.Frag) : TS :=
  (tSeq (tAsg (tDGet (tVar 2) (tVar 3)) (gName 4))
  (tSeq (tIfS (tOr (tTest (tOp (rNeU K) (tMeth (He.ga K "River") "below" (sp_River_below K) [] E0 (tVar 0) (tCons (tVar 3) tNil)) (tDGet (tCB (rDictP K) (tCons (tVar 1) tNil)) (tVar 3)))) (tOr (tTest (tOp (rNeU K) (tMeth (He.ga K "River") "course" (sp_River_course K) [] E0 (tVar 0) (tCons (tVar 3) tNil)) (tCB (rTupOf K) (tCons (tVar 4) tNil)))) (tTest (tOp (rNotInOwn K "River" "weirs") (tVar 3) (tVar 0))))) (tRet (tC (.bl false))) tNext)
  (tSeq (tAsg (tMeth (He.ga K "River") "depth" (sp_River_depth K) [] E0 (tVar 0) (tCons (tVar 3) tNil)) (gName 5))
  (tSeq (tIfS (tOr (tNot (tB (tCB (rIsi K) (tCons (tVar 5) (tCons (tC (.ty "int")) tNil))))) (tOr (tB (tCB (rIsi K) (tCons (tVar 5) (tCons (tC (.ty "bool")) tNil)))) (tTest (tOp (rNeU K) (tVar 5) (tCB (rLenU K) (tCons (tVar 4) tNil)))))) (tRet (tC (.bl false))) tNext)
  (tSeq (tIfS (tTest (tOp (rNeU K) (tMeth (He.ga K "River") "above" (sp_River_above K) [] E0 (tVar 0) (tCons (tVar 3) tNil)) (tCB (rTupOf K) (tCons (tLc (iList K (tVar 1)) (gTup K 2 (gCons (gName 6) (gCons (gName 7) gNil))) (tTest (tOp (rEqU K) (tVar 7) (tVar 3))) (tVar 6) [6, 7]) tNil)))) (tRet (tC (.bl false))) tNext)
  (tRet (tOp (rEqU K) (tMeth (He.ga K "River") "upstream" (sp_River_upstream K) [] E0 (tVar 0) (tCons (tVar 3) tNil)) (tCB (rTupOf K) (tCons (tLc (iList K (tVar 1)) (gTup K 2 (gCons (gName 6) (gCons (gName 7) gNil))) (tTest (tOp (rInU K) (tVar 3) (tDGet (tVar 2) (tVar 6)))) (tVar 6) [6, 7]) tNil)))))))))
/-- the law's own courses stand at d -/
def CrsAt (H : Hp) (d : Addr) (rows : Rows) : Prop := ∃ cs : List (Key × V), H d = some (.dK cs) ∧ ∀ u ∈ wrs rows, ∃ l, valV cs (Sum.inr u : Key) = some (.ref l) ∧ H l = some (.lst (strsV (crs rows rows.length u)))
theorem CrsAt.mono {H H' : Hp} {d : Addr} {rows : Rows} (h : CrsAt H d rows) (e : Ex H H') : CrsAt H' d rows := by
  obtain ⟨cs, h1, h2⟩ := h
  exact ⟨cs, e _ _ h1, fun u hu => by obtain ⟨l, a, b⟩ := h2 u hu; exact ⟨l, a, e _ _ b⟩⟩
def sp_l_weir_right (K : PySem.W.Frag) : Sp := fun vs H Q _ => ∃ (p a d : Addr) (w : Str) (rows : Rows), vs = [.ref p, .ref a, .ref d, .str w] ∧ RiverAt K H p rows ∧ Dp K H (.ref a) (rowsD rows) ∧ CrsAt H d rows ∧ w ∈ wrs rows ∧ ∀ H', Ex H H' → Q (.bl true) H'
theorem len_l_weir_right {K : PySem.W.Frag} {vs : List V} {H : Hp} {Q : VK} {E : XK} (h : sp_l_weir_right K vs H Q E) : vs.length = 4 := by obtain ⟨_, _, _, _, _, rfl, _⟩ := h; rfl
theorem above_rows {rows : Rows} (g : Good rows) (w : Str) : wrs (rows.filter fun r => decide (r.2 = w)) = aboveL rows (.str w) := by
  unfold aboveL wrs
  rw [List.filter_map]
  congr 1
  refine List.filter_congr fun r hr => ?_
  simp only [Function.comp]
  rw [eqv_strs, g.low_of hr]
theorem up_rows {rows : Rows} (w : Str) : wrs (rows.filter fun r => decide (w ∈ crs rows rows.length r.1)) = upL rows w := by
  unfold upL wrs
  rw [List.filter_map]
  rfl
theorem pure_l_weir_right {K : PySem.W.Frag} (G : GRiver K) (vs : List V) (H : Hp) (Q : VK) (E : XK) (h : sp_l_weir_right K vs H Q E) : t_l_weir_right K { nx := fun _ H' => Q .non H', rt := Q } (start N_l_weir_right vs) H := by
  obtain ⟨p, a, d, w, rows, rfl, R0, hD, ⟨cs', hd, hcs⟩, hw, k⟩ := h
  obtain ⟨⟨dx, tw, dl, dc, cs, h1, h2, h3, h4, h5⟩, g⟩ := id R0
  obtain ⟨rs, hs, hlr, hat⟩ := rows_at hD
  obtain ⟨lc, hv, hlc⟩ := hcs w hw
  have h40 := g.le
  have okw := g.okw w hw
  unfold t_l_weir_right
  walk_at "go"
  refine use_below R0 hw fun H1 e1 => ?_
  walk_at "go"
  refine g_dictRows (Dp.mono e1 hD) g.nd fun dd hdd => ?_
  have e2 := e1.trans (Ex.new (o := .dK (rowsK rows)) hdd)
  have hlow := valV_in hw
  walk_at "go"
  rw [decide_eq_true rfl]
  have r12 := e2 _ _ h1
  walk_at "go"
  refine use_course (R0.mono e2) hw fun t H3 e3 ht => ?_
  have e03 := e2.trans e3
  have hlc3 := e03 _ _ hlc
  walk_at "go"
  intro t2 ht2
  refine g_neD (dp_strsT (SqT.of (up_new ht2 ht))) (dp_strsT (SqT.of upd_same)) (shaped_strsT (crs_ok g hw)) (shaped_strsT (crs_ok g hw)) ?_
  rw [eqv_strsT, decide_eq_true rfl]
  have e4 := e03.trans (Ex.new (o := .tup (strsV (crs rows rows.length w))) ht2)
  walk_at "go"
  refine ⟨p, dx, tw, _, wrs rows, .str w, rfl, e4 _ _ h1, rfs_weirs _ _ _, e4 _ _ h2, .str w, shaped_str okw, g.okw, ?_⟩
  rw [show ((wrs rows).any fun u => PyData.eqv (.str u) (.str w)) = true from isW_of hw]
  have r14 := e4 _ _ h1
  walk_at "go"
  refine use_depth (R0.mono e4) hw fun H5 e5 => ?_
  have e05 := e4.trans e5
  have hlc5 := e05 _ _ hlc
  have hle : (strsV (crs rows rows.length w)).length = (crs rows rows.length w).length := by simp [strsV]
  walk_at "go"
  rw [hle]
  rw [show (decide ((V.int ((crs rows rows.length w).length : Nat)) = V.int ((crs rows rows.length w).length : Nat))) = true from decide_eq_true rfl]
  have r15 := e05 _ _ h1
  walk_at "go"
  refine use_above (R0.mono e05) (.inr hw) fun t3 H6 ht3 e6 hA6 => ?_
  have e06 := e05.trans e6
  have hs6 := sl_ex hs e06
  walk_at "go"
  refine lc_rows (Dp.mono e06 hD) (by omega) (fun _ _ => rfl) (fun r => if decide (r.2 = w) = true then some (.str r.1) else Option.none) (fun r hr H7 e7 R hR => ?_) (fun C H7 hC e7 hB => ?_)
  · walk_at "go"
    refine iteD (fun h => ?_) (fun h => ?_)
    · have h' : r.2 = w := by injection h
      rw [if_pos (decide_eq_true h')] at hR
      walk_at "go"
      exact hR _ (Ex.refl _)
    · have h' : ¬ r.2 = w := fun e => h (by rw [e])
      rw [if_neg (by simpa using h')] at hR
      exact hR _ (Ex.refl _)
  · rw [fm_fstF (fun r => decide (r.2 = w)), above_rows g] at hB
    walk_at "go"
    intro t4 ht4
    have okA : ∀ u ∈ aboveL rows (.str w), PyData.strOk u = true := fun u hu => g.okw u (List.mem_filter.mp hu).1
    refine g_neD (dp_strsT (SqT.of (up_new ht4 (e7 _ _ hA6)))) (dp_strsT (SqT.of upd_same)) (shaped_strsT okA) (shaped_strsT okA) ?_
    rw [eqv_strsT, decide_eq_true rfl]
    have e08 := (e06.trans e7).trans (Ex.new (o := .tup (strsV (aboveL rows (.str w)))) ht4)
    have r18 := e08 _ _ h1
    walk_at "go"
    refine use_upstream (R0.mono e08) hw fun t5 H9 ht5 e9 hA9 => ?_
    have e09 := e08.trans e9
    have hs9 := sl_ex hs e09
    walk_at "go"
    refine lc_rows (Dp.mono e09 hD) (by omega) (fun _ _ => rfl) (fun r => if decide (w ∈ crs rows rows.length r.1) = true then some (.str r.1) else Option.none) (fun r hr H7 e7 R hR => ?_) (fun C H10 hC e10 hB => ?_)
    · have hrw : r.1 ∈ wrs rows := List.mem_map.mpr ⟨r, hr, rfl⟩
      obtain ⟨l, hvl, hl⟩ := hcs r.1 hrw
      have hd7 := (e09.trans e7) _ _ hd
      have hl7 := (e09.trans e7) _ _ hl
      walk_at "go"
      refine g_inU (.str _) (.inl (dp_strsL (SqL.of hl7))) (shaped_str okw) (can_strs (crs_ok g hrw)) ?_
      rw [any_strs]
      walk_at "go"
      refine iteD (fun h => ?_) (fun h => ?_)
      · rw [if_pos (decide_eq_true h)] at hR
        walk_at "go"
        exact hR _ (Ex.refl _)
      · rw [if_neg (by simpa using h)] at hR
        exact hR _ (Ex.refl _)
    · rw [fm_fstF (fun r => decide (w ∈ crs rows rows.length r.1)), up_rows] at hB
      walk_at "go"
      intro t6 ht6
      have okU : ∀ u ∈ upL rows w, PyData.strOk u = true := fun u hu => g.okw u (List.mem_filter.mp hu).1
      refine g_eqD (dp_strsT (SqT.of (up_new ht6 (e10 _ _ hA9)))) (dp_strsT (SqT.of upd_same)) (shaped_strsT okU) (shaped_strsT okU) ?_
      rw [eqv_strsT, decide_eq_true rfl]
      exact k _ ((e09.trans e10).trans (Ex.new ht6))
end WK
namespace WK
open PySem L2
/-! ### rows changed -/
theorem rank_of {rows : Rows} (dn : ∀ r ∈ rows, r.2 = "sea" ∨ r.2 ∈ wrs rows) (h : ∃ rk : Str → Nat, ∀ r ∈ rows, r.2 ≠ "sea" → rk r.2 < rk r.1) : ∃ rk : Str → Nat, ∀ r ∈ rows, rk r.1 < rows.length ∧ (r.2 ≠ "sea" → rk r.2 < rk r.1) := by
  obtain ⟨rk, h⟩ := h
  refine ⟨fun w => (rows.filter fun r => decide (rk r.1 < rk w)).length, fun r hr => ⟨?_, fun hne => ?_⟩⟩
  · exact List.length_filter_lt_length_iff_exists.mpr ⟨r, hr, by simp⟩
  · have hlt := h r hr hne
    have hin : r.2 ∈ wrs rows := by rcases dn r hr with e | e; exact absurd e hne; exact e
    obtain ⟨r', hr', e⟩ := List.mem_map.mp hin
    have e1 : rows.filter (fun q => decide (rk q.1 < rk r.2)) = (rows.filter fun q => decide (rk q.1 < rk r.1)).filter fun q => decide (rk q.1 < rk r.2) := by
      rw [List.filter_filter]
      refine List.filter_congr fun q _ => ?_
      by_cases hq : rk q.1 < rk r.2
      · have : rk q.1 < rk r.1 := Nat.lt_trans hq hlt
        simp [hq, this]
      · simp [hq]
    show (rows.filter fun q => decide (rk q.1 < rk r.2)).length < (rows.filter fun q => decide (rk q.1 < rk r.1)).length
    rw [e1]
    refine List.length_filter_lt_length_iff_exists.mpr ⟨r', List.mem_filter.mpr ⟨hr', ?_⟩, ?_⟩
    · rw [show r'.1 = r.2 from e]; simpa using hlt
    · rw [show r'.1 = r.2 from e]; simp
theorem Good.tail {rows : Rows} (g : Good rows) (h : isWhole (rows.drop 1) = true) : Good (rows.drop 1) := by
  unfold isWhole at h
  rw [Bool.and_eq_true] at h
  obtain ⟨h1, h2⟩ := h
  have hm : ∀ {r}, r ∈ rows.drop 1 → r ∈ rows := fun h => List.mem_of_mem_drop h
  have dn : ∀ r ∈ rows.drop 1, r.2 = "sea" ∨ r.2 ∈ wrs (rows.drop 1) := fun r hr => by
    have := List.all_eq_true.mp h2 r hr
    rw [Bool.or_eq_true, decide_eq_true_eq, decide_eq_true_eq] at this
    exact this
  have hne : rows.drop 1 ≠ [] := by simpa using h1
  refine ⟨?_, ?_, fun r h => g.nm r (hm h), fun r h => g.nosea r (hm h), ?_, dn, rank_of dn ?_⟩
  · exact Nat.pos_of_ne_zero fun z => hne (List.length_eq_zero_iff.mp z)
  · have := g.le; rw [List.length_drop]; omega
  · have : wrs (rows.drop 1) = (wrs rows).drop 1 := by simp [wrs]
    rw [this]; exact g.nd.sublist (List.drop_sublist _ _)
  · obtain ⟨rk, hr⟩ := g.rank
    exact ⟨rk, fun r h => (hr r (hm h)).2⟩
def dryR (rows : Rows) (j : Nat) : Rows := rows.take j ++ [((((rows[j]?).map (·.1)).getD ("" : Str), ("sea" : Str)) : Str × Str)] ++ rows.drop (j + 1)
theorem dry_set {rows : Rows} {j : Nat} (h : j < rows.length) : dryR rows j = rows.set j (rows[j].1, ("sea" : Str)) := by
  unfold dryR
  rw [List.getElem?_eq_getElem h, List.set_eq_take_append_cons_drop, if_pos h]
  simp
theorem Good.dry {rows : Rows} (g : Good rows) {j : Nat} (h : j < rows.length) : Good (dryR rows j) := by
  rw [dry_set h]
  have hw : wrs (rows.set j (rows[j].1, ("sea" : Str))) = wrs rows := by
    unfold wrs
    rw [List.map_set]
    refine List.ext_getElem? fun i => ?_
    rw [List.getElem?_set]
    by_cases e : j = i
    · subst e
      rw [if_pos rfl, if_pos (by simpa using h)]
      simp [h]
    · rw [if_neg e]
  have hm : ∀ {r}, r ∈ rows.set j (rows[j].1, ("sea" : Str)) → r ∈ rows ∨ r = (rows[j].1, ("sea" : Str)) := fun hr => List.mem_or_eq_of_mem_set hr
  have hj : rows[j] ∈ rows := List.getElem_mem h
  refine ⟨by simpa using g.pos, by simpa using g.le, fun r hr => ?_, fun r hr => ?_, by rw [hw]; exact g.nd, fun r hr => ?_, ?_⟩
  · rcases hm hr with e | e
    · exact g.nm r e
    · rw [e]; exact ⟨(g.nm _ hj).1, sea_name⟩
  · rcases hm hr with e | e
    · exact g.nosea r e
    · rw [e]; exact g.nosea rows[j] hj
  · rw [hw]
    rcases hm hr with e | e
    · exact g.dn r e
    · rw [e]; exact .inl rfl
  · obtain ⟨rk, hr⟩ := g.rank
    refine ⟨rk, fun r h' => ?_⟩
    rw [List.length_set]
    rcases hm h' with e | e
    · exact hr r e
    · rw [e]; exact ⟨(hr _ hj).1, fun z => absurd rfl z⟩
/-! ### rivers made and compared -/
section
variable {K : PySem.W.Frag} {H H1 : Hp} {p q : Addr} {rows other : Rows} {Q : VK}
theorem ex_make {x dx : Addr} {o u : HO} (h1 : H x = none) (h2 : H dx = none) (h3 : dx ≠ x) : Ex H (del (upd (upd H dx u) x o) x) := fun a v h => by
  have n1 : a ≠ x := fun e => by subst e; rw [h1] at h; cases h
  have n2 : a ≠ dx := fun e => by subst e; rw [h2] at h; cases h
  rw [del_ne n1, upd_ne n1, upd_ne n2]; exact h
theorem use_make {o x dx : Addr} {R : Hp → Prop} (hD : Dp K H (.ref o) (rowsD rows)) (g : Good rows) (h1 : H x = none) (h2 : H dx = none) (h3 : dx ≠ x) (k : ∀ H', Ex H H' → RiverAt K H' x rows → R H') :
    sp_River__init_ K (.ref x :: ([V.ref o] ++ [])) (upd (upd H dx (.own x)) x (.ins (He.ga K "River") dx [])) (fun v H2 => v = .non ∧ R H2) E0 := by
  have e := ex_make (o := .ins (He.ga K "River") dx []) (u := .own x) h1 h2 h3
  exact ⟨x, dx, o, rows, rfl, upd_same, Dp.mono e hD, g, fun H' e' R => ⟨rfl, k H' (e.trans e') R⟩⟩
theorem use_eq (T : GTy K (He.ga K "River")) (R : RiverAt K H p rows) (R' : RiverAt K H q other) (k : Q (.bl (decide (rows = other))) H) : rEqOwn K "River" (sp_River__eq_ K) (.ref p) (.ref q) H Q := by
  obtain ⟨⟨dx, tw, dl, dc, cs, h1, _⟩, _⟩ := id R
  obtain ⟨⟨dx', tw', dl', dc', cs', h1', _⟩, _⟩ := id R'
  exact ⟨p, dx, _, _, rfl, h1, T.ty h1', nf_self, p, .ref q, rows, rfl, R, .inl ⟨q, other, rfl, R', _, rfl, k⟩⟩
theorem use_ne (T : GTy K (He.ga K "River")) (R : RiverAt K H p rows) (R' : RiverAt K H q other) (k : Q (.bl (!decide (rows = other))) H) : rNeOwn K "River" (sp_River__eq_ K) (.ref p) (.ref q) H Q := by
  obtain ⟨⟨dx, tw, dl, dc, cs, h1, _⟩, _⟩ := id R
  obtain ⟨⟨dx', tw', dl', dc', cs', h1', _⟩, _⟩ := id R'
  exact ⟨p, dx, _, _, rfl, h1, T.ty h1', nf_self, p, .ref q, rows, rfl, R, .inl ⟨q, other, rfl, R', _, rfl, k⟩⟩
theorem use_eqT (T : GTy K (He.ga K "River")) (R : RiverAt K H p rows) {y : V} {N : String} (hN : N ∈ tyNames) (ty : TyX K H y (.type N)) (k : Q (.bl false) H) : rEqOwn K "River" (sp_River__eq_ K) (.ref p) y H Q := by
  obtain ⟨⟨dx, tw, dl, dc, cs, h1, _⟩, _⟩ := id R
  exact ⟨p, dx, _, _, rfl, h1, ty, (T.no N hN).2, p, y, rows, rfl, R, .inr ⟨N, hN, ty, _, rfl, k⟩⟩
end
theorem cut_head {xs : List V} {j : Nat} (h : j ≤ xs.length) : cutV xs Option.none (some (j : Int)) = xs.take j := by
  unfold cutV
  rw [HT.sIx_none, HT.sIx_nat, Nat.min_eq_left h]
  simp
theorem cut_tail {xs : List V} {j : Nat} (h : j ≤ xs.length) : cutV xs (some (j : Int)) Option.none = xs.drop j := by
  unfold cutV
  rw [HT.sIx_none, HT.sIx_nat, Nat.min_eq_left h]
  exact List.take_of_length_le (by simp)
theorem zR_take (zs : Zs) (j : Nat) : (zR zs).take j = zR (zs.take j) := by simp [zR]
theorem zR_drop (zs : Zs) (j : Nat) : (zR zs).drop j = zR (zs.drop j) := by simp [zR]
theorem zR_len (zs : Zs) : (zR zs).length = zs.length := by simp [zR]
theorem zW_len (zs : Zs) : (zW zs).length = zs.length := by simp [zW]
theorem bool_ne (a b : Rows) : decide (V.bl (decide (a = b)) = V.bl (decide (b = a))) = true := by
  rw [decide_eq_true_eq]
  congr 1
  rw [decide_eq_decide]
  exact ⟨Eq.symm, Eq.symm⟩
theorem bool_ne2 (a b : Rows) : decide (V.bl (!decide (a = b)) = V.bl (!decide (b = a))) = true := by
  rw [decide_eq_true_eq]
  congr 2
  rw [decide_eq_decide]
  exact ⟨Eq.symm, Eq.symm⟩
local macro_rules | `(tactic| walk_at "kb") => `(tactic| first | exact kb_str_str | exact kb_str_int | exact kb_str_bool | exact kb_str_list | exact kb_str_tuple | exact kb_str_dict | exact kb_int_str | exact kb_int_int | exact kb_int_bool | exact kb_int_list | exact kb_int_tuple | exact kb_int_dict | exact kb_bool_str | exact kb_bool_int | exact kb_bool_bool | exact kb_bool_list | exact kb_bool_tuple | exact kb_bool_dict | exact kb_list_str | exact kb_list_int | exact kb_list_bool | exact kb_list_list | exact kb_list_tuple | exact kb_list_dict | exact kb_tuple_str | exact kb_tuple_int | exact kb_tuple_bool | exact kb_tuple_list | exact kb_tuple_tuple | exact kb_tuple_dict | exact kb_dict_str | exact kb_dict_int | exact kb_dict_bool | exact kb_dict_list | exact kb_dict_tuple | exact kb_dict_dict | exact kb_NoneType_str | exact kb_NoneType_int | exact kb_NoneType_bool | exact kb_NoneType_list | exact kb_NoneType_tuple | exact kb_NoneType_dict)
local macro_rules | `(tactic| walk_at "hn") => `(tactic| first
  | assumption
  | ((with_reducible refine' Ex.nn ?hne ?hnh); (case hnh => assumption); (case hne => walk_at "ex"))
  | ((with_reducible refine' Kp.nn ?hnk ?hnb ?hnh); (case hnh => assumption); (case hnk => assumption); (case hnb => assumption))
  | ((with_reducible refine del_none ?_); walk_at "hn")
  | ((with_reducible refine' Eq.trans (upd_ne ?hnq) ?_); (case hnq => walk_at "ne"); walk_at "hn"))
local macro_rules | `(tactic| walk_at "ne") => `(tactic| first
  | assumption
  | exact Ne.symm (by assumption)
  | exact Bag.ne (by assumption) (by assumption)
  | exact Ne.symm (Bag.ne (by assumption) (by assumption))
  | exact ne_of_none (by assumption) (by assumption)
  | exact Ne.symm (ne_of_none (by assumption) (by assumption)))
local macro_rules | `(tactic| walk_at "ex") => `(tactic| first
  | assumption
  | with_reducible exact Ex.refl _
  | ((with_reducible refine' Ex.mut ?exm ?exn); (case exn => walk_at "hn"); (case exm => walk_at "ex"))
  | ((with_reducible refine' Ex.trans ?exa ?exb); (case exb => assumption); (case exa => walk_at "ex"))
  | ((with_reducible refine' Ex.trans ?exa (Ex.new ?exn)); (case exn => walk_at "hn"); (case exa => walk_at "ex")))
local macro_rules | `(tactic| walk_at "hp") => `(tactic| first
  | assumption
  | with_reducible exact upd_same
  | ((with_reducible refine' up_new ?hpn ?hpr); (case hpn => walk_at "hn"); (case hpr => walk_at "hp"))
  | ((with_reducible refine' up_ne ?hpn ?hpr); (case hpr => walk_at "hp"); (case hpn => walk_at "ne"))
  | ((with_reducible refine' hp_kp ?hph ?hpk); (case hph => assumption); (case hpk => assumption))
  | ((with_reducible refine' hp_del ?hph); (case hph => assumption))
  | ((with_reducible refine' hp_ex ?hph ?hpe); (case hph => assumption); (case hpe => walk_at "ex")))
local macro_rules | `(tactic| walk_at "sq") => `(tactic| first
  | assumption
  | ((with_reducible refine' SqL.of ?sof); (case sof => walk_at "hp"))
  | ((with_reducible refine' SqT.of ?sof); (case sof => walk_at "hp"))
  | ((with_reducible refine' sl_new ?hpn ?hpr); (case hpn => walk_at "hn"); (case hpr => walk_at "sq"))
  | ((with_reducible refine' st_new ?hpn ?hpr); (case hpn => walk_at "hn"); (case hpr => walk_at "sq"))
  | ((with_reducible refine' sl_kp ?hph ?hpk); (case hph => assumption); (case hpk => assumption))
  | ((with_reducible refine' st_kp ?hph ?hpk); (case hph => assumption); (case hpk => assumption))
  | ((with_reducible refine' sl_del ?hph); (case hph => assumption))
  | ((with_reducible refine' st_del ?hph); (case hph => assumption))
  | ((with_reducible refine' sl_ex ?hph ?hpe); (case hph => assumption); (case hpe => walk_at "ex"))
  | ((with_reducible refine' st_ex ?hph ?hpe); (case hph => assumption); (case hpe => walk_at "ex")))
local macro_rules | `(tactic| walk_at "ty") => `(tactic| first
  | exact TyX.base (.str _)
  | exact TyX.base (.int _)
  | exact TyX.base (.bl _)
  | exact TyX.base .non
  | exact ty_L (by walk_at "sq")
  | exact ty_T (by walk_at "sq"))
local macro_rules | `(tactic| walk_at "sz") => `(tactic| first | omega | exact sz_le (by omega) | exact sz_lt (by omega) | (refine sz_le ?_; simp; omega) | (refine sz_lt ?_; simp; omega) | (refine sz_le ?_; simp))
local macro_rules | `(tactic| walk_at "side") => `(tactic| first | assumption | omega | (refine ⟨?_, ?_⟩ <;> omega) | (exact .inl ⟨by omega, by omega⟩) | (exact .inr ⟨by omega, by omega⟩) | (exact ⟨by decide, by decide, by decide⟩) | rfl)
local macro_rules | `(tactic| walk_at "g1") => `(tactic| first
  | with_reducible first
    | refine g_seq ?_ | refine g_asg ?_ | refine g_name ?_ | refine g_op ?_ | refine g_c ?_ | refine g_cons ?_ | refine g_nil ?_ | refine g_cb ?_ | refine g_call ?_ | refine g_ret ?_ | refine g_drop ?_ | refine g_next ?_
    | refine g_ifS ?_ | refine g_if ?_ | refine g_test ?_ | refine g_tB ?_ | refine g_bl ?_ | refine g_and ?_ | refine g_or ?_ | refine g_not ?_ | refine g_andV ?_ | refine g_orV ?_ | refine g_notV ?_
    | refine g_un ?_ | refine g_neg ?_ | refine g_rI0 ?_ | refine g_int1 ?_ | refine g_abs ?_ | refine g_mx2 ?_ | refine g_mn2 ?_ | refine g_par ?_ | refine g_par2 ?_ | refine g_chain ?_
    | refine g_for ?_ | refine g_lc ?_ | refine g_dc ?_ | refine g_iList ?_ | refine g_iTup ?_ | refine g_iStr ?_ | refine g_iRng1 ?_ | refine g_iEnum ?_ | refine g_itS ?_ | refine g_gcons ?_ | refine g_gnil ?_
    | refine g_dget ?_ | refine g_dput ?_ | refine g_dnew ?_ | refine g_inSg ?_ | refine g_notNn ?_ | refine g_isNn ?_ | refine g_sl ?_ | refine g_nopart ?_ | refine g_part ?_ | refine g_parti ?_ | refine g_meth ?_ | refine g_make ?_ | refine g_fldE ?_ | refine g_sfld ?_
    | refine g_sub ?_ | refine g_lst ?_ | refine g_tup ?_ | refine g_bm ?_ | refine g_bm0 ?_ | refine g_tyS ?_ | refine g_yes ?_ | refine iteT ?_ | refine iteF ?_ | refine iteNT ?_ | refine iteNF ?_
  | ((with_reducible refine' g_var ?ev ?_); (case ev => rfl))
  | ((with_reducible refine' g_rI ?ec ?_); (case ec => walk_at "side"))
  | ((with_reducible refine' g_ixL ?es ?ea ?_); (case es => walk_at "sq"); (case ea => first | rfl | assumption))
  | ((with_reducible refine' g_ixT ?es ?ea ?_); (case es => walk_at "sq"); (case ea => first | rfl | assumption))
  | ((with_reducible refine' g_lenL ?es ?_); (case es => walk_at "sq"))
  | ((with_reducible refine' g_lenT ?es ?_); (case es => walk_at "sq"))
  | ((with_reducible refine' g_lenS ?es ?_); (case es => walk_at "sz"))
  | ((with_reducible refine' g_lenD ?es ?_); (case es => walk_at "hp"))
  | ((with_reducible refine' g_listL ?es ?_); (case es => walk_at "sq"))
  | ((with_reducible refine' g_listT ?es ?_); (case es => walk_at "sq"))
  | ((with_reducible refine' g_tupL ?es ?_); (case es => walk_at "sq"))
  | ((with_reducible refine' g_tyL ?es ?_); (case es => walk_at "sq"))
  | ((with_reducible refine g_eqS ?es ?_); (case es => rfl))
  | ((with_reducible refine g_neS ?es ?_); (case es => rfl))
  | ((with_reducible refine' g_inDcS ?es ?_); (case es => walk_at "hp"))
  | ((with_reducible refine' g_notInDcS ?es ?_); (case es => walk_at "hp"))
  | ((with_reducible refine' g_dgetS ?es ?ev ?_); (case es => walk_at "hp"); (case ev => first | assumption | walk_at "dv"))
  | ((with_reducible refine' g_dputS ?es ?el ?_); (case es => walk_at "hp"); (case el => walk_at "sz"))
  | ((with_reducible refine' g_fldI ?es ?ec ?en ?el ?_); (case es => walk_at "hp"); (case ec => assumption); (case en => assumption); (case el => first | assumption | walk_at "fl"))
  | ((with_reducible refine' g_methI ?es ?em ?_); (case es => walk_at "hp"); (case em => first | assumption | walk_at "fl"))
  | ((with_reducible refine' g_sfldI ?es ?ec ?en ?el ?_); (case es => walk_at "hp"); (case ec => assumption); (case en => assumption); (case el => first | assumption | walk_at "fl"))
  | ((with_reducible refine' g_isi ?et ?ek ?_); (case et => walk_at "ty"); (case ek => walk_at "kb"))
  | ((with_reducible refine g_addT ?el ?_); (case el => walk_at "sz"))
  | ((with_reducible refine' g_cat ?e1 ?e2 ?el ?_); (case e1 => walk_at "hp"); (case e2 => walk_at "hp"); (case el => walk_at "sz"))
  | ((with_reducible refine' g_slL ?es ?_); (case es => walk_at "sq"))
  | ((with_reducible refine g_slS ?el ?_); (case el => walk_at "sz"))
  | ((with_reducible refine' g_itL ?es ?_); (case es => walk_at "sq"))
  | ((with_reducible refine' g_itT ?es ?_); (case es => walk_at "sq"))
  | ((with_reducible refine' g_itE ?es ?_); (case es => walk_at "sq"))
  | ((with_reducible refine' g_itR ?es ?_); (case es => (constructor <;> omega)))
  | ((with_reducible refine' g_gtup ?es ?en ?_); (case es => walk_at "sq"); (case en => first | rfl | assumption))
  | ((with_reducible refine' g_setL ?es ?ej ?_); (case es => walk_at "hp"); (case ej => first | rfl | assumption))
  | ((with_reducible refine' g_app ?es ?el ?_); (case es => walk_at "hp"); (case el => walk_at "sz")))
local macro_rules | `(tactic| walk_at "go") => `(tactic| repeat (walk_at "g1"))
local macro_rules | `(tactic| walk_at "fl") => `(tactic| first | exact rfs_weirs _ _ _ | exact rfs_lower _ _ _ | exact rfs_courses _ _ _ | exact rfs_need _ _ _ | exact rfs_rows _ _ _ | exact rfs_below _ _ _ | exact rfs_above _ _ _ | exact rfs_course _ _ _ | exact rfs_depth _ _ _ | exact rfs_upstream _ _ _ | (simp only [List.length]; decide))
abbrev N_l_equal_right : List Str := ["_law_bag_here", "_law_river_here", "_law_rows", "_law_place", "_law_dry", "_law_other", "_law_twin", "_law_one"]
abbrev tEqBody (K : PySem.W.Frag) : TS := (tSeq (tAsg (tMake (He.ga K "River") (sp_River__init_ K) [] E0 (tCons (tVar 5) tNil)) (gName 6))
  (tIfS (tOr (tTest (tOp (rNeU K) (tOp (rEqOwn K "River" (sp_River__eq_ K)) (tVar 1) (tVar 6)) (tOp (rEqU K) (tVar 5) (tVar 2)))) (tTest (tOp (rNeU K) (tOp (rNeOwn K "River" (sp_River__eq_ K)) (tVar 1) (tVar 6)) (tOp (rNeU K) (tVar 5) (tVar 2))))) (tRet (tC (.bl false))) tNext))
abbrev tEqLast (K : PySem.W.Frag) : TS := (tRet (tNotV (tCB (rAny K) (tCons (tLc (iList K (tLst (tCons (tC .non) (tCons (tVar 2) (tCons (tCB (rTupOf K) (tCons (tVar 2) tNil)) (tCons (tFld K (tVar 1) "weirs") (tCons (tMeth (He.ga K "River") "rows" (sp_River_rows K) [] E0 (tVar 1) tNil) (tCons (tCB (rLenU K) (tCons (tVar 2) tNil)) tNil)))))))) (gName 7) tYes (tOp (rEqOwn K "River" (sp_River__eq_ K)) (tVar 1) (tVar 7)) [7]) tNil))))
def t_l_equal_right (K : PySem.W.Frag) : TS :=
  (tSeq (tAsg (tCall (sp_l_take K) [] E0 (tCons (tVar 0) (tCons (tCB (rLenU K) (tCons (tVar 2) tNil)) tNil))) (gName 3))
  (tSeq (tAsg (tOp rCat (tOp rCat (tSl (rSlL K) (tVar 2) tNoPart (tPart (tVar 3))) (tLst (tCons (tTup (tCons (tOp (rIx K) (tOp (rIx K) (tVar 2) (tVar 3)) (tC (.int 0))) (tCons (tC (.str "sea")) tNil))) tNil))) (tSl (rSlL K) (tVar 2) (tPart (tOp rAddI (tVar 3) (tC (.int 1)))) tNoPart)) (gName 4))
  (tSeq (tFor (iList K (tLst (tCons (tCB (rListOf K) (tCons (tVar 2) tNil)) (tCons (tCall (sp_l_mixed K) [] E0 (tCons (tVar 0) (tCons (tVar 2) tNil))) (tCons (tVar 4) (tCons (tIf (tB (tCall (sp_l_is_whole K) [] E0 (tCons (tSl (rSlL K) (tVar 2) (tPart (tC (.int 1))) tNoPart) tNil))) (tSl (rSlL K) (tVar 2) (tPart (tC (.int 1))) tNoPart) (tVar 4)) tNil)))))) (gName 5) (tEqBody K))
  (tEqLast K))))
def sp_l_equal_right (K : PySem.W.Frag) : Sp := fun vs H Q _ => ∃ (b p a : Addr) (rows : Rows), vs = [.ref b, .ref p, .ref a] ∧ Bag H b ∧ RiverAt K (del H b) p rows ∧ Dp K (del H b) (.ref a) (rowsD rows) ∧ ∀ H', Kp b H H' → Q (.bl true) H'
theorem len_l_equal_right {K : PySem.W.Frag} {vs : List V} {H : Hp} {Q : VK} {E : XK} (h : sp_l_equal_right K vs H Q E) : vs.length = 3 := by obtain ⟨_, _, _, _, rfl, _⟩ := h; rfl
/-- the last line: nothing of other kinds is the river -/
theorem eq_last {K : PySem.W.Frag} (G : GRiver K) (T : GTy K (He.ga K "River")) {H : Hp} {Q : VK} {p a b : Addr} {rows : Rows} {u4 u5 u6 u7 : Option V} {u3 : Option V} (R : RiverAt K H p rows) (hD : Dp K H (.ref a) (rowsD rows)) (k : ∀ H', Ex H H' → Q (.bl true) H') {D : Ends} (hrt : D.rt = Q) :
    tEqLast K D [some (.ref b), some (.ref p), some (.ref a), u3, u4, u5, u6, u7] H := by
  obtain ⟨⟨dx, tw, dl, dc, cs, h1, h2, h3, h4, h5⟩, g⟩ := id R
  obtain ⟨rs, hs, hlr, hat⟩ := rows_at hD
  have gcl := G.cl
  have gnw := G.nw
  walk_at "go"
  intro t ht
  have e1 : Ex H (upd H t (.tup rs)) := Ex.new ht
  have r11 := e1 _ _ h1
  walk_at "go"
  refine ⟨p, rows, rfl, R.mono e1, fun q H2 rs2 hq e2 hq2 hD2 => ?_⟩
  have e02 := e1.trans e2
  have hs2 := sl_ex hs e02
  walk_at "go"
  refine ⟨sz_le (by show 6 ≤ _; omega), fun l hl => ?_⟩
  have hll : upd H2 l (.lst [V.non, .ref a, .ref t, .ref tw, .ref q, .int (rs.length : Nat)]) l = some (.lst [V.non, .ref a, .ref t, .ref tw, .ref q, .int (rs.length : Nat)]) := upd_same
  have e03 := e02.trans (Ex.new (o := .lst [V.non, .ref a, .ref t, .ref tw, .ref q, .int (rs.length : Nat)]) hl)
  have htt := e2 t _ upd_same
  walk_at "go"
  refine lc_L (xs := [V.non, .ref a, .ref t, .ref tw, .ref q, .int (rs.length : Nat)]) (fun C i acc H' => upd H2 l (.lst [V.non, .ref a, .ref t, .ref tw, .ref q, .int (rs.length : Nat)]) C = none ∧ Ex (upd H2 l (.lst [V.non, .ref a, .ref t, .ref tw, .ref q, .int (rs.length : Nat)])) H' ∧ acc = (List.replicate i false).map V.bl) (fun C hC => ⟨hC, Ex.new hC, rfl⟩) (fun C i acc H' ⟨_, e, _⟩ => SqL.of (e _ _ hll)) ?_ ?_
  · rintro C i acc H4 x hx hA hlz ⟨hC, hE, rfl⟩
    have e04 := e03.trans hE
    have hi : i < 6 := (List.getElem?_eq_some_iff.mp hx).1
    have ty : ∃ N ∈ tyNames, TyX K H4 x (.type N) := by
      match i, hx with
      | 0, hx => cases hx; exact ⟨"NoneType", by simp [tyNames], .base .non⟩
      | 1, hx => cases hx; exact ⟨"list", by simp [tyNames], ty_L (sl_ex hs e04)⟩
      | 2, hx => cases hx; exact ⟨"tuple", by simp [tyNames], ty_T (SqT.of (hE _ _ (up_new hl htt)))⟩
      | 3, hx => cases hx; exact ⟨"tuple", by simp [tyNames], ty_T (SqT.of (e04 _ _ h2))⟩
      | 4, hx => cases hx; exact ⟨"list", by simp [tyNames], ty_L (SqL.of (hE _ _ (up_new hl hq2)))⟩
      | 5, hx => cases hx; exact ⟨"int", by simp [tyNames], .base (.int _)⟩
      | i + 6, hx => cases hx
    obtain ⟨N, hN, ty⟩ := ty
    walk_at "go"
    refine ⟨rfl, ?_⟩
    walk_at "go"
    refine use_eqT T (R.mono e04) hN ty ?_
    refine lc_add hA hlz (by omega) ⟨hC, Ex.mut hE hC, ?_⟩
    rw [List.replicate_succ', List.map_append]; rfl
  · rintro C acc H4 hC hA hlz ⟨_, hE, rfl⟩
    walk_at "go"
    refine g_any (SqL.of hA) ?_
    walk_at "go"
    have : (!(List.replicate [V.non, .ref a, .ref t, .ref tw, .ref q, .int (rs.length : Nat)].length false).any id) = true := rfl
    rw [this, hrt]
    exact k _ (e03.trans hE)
theorem pure_l_equal_right {K : PySem.W.Frag} (G : GRiver K) (T : GTy K (He.ga K "River")) (vs : List V) (H : Hp) (Q : VK) (E : XK) (h : sp_l_equal_right K vs H Q E) : t_l_equal_right K { nx := fun _ H' => Q .non H', rt := Q } (start N_l_equal_right vs) H := by
  obtain ⟨b, p, a, rows, rfl, hb, R, hD, k⟩ := h
  have g := R.good
  have h40 := g.le
  have hpos := g.pos
  obtain ⟨zs, hs, hzw, hz⟩ := rows_zs hD
  have hzl : zs.length = rows.length := by rw [← hzw, zW_len]
  have hrl := zR_len zs
  have hsH : SqL K H a (zR zs) := sl_del hs
  unfold t_l_equal_right
  walk_at "go"
  refine ⟨b, _, rfl, hb, by omega, by omega, fun r H1 r0 r1 kp1 => ?_⟩
  obtain ⟨j, rfl⟩ : ∃ j : Nat, r = (j : Int) := ⟨r.toNat, by omega⟩
  have hj : j < zs.length := by omega
  have hjr : j < rows.length := by omega
  -- everything of H but the bag, at H1
  have s1 : SqL K (del H1 b) a (zR zs) := sl_ex hs kp1.ex
  have z1 : ∀ z ∈ zs, SqT K (del H1 b) z.1 [.str z.2.1, .str z.2.2] := fun z hz' => st_ex (hz z hz') kp1.ex
  have s1' := sl_del s1
  have zj : (zR zs)[j]? = some (.ref zs[j].1) := by simp [zR, hj]
  have ati : atI (zR zs) (j : Int) = some (.ref zs[j].1) := atI_nat zj
  have tj : SqT K H1 zs[j].1 [.str zs[j].2.1, .str zs[j].2.2] := st_del (z1 _ (List.getElem_mem hj))
  walk_at "go"
  intro c1 hc1
  rw [cut_head (by omega), zR_take]
  have s2 := sl_new (o := .lst (zR (zs.take j))) hc1 s1'
  have tj2 := st_new (o := .lst (zR (zs.take j))) hc1 tj
  walk_at "go"
  refine ⟨sz_le (by show 2 ≤ _; omega), fun t ht => ?_⟩
  walk_at "go"
  refine ⟨sz_le (by show 1 ≤ _; omega), fun l1 hl1 => ?_⟩
  generalize hH2 : upd (upd (upd H1 c1 (.lst (zR (zs.take j)))) t (.tup [.str zs[j].2.1, .str "sea"])) l1 (.lst [.ref t]) = H2
  have e12 : Ex H1 H2 := by rw [← hH2]; exact ((Ex.new hc1).trans (Ex.new ht)).trans (Ex.new hl1)
  have qc1 : H2 c1 = some (.lst (zR (zs.take j))) := by rw [← hH2]; exact up_new hl1 (up_new ht upd_same)
  have ql1 : H2 l1 = some (.lst [.ref t]) := by rw [← hH2]; exact upd_same
  have qt : H2 t = some (.tup [.str zs[j].2.1, .str "sea"]) := by rw [← hH2]; exact up_new hl1 upd_same
  have tb : t ≠ b := Bag.ne (kp1.bag.ex (Ex.new hc1)) ht
  have hlt : (zR (zs.take j)).length ≤ 40 := by rw [zR_len, List.length_take]; omega
  refine g_cat qc1 ql1 (sz_le (by simp; omega)) fun l2 hl2 => ?_
  generalize hH3 : upd H2 l2 (.lst (zR (zs.take j) ++ [.ref t])) = H3
  have e13 : Ex H1 H3 := by rw [← hH3]; exact e12.trans (Ex.new hl2)
  have ql2 : H3 l2 = some (.lst (zR (zs.take j) ++ [.ref t])) := by rw [← hH3]; exact upd_same
  have qt3 : H3 t = some (.tup [.str zs[j].2.1, .str "sea"]) := by rw [← hH3]; exact up_new hl2 qt
  have s3 := sl_ex s1' e13
  walk_at "go"
  intro c2 hc2
  rw [show ((j : Int) + 1) = ((j + 1 : Nat) : Int) by omega, cut_tail (by omega), zR_drop]
  have hld : (zR (zs.drop (j + 1))).length ≤ 40 := by rw [zR_len, List.length_drop]; omega
  refine g_cat (up_new hc2 ql2) upd_same (sz_le (by simp; omega)) fun dry hdry => ?_
  generalize hH4 : upd (upd H3 c2 (.lst (zR (zs.drop (j + 1))))) dry (.lst (zR (zs.take j) ++ [.ref t] ++ zR (zs.drop (j + 1)))) = H4
  have e14 : Ex H1 H4 := by rw [← hH4]; exact (e13.trans (Ex.new hc2)).trans (Ex.new hdry)
  have qd : H4 dry = some (.lst (zR (zs.take j ++ [(t, (zs[j].2.1, ("sea" : Str)))] ++ zs.drop (j + 1)))) := by rw [← hH4, upd_same]; simp [zR]
  have qt4 : H4 t = some (.tup [.str zs[j].2.1, .str "sea"]) := by rw [← hH4]; exact up_new hdry (up_new hc2 qt3)
  have kp4 : Kp b H H4 := kp1.grow e14
  have dryb : dry ≠ b := by
    have : Bag (upd H3 c2 (.lst (zR (zs.drop (j + 1))))) b := kp1.bag.ex (e13.trans (Ex.new hc2))
    exact this.ne hdry
  have s4 : SqL K (del H4 b) a (zR zs) := sl_ex hs kp4.ex
  have z4 : ∀ z ∈ zs, SqT K (del H4 b) z.1 [.str z.2.1, .str z.2.2] := fun z hz' => st_ex (hz z hz') kp4.ex
  have hdryW : zW (zs.take j ++ [(t, (zs[j].2.1, ("sea" : Str)))] ++ zs.drop (j + 1)) = dryR rows j := by
    unfold dryR
    rw [← hzw]
    simp [zW, hj]
  have gdry : Good (dryR rows j) := g.dry hjr
  have dDry : Dp K (del H4 b) (.ref dry) (rowsD (dryR rows j)) := by
    rw [← hdryW]
    refine dp_rowsZ (SqL.of (del_some dryb qd)) fun z hz' => ?_
    rcases List.mem_append.mp hz' with h | h
    · rcases List.mem_append.mp h with h | h
      · exact z4 z (List.mem_of_mem_take h)
      · have : z = (t, (zs[j].2.1, ("sea" : Str))) := by simpa using h
        subst this
        exact SqT.of (del_some tb qt4)
    · exact z4 z (List.mem_of_mem_drop h)
  have s4' := sl_del s4
  walk_at "go"
  intro l3 hl3
  have l3b := kp4.bag.ne hl3
  have kp5 : Kp b H (upd H4 l3 (.lst (zR zs))) := kp4.grow (Ex.new hl3)
  have s5 : SqL K (del (upd H4 l3 (.lst (zR zs))) b) a (zR zs) := sl_ex hs kp5.ex
  walk_at "go"
  refine ⟨b, a, zR zs, rfl, kp5.bag, s5, by omega, fun mx H6 ys pm kp6 hmx hmx6 => ?_⟩
  obtain ⟨zs', rfl, pz⟩ := perm_map _ pm zs rfl
  have mxb := kp5.bag.ne hmx
  have kp06 := kp5.trans kp6
  have z6 : ∀ z ∈ zs, SqT K (del H6 b) z.1 [.str z.2.1, .str z.2.2] := fun z hz' => st_ex (hz z hz') kp06.ex
  have s6 : SqL K (del H6 b) a (zR zs) := sl_ex hs kp06.ex
  have s6' := sl_del s6
  have ex46 : Ex (del H4 b) (del H6 b) := ((Kp.of_ex kp4.bag (Ex.new (o := .lst (zR zs)) hl3)).trans kp6).ex
  have dMx : Dp K (del H6 b) (.ref mx) (rowsD (zW zs')) := dp_rowsZ (SqL.of (del_some mxb hmx6)) fun z hz' => z6 z (pz.mem_iff.mp hz')
  have gMx : Good (zW zs') := g.perm (by rw [← hzw]; exact pz.map _)
  have dL : Dp K (del H6 b) (.ref l3) (rowsD rows) := by
    rw [← hzw]
    exact dp_rowsZ (SqL.of (kp6.ex _ _ (del_some l3b upd_same))) z6
  have dDry6 : Dp K (del H6 b) (.ref dry) (rowsD (dryR rows j)) := Dp.mono ex46 dDry
  -- the loop, whatever the fourth list is
  have loop : ∀ (o4 : Addr) (oth4 : Rows) (H7 : Hp), Ex H6 H7 → Dp K (del H7 b) (.ref o4) (rowsD oth4) → Good oth4 → ∀ (l4 : Addr), H7 l4 = none →
      ForP (Itl K l4) (gName 5) (tEqBody K) { nx := tEqLast K { nx := fun _ H' => Q .non H', rt := Q }, rt := Q } [some (.ref b), some (.ref p), some (.ref a), some (.int (j : Nat)), some (.ref dry), Option.none, Option.none, Option.none] (upd H7 l4 (.lst [.ref l3, .ref mx, .ref dry, .ref o4])) := by
    intro o4 oth4 H7 e7 d4 g4 l4 hl4
    have kp7 : Kp b H H7 := kp06.grow e7
    have exd : Ex (del H6 b) (del H7 b) := e7.del b
    have l4b := kp7.bag.ne hl4
    refine for_L (K := K) (xs := [.ref l3, .ref mx, .ref dry, .ref o4]) (fun i σ' H' => ∃ (u v : Option V), σ' = [some (.ref b), some (.ref p), some (.ref a), some (.int (j : Nat)), some (.ref dry), u, v, Option.none] ∧ Ex (upd H7 l4 (.lst [.ref l3, .ref mx, .ref dry, .ref o4])) H') ?_ ?_ ?_ ?_
    · exact ⟨_, _, rfl, Ex.refl _⟩
    · rintro i σ' H' ⟨_, _, _, e⟩
      exact SqL.of (e _ _ upd_same)
    · rintro i x _ H8 hx ⟨u, v, rfl, e8⟩
      have e78 : Ex H7 H8 := (Ex.new hl4).trans e8
      have kp8 : Kp b H H8 := kp7.grow e78
      have hx' : ∃ (o : Addr) (other : Rows), x = .ref o ∧ Dp K (del H7 b) (.ref o) (rowsD other) ∧ Good other := by
        match i, hx with
        | 0, hx => cases hx; exact ⟨l3, rows, rfl, Dp.mono exd dL, g⟩
        | 1, hx => cases hx; exact ⟨mx, _, rfl, Dp.mono exd dMx, gMx⟩
        | 2, hx => cases hx; exact ⟨dry, _, rfl, Dp.mono exd dDry6, gdry⟩
        | 3, hx => cases hx; exact ⟨o4, oth4, rfl, d4, g4⟩
        | i + 4, hx => cases hx
      obtain ⟨o, other, rfl, dO, gO⟩ := hx'
      have dO8 : Dp K H8 (.ref o) (rowsD other) := Dp.mono e78 (Dp.mono (ex_del _ _) dO)
      have dA8 : Dp K H8 (.ref a) (rowsD rows) := Dp.mono (ex_del _ _) (Dp.mono kp8.ex hD)
      have R8 : RiverAt K H8 p rows := (R.mono kp8.ex).mono (ex_del _ _)
      walk_at "go"
      intro q qdx hq hqd hqq
      refine use_make dO8 gO hq hqd hqq fun H9 e9 Rq => ?_
      walk_at "go"
      refine use_eq T (R8.mono e9) Rq ?_
      walk_at "go"
      refine g_eqD (Dp.mono e9 dO8) (Dp.mono e9 dA8) (shaped_rows gO.okr) (shaped_rows g.okr) ?_
      rw [eqv_rows]
      walk_at "go"
      rw [bool_ne]
      walk_at "go"
      refine use_ne T (R8.mono e9) Rq ?_
      walk_at "go"
      refine g_neD (Dp.mono e9 dO8) (Dp.mono e9 dA8) (shaped_rows gO.okr) (shaped_rows g.okr) ?_
      rw [eqv_rows]
      walk_at "go"
      rw [bool_ne2]
      walk_at "go"
      exact ⟨_, _, rfl, e8.trans e9⟩
    · rintro _ H8 ⟨u, v, rfl, e8⟩
      have e78 : Ex H7 H8 := (Ex.new hl4).trans e8
      have kp8 : Kp b H H8 := kp7.grow e78
      exact eq_last G T ((R.mono kp8.ex).mono (ex_del _ _)) (Dp.mono (ex_del _ _) (Dp.mono kp8.ex hD)) (fun H' e => k H' (kp8.grow e)) rfl
  walk_at "go"
  intro c3 hc3
  have c3b := kp06.bag.ne hc3
  rw [show (some (1 : Int)) = some ((1 : Nat) : Int) from rfl, cut_tail (by omega), zR_drop]
  have zW1 : zW (zs.drop 1) = rows.drop 1 := by rw [← hzw]; simp [zW]
  have kp7 : Kp b H (upd H6 c3 (.lst (zR (zs.drop 1)))) := kp06.grow (Ex.new hc3)
  have dC3 : Dp K (del (upd H6 c3 (.lst (zR (zs.drop 1)))) b) (.ref c3) (rowsD (rows.drop 1)) := by
    rw [← zW1]
    exact dp_rowsZ (SqL.of (del_some c3b upd_same)) fun z hz' => st_ex (hz z (List.mem_of_mem_drop hz')) kp7.ex
  walk_at "go"
  refine ⟨c3, rows.drop 1, rfl, Dp.mono (ex_del _ _) dC3, by rw [List.length_drop]; omega, fun r hr => g.okr r (List.mem_of_mem_drop hr), fun H8 e8 => ?_⟩
  have e68 : Ex H6 H8 := (Ex.new hc3).trans e8
  walk_at "go"
  refine iteB (fun hwh => ?_) (fun hwh => ?_)
  · have s8 := sl_ex s6' e68
    walk_at "go"
    intro c4 hc4
    rw [show (some (1 : Int)) = some ((1 : Nat) : Int) from rfl, cut_tail (by omega), zR_drop]
    have kp8 : Kp b H H8 := kp06.grow e68
    have c4b := kp8.bag.ne hc4
    have kp9 : Kp b H (upd H8 c4 (.lst (zR (zs.drop 1)))) := kp8.grow (Ex.new hc4)
    have dC4 : Dp K (del (upd H8 c4 (.lst (zR (zs.drop 1)))) b) (.ref c4) (rowsD (rows.drop 1)) := by
      rw [← zW1]
      exact dp_rowsZ (SqL.of (del_some c4b upd_same)) fun z hz' => st_ex (hz z (List.mem_of_mem_drop hz')) kp9.ex
    walk_at "go"
    refine ⟨sz_le (by show 4 ≤ _; omega), fun l4 hl4 => ?_⟩
    walk_at "go"
    exact loop c4 (rows.drop 1) _ (e68.trans (Ex.new hc4)) dC4 (g.tail hwh) l4 hl4
  · walk_at "go"
    refine ⟨sz_le (by show 4 ≤ _; omega), fun l4 hl4 => ?_⟩
    walk_at "go"
    exact loop dry (dryR rows j) _ e68 (Dp.mono (e68.del b) dDry6) gdry l4 hl4
end WK
namespace WK
open PySem L2
/-! ### values that are no weir -/
structure OddD (rows : Rows) (d : PyData) : Prop where
  sh : SeqAt.shaped d = true
  no : isW rows d = false
  eq : PyData.eqv d d = true
theorem strOk_app {a b : Str} (ha : PyData.strOk a = true) (hb : PyData.strOk b = true) : PyData.strOk (a ++ b) = true := by
  unfold PyData.strOk at *
  rw [Array.all_eq_true'] at *
  intro c hc
  have hc' : c ∈ a.cps ++ b.cps := hc
  rcases Array.mem_append.mp hc' with h | h
  · exact ha c h
  · exact hb c h
theorem isW_no {rows : Rows} {z : Str} (h : z ∉ wrs rows) : isW rows (.str z) = false := by
  rw [Bool.eq_false_iff]
  intro e
  obtain ⟨w, e1, hw⟩ := isW_yes e
  cases e1
  exact h hw
theorem odd_str {rows : Rows} {z : Str} (ok : PyData.strOk z = true) (h : z ∉ wrs rows) : OddD rows (.str z) := ⟨shaped_str ok, isW_no h, by rw [eqv_strs]; simp⟩
theorem odd_other {rows : Rows} {d : PyData} (sh : SeqAt.shaped d = true) (hs : ∀ w, PyData.eqv (.str w) d = false) (e : PyData.eqv d d = true) : OddD rows d := ⟨sh, (by
  unfold isW
  rw [Bool.eq_false_iff]
  intro h
  obtain ⟨w, _, q⟩ := List.any_eq_true.mp h
  rw [hs w] at q; cases q), e⟩
theorem Good.len_pos {rows : Rows} (g : Good rows) {w : Str} (h : w ∈ wrs rows) : 1 ≤ (cl w).length ∧ (cl w).length ≤ 8 := by
  obtain ⟨r, hr, rfl⟩ := List.mem_map.mp h
  have := (g.nm r hr).1
  unfold isName at this
  rw [Bool.and_eq_true, Bool.and_eq_true, decide_eq_true_eq, decide_eq_true_eq] at this
  rw [← cl_len]
  exact this.1
theorem odd_app {rows : Rows} (g : Good rows) (pf : PF rows) {w z : Str} (hw : w ∈ wrs rows) (hz : cl z ≠ []) (ok : PyData.strOk z = true) : OddD rows (.str (w ++ z)) := by
  refine odd_str (strOk_app (g.okw w hw) ok) fun h => hz ?_
  exact pf w hw _ h (cl z) (cl_app w z).symm
theorem q_ok : PyData.strOk ("q" : Str) = true ∧ cl ("q" : Str) ≠ [] := by decide +kernel
theorem sp_ok : PyData.strOk (" " : Str) = true ∧ cl (" " : Str) ≠ [] := by decide +kernel
theorem em_ok : PyData.strOk ("" : Str) = true := by decide +kernel
theorem odd_sea {rows : Rows} (g : Good rows) : OddD rows (.str "sea") := odd_str sea_ok fun h => g.ne_sea h rfl
theorem odd_empty {rows : Rows} (g : Good rows) : OddD rows (.str "") := odd_str em_ok fun h => by
  have := (g.len_pos h).1
  rw [cl_empty] at this
  exact absurd this (by decide)
theorem odd_none {rows : Rows} : OddD rows .none := odd_other (by decide +kernel) (fun w => by simp [PyData.eqv]) (by simp [PyData.eqv])
theorem odd_zero {rows : Rows} : OddD rows (.int 0) := odd_other (by decide +kernel) (fun w => by simp [PyData.eqv]) (by simp [PyData.eqv])
theorem odd_true {rows : Rows} : OddD rows (.bool true) := odd_other (by decide +kernel) (fun w => by simp [PyData.eqv]) (by simp [PyData.eqv])
theorem odd_list {rows : Rows} {ws : List Str} (h : ∀ w ∈ ws, PyData.strOk w = true) : OddD rows (.list (ws.map .str)) := odd_other (shaped_strsL h) (fun w => by simp [PyData.eqv]) (by rw [eqv_strsL]; simp)
theorem odd_tup {rows : Rows} {ws : List Str} (h : ∀ w ∈ ws, PyData.strOk w = true) : OddD rows (.tuple (ws.map .str)) := odd_other (shaped_strsT h) (fun w => by simp [PyData.eqv]) (by rw [eqv_strsT]; simp)
theorem dp_ty {K : PySem.W.Frag} {H : Hp} {v : V} {d : PyData} (h : Dp K H v d) : ∃ T b, TyX K H v (.type T) ∧ kitB T "bool" = some b := by
  cases h with
  | non => exact ⟨_, _, .base .non, kb_NoneType_bool⟩
  | bl b => exact ⟨_, _, .base (.bl _), kb_bool_bool⟩
  | int i => exact ⟨_, _, .base (.int _), kb_int_bool⟩
  | str x => exact ⟨_, _, .base (.str _), kb_str_bool⟩
  | lst s _ => exact ⟨_, _, ty_L s, kb_list_bool⟩
  | tup s _ => exact ⟨_, _, ty_T s, kb_tuple_bool⟩
local macro_rules | `(tactic| walk_at "kb") => `(tactic| first | exact kb_str_str | exact kb_str_int | exact kb_str_bool | exact kb_str_list | exact kb_str_tuple | exact kb_str_dict | exact kb_int_str | exact kb_int_int | exact kb_int_bool | exact kb_int_list | exact kb_int_tuple | exact kb_int_dict | exact kb_bool_str | exact kb_bool_int | exact kb_bool_bool | exact kb_bool_list | exact kb_bool_tuple | exact kb_bool_dict | exact kb_list_str | exact kb_list_int | exact kb_list_bool | exact kb_list_list | exact kb_list_tuple | exact kb_list_dict | exact kb_tuple_str | exact kb_tuple_int | exact kb_tuple_bool | exact kb_tuple_list | exact kb_tuple_tuple | exact kb_tuple_dict | exact kb_dict_str | exact kb_dict_int | exact kb_dict_bool | exact kb_dict_list | exact kb_dict_tuple | exact kb_dict_dict | exact kb_NoneType_str | exact kb_NoneType_int | exact kb_NoneType_bool | exact kb_NoneType_list | exact kb_NoneType_tuple | exact kb_NoneType_dict)
local macro_rules | `(tactic| walk_at "hn") => `(tactic| first
  | assumption
  | ((with_reducible refine' Ex.nn ?hne ?hnh); (case hnh => assumption); (case hne => walk_at "ex"))
  | ((with_reducible refine' Kp.nn ?hnk ?hnb ?hnh); (case hnh => assumption); (case hnk => assumption); (case hnb => assumption))
  | ((with_reducible refine del_none ?_); walk_at "hn")
  | ((with_reducible refine' Eq.trans (upd_ne ?hnq) ?_); (case hnq => walk_at "ne"); walk_at "hn"))
local macro_rules | `(tactic| walk_at "ne") => `(tactic| first
  | assumption
  | exact Ne.symm (by assumption)
  | exact Bag.ne (by assumption) (by assumption)
  | exact Ne.symm (Bag.ne (by assumption) (by assumption))
  | exact ne_of_none (by assumption) (by assumption)
  | exact Ne.symm (ne_of_none (by assumption) (by assumption)))
local macro_rules | `(tactic| walk_at "ex") => `(tactic| first
  | assumption
  | with_reducible exact Ex.refl _
  | ((with_reducible refine' Ex.mut ?exm ?exn); (case exn => walk_at "hn"); (case exm => walk_at "ex"))
  | ((with_reducible refine' Ex.trans ?exa ?exb); (case exb => assumption); (case exa => walk_at "ex"))
  | ((with_reducible refine' Ex.trans ?exa (Ex.new ?exn)); (case exn => walk_at "hn"); (case exa => walk_at "ex")))
local macro_rules | `(tactic| walk_at "hp") => `(tactic| first
  | assumption
  | with_reducible exact upd_same
  | ((with_reducible refine' up_new ?hpn ?hpr); (case hpn => walk_at "hn"); (case hpr => walk_at "hp"))
  | ((with_reducible refine' up_ne ?hpn ?hpr); (case hpr => walk_at "hp"); (case hpn => walk_at "ne"))
  | ((with_reducible refine' hp_kp ?hph ?hpk); (case hph => assumption); (case hpk => assumption))
  | ((with_reducible refine' hp_del ?hph); (case hph => assumption))
  | ((with_reducible refine' hp_ex ?hph ?hpe); (case hph => assumption); (case hpe => walk_at "ex")))
local macro_rules | `(tactic| walk_at "sq") => `(tactic| first
  | assumption
  | ((with_reducible refine' SqL.of ?sof); (case sof => walk_at "hp"))
  | ((with_reducible refine' SqT.of ?sof); (case sof => walk_at "hp"))
  | ((with_reducible refine' sl_new ?hpn ?hpr); (case hpn => walk_at "hn"); (case hpr => walk_at "sq"))
  | ((with_reducible refine' st_new ?hpn ?hpr); (case hpn => walk_at "hn"); (case hpr => walk_at "sq"))
  | ((with_reducible refine' sl_kp ?hph ?hpk); (case hph => assumption); (case hpk => assumption))
  | ((with_reducible refine' st_kp ?hph ?hpk); (case hph => assumption); (case hpk => assumption))
  | ((with_reducible refine' sl_del ?hph); (case hph => assumption))
  | ((with_reducible refine' st_del ?hph); (case hph => assumption))
  | ((with_reducible refine' sl_ex ?hph ?hpe); (case hph => assumption); (case hpe => walk_at "ex"))
  | ((with_reducible refine' st_ex ?hph ?hpe); (case hph => assumption); (case hpe => walk_at "ex")))
local macro_rules | `(tactic| walk_at "ty") => `(tactic| first
  | exact TyX.base (.str _)
  | exact TyX.base (.int _)
  | exact TyX.base (.bl _)
  | exact TyX.base .non
  | exact ty_L (by walk_at "sq")
  | exact ty_T (by walk_at "sq"))
local macro_rules | `(tactic| walk_at "sz") => `(tactic| first | omega | exact sz_le (by omega) | exact sz_lt (by omega) | (refine sz_le ?_; simp; omega) | (refine sz_lt ?_; simp; omega) | (refine sz_le ?_; simp))
local macro_rules | `(tactic| walk_at "side") => `(tactic| first | assumption | omega | (refine ⟨?_, ?_⟩ <;> omega) | (exact .inl ⟨by omega, by omega⟩) | (exact .inr ⟨by omega, by omega⟩) | (exact ⟨by decide, by decide, by decide⟩) | rfl)
local macro_rules | `(tactic| walk_at "g1") => `(tactic| first
  | with_reducible first
    | refine g_seq ?_ | refine g_asg ?_ | refine g_name ?_ | refine g_op ?_ | refine g_c ?_ | refine g_cons ?_ | refine g_nil ?_ | refine g_cb ?_ | refine g_call ?_ | refine g_ret ?_ | refine g_drop ?_ | refine g_next ?_
    | refine g_ifS ?_ | refine g_if ?_ | refine g_test ?_ | refine g_tB ?_ | refine g_bl ?_ | refine g_and ?_ | refine g_or ?_ | refine g_not ?_ | refine g_andV ?_ | refine g_orV ?_ | refine g_notV ?_
    | refine g_un ?_ | refine g_neg ?_ | refine g_rI0 ?_ | refine g_int1 ?_ | refine g_abs ?_ | refine g_mx2 ?_ | refine g_mn2 ?_ | refine g_par ?_ | refine g_par2 ?_ | refine g_chain ?_
    | refine g_for ?_ | refine g_lc ?_ | refine g_dc ?_ | refine g_iList ?_ | refine g_iTup ?_ | refine g_iStr ?_ | refine g_iRng1 ?_ | refine g_iEnum ?_ | refine g_itS ?_ | refine g_gcons ?_ | refine g_gnil ?_
    | refine g_dget ?_ | refine g_dput ?_ | refine g_dnew ?_ | refine g_inSg ?_ | refine g_notNn ?_ | refine g_isNn ?_ | refine g_sl ?_ | refine g_nopart ?_ | refine g_part ?_ | refine g_parti ?_ | refine g_meth ?_ | refine g_make ?_ | refine g_fldE ?_ | refine g_sfld ?_
    | refine g_sub ?_ | refine g_lst ?_ | refine g_tup ?_ | refine g_bm ?_ | refine g_bm0 ?_ | refine g_tyS ?_ | refine g_yes ?_ | refine iteT ?_ | refine iteF ?_ | refine iteNT ?_ | refine iteNF ?_
  | ((with_reducible refine' g_var ?ev ?_); (case ev => rfl))
  | ((with_reducible refine' g_rI ?ec ?_); (case ec => walk_at "side"))
  | ((with_reducible refine' g_ixL ?es ?ea ?_); (case es => walk_at "sq"); (case ea => first | rfl | assumption))
  | ((with_reducible refine' g_ixT ?es ?ea ?_); (case es => walk_at "sq"); (case ea => first | rfl | assumption))
  | ((with_reducible refine' g_lenL ?es ?_); (case es => walk_at "sq"))
  | ((with_reducible refine' g_lenT ?es ?_); (case es => walk_at "sq"))
  | ((with_reducible refine' g_lenS ?es ?_); (case es => walk_at "sz"))
  | ((with_reducible refine' g_lenD ?es ?_); (case es => walk_at "hp"))
  | ((with_reducible refine' g_listL ?es ?_); (case es => walk_at "sq"))
  | ((with_reducible refine' g_listT ?es ?_); (case es => walk_at "sq"))
  | ((with_reducible refine' g_tupL ?es ?_); (case es => walk_at "sq"))
  | ((with_reducible refine' g_tyL ?es ?_); (case es => walk_at "sq"))
  | ((with_reducible refine g_eqS ?es ?_); (case es => rfl))
  | ((with_reducible refine g_neS ?es ?_); (case es => rfl))
  | ((with_reducible refine' g_inDcS ?es ?_); (case es => walk_at "hp"))
  | ((with_reducible refine' g_notInDcS ?es ?_); (case es => walk_at "hp"))
  | ((with_reducible refine' g_dgetS ?es ?ev ?_); (case es => walk_at "hp"); (case ev => first | assumption | walk_at "dv"))
  | ((with_reducible refine' g_dputS ?es ?el ?_); (case es => walk_at "hp"); (case el => walk_at "sz"))
  | ((with_reducible refine' g_fldI ?es ?ec ?en ?el ?_); (case es => walk_at "hp"); (case ec => assumption); (case en => assumption); (case el => first | assumption | walk_at "fl"))
  | ((with_reducible refine' g_methI ?es ?em ?_); (case es => walk_at "hp"); (case em => first | assumption | walk_at "fl"))
  | ((with_reducible refine' g_sfldI ?es ?ec ?en ?el ?_); (case es => walk_at "hp"); (case ec => assumption); (case en => assumption); (case el => first | assumption | walk_at "fl"))
  | ((with_reducible refine' g_isi ?et ?ek ?_); (case et => walk_at "ty"); (case ek => walk_at "kb"))
  | ((with_reducible refine g_addT ?el ?_); (case el => walk_at "sz"))
  | ((with_reducible refine' g_cat ?e1 ?e2 ?el ?_); (case e1 => walk_at "hp"); (case e2 => walk_at "hp"); (case el => walk_at "sz"))
  | ((with_reducible refine' g_slL ?es ?_); (case es => walk_at "sq"))
  | ((with_reducible refine g_slS ?el ?_); (case el => walk_at "sz"))
  | ((with_reducible refine' g_itL ?es ?_); (case es => walk_at "sq"))
  | ((with_reducible refine' g_itT ?es ?_); (case es => walk_at "sq"))
  | ((with_reducible refine' g_itE ?es ?_); (case es => walk_at "sq"))
  | ((with_reducible refine' g_itR ?es ?_); (case es => (constructor <;> omega)))
  | ((with_reducible refine' g_gtup ?es ?en ?_); (case es => walk_at "sq"); (case en => first | rfl | assumption))
  | ((with_reducible refine' g_setL ?es ?ej ?_); (case es => walk_at "hp"); (case ej => first | rfl | assumption))
  | ((with_reducible refine' g_app ?es ?el ?_); (case es => walk_at "hp"); (case el => walk_at "sz")))
local macro_rules | `(tactic| walk_at "go") => `(tactic| repeat (walk_at "g1"))
abbrev N_l_odd : List Str := ["_law_bag_here", "_law_rows", "_law_weir"]
def t_l_odd (K : PySem.W.Frag) : TS :=
  (tSeq (tAsg (tOp (rIx K) (tCall (sp_l_of K) [] E0 (tCons (tVar 0) (tCons (tVar 1) tNil))) (tC (.int 0))) (gName 2))
  (tRet (tCall (sp_l_of K) [] E0 (tCons (tVar 0) (tCons (tLst (tCons (tOp rAddT (tVar 2) (tC (.str "q"))) (tCons (tOp rAddT (tVar 2) (tC (.str " "))) (tCons (tC (.str "sea")) (tCons (tC (.str "")) (tCons (tC .non) (tCons (tC (.int 0)) (tCons (tC (.bl true)) (tCons (tLst (tCons (tVar 2) tNil)) (tCons (tTup (tCons (tVar 2) tNil)) (tCons (tLst tNil) (tCons (tOp rAddT (tVar 2) (tVar 2)) tNil)))))))))))) tNil)))))
def sp_l_odd (K : PySem.W.Frag) : Sp := fun vs H Q _ => ∃ (b a : Addr) (rows : Rows), vs = [.ref b, .ref a] ∧ Bag H b ∧ Dp K (del H b) (.ref a) (rowsD rows) ∧ Good rows ∧ PF rows ∧
  ∀ v d H', Kp b H H' → Dp K (del H' b) v d → OddD rows d → Q v H'
theorem len_l_odd {K : PySem.W.Frag} {vs : List V} {H : Hp} {Q : VK} {E : XK} (h : sp_l_odd K vs H Q E) : vs.length = 2 := by obtain ⟨_, _, _, rfl, _⟩ := h; rfl
theorem pure_l_odd {K : PySem.W.Frag} (vs : List V) (H : Hp) (Q : VK) (E : XK) (h : sp_l_odd K vs H Q E) : t_l_odd K { nx := fun _ H' => Q .non H', rt := Q } (start N_l_odd vs) H := by
  obtain ⟨b, a, rows, rfl, hb, hD, g, pf, k⟩ := h
  obtain ⟨rs, hs, hlr, hat⟩ := rows_at hD
  have h40 := g.le
  have hpos := g.pos
  unfold t_l_odd
  walk_at "go"
  refine ⟨b, a, rs, rfl, hb, hs, by omega, by omega, fun H1 j v kp1 hv => ?_⟩
  obtain ⟨t, r, rfl, hr, ht⟩ := hat j v hv
  have hw : r.1 ∈ wrs rows := List.mem_map.mpr ⟨r, List.mem_of_getElem? hr, rfl⟩
  have ok := g.okw _ hw
  have hlen := g.len_pos hw
  rw [← cl_len] at hlen
  have ht1 : SqT K H1 t [.str r.1, .str r.2] := st_kp ht kp1
  have l1 : ("q" : Str).length = 1 := by decide +kernel
  have l2 : (" " : Str).length = 1 := by decide +kernel
  walk_at "go"
  refine ⟨sz_le (by show 1 ≤ _; omega), fun c1 hc1 => ?_⟩
  walk_at "go"
  refine ⟨sz_le (by show 1 ≤ _; omega), fun c2 hc2 => ?_⟩
  walk_at "go"
  refine ⟨sz_le (by show 0 ≤ _; omega), fun c3 hc3 => ?_⟩
  walk_at "go"
  generalize hH2 : upd (upd (upd H1 c1 (.lst [.str r.1])) c2 (.tup [.str r.1])) c3 (.lst []) = H2
  have e12 : Ex H1 H2 := by rw [← hH2]; exact ((Ex.new hc1).trans (Ex.new hc2)).trans (Ex.new hc3)
  have q1 : H2 c1 = some (.lst (strsV [r.1])) := by rw [← hH2]; exact up_new hc3 (up_new hc2 upd_same)
  have q2 : H2 c2 = some (.tup (strsV [r.1])) := by rw [← hH2]; exact up_new hc3 upd_same
  have q3 : H2 c3 = some (.lst (strsV [])) := by rw [← hH2]; exact upd_same
  have b1 : c1 ≠ b := kp1.bag.ne hc1
  have b2 : c2 ≠ b := (kp1.bag.ex (Ex.new hc1)).ne hc2
  have b3 : c3 ≠ b := ((kp1.bag.ex (Ex.new hc1)).ex (Ex.new hc2)).ne hc3
  have kp2 : Kp b H H2 := kp1.grow e12
  refine ⟨sz_le (by show 11 ≤ _; omega), fun l hl => ?_⟩
  have lb := kp2.bag.ne hl
  walk_at "go"
  have bag3 := kp2.bag.ex (Ex.new (o := .lst [.str (r.1 ++ "q"), .str (r.1 ++ " "), .str "sea", .str "", .non, .int 0, .bl true, .ref c1, .ref c2, .ref c3, .str (r.1 ++ r.1)]) hl)
  refine ⟨b, l, [.str (r.1 ++ "q"), .str (r.1 ++ " "), .str "sea", .str "", .non, .int 0, .bl true, .ref c1, .ref c2, .ref c3, .str (r.1 ++ r.1)], rfl, bag3, SqL.of (del_some lb upd_same), by show 0 < 11; decide, by show 11 < 1000000; decide, fun H4 i v kp4 hv => ?_⟩
  have kp04 : Kp b H H4 := (kp2.grow (Ex.new hl)).trans kp4
  have q14 : del H4 b c1 = some (.lst (strsV [r.1])) := kp4.ex _ _ (del_some b1 (up_new hl q1))
  have q24 : del H4 b c2 = some (.tup (strsV [r.1])) := kp4.ex _ _ (del_some b2 (up_new hl q2))
  have q34 : del H4 b c3 = some (.lst (strsV [])) := kp4.ex _ _ (del_some b3 (up_new hl q3))
  have one : ∀ w ∈ [r.1], PyData.strOk w = true := fun w h => by
    have : w = r.1 := by simpa using h
    rw [this]; exact ok
  match i, hv with
  | 0, hv => cases hv; exact k _ _ H4 kp04 (.str _) (odd_app g pf hw q_ok.2 q_ok.1)
  | 1, hv => cases hv; exact k _ _ H4 kp04 (.str _) (odd_app g pf hw sp_ok.2 sp_ok.1)
  | 2, hv => cases hv; exact k _ _ H4 kp04 (.str _) (odd_sea g)
  | 3, hv => cases hv; exact k _ _ H4 kp04 (.str _) (odd_empty g)
  | 4, hv => cases hv; exact k _ _ H4 kp04 .non odd_none
  | 5, hv => cases hv; exact k _ _ H4 kp04 (.int _) odd_zero
  | 6, hv => cases hv; exact k _ _ H4 kp04 (.bl _) odd_true
  | 7, hv => cases hv; exact k _ _ H4 kp04 (dp_strsL (SqL.of q14)) (odd_list one)
  | 8, hv => cases hv; exact k _ _ H4 kp04 (dp_strsT (SqT.of q24)) (odd_tup one)
  | 9, hv => cases hv; exact k _ _ H4 kp04 (dp_strsL (SqL.of q34)) (odd_list fun w h => by simp at h)
  | 10, hv => cases hv; exact k _ _ H4 kp04 (.str _) (odd_app g pf hw (fun e => by have := hlen.1; rw [cl_len, e] at this; exact absurd this (by decide)) ok)
  | i + 11, hv => cases hv
end WK
namespace WK
open PySem L2 PySem.Spec PyProof.Rows
open LamX (CodeO TabS Tabs ExtN TabB LamS lamEnv lamCx lam_make2 run_ofS)
section
variable {X : Cx} {pins : List (Addr × Obj)} {σ : L2.St} {H : Hp} {s : Shared}
/-- a name of the frame is read, the state stays -/
theorem ld_var {i : Nat} {x : Str} {pos : Pos} {v : V} (I : Inv X pins σ H s) (hN : X.N[i]? = some x) (hv : Vis X.env.scope x) (hs : σ[i]? = some (some v)) {R : Value → Shared → Prop} {E : Value → Shared → Prop} (h : ∀ u, RelV v u → R u s)
    (hd : (x == ("__debug__" : Str)) = false := by decide) (hcd : (x == ("__classdict__" : Str)) = false := by decide) : wpAny (model X.prog X.w) X.A (eval (.Name x pos) X.env) R E s := by
  obtain ⟨m, hn, hl⟩ := I.loc
  obtain ⟨u, r, l⟩ := hl i x v hN hs hv
  rcases l with ⟨hk, hm⟩ | ⟨hk, c, hc, hcell⟩
  · exact wpAny_Name (wpAny_loadName_local I.ok.kind hk hn hm (h u r)) hd
  · rcases hk with hk | hk
    · exact wpAny_Name (wpAny_loadName_cell I.ok.kind hk hc hcell (h u r)) hd
    · exact wpAny_Name (wpAny_loadName_free I.ok.kind hk hc hcell (h u r) hcd) hd
end
section
variable {X : Cx} {pins : List (Addr × Obj)} {σ : L2.St} {H : Hp} {s : Shared}
/-- the lambda is called in the def that got it; what is wished of its exception may speak of that def's names at the call -/
theorem pe_actS {CXg : CXT} {Eg : XK} {Ng : List Str} {qg : Str} {sg : Scope} {g f c' : Addr} {cdg pm ctv : Value} {params : Arguments} {body : Expr} {scope : Scope} {k i : Nat} {a : Str} {pn : List (Addr × Obj)} {xe : Value → Shared → Prop} {W : WX} {E : L2.St → XK} {tb : XK → TE} {p1 p2 : Pos}
    (I : Inv X pins σ H s) (L : LamS X.env.scope scope) (hf : s.heap.get? f = some (PySem.W.kla_obj "<lambda>" (X.env.qual ++ "<lambda>") params body scope (cloFrom X.env.cells scope.names []) pm c' ctv)) (hfn : H f = none) (hfr : f ∉ frs X.stack)
    (hbind : bindArgs (PySem.W.kla_fn "<lambda>" (X.env.qual ++ "<lambda>") params body scope (cloFrom X.env.cells scope.names []) pm (.ref c') ctv) ⟨[], []⟩ = pure [])
    (tk : Takes ((cxOf CXg X.prog X.w X.K X.mg X.base Ng qg sg g cdg X.A X.stack s H Eg).tr pn xe) W) (hW : ∀ σ' cls d H', E σ' cls d H' → W cls d σ' H') (hr : Room (k + 1) (X.A.deeper (envOfC qg sg s.heap.objs.size g cdg)))
    (hbody : ∀ (A : Around) (outer : List Env) (s : Shared) (H : Hp) (E : XK), Room k (A.deeper (lamEnv X scope s.heap.objs.size f c')) → PE (lamCx X A outer s H E scope f c') body (tb E))
    (hN : Ng[i]? = some a) (hv : Vis sg a) (hd : (a == ("__debug__" : Str)) = false) (hcd : (a == ("__classdict__" : Str)) = false) :
    PE ((cxOf CXg X.prog X.w X.K X.mg X.base Ng qg sg g cdg X.A X.stack s H Eg).tr pn xe) (.Call (.Name a p1) [] [] p2)
      (fun σZ HZ Q => σZ[i]? = some (some (.ref f)) ∧ HZ c' = some (CodeO c' (X.env.qual ++ "<lambda>")) ∧ tb (E σZ) σ HZ Q) := by
  refine ⟨fun pz sz σz Hz Q IZ ⟨hs, hc, ht⟩ => ?_⟩
  refine wpAny_Call_Name_kw (ld_var IZ hN hv hs (fun u ru => ?_) hd hcd)
  obtain rfl : u = Value.ref f := ru
  have fobj := IZ.base.keep f _ hf hfn hfr (fun z => nomatch (show f ∈ ([] : List Addr) from z))
  refine PySem.W.callWith_F0 ⟨_, _, _, _, fobj⟩ (wpAny_call ?_)
  obtain ⟨⟨oc, vs, t, hoc, hdc, hvc⟩, _, _⟩ := IZ.hok c' _ hc
  have run : codeAny (model X.prog X.w) (X.A.deeper (envOfC qg sg s.heap.objs.size g cdg)) (.call (.ref f) ⟨[], []⟩) (CR (L2.CX X.prog X.w) (envOfC qg sg s.heap.objs.size g cdg :: X.stack) X.prog X.w Hz sz Q (E σz)) sz := by
    refine PySem.W.kla_callFunE hr.depth fobj rfl L.co L.gen rfl ⟨c', oc, vs, t, rfl, hoc, hdc, hvc⟩ ?_
    rw [hbind]
    refine wpAny_pure (wpAny_newFunctionEnv (fun y hy => (L.own y hy).2) (fun y hy => absurd hy (by simp)) (fun h₁ hns hsb => ⟨IZ.nolimit.fresh _ hsb, ?_⟩) L.kind)
    have J := LamX.lam_start2 (A := X.A.deeper (envOfC qg sg s.heap.objs.size g cdg)) (outer := envOfC qg sg s.heap.objs.size g cdg :: X.stack) (E := E σz) (f := f) (c' := c') (tk := sz.toks + ([] : List (Str × Value)).length) I L IZ.env0 hr.hd IZ.base hns
      fun b o e => hsb.extBut b o (Nat.ne_of_lt (Heap.lt_size e)) (Heap.get?_push_of_some _ e)
    show codeAny _ _ (.expr body (lamEnv X scope sz.heap.objs.size f c')) _ _
    exact PySem.W.kla_codeExpr (wpAny_mono ((hbody _ _ sz Hz (E σz) (hr.deeper _)).run [] _ _ Hz Q J ht) (fun v s' ⟨w', H', J', rv, q⟩ => ⟨w', H', J'.os, J'.bare, J'.base, J'.hok, rv, q⟩) fun _ _ hq => hq)
  refine codeAny_mono run fun r s' hq => ?_
  cases r with
  | error e => exact tk e s' (XE.of_call IZ (fun cls d H' h => hW σz cls d H' h) hq)
  | ok fl =>
    cases fl with
    | ret u => exact IZ.after hq
    | next => exact False.elim hq
    | brk => exact False.elim hq
    | cont => exact False.elim hq
end
/-- the def that calls what it got; a second value is handed beside -/
def Gives2 (X : Cx) (Ng : List Str) (x : Str) (sg : Scope) (g : Addr) (cdg : Value) (bg : List Stmt) (a : Str) (q : Str) (TT : V → (XK → Hp → VK → Prop) → Hp → VK → Prop) : Prop :=
  ∀ (f c' : Addr) (s : Shared) (H : Hp) (v : V) (Q : VK) (tl : XK → Hp → VK → Prop), Room 1 (X.A.deeper (envOfC x sg s.heap.objs.size g cdg)) →
    (∀ (W : WX) (pn : List (Addr × Obj)) (xe : Value → Shared → Prop) (E : L2.St → XK) (p1 p2 : Pos), Takes ((cxOf C8.CX0 X.prog X.w X.K X.mg X.base Ng x sg g cdg X.A X.stack s H C8.E0).tr pn xe) W → (∀ σ' cls d H', E σ' cls d H' → W cls d σ' H') →
      PE ((cxOf C8.CX0 X.prog X.w X.K X.mg X.base Ng x sg g cdg X.A X.stack s H C8.E0).tr pn xe) (.Call (.Name a p1) [] [] p2) (fun σZ HZ Q => σZ[0]? = some (some (.ref f)) ∧ HZ c' = some (CodeO c' q) ∧ tl (E σZ) HZ Q)) →
    H c' = some (CodeO c' q) → TT v tl H Q →
    ∃ t, PSs (cxOf C8.CX0 X.prog X.w X.K X.mg X.base Ng x sg g cdg X.A X.stack s H C8.E0).nox bg t ∧ t { nx := fun _ H' => Q .non H', rt := Q } (L2.start Ng [.ref f, v]) H
def tLam2 (T : List (Addr × Str)) (TT : V → (XK → Hp → VK → Prop) → Hp → VK → Prop) (iy : Nat) (t : XK → TE) : TE := fun σ H Q => Tabs T H ∧ ∃ v, σ[iy]? = some (some v) ∧ ∀ H1, ExtN H H1 → Tabs T H1 → TT v (fun E H' Q' => t E σ H' Q') H1 Q
section
variable {X : Cx}
/-- x(lambda: body, y) -/
theorem pe_lam2 {T : List (Addr × Str)} {TT : V → (XK → Hp → VK → Prop) → Hp → VK → Prop} {x a a2 y : Str} {iy : Nat} {g c P : Addr} {k : Nat} {pg : Arguments} {bg : List Stmt} {sg : Scope} {dvs : List V} {kws : List (Str × V)} {fd : FuncData} {Ng : List Str}
    {params : Arguments} {body : Expr} {scope : Scope} {t : XK → TE} {p lpos py pos : Pos} (F : FunD X.K x x pg bg sg dvs kws g fd) (hg : Gl X x) (hm : X.mg x = some (.ref g)) (hb : L2.Binds X.K fd [a, a2] []) (Sg : FnScope Ng [a, a2] sg) (hNg : Ng[0]? = some a) (hva : Vis sg a)
    (hG : ∀ cdv, Gives2 X Ng x sg g cdv bg a (X.env.qual ++ "<lambda>") TT)
    (TB : TabB X.base X.mg c P) (hcode : X.env.code = .ref c) (hmT : (P, X.env.qual ++ "<lambda>") ∈ T) (hu : ∀ p ∈ T, p.1 = P → p.2 = X.env.qual ++ "<lambda>") (hr : Room (k + 3) X.A) (L : LamS X.env.scope scope) (hdef : defaultsOf params X.env = ([], []))
    (hbind : ∀ (q : Str) (cl : List (Str × Addr)) (pm cv ctv : Value), bindArgs (PySem.W.kla_fn "<lambda>" q params body scope cl pm cv ctv) ⟨[], []⟩ = pure [])
    (hNy : X.N[iy]? = some y) (hvy : Vis X.env.scope y)
    (hbody : ∀ (A : Around) (outer : List Env) (s : Shared) (H : Hp) (E : XK) (f c' : Addr), Room k (A.deeper (lamEnv X scope s.heap.objs.size f c')) → PE (lamCx X A outer s H E scope f c') body (t E))
    (hdb : (x == ("__debug__" : Str)) = false := by decide) (hd : (a == ("__debug__" : Str)) = false := by decide) (hcd : (a == ("__classdict__" : Str)) = false := by decide) (hdy : (y == ("__debug__" : Str)) = false := by decide) (hcdy : (y == ("__classdict__" : Str)) = false := by decide) :
    PE X (.Call (.Name x p) [.Lambda params body scope lpos, .Name y py] [] pos) (tLam2 T TT iy t) := by
  refine ⟨fun pins s σ H Q I h => ?_⟩
  obtain ⟨hT, v, hv, h⟩ := h
  obtain ⟨oc, od, dV, kV, doc, pm, an, cdv, ct, osl, rfl, lk, hcg, _, _⟩ := F.ex
  refine wpAny_Call_Name_kw (ld_glob I hg hm ?_ hdb)
  refine PySem.W.callWith_K (h₀ := X.base) I.ok.mod.kin F.kp ?_ (by rfl) (by rfl)
  show wpAny _ _ (spliced ((false, eval (.Lambda params body scope lpos) X.env) :: backTo pos (starEach [.Name y py] X.env))) _ _ s
  refine Calls.spliced_cons (lam_make2 I TB hcode hmT hu hT hdef (L.has I.ok) fun f c' pm' ctv H1 s' I1 eN T1 hf hfn hfr hco => ?_)
  show wpAny _ _ (spliced ((false, eval (.Name y py) X.env) :: [])) _ _ s'
  refine Calls.spliced_cons (ld_var I1 hNy hvy hv (fun u ru => ?_) hdy hcdy)
  refine Calls.spliced_nil ⟨I1.kIn, ?_⟩
  have rc : codeAny (model X.prog X.w) X.A (.call (.ref g) ⟨[.ref f, u], []⟩) (CR C8.CX0 X.stack X.prog X.w H1 s' Q C8.E0) s' := by
    refine run_ofS (k := k + 2) (N := Ng) (ps := [a, a2]) (us := [.ref f, u]) (vs := [.ref f, v]) lk hcg Sg hr I1.env0 (hb s' [.ref f, u] I1.kIn rfl) (.cons rfl (.cons ru .nil)) rfl fun hr' => ?_
    obtain ⟨t', ht', hq'⟩ := hG cdv f c' s' H1 v Q (fun E H' Q' => t E σ H' Q') (hr'.mono (by omega)) (fun W pn xe E p1 p2 tk hW => pe_actS (k := k) (i := 0) I1 L hf hfn hfr (hbind _ _ _ _ _) tk hW (hr'.mono (by omega)) (fun A outer s H E hr2 => hbody A outer s H E f c' hr2) hNg hva hd hcd) hco (h H1 eN T1)
    exact ⟨t', ht'.nox, hq'⟩
  refine wpAny_call (codeAny_mono rc fun r s2 hq => ?_)
  cases r with
  | error e => exact (show False from hq).elim
  | ok fl =>
    cases fl with
    | ret u => exact I1.after hq
    | next => exact False.elim hq
    | brk => exact False.elim hq
    | cont => exact False.elim hq
end
/-! ### isinstance of a caught error that has fields -/
def rIsX (K : PySem.W.Frag) (D a : Addr) (cls : Value) (d : Option Addr) : List V → Hp → VK → Prop := fun xs H Q => ∃ (c : V) (cv : Value) (b : Bool) (dd : Addr) (fs : List (Str × V)), xs = [.ref a, c] ∧ ClsV c cv ∧ cls = .ref D ∧ d = some dd ∧ H dd = some (.xd fs) ∧ PySem.W.kitOne K (.ref D) cv = some b ∧ Q (.bl b) H
theorem call_isX {X : Cx} {a D : Addr} {oe : Obj} {cls : Value} {d : Option Addr} {pn : List (Addr × Obj)} (C : ExcC X.K D) (hz : Zc cls d oe) (hf : ∃ vs, oe.data = .fields vs) : CallR (X.suite a ((a, oe) :: pn)) (.builtin "isinstance") (rIsX X.K D a cls d) := by
  intro pins s σ H xs us Q I r h
  obtain ⟨c, cv, b, dd, fs, rfl, hcv, rfl, rfl, hdd, e, q⟩ := h
  obtain ⟨u1, u2, rfl, r1, r2⟩ := vals2 r
  have ec := hcv.eq r2
  subst ec
  cases r1
  obtain ⟨hget, _⟩ := I.pin (a, oe) (List.mem_append.mpr (.inl List.mem_cons_self))
  obtain ⟨vs, hv⟩ := hf
  obtain ⟨mA, hns, _⟩ := (show ObjOk X.prog X.w H s.heap dd (.xd fs) from I.hok dd _ hdd)
  obtain ⟨od, ho, _⟩ := lookIn_ns hns
  have J : PySem.W.InstAt s.heap a oe D (some od) := ⟨hget, hz.1, by unfold PySem.W.notCls; rw [hv] <;> rfl, by rw [hz.2]; exact ho⟩
  have hcl : (PySem.W.clsIn X.K D).isSome = true := by
    obtain ⟨cd, hc, _⟩ := PySem.W.any_some C.hd
    rw [hc]; rfl
  exact PySem.W.kia_one (PySem.W.kitx_exc hcl C.hg C.hk C.hs C.ha C.hn C.ht C.hm) I.kIn J e (fun z => nomatch z) fun tk => ⟨.bl b, H, I.kept (t' := tk) fun _ _ z => z, rfl, q⟩
/-! ### all but tables stays -/
theorem ExtN.ofEx {H H' : Hp} (e : Ex H H') : ExtN H H' := fun b o h _ => e b o h
theorem ExtN.nn {H H' : Hp} {p : Addr} (e : ExtN H H') (h : H' p = none) (ht : ∀ ps, H p ≠ some (.tbl ps)) : H p = none := by
  cases q : H p with
  | none => rfl
  | some o =>
    have := e p o q (fun ps z => ht ps (by rw [q, z]))
    rw [h] at this; cases this
section
variable {K : PySem.W.Frag} {H H' : Hp} {a : Addr} {xs : List V}
theorem sl_en (h : SqL K H a xs) (e : ExtN H H') : SqL K H' a xs := by
  rcases h with (h | ⟨o, h⟩) | h
  · exact .inl (.inl (e _ _ h (fun ps z => by cases z)))
  · exact .inl (.inr ⟨o, e _ _ h (fun ps z => by cases z)⟩)
  · exact .inr h
theorem st_en (h : SqT K H a xs) (e : ExtN H H') : SqT K H' a xs := by
  rcases h with (h | ⟨o, h⟩) | h
  · exact .inl (.inl (e _ _ h (fun ps z => by cases z)))
  · exact .inl (.inr ⟨o, e _ _ h (fun ps z => by cases z)⟩)
  · exact .inr h
end
mutual
theorem Dp.en {K : PySem.W.Frag} {H H' : Hp} (e : ExtN H H') : ∀ {v : V} {d : PyData}, Dp K H v d → Dp K H' v d
  | _, _, .non => .non
  | _, _, .bl b => .bl b
  | _, _, .int i => .int i
  | _, _, .str x => .str x
  | _, _, .lst s h => .lst (sl_en s e) (DpAll.en e h)
  | _, _, .tup s h => .tup (st_en s e) (DpAll.en e h)
theorem DpAll.en {K : PySem.W.Frag} {H H' : Hp} (e : ExtN H H') : ∀ {vs : List V} {ds : List PyData}, DpAll K H vs ds → DpAll K H' vs ds
  | _, _, .nil => .nil
  | _, _, .cons h t => .cons (Dp.en e h) (DpAll.en e t)
end
theorem RiverAt.en {K : PySem.W.Frag} {H H' : Hp} {p : Addr} {rows : Rows} (r : RiverAt K H p rows) (e : ExtN H H') : RiverAt K H' p rows := by
  obtain ⟨⟨dx, tw, dl, dc, cs, h1, h2, h3, h4, h5⟩, g⟩ := r
  exact ⟨⟨dx, tw, dl, dc, cs, e _ _ h1 (fun ps z => by cases z), e _ _ h2 (fun ps z => by cases z), e _ _ h3 (fun ps z => by cases z), e _ _ h4 (fun ps z => by cases z), fun w hw => by obtain ⟨t, a, b⟩ := h5 w hw; exact ⟨t, a, e _ _ b (fun ps z => by cases z)⟩⟩, g⟩
theorem CrsAt.en {H H' : Hp} {d : Addr} {rows : Rows} (h : CrsAt H d rows) (e : ExtN H H') : CrsAt H' d rows := by
  obtain ⟨cs, h1, h2⟩ := h
  exact ⟨cs, e _ _ h1 (fun ps z => by cases z), fun u hu => by obtain ⟨l, a, b⟩ := h2 u hu; exact ⟨l, a, e _ _ b (fun ps z => by cases z)⟩⟩
/-- all but the bag and the tables is kept -/
structure KpN (b : Addr) (H H' : Hp) : Prop where
  ex : ExtN (del H b) (del H' b)
  bag : Bag H' b
theorem ExtN.del {H H' : Hp} (b : Addr) (e : ExtN H H') : ExtN (L2.del H b) (L2.del H' b) := fun a o h n => by
  by_cases q : a = b
  · subst q; rw [del_same] at h; cases h
  · rw [del_ne q] at h ⊢; exact e a o h n
theorem Bag.en {H H' : Hp} {b : Addr} (h : Bag H b) (e : ExtN H H') : Bag H' b := by
  obtain ⟨x, y, q, h1, h2⟩ := h
  exact ⟨x, y, e _ _ q (fun ps z => by cases z), h1, h2⟩
theorem KpN.of {b : Addr} {H H' : Hp} (k : Kp b H H') : KpN b H H' := ⟨ExtN.ofEx k.ex, k.bag⟩
theorem KpN.grow {b : Addr} {H H1 H2 : Hp} (k : KpN b H H1) (e : ExtN H1 H2) : KpN b H H2 := ⟨LamX.ExtN.trans k.ex (ExtN.del b e), k.bag.en e⟩
theorem KpN.trans {b : Addr} {H H1 H2 : Hp} (k : KpN b H H1) (k' : KpN b H1 H2) : KpN b H H2 := ⟨LamX.ExtN.trans k.ex k'.ex, k'.bag⟩
end WK
namespace WK
open PySem L2
open LamX (CodeO TabS Tabs ExtN TabB LamS lamEnv lamCx)
theorem tabs_kp {T : List (Addr × Str)} {b : Addr} {H H' : Hp} (t : Tabs T H) (hb : Bag H b) (k : Kp b H H') : Tabs T H' := by
  obtain ⟨x, y, e, _⟩ := hb
  have go : ∀ c o, H c = some o → (∀ l, o ≠ .lst l) → H' c = some o := fun c o h n => by
    have cb : c ≠ b := fun z => by subst z; rw [e] at h; cases h; exact n _ rfl
    exact hp_kp (del_some cb h) k
  intro p hp
  obtain ⟨ps, h1, h2, h3⟩ := t p hp
  refine ⟨ps, go _ _ h1 (fun l z => by cases z), h2, fun pos cv hc => ?_⟩
  obtain ⟨c, e1, e2⟩ := h3 pos cv hc
  exact ⟨c, e1, go _ _ e2 (fun l z => by unfold CodeO at z; cases z)⟩
/-- what _law_refused makes of the asking -/
def TTref (K : PySem.W.Frag) : V → (XK → Hp → VK → Prop) → Hp → VK → Prop := fun v tl H Q =>
  tl (fun cls d H' => cls = .ref (He.ga K "NoWeir") ∧ ∃ dd dv, d = some dd ∧ H' dd = some (.xd [("name", v)]) ∧ Dp K H' v dv ∧ SeqAt.shaped dv = true ∧ PyData.eqv dv dv = true ∧ Q (.bl true) H') H (fun _ H' => Q (.bl false) H')
theorem lam_use {K : PySem.W.Frag} {T : List (Addr × Str)} {σ : L2.St} {H : Hp} {p : Addr} {rows : Rows} {v : V} {d : PyData} {m : Str} {sp : Sp} {Q : VK} (h1 : σ[1]? = some (some (.ref p))) (h3 : σ[3]? = some (some v)) (R : RiverAt K H p rows) (hd : Dp K H v d) (od : OddD rows d) (hT : Tabs T H)
    (hm : ∀ tw dl dc, (rfs tw dl dc).lookup m = none) (hsp : ∀ (H1 : Hp) (Q' : VK) (E : XK), RiverAt K H1 p rows → Dp K H1 v d → XNoWeir K H1 v E → sp [.ref p, v] H1 Q' E) (k : ∀ H', ExtN H H' → Tabs T H' → Q (.bl true) H') :
    tLam2 T (TTref K) 3 (fun E => tMeth (He.ga K "River") m sp [] E (tVar 1) (tCons (tVar 3) tNil)) σ H Q := by
  refine ⟨hT, v, h3, fun H1 e1 T1 => ?_⟩
  have R1 := R.en e1
  obtain ⟨⟨dx, tw, dl, dc, cs, q1, _⟩, _⟩ := id R1
  refine ⟨.ref p, h1, p, dx, _, rfl, q1, hm _ _ _, v, h3, ?_⟩
  exact hsp H1 _ _ R1 (Dp.en e1 hd) (fun H' dd e2 hn hx => ⟨rfl, dd, d, rfl, hx, Dp.mono e2 (Dp.en e1 hd), od.sh, od.eq, k H' (LamX.ExtN.trans e1 (ExtN.ofEx e2)) (T1.ext e2)⟩)
section
variable {K : PySem.W.Frag} {p : Addr} {rows : Rows} {v : V} {d : PyData} {H1 : Hp} {Q' : VK} {E : XK}
theorem odd_in (od : OddD rows d) {w : Str} {P : Prop} (e : d = .str w) (hw : w ∈ wrs rows) : P := by
  have := od.no
  rw [e, isW_of hw] at this; cases this
theorem odd_below (od : OddD rows d) (R : RiverAt K H1 p rows) (hd : Dp K H1 v d) (x : XNoWeir K H1 v E) : sp_River_below K [.ref p, v] H1 Q' E := ⟨p, rows, v, d, rfl, R, hd, od.sh, fun w e hw => odd_in od e hw, fun _ => x⟩
theorem odd_course (od : OddD rows d) (R : RiverAt K H1 p rows) (hd : Dp K H1 v d) (x : XNoWeir K H1 v E) : sp_River_course K [.ref p, v] H1 Q' E := ⟨p, rows, v, d, rfl, R, hd, od.sh, fun w e hw => odd_in od e hw, fun _ => x⟩
theorem odd_depth (od : OddD rows d) (R : RiverAt K H1 p rows) (hd : Dp K H1 v d) (x : XNoWeir K H1 v E) : sp_River_depth K [.ref p, v] H1 Q' E := ⟨p, rows, v, d, rfl, R, hd, od.sh, fun w e hw => odd_in od e hw, fun _ => x⟩
theorem odd_upstream (od : OddD rows d) (R : RiverAt K H1 p rows) (hd : Dp K H1 v d) (x : XNoWeir K H1 v E) : sp_River_upstream K [.ref p, v] H1 Q' E := ⟨p, rows, v, d, rfl, R, hd, od.sh, fun w e hw => odd_in od e hw, fun _ => x⟩
theorem odd_above (od : OddD rows d) (ns : d ≠ .str "sea") (R : RiverAt K H1 p rows) (hd : Dp K H1 v d) (x : XNoWeir K H1 v E) : sp_River_above K [.ref p, v] H1 Q' E := ⟨p, rows, v, d, rfl, R, hd, od.sh, (fun e => by
  rcases e with e | e
  · exact absurd e ns
  · rw [od.no] at e; cases e), fun _ _ => x⟩
end
local macro_rules | `(tactic| walk_at "kb") => `(tactic| first | exact kb_str_str | exact kb_str_int | exact kb_str_bool | exact kb_str_list | exact kb_str_tuple | exact kb_str_dict | exact kb_int_str | exact kb_int_int | exact kb_int_bool | exact kb_int_list | exact kb_int_tuple | exact kb_int_dict | exact kb_bool_str | exact kb_bool_int | exact kb_bool_bool | exact kb_bool_list | exact kb_bool_tuple | exact kb_bool_dict | exact kb_list_str | exact kb_list_int | exact kb_list_bool | exact kb_list_list | exact kb_list_tuple | exact kb_list_dict | exact kb_tuple_str | exact kb_tuple_int | exact kb_tuple_bool | exact kb_tuple_list | exact kb_tuple_tuple | exact kb_tuple_dict | exact kb_dict_str | exact kb_dict_int | exact kb_dict_bool | exact kb_dict_list | exact kb_dict_tuple | exact kb_dict_dict | exact kb_NoneType_str | exact kb_NoneType_int | exact kb_NoneType_bool | exact kb_NoneType_list | exact kb_NoneType_tuple | exact kb_NoneType_dict)
local macro_rules | `(tactic| walk_at "hn") => `(tactic| first
  | assumption
  | ((with_reducible refine' Ex.nn ?hne ?hnh); (case hnh => assumption); (case hne => walk_at "ex"))
  | ((with_reducible refine' Kp.nn ?hnk ?hnb ?hnh); (case hnh => assumption); (case hnk => assumption); (case hnb => assumption))
  | ((with_reducible refine del_none ?_); walk_at "hn")
  | ((with_reducible refine' Eq.trans (upd_ne ?hnq) ?_); (case hnq => walk_at "ne"); walk_at "hn"))
local macro_rules | `(tactic| walk_at "ne") => `(tactic| first
  | assumption
  | exact Ne.symm (by assumption)
  | exact Bag.ne (by assumption) (by assumption)
  | exact Ne.symm (Bag.ne (by assumption) (by assumption))
  | exact ne_of_none (by assumption) (by assumption)
  | exact Ne.symm (ne_of_none (by assumption) (by assumption)))
local macro_rules | `(tactic| walk_at "ex") => `(tactic| first
  | assumption
  | with_reducible exact Ex.refl _
  | ((with_reducible refine' Ex.mut ?exm ?exn); (case exn => walk_at "hn"); (case exm => walk_at "ex"))
  | ((with_reducible refine' Ex.trans ?exa ?exb); (case exb => assumption); (case exa => walk_at "ex"))
  | ((with_reducible refine' Ex.trans ?exa (Ex.new ?exn)); (case exn => walk_at "hn"); (case exa => walk_at "ex")))
local macro_rules | `(tactic| walk_at "hp") => `(tactic| first
  | assumption
  | with_reducible exact upd_same
  | ((with_reducible refine' up_new ?hpn ?hpr); (case hpn => walk_at "hn"); (case hpr => walk_at "hp"))
  | ((with_reducible refine' up_ne ?hpn ?hpr); (case hpr => walk_at "hp"); (case hpn => walk_at "ne"))
  | ((with_reducible refine' hp_kp ?hph ?hpk); (case hph => assumption); (case hpk => assumption))
  | ((with_reducible refine' hp_del ?hph); (case hph => assumption))
  | ((with_reducible refine' hp_ex ?hph ?hpe); (case hph => assumption); (case hpe => walk_at "ex")))
local macro_rules | `(tactic| walk_at "sq") => `(tactic| first
  | assumption
  | ((with_reducible refine' SqL.of ?sof); (case sof => walk_at "hp"))
  | ((with_reducible refine' SqT.of ?sof); (case sof => walk_at "hp"))
  | ((with_reducible refine' sl_new ?hpn ?hpr); (case hpn => walk_at "hn"); (case hpr => walk_at "sq"))
  | ((with_reducible refine' st_new ?hpn ?hpr); (case hpn => walk_at "hn"); (case hpr => walk_at "sq"))
  | ((with_reducible refine' sl_kp ?hph ?hpk); (case hph => assumption); (case hpk => assumption))
  | ((with_reducible refine' st_kp ?hph ?hpk); (case hph => assumption); (case hpk => assumption))
  | ((with_reducible refine' sl_del ?hph); (case hph => assumption))
  | ((with_reducible refine' st_del ?hph); (case hph => assumption))
  | ((with_reducible refine' sl_ex ?hph ?hpe); (case hph => assumption); (case hpe => walk_at "ex"))
  | ((with_reducible refine' st_ex ?hph ?hpe); (case hph => assumption); (case hpe => walk_at "ex")))
local macro_rules | `(tactic| walk_at "ty") => `(tactic| first
  | exact TyX.base (.str _)
  | exact TyX.base (.int _)
  | exact TyX.base (.bl _)
  | exact TyX.base .non
  | exact ty_L (by walk_at "sq")
  | exact ty_T (by walk_at "sq"))
local macro_rules | `(tactic| walk_at "sz") => `(tactic| first | omega | exact sz_le (by omega) | exact sz_lt (by omega) | (refine sz_le ?_; simp; omega) | (refine sz_lt ?_; simp; omega) | (refine sz_le ?_; simp))
local macro_rules | `(tactic| walk_at "side") => `(tactic| first | assumption | omega | (refine ⟨?_, ?_⟩ <;> omega) | (exact .inl ⟨by omega, by omega⟩) | (exact .inr ⟨by omega, by omega⟩) | (exact ⟨by decide, by decide, by decide⟩) | rfl)
local macro_rules | `(tactic| walk_at "g1") => `(tactic| first
  | with_reducible first
    | refine g_seq ?_ | refine g_asg ?_ | refine g_name ?_ | refine g_op ?_ | refine g_c ?_ | refine g_cons ?_ | refine g_nil ?_ | refine g_cb ?_ | refine g_call ?_ | refine g_ret ?_ | refine g_drop ?_ | refine g_next ?_
    | refine g_ifS ?_ | refine g_if ?_ | refine g_test ?_ | refine g_tB ?_ | refine g_bl ?_ | refine g_and ?_ | refine g_or ?_ | refine g_not ?_ | refine g_andV ?_ | refine g_orV ?_ | refine g_notV ?_
    | refine g_un ?_ | refine g_neg ?_ | refine g_rI0 ?_ | refine g_int1 ?_ | refine g_abs ?_ | refine g_mx2 ?_ | refine g_mn2 ?_ | refine g_par ?_ | refine g_par2 ?_ | refine g_chain ?_
    | refine g_for ?_ | refine g_lc ?_ | refine g_dc ?_ | refine g_iList ?_ | refine g_iTup ?_ | refine g_iStr ?_ | refine g_iRng1 ?_ | refine g_iEnum ?_ | refine g_itS ?_ | refine g_gcons ?_ | refine g_gnil ?_
    | refine g_dget ?_ | refine g_dput ?_ | refine g_dnew ?_ | refine g_inSg ?_ | refine g_notNn ?_ | refine g_isNn ?_ | refine g_sl ?_ | refine g_nopart ?_ | refine g_part ?_ | refine g_parti ?_ | refine g_meth ?_ | refine g_make ?_ | refine g_fldE ?_ | refine g_sfld ?_
    | refine g_sub ?_ | refine g_lst ?_ | refine g_tup ?_ | refine g_bm ?_ | refine g_bm0 ?_ | refine g_tyS ?_ | refine g_yes ?_ | refine iteT ?_ | refine iteF ?_ | refine iteNT ?_ | refine iteNF ?_
  | ((with_reducible refine' g_var ?ev ?_); (case ev => rfl))
  | ((with_reducible refine' g_rI ?ec ?_); (case ec => walk_at "side"))
  | ((with_reducible refine' g_ixL ?es ?ea ?_); (case es => walk_at "sq"); (case ea => first | rfl | assumption))
  | ((with_reducible refine' g_ixT ?es ?ea ?_); (case es => walk_at "sq"); (case ea => first | rfl | assumption))
  | ((with_reducible refine' g_lenL ?es ?_); (case es => walk_at "sq"))
  | ((with_reducible refine' g_lenT ?es ?_); (case es => walk_at "sq"))
  | ((with_reducible refine' g_lenS ?es ?_); (case es => walk_at "sz"))
  | ((with_reducible refine' g_lenD ?es ?_); (case es => walk_at "hp"))
  | ((with_reducible refine' g_listL ?es ?_); (case es => walk_at "sq"))
  | ((with_reducible refine' g_listT ?es ?_); (case es => walk_at "sq"))
  | ((with_reducible refine' g_tupL ?es ?_); (case es => walk_at "sq"))
  | ((with_reducible refine' g_tyL ?es ?_); (case es => walk_at "sq"))
  | ((with_reducible refine g_eqS ?es ?_); (case es => rfl))
  | ((with_reducible refine g_neS ?es ?_); (case es => rfl))
  | ((with_reducible refine' g_inDcS ?es ?_); (case es => walk_at "hp"))
  | ((with_reducible refine' g_notInDcS ?es ?_); (case es => walk_at "hp"))
  | ((with_reducible refine' g_dgetS ?es ?ev ?_); (case es => walk_at "hp"); (case ev => first | assumption | walk_at "dv"))
  | ((with_reducible refine' g_dputS ?es ?el ?_); (case es => walk_at "hp"); (case el => walk_at "sz"))
  | ((with_reducible refine' g_fldI ?es ?ec ?en ?el ?_); (case es => walk_at "hp"); (case ec => assumption); (case en => assumption); (case el => first | assumption | walk_at "fl"))
  | ((with_reducible refine' g_methI ?es ?em ?_); (case es => walk_at "hp"); (case em => first | assumption | walk_at "fl"))
  | ((with_reducible refine' g_sfldI ?es ?ec ?en ?el ?_); (case es => walk_at "hp"); (case ec => assumption); (case en => assumption); (case el => first | assumption | walk_at "fl"))
  | ((with_reducible refine' g_isi ?et ?ek ?_); (case et => walk_at "ty"); (case ek => walk_at "kb"))
  | ((with_reducible refine g_addT ?el ?_); (case el => walk_at "sz"))
  | ((with_reducible refine' g_cat ?e1 ?e2 ?el ?_); (case e1 => walk_at "hp"); (case e2 => walk_at "hp"); (case el => walk_at "sz"))
  | ((with_reducible refine' g_slL ?es ?_); (case es => walk_at "sq"))
  | ((with_reducible refine g_slS ?el ?_); (case el => walk_at "sz"))
  | ((with_reducible refine' g_itL ?es ?_); (case es => walk_at "sq"))
  | ((with_reducible refine' g_itT ?es ?_); (case es => walk_at "sq"))
  | ((with_reducible refine' g_itE ?es ?_); (case es => walk_at "sq"))
  | ((with_reducible refine' g_itR ?es ?_); (case es => (constructor <;> omega)))
  | ((with_reducible refine' g_gtup ?es ?en ?_); (case es => walk_at "sq"); (case en => first | rfl | assumption))
  | ((with_reducible refine' g_setL ?es ?ej ?_); (case es => walk_at "hp"); (case ej => first | rfl | assumption))
  | ((with_reducible refine' g_app ?es ?el ?_); (case es => walk_at "hp"); (case el => walk_at "sz")))
local macro_rules | `(tactic| walk_at "go") => `(tactic| repeat (walk_at "g1"))
abbrev N_l_refuses_right : List Str := ["_law_bag_here", "_law_river_here", "_law_rows", "_law_odd_here"]
def t_l_refuses_right (K : PySem.W.Frag) (T : List (Addr × Str)) : TS :=
  (tSeq (tAsg (tCall (sp_l_odd K) [] E0 (tCons (tVar 0) (tCons (tVar 2) tNil))) (gName 3))
  (tSeq (tIfS (tOr (tTest (tOp (rInOwn K "River" "weirs") (tVar 3) (tVar 1))) (tNot (tB (tLam2 T (TTref K) 3 (fun E => tMeth (He.ga K "River") "below" (sp_River_below K) [] E (tVar 1) (tCons (tVar 3) tNil)))))) (tRet (tC (.bl false))) tNext)
  (tSeq (tIfS (tNot (tB (tLam2 T (TTref K) 3 (fun E => tMeth (He.ga K "River") "course" (sp_River_course K) [] E (tVar 1) (tCons (tVar 3) tNil))))) (tRet (tC (.bl false))) tNext)
  (tSeq (tIfS (tNot (tB (tLam2 T (TTref K) 3 (fun E => tMeth (He.ga K "River") "depth" (sp_River_depth K) [] E (tVar 1) (tCons (tVar 3) tNil))))) (tRet (tC (.bl false))) tNext)
  (tSeq (tIfS (tAnd (tTest (tOp (rNeU K) (tVar 3) (tC (.str "sea")))) (tNot (tB (tLam2 T (TTref K) 3 (fun E => tMeth (He.ga K "River") "above" (sp_River_above K) [] E (tVar 1) (tCons (tVar 3) tNil)))))) (tRet (tC (.bl false))) tNext)
  (tRet (tLam2 T (TTref K) 3 (fun E => tMeth (He.ga K "River") "upstream" (sp_River_upstream K) [] E (tVar 1) (tCons (tVar 3) tNil)))))))))
def sp_l_refuses_right (T : List (Addr × Str)) (K : PySem.W.Frag) : Sp := fun vs H Q _ => ∃ (b p a : Addr) (rows : Rows), vs = [.ref b, .ref p, .ref a] ∧ Bag H b ∧ RiverAt K (del H b) p rows ∧ Dp K (del H b) (.ref a) (rowsD rows) ∧ PF rows ∧ Tabs T H ∧
  ∀ H', KpN b H H' → Tabs T H' → Q (.bl true) H'
theorem len_l_refuses_right {T : List (Addr × Str)} {K : PySem.W.Frag} {vs : List V} {H : Hp} {Q : VK} {E : XK} (h : sp_l_refuses_right T K vs H Q E) : vs.length = 3 := by obtain ⟨_, _, _, _, rfl, _⟩ := h; rfl
theorem pure_l_refuses_right {K : PySem.W.Frag} {T : List (Addr × Str)} (vs : List V) (H : Hp) (Q : VK) (E : XK) (h : sp_l_refuses_right T K vs H Q E) : t_l_refuses_right K T { nx := fun _ H' => Q .non H', rt := Q } (start N_l_refuses_right vs) H := by
  obtain ⟨b, p, a, rows, rfl, hb, R, hD, pf, hT, k⟩ := h
  have g := R.good
  unfold t_l_refuses_right
  walk_at "go"
  refine ⟨b, a, rows, rfl, hb, hD, g, pf, fun v d H1 kp1 hv od => ?_⟩
  have R1' := R.mono kp1.ex
  have R1 := R1'.mono (ex_del _ _)
  have hv1 : Dp K H1 v d := Dp.mono (ex_del _ _) hv
  have T1 := tabs_kp hT hb kp1
  have kn1 : KpN b H H1 := KpN.of kp1
  obtain ⟨⟨dx, tw, dl, dc, cs, q1, q2, _⟩, _⟩ := id R1
  have s1 : (List.set (start N_l_refuses_right [V.ref b, V.ref p, V.ref a]) 3 (some v))[1]? = some (some (.ref p)) := rfl
  have s3 : (List.set (start N_l_refuses_right [V.ref b, V.ref p, V.ref a]) 3 (some v))[3]? = some (some v) := rfl
  walk_at "go"
  refine ⟨p, dx, tw, _, wrs rows, d, rfl, q1, rfs_weirs _ _ _, q2, hv1, od.sh, g.okw, ?_⟩
  rw [show ((wrs rows).any fun u => PyData.eqv (.str u) d) = false from od.no]
  walk_at "go"
  refine lam_use s1 s3 R1 hv1 od T1 rfs_below (fun H1 Q' E a b c => odd_below od a b c) fun H2 e2 T2 => ?_
  walk_at "go"
  refine lam_use s1 s3 (R1.en e2) (Dp.en e2 hv1) od T2 rfs_course (fun H1 Q' E a b c => odd_course od a b c) fun H3 e3 T3 => ?_
  have e13 := LamX.ExtN.trans e2 e3
  walk_at "go"
  refine lam_use s1 s3 (R1.en e13) (Dp.en e13 hv1) od T3 rfs_depth (fun H1 Q' E a b c => odd_depth od a b c) fun H4 e4 T4 => ?_
  have e14 := LamX.ExtN.trans e13 e4
  walk_at "go"
  refine g_neD (Dp.en e14 hv1) (.str _) od.sh (shaped_str sea_ok) ?_
  walk_at "go"
  have last : ∀ H5, ExtN H1 H5 → Tabs T H5 → tRet (tLam2 T (TTref K) 3 (fun E => tMeth (He.ga K "River") "upstream" (sp_River_upstream K) [] E (tVar 1) (tCons (tVar 3) tNil))) { nx := fun _ H' => Q .non H', rt := Q } (List.set (start N_l_refuses_right [V.ref b, V.ref p, V.ref a]) 3 (some v)) H5 := fun H5 e5 T5 =>
    lam_use s1 s3 (R1.en e5) (Dp.en e5 hv1) od T5 rfs_upstream (fun H1 Q' E a b c => odd_upstream od a b c) fun H6 e6 T6 => k H6 ((kn1.grow e5).grow e6) T6
  refine iteNB (fun hs => ?_) (fun hs => ?_)
  · have ns : d ≠ .str "sea" := fun z => by rw [z, eqv_strs] at hs; simp at hs
    walk_at "go"
    refine lam_use s1 s3 (R1.en e14) (Dp.en e14 hv1) od T4 rfs_above (fun H1 Q' E a b c => odd_above od ns a b c) fun H5 e5 T5 => ?_
    walk_at "go"
    exact last H5 (LamX.ExtN.trans e14 e5) T5
  · walk_at "go"
    exact last H4 e14 T4
end WK
namespace WK
open PySem L2
open LamX (CodeO TabS Tabs ExtN TabB LamS lamEnv lamCx)
/-- the one def that makes lambdas, its table -/
abbrev lamName : Str := ("_law_refuses_right" : Str) ++ ".<locals>." ++ "<lambda>"
def TK (K : PySem.W.Frag) : List (Addr × Str) := [((He.cT K ("_law_refuses_right", Option.none)).2, lamName)]
abbrev spK_l_refuses_right (K : PySem.W.Frag) : Sp := sp_l_refuses_right (TK K) K
/-! ### dicts out of pairs -/
theorem valV_notin {kvs : List (Key × V)} {k : Key} (h : k ∉ kvs.map (·.1)) : valV kvs k = Option.none := by
  unfold valV
  rw [List.find?_eq_none.mpr]
  · rfl
  · intro p hp e
    have : p.1 = k := by simpa using e
    exact h (List.mem_map.mpr ⟨p, hp, this⟩)
theorem merge_nodup : ∀ (kvs pre : List (Key × V)), ((pre ++ kvs).map (·.1)).Nodup → kvs.foldl (fun acc kv => putK acc kv.1 kv.2) pre = pre ++ kvs
  | [], pre, _ => by simp
  | kv :: kvs, pre, h => by
    have hn : kv.1 ∉ pre.map (·.1) := fun hm => by
      rw [List.map_append, List.nodup_append] at h
      exact h.2.2 _ hm _ (by simp) rfl
    rw [List.foldl_cons, putK_new _ (valV_notin hn), merge_nodup kvs (pre ++ [(kv.1, kv.2)]) (by simpa using h)]
    simp
abbrev Cz := List (Addr × (Str × Addr))
def czK (tz : Cz) : List (Key × V) := tz.map fun z => ((Sum.inr z.2.1 : Key), V.ref z.2.2)
theorem cz_paired {K : PySem.W.Frag} {G : Hp} : ∀ {tz : Cz}, (∀ z ∈ tz, G z.1 = some (.tup [.str z.2.1, .ref z.2.2])) → Paired (fun p kv => SqT K G p [kV kv.1, kv.2]) (tz.map (·.1)) (czK tz)
  | [], _ => .nil
  | z :: tz, h => .cons (SqT.of (h z (by simp))) (cz_paired fun y hy => h y (by simp [hy]))
theorem cz_merge {tz : Cz} (nd : (tz.map (·.2.1)).Nodup) : mergeK [] (czK tz) = czK tz := by
  have := merge_nodup (czK tz) [] (by
    have e : ([] ++ czK tz).map (fun kv : Key × V => kv.1) = (tz.map (·.2.1)).map (Sum.inr : Str → Key) := by simp [czK]
    rw [e]
    exact List.Pairwise.map _ (fun a b hab e => hab (Sum.inr.inj e)) nd)
  simpa [mergeK] using this
theorem cz_val {tz : Cz} {u : Str} (h : u ∈ tz.map (·.2.1)) : ∃ z ∈ tz, z.2.1 = u ∧ valV (czK tz) (Sum.inr u : Key) = some (.ref z.2.2) := by
  unfold valV
  cases hf : (czK tz).find? (fun kv => decide (kv.1 = (Sum.inr u : Key))) with
  | none =>
    obtain ⟨z, hz, e⟩ := List.mem_map.mp h
    have := List.find?_eq_none.mp hf ((Sum.inr z.2.1 : Key), V.ref z.2.2) (List.mem_map.mpr ⟨z, hz, rfl⟩)
    rw [e] at this
    simp at this
  | some kv =>
    obtain ⟨z, hz, rfl⟩ := List.mem_map.mp (List.mem_of_find?_eq_some hf)
    have := List.find?_some hf
    have e : (Sum.inr z.2.1 : Key) = Sum.inr u := by simpa using this
    exact ⟨z, hz, Sum.inr.inj e, rfl⟩
/-! ### without a list -/
theorem RiverAt.del {K : PySem.W.Frag} {H : Hp} {p l : Addr} {rows : Rows} {xs : List V} (r : RiverAt K H p rows) (h : H l = some (.lst xs)) : RiverAt K (L2.del H l) p rows := by
  have go : ∀ c o, H c = some o → (∀ xs, o ≠ .lst xs) → L2.del H l c = some o := fun c o e n => by
    rw [del_ne (fun z => by subst z; rw [h] at e; cases e; exact n _ rfl)]; exact e
  obtain ⟨⟨dx, tw, dl, dc, cs, h1, h2, h3, h4, h5⟩, g⟩ := r
  exact ⟨⟨dx, tw, dl, dc, cs, go _ _ h1 (fun ps z => by cases z), go _ _ h2 (fun ps z => by cases z), go _ _ h3 (fun ps z => by cases z), go _ _ h4 (fun ps z => by cases z), fun w hw => by obtain ⟨t, a, b⟩ := h5 w hw; exact ⟨t, a, go _ _ b (fun ps z => by cases z)⟩⟩, g⟩
theorem ex_del2 {H H' : Hp} {b l : Addr} (e : Ex H H') (hl : H l = none) : Ex (del H b) (del (del H' b) l) := fun a o h => by
  have ab : a ≠ b := fun z => by subst z; rw [del_same] at h; cases h
  rw [del_ne ab] at h
  have al : a ≠ l := fun z => by subst z; rw [hl] at h; cases h
  rw [del_ne al, del_ne ab]; exact e _ _ h
/-- what the law knows while it asks -/
structure Fx (K : PySem.W.Frag) (T : List (Addr × Str)) (G0 : Hp) (b p a d : Addr) (rows : Rows) (H : Hp) : Prop where
  bag : Bag H b
  riv : RiverAt K (del H b) p rows
  rws : Dp K (del H b) (.ref a) (rowsD rows)
  crs : CrsAt (del H b) d rows
  tab : Tabs T H
  old : ExtN G0 (del H b)
section
variable {K : PySem.W.Frag} {T : List (Addr × Str)} {G0 : Hp} {b p a d : Addr} {rows : Rows} {H H' : Hp}
theorem Fx.kn (f : Fx K T G0 b p a d rows H) (k : KpN b H H') (t : Tabs T H') : Fx K T G0 b p a d rows H' := ⟨k.bag, f.riv.en k.ex, Dp.en k.ex f.rws, f.crs.en k.ex, t, LamX.ExtN.trans f.old k.ex⟩
theorem Fx.kp (f : Fx K T G0 b p a d rows H) (k : Kp b H H') : Fx K T G0 b p a d rows H' := f.kn (KpN.of k) (tabs_kp f.tab f.bag k)
theorem Fx.ex (f : Fx K T G0 b p a d rows H) (e : Ex H H') : Fx K T G0 b p a d rows H' := f.kn (KpN.of (Kp.of_ex f.bag e)) (f.tab.ext e)
theorem Fx.riv' (f : Fx K T G0 b p a d rows H) : RiverAt K H p rows := f.riv.mono (ex_del _ _)
theorem Fx.rws' (f : Fx K T G0 b p a d rows H) : Dp K H (.ref a) (rowsD rows) := Dp.mono (ex_del _ _) f.rws
theorem Fx.crs' (f : Fx K T G0 b p a d rows H) : CrsAt H d rows := f.crs.mono (ex_del _ _)
end
local macro_rules | `(tactic| walk_at "kb") => `(tactic| first | exact kb_str_str | exact kb_str_int | exact kb_str_bool | exact kb_str_list | exact kb_str_tuple | exact kb_str_dict | exact kb_int_str | exact kb_int_int | exact kb_int_bool | exact kb_int_list | exact kb_int_tuple | exact kb_int_dict | exact kb_bool_str | exact kb_bool_int | exact kb_bool_bool | exact kb_bool_list | exact kb_bool_tuple | exact kb_bool_dict | exact kb_list_str | exact kb_list_int | exact kb_list_bool | exact kb_list_list | exact kb_list_tuple | exact kb_list_dict | exact kb_tuple_str | exact kb_tuple_int | exact kb_tuple_bool | exact kb_tuple_list | exact kb_tuple_tuple | exact kb_tuple_dict | exact kb_dict_str | exact kb_dict_int | exact kb_dict_bool | exact kb_dict_list | exact kb_dict_tuple | exact kb_dict_dict | exact kb_NoneType_str | exact kb_NoneType_int | exact kb_NoneType_bool | exact kb_NoneType_list | exact kb_NoneType_tuple | exact kb_NoneType_dict)
local macro_rules | `(tactic| walk_at "hn") => `(tactic| first
  | assumption
  | ((with_reducible refine' Ex.nn ?hne ?hnh); (case hnh => assumption); (case hne => walk_at "ex"))
  | ((with_reducible refine' Kp.nn ?hnk ?hnb ?hnh); (case hnh => assumption); (case hnk => assumption); (case hnb => assumption))
  | ((with_reducible refine del_none ?_); walk_at "hn")
  | ((with_reducible refine' Eq.trans (upd_ne ?hnq) ?_); (case hnq => walk_at "ne"); walk_at "hn"))
local macro_rules | `(tactic| walk_at "ne") => `(tactic| first
  | assumption
  | exact Ne.symm (by assumption)
  | exact Bag.ne (by assumption) (by assumption)
  | exact Ne.symm (Bag.ne (by assumption) (by assumption))
  | exact ne_of_none (by assumption) (by assumption)
  | exact Ne.symm (ne_of_none (by assumption) (by assumption)))
local macro_rules | `(tactic| walk_at "ex") => `(tactic| first
  | assumption
  | with_reducible exact Ex.refl _
  | ((with_reducible refine' Ex.mut ?exm ?exn); (case exn => walk_at "hn"); (case exm => walk_at "ex"))
  | ((with_reducible refine' Ex.trans ?exa ?exb); (case exb => assumption); (case exa => walk_at "ex"))
  | ((with_reducible refine' Ex.trans ?exa (Ex.new ?exn)); (case exn => walk_at "hn"); (case exa => walk_at "ex")))
local macro_rules | `(tactic| walk_at "hp") => `(tactic| first
  | assumption
  | with_reducible exact upd_same
  | ((with_reducible refine' up_new ?hpn ?hpr); (case hpn => walk_at "hn"); (case hpr => walk_at "hp"))
  | ((with_reducible refine' up_ne ?hpn ?hpr); (case hpr => walk_at "hp"); (case hpn => walk_at "ne"))
  | ((with_reducible refine' hp_kp ?hph ?hpk); (case hph => assumption); (case hpk => assumption))
  | ((with_reducible refine' hp_del ?hph); (case hph => assumption))
  | ((with_reducible refine' hp_ex ?hph ?hpe); (case hph => assumption); (case hpe => walk_at "ex")))
local macro_rules | `(tactic| walk_at "sq") => `(tactic| first
  | assumption
  | ((with_reducible refine' SqL.of ?sof); (case sof => walk_at "hp"))
  | ((with_reducible refine' SqT.of ?sof); (case sof => walk_at "hp"))
  | ((with_reducible refine' sl_new ?hpn ?hpr); (case hpn => walk_at "hn"); (case hpr => walk_at "sq"))
  | ((with_reducible refine' st_new ?hpn ?hpr); (case hpn => walk_at "hn"); (case hpr => walk_at "sq"))
  | ((with_reducible refine' sl_kp ?hph ?hpk); (case hph => assumption); (case hpk => assumption))
  | ((with_reducible refine' st_kp ?hph ?hpk); (case hph => assumption); (case hpk => assumption))
  | ((with_reducible refine' sl_del ?hph); (case hph => assumption))
  | ((with_reducible refine' st_del ?hph); (case hph => assumption))
  | ((with_reducible refine' sl_ex ?hph ?hpe); (case hph => assumption); (case hpe => walk_at "ex"))
  | ((with_reducible refine' st_ex ?hph ?hpe); (case hph => assumption); (case hpe => walk_at "ex")))
local macro_rules | `(tactic| walk_at "ty") => `(tactic| first
  | exact TyX.base (.str _)
  | exact TyX.base (.int _)
  | exact TyX.base (.bl _)
  | exact TyX.base .non
  | exact ty_L (by walk_at "sq")
  | exact ty_T (by walk_at "sq"))
local macro_rules | `(tactic| walk_at "sz") => `(tactic| first | omega | exact sz_le (by omega) | exact sz_lt (by omega) | (refine sz_le ?_; simp; omega) | (refine sz_lt ?_; simp; omega) | (refine sz_le ?_; simp))
local macro_rules | `(tactic| walk_at "side") => `(tactic| first | assumption | omega | (refine ⟨?_, ?_⟩ <;> omega) | (exact .inl ⟨by omega, by omega⟩) | (exact .inr ⟨by omega, by omega⟩) | (exact ⟨by decide, by decide, by decide⟩) | rfl)
local macro_rules | `(tactic| walk_at "g1") => `(tactic| first
  | with_reducible first
    | refine g_seq ?_ | refine g_asg ?_ | refine g_name ?_ | refine g_op ?_ | refine g_c ?_ | refine g_cons ?_ | refine g_nil ?_ | refine g_cb ?_ | refine g_call ?_ | refine g_ret ?_ | refine g_drop ?_ | refine g_next ?_
    | refine g_ifS ?_ | refine g_if ?_ | refine g_test ?_ | refine g_tB ?_ | refine g_bl ?_ | refine g_and ?_ | refine g_or ?_ | refine g_not ?_ | refine g_andV ?_ | refine g_orV ?_ | refine g_notV ?_
    | refine g_un ?_ | refine g_neg ?_ | refine g_rI0 ?_ | refine g_int1 ?_ | refine g_abs ?_ | refine g_mx2 ?_ | refine g_mn2 ?_ | refine g_par ?_ | refine g_par2 ?_ | refine g_chain ?_
    | refine g_for ?_ | refine g_lc ?_ | refine g_dc ?_ | refine g_iList ?_ | refine g_iTup ?_ | refine g_iStr ?_ | refine g_iRng1 ?_ | refine g_iEnum ?_ | refine g_itS ?_ | refine g_gcons ?_ | refine g_gnil ?_
    | refine g_dget ?_ | refine g_dput ?_ | refine g_dnew ?_ | refine g_inSg ?_ | refine g_notNn ?_ | refine g_isNn ?_ | refine g_sl ?_ | refine g_nopart ?_ | refine g_part ?_ | refine g_parti ?_ | refine g_meth ?_ | refine g_make ?_ | refine g_fldE ?_ | refine g_sfld ?_
    | refine g_sub ?_ | refine g_lst ?_ | refine g_tup ?_ | refine g_bm ?_ | refine g_bm0 ?_ | refine g_tyS ?_ | refine g_yes ?_ | refine iteT ?_ | refine iteF ?_ | refine iteNT ?_ | refine iteNF ?_
  | ((with_reducible refine' g_var ?ev ?_); (case ev => rfl))
  | ((with_reducible refine' g_rI ?ec ?_); (case ec => walk_at "side"))
  | ((with_reducible refine' g_ixL ?es ?ea ?_); (case es => walk_at "sq"); (case ea => first | rfl | assumption))
  | ((with_reducible refine' g_ixT ?es ?ea ?_); (case es => walk_at "sq"); (case ea => first | rfl | assumption))
  | ((with_reducible refine' g_lenL ?es ?_); (case es => walk_at "sq"))
  | ((with_reducible refine' g_lenT ?es ?_); (case es => walk_at "sq"))
  | ((with_reducible refine' g_lenS ?es ?_); (case es => walk_at "sz"))
  | ((with_reducible refine' g_lenD ?es ?_); (case es => walk_at "hp"))
  | ((with_reducible refine' g_listL ?es ?_); (case es => walk_at "sq"))
  | ((with_reducible refine' g_listT ?es ?_); (case es => walk_at "sq"))
  | ((with_reducible refine' g_tupL ?es ?_); (case es => walk_at "sq"))
  | ((with_reducible refine' g_tyL ?es ?_); (case es => walk_at "sq"))
  | ((with_reducible refine g_eqS ?es ?_); (case es => rfl))
  | ((with_reducible refine g_neS ?es ?_); (case es => rfl))
  | ((with_reducible refine' g_inDcS ?es ?_); (case es => walk_at "hp"))
  | ((with_reducible refine' g_notInDcS ?es ?_); (case es => walk_at "hp"))
  | ((with_reducible refine' g_dgetS ?es ?ev ?_); (case es => walk_at "hp"); (case ev => first | assumption | walk_at "dv"))
  | ((with_reducible refine' g_dputS ?es ?el ?_); (case es => walk_at "hp"); (case el => walk_at "sz"))
  | ((with_reducible refine' g_fldI ?es ?ec ?en ?el ?_); (case es => walk_at "hp"); (case ec => assumption); (case en => assumption); (case el => first | assumption | walk_at "fl"))
  | ((with_reducible refine' g_methI ?es ?em ?_); (case es => walk_at "hp"); (case em => first | assumption | walk_at "fl"))
  | ((with_reducible refine' g_sfldI ?es ?ec ?en ?el ?_); (case es => walk_at "hp"); (case ec => assumption); (case en => assumption); (case el => first | assumption | walk_at "fl"))
  | ((with_reducible refine' g_isi ?et ?ek ?_); (case et => walk_at "ty"); (case ek => walk_at "kb"))
  | ((with_reducible refine g_addT ?el ?_); (case el => walk_at "sz"))
  | ((with_reducible refine' g_cat ?e1 ?e2 ?el ?_); (case e1 => walk_at "hp"); (case e2 => walk_at "hp"); (case el => walk_at "sz"))
  | ((with_reducible refine' g_slL ?es ?_); (case es => walk_at "sq"))
  | ((with_reducible refine g_slS ?el ?_); (case el => walk_at "sz"))
  | ((with_reducible refine' g_itL ?es ?_); (case es => walk_at "sq"))
  | ((with_reducible refine' g_itT ?es ?_); (case es => walk_at "sq"))
  | ((with_reducible refine' g_itE ?es ?_); (case es => walk_at "sq"))
  | ((with_reducible refine' g_itR ?es ?_); (case es => (constructor <;> omega)))
  | ((with_reducible refine' g_gtup ?es ?en ?_); (case es => walk_at "sq"); (case en => first | rfl | assumption))
  | ((with_reducible refine' g_setL ?es ?ej ?_); (case es => walk_at "hp"); (case ej => first | rfl | assumption))
  | ((with_reducible refine' g_app ?es ?el ?_); (case es => walk_at "hp"); (case el => walk_at "sz")))
local macro_rules | `(tactic| walk_at "go") => `(tactic| repeat (walk_at "g1"))
local macro_rules | `(tactic| walk_at "fl") => `(tactic| first | exact rfs_above _ _ _ | (simp only [List.length]; decide))
abbrev N_law : List Str := ["_law_script", "_law_at", "_law_bag_here", "_law_rows", "_law_handed", "_law_courses", "_law_river_here", "_law_turn", "_law_weir", "_law_below"]
abbrev tLawTurn (K : PySem.W.Frag) : TS := (tSeq (tIfS (tOr (tNot (tB (tCall (sp_l_told_right K) [] E0 (tCons (tVar 6) (tCons (tVar 3) tNil))))) (tNot (tB (tCall (spK_l_refuses_right K) [] E0 (tCons (tVar 2) (tCons (tVar 6) (tCons (tVar 3) tNil))))))) (tRet (tC (.bl false))) tNext)
  (tSeq (tIfS (tNot (tB (tCB (rAll K) (tCons (tLc (iList K (tVar 3)) (gTup K 2 (gCons (gName 8) (gCons (gName 9) gNil))) tYes (tCall (sp_l_weir_right K) [] E0 (tCons (tVar 6) (tCons (tVar 3) (tCons (tVar 5) (tCons (tVar 8) tNil))))) [8, 9]) tNil)))) (tRet (tC (.bl false))) tNext)
  (tIfS (tTest (tOp (rNeU K) (tMeth (He.ga K "River") "above" (sp_River_above K) [] E0 (tVar 6) (tCons (tC (.str "sea")) tNil)) (tCB (rTupOf K) (tCons (tLc (iList K (tVar 3)) (gTup K 2 (gCons (gName 8) (gCons (gName 9) gNil))) (tTest (tOp (rEqU K) (tVar 9) (tC (.str "sea")))) (tVar 8) [8, 9]) tNil)))) (tRet (tC (.bl false))) tNext)))
abbrev tLawEnd (K : PySem.W.Frag) : TS := (tIfS (tNot (tB (tCall (sp_l_equal_right K) [] E0 (tCons (tVar 2) (tCons (tVar 6) (tCons (tVar 3) tNil)))))) (tRet (tC (.bl false))) tNext)
abbrev tLawAsk (K : PySem.W.Frag) : TS := (tSeq (tFor (iRng1 (tCons (tC (.int 2)) tNil)) (gName 7) (tLawTurn K)) (tLawEnd K))
abbrev tLawMake (K : PySem.W.Frag) : TS := (tSeq (tAsg (tTup (tCons (tCB (rListOf K) (tCons (tVar 3) tNil)) (tCons (tCB (rDictP K) (tCons (tLc (iList K (tVar 3)) (gTup K 2 (gCons (gName 8) (gCons (gName 9) gNil))) tYes (tTup (tCons (tVar 8) (tCons (tCall (sp_l_course K) [] E0 (tCons (tVar 3) (tCons (tVar 8) tNil))) tNil))) [8, 9]) tNil)) tNil))) (gTup K 2 (gCons (gName 4) (gCons (gName 5) gNil))))
  (tSeq (tAsg (tMake (He.ga K "River") (sp_River__init_ K) [] E0 (tCons (tVar 4) tNil)) (gName 6))
  (tSeq (tIfS (tTest (tOp (rNeU K) (tVar 4) (tVar 3))) (tRet (tC (.bl false))) tNext)
  (tSeq (tAsg (tC .non) (gSub (tVar 4) (tCall (sp_l_take K) [] E0 (tCons (tVar 2) (tCons (tCB (rLenU K) (tCons (tVar 3) tNil)) tNil))) rSetL))
  (tSeq (tDrop (tBM K "list" rAppend (tVar 4) (tCons (tTup (tCons (tC (.str "odd")) (tCons (tC (.str "sea")) tNil))) tNil)))
  (tLawAsk K))))))
def t_law (K : PySem.W.Frag) : TS :=
  (tSeq (tFor (iRng1 (tCons (tCB rMx2 (tCons (tC (.int 1)) (tCons (tCB rMn2 (tCons (tC (.int 3)) (tCons (tCB (rLenU K) (tCons (tVar 0) tNil)) tNil))) tNil))) tNil)) (gName 1) (tSeq (tAsg (tCall (sp_l_bag K) [] E0 (tCons (tVar 0) (tCons (tVar 1) (tCons (tC (.int 4814001)) tNil)))) (gName 2))
  (tSeq (tAsg (tCall (sp_l_river K) [] E0 (tCons (tVar 2) (tCons (tOp rAddI (tC (.int 1)) (tCall (sp_l_take K) [] E0 (tCons (tVar 2) (tCons (tIf (tTest (tOp (rEqU K) (tCall (sp_l_take K) [] E0 (tCons (tVar 2) (tCons (tC (.int 8)) tNil))) (tC (.int 7)))) (tC (.int 40)) (tC (.int 6))) tNil)))) tNil))) (gName 3))
  (tLawMake K))))
  (tRet (tC (.bl true))))
def sp_law (K : PySem.W.Frag) : Sp := fun vs H Q _ => ∃ (sc : Addr) (xs : List Int), vs = [.ref sc] ∧ SqL K H sc (xs.map V.int) ∧ xs.length ≤ 100000 ∧ Tabs (TK K) H ∧ ∀ H', Q (.bl true) H'
theorem len_law {K : PySem.W.Frag} {vs : List V} {H : Hp} {Q : VK} {E : XK} (h : sp_law K vs H Q E) : vs.length = 1 := by obtain ⟨_, _, rfl, _⟩ := h; rfl
/-- one asking turn -/
theorem law_turn {K : PySem.W.Frag} {G0 : Hp} {b p a d l sc : Addr} {rows : Rows} {H : Hp} {at_ u7 u8 u9 : Option V} {D : Ends} (pf : PF rows) (f : Fx K (TK K) G0 b p a d rows H)
    (k : ∀ H', Fx K (TK K) G0 b p a d rows H' → D.nx [some (.ref sc), at_, some (.ref b), some (.ref a), some (.ref l), some (.ref d), some (.ref p), u7, u8, u9] H') :
    tLawTurn K D [some (.ref sc), at_, some (.ref b), some (.ref a), some (.ref l), some (.ref d), some (.ref p), u7, u8, u9] H := by
  have g := f.riv.good
  have h40 := g.le
  walk_at "go"
  refine ⟨p, a, rows, rfl, f.riv', f.rws', fun H1 e1 => ?_⟩
  have f1 := f.ex e1
  walk_at "go"
  refine ⟨b, p, a, rows, rfl, f1.bag, f1.riv, f1.rws, pf, f1.tab, fun H2 k2 t2 => ?_⟩
  have f2 := f1.kn k2 t2
  have D2 := f2.rws'
  obtain ⟨rs, hs, hlr, _⟩ := rows_at D2
  walk_at "go"
  refine lc_rows D2 (by omega) (fun _ _ => rfl) (fun r => some (.bl true)) (fun r hr H3 e3 R hR => ?_) (fun C H3 hC e3 hA => ?_)
  · walk_at "go"
    refine ⟨p, a, d, r.1, rows, rfl, f2.riv'.mono e3, Dp.mono e3 D2, f2.crs'.mono e3, List.mem_map.mpr ⟨r, hr, rfl⟩, fun H4 e4 => ?_⟩
    exact hR _ e4
  · have eb : rows.filterMap (fun r : Str × Str => some (V.bl true)) = (rows.map fun _ => true).map V.bl := by simp
    rw [eb] at hA
    have f3 := f2.ex e3
    walk_at "go"
    refine g_all (SqL.of hA) ?_
    rw [show (rows.map fun _ => true).all id = true by simp]
    obtain ⟨⟨dx, tw, dl, dc, cs, q1, _⟩, _⟩ := f3.riv'
    walk_at "go"
    refine use_above f3.riv' (.inl rfl) fun t H4 ht e4 hT4 => ?_
    have f4 := f3.ex e4
    have D4 := f4.rws'
    obtain ⟨rs4, hs4, _, _⟩ := rows_at D4
    walk_at "go"
    refine lc_rows D4 (by omega) (fun _ _ => rfl) (fun r => if decide (r.2 = "sea") = true then some (.str r.1) else Option.none) (fun r hr H7 e7 R hR => ?_) (fun C H7 hC e7 hB => ?_)
    · walk_at "go"
      refine iteD (fun h => ?_) (fun h => ?_)
      · have h' : r.2 = "sea" := by injection h
        rw [if_pos (decide_eq_true h')] at hR
        walk_at "go"
        exact hR _ (Ex.refl _)
      · have h' : ¬ r.2 = "sea" := fun e => h (by rw [e])
        rw [if_neg (by simpa using h')] at hR
        exact hR _ (Ex.refl _)
    · rw [fm_fstF (fun r => decide (r.2 = "sea")), above_rows g] at hB
      have f7 := f4.ex e7
      walk_at "go"
      intro t4 ht4
      have okA : ∀ u ∈ aboveL rows (.str "sea"), PyData.strOk u = true := fun u hu => g.okw u (List.mem_filter.mp hu).1
      refine g_neD (dp_strsT (SqT.of (up_new ht4 (e7 _ _ hT4)))) (dp_strsT (SqT.of upd_same)) (shaped_strsT okA) (shaped_strsT okA) ?_
      rw [eqv_strsT, decide_eq_true rfl]
      walk_at "go"
      exact k _ (f7.ex (Ex.new ht4))
theorem law_ask {K : PySem.W.Frag} {G0 : Hp} {b p a d l sc : Addr} {rows : Rows} {H : Hp} {at_ u7 u8 u9 : Option V} {D : Ends} (pf : PF rows) (f : Fx K (TK K) G0 b p a d rows H)
    (k : ∀ u7 H', Fx K (TK K) G0 b p a d rows H' → D.nx [some (.ref sc), at_, some (.ref b), some (.ref a), some (.ref l), some (.ref d), some (.ref p), u7, u8, u9] H') :
    ForP (Itr 0 (Int.toNat 2)) (gName 7) (tLawTurn K) { nx := tLawEnd K D, rt := D.rt, bk := D.bk, ct := D.ct } [some (.ref sc), at_, some (.ref b), some (.ref a), some (.ref l), some (.ref d), some (.ref p), u7, u8, u9] H := by
  refine for_R 2 (fun i σ' H' => ∃ u7, σ' = [some (.ref sc), at_, some (.ref b), some (.ref a), some (.ref l), some (.ref d), some (.ref p), u7, u8, u9] ∧ Fx K (TK K) G0 b p a d rows H') ⟨_, rfl, f⟩ ?_ ?_
  · rintro i _ H1 hi ⟨u, rfl, f1⟩
    walk_at "g1"
    exact law_turn pf f1 fun H2 f2 => ⟨_, rfl, f2⟩
  · rintro _ H1 ⟨u, rfl, f1⟩
    walk_at "go"
    refine ⟨b, p, a, rows, rfl, f1.bag, f1.riv, f1.rws, fun H2 k2 => ?_⟩
    walk_at "go"
    exact k _ _ (f1.kp k2)
theorem law_make {K : PySem.W.Frag} {G0 : Hp} {b a sc : Addr} {zs : Zs} {H : Hp} {at_ u4 u5 u6 u7 u8 u9 : Option V} {D : Ends} (hb : Bag H b) (ha : del H b a = some (.lst (zR zs))) (hz : ∀ z ∈ zs, del H b z.1 = some (.tup [.str z.2.1, .str z.2.2])) (g : Good (zW zs)) (pf : PF (zW zs)) (hT : Tabs (TK K) H) (old : ExtN G0 (del H b))
    (k : ∀ p d l u7 u8 u9 H', Fx K (TK K) G0 b p a d (zW zs) H' → D.nx [some (.ref sc), at_, some (.ref b), some (.ref a), some (.ref l), some (.ref d), some (.ref p), u7, u8, u9] H') :
    tLawMake K D [some (.ref sc), at_, some (.ref b), some (.ref a), u4, u5, u6, u7, u8, u9] H := by
  generalize hrows : zW zs = rows at g pf k
  have h40 := g.le
  have hzl : zs.length = rows.length := by rw [← hrows, zW_len]
  have haH : H a = some (.lst (zR zs)) := hp_del ha
  have hD0 : Dp K (del H b) (.ref a) (rowsD rows) := by rw [← hrows]; exact dp_rowsZ (SqL.of ha) fun z h => SqT.of (hz z h)
  walk_at "go"
  intro l hl
  have lb := hb.ne hl
  have e1 : Ex H (upd H l (.lst (zR zs))) := Ex.new hl
  generalize hH1 : upd H l (.lst (zR zs)) = H1 at e1
  have ql1 : H1 l = some (.lst (zR zs)) := by rw [← hH1]; exact upd_same
  have hb1 := hb.ex e1
  have D1 : Dp K H1 (.ref a) (rowsD rows) := Dp.mono e1 (Dp.mono (ex_del _ _) hD0)
  obtain ⟨rs, hs1, hlr, hat⟩ := rows_at D1
  walk_at "go"
  refine lc_L (xs := rs) (fun C i acc H' => H1 C = none ∧ Ex H1 H' ∧ ∃ tz : Cz, acc = tz.map (fun z => V.ref z.1) ∧ tz.map (·.2.1) = (wrs rows).take i ∧ ∀ z ∈ tz, H' z.1 = some (.tup [.str z.2.1, .ref z.2.2]) ∧ z.2.2 ≠ C ∧ z.2.2 ≠ b ∧ z.2.2 ≠ l ∧ H' z.2.2 = some (.lst (strsV (crs rows rows.length z.2.1)))) (fun C hC => ⟨hC, Ex.new hC, [], rfl, by simp, fun z h => by simp at h⟩) (fun C i acc H' ⟨_, e, _⟩ => sl_ex hs1 e) ?_ ?_
  · rintro C i acc H2 x hx hA hlz ⟨hC, hE, tz, rfl, htw, htz⟩
    obtain ⟨t, r, rfl, hr, ht⟩ := hat i x hx
    have hi : i < rows.length := (List.getElem?_eq_some_iff.mp hr).1
    have hrw : r.1 ∈ wrs rows := List.mem_map.mpr ⟨r, List.mem_of_getElem? hr, rfl⟩
    have ht2 := st_ex ht hE
    walk_at "go"
    refine ⟨rfl, ?_⟩
    walk_at "go"
    refine ⟨a, rows, r.1, rfl, Dp.mono hE D1, g, hrw, fun q H3 hq e3 hq3 => ?_⟩
    have qC : q ≠ C := fun z => by subst z; rw [hA] at hq; cases hq
    have qb : q ≠ b := (hb1.ex hE).ne hq
    have ql : q ≠ l := fun z => by subst z; rw [hE _ _ ql1] at hq; cases hq
    walk_at "go"
    refine ⟨sz_le (by show 2 ≤ _; omega), fun t2 ht2' => ?_⟩
    have hA3 : upd H3 t2 (.tup [.str r.1, .ref q]) C = some (.lst (tz.map fun z => V.ref z.1)) := up_new ht2' (e3 _ _ hA)
    have t2C : t2 ≠ C := fun z => by subst z; rw [e3 _ _ hA] at ht2'; cases ht2'
    refine lc_add hA3 hlz (by omega) ⟨hC, Ex.mut ((hE.trans e3).trans (Ex.new ht2')) hC, tz ++ [(t2, (r.1, q))], by simp, ?_, fun z hz' => ?_⟩
    · rw [List.map_append, htw, List.take_add_one, show (wrs rows)[i]? = some r.1 by simp [wrs, hr]]
      rfl
    · rcases List.mem_append.mp hz' with h | h
      · obtain ⟨a1, a2, a3, a4, a5⟩ := htz z h
        have zC : z.1 ≠ C := fun w => by rw [w, hA] at a1; cases a1
        exact ⟨by rw [upd_ne zC]; exact up_new ht2' (e3 _ _ a1), a2, a3, a4, by rw [upd_ne a2]; exact up_new ht2' (e3 _ _ a5)⟩
      · have : z = (t2, (r.1, q)) := by simpa using h
        subst this
        exact ⟨by rw [upd_ne t2C]; exact upd_same, qC, qb, ql, by rw [upd_ne qC]; exact up_new ht2' hq3⟩
  · rintro C acc H2 hC hA hlz ⟨_, hE, tz, rfl, htw, htz⟩
    rw [List.take_of_length_le (by simp [wrs]; omega)] at htw
    have e02 := e1.trans hE
    have ndz : (tz.map (·.2.1)).Nodup := by rw [htw]; exact g.nd
    walk_at "go"
    refine ⟨C, tz.map (·.1), czK tz, rfl, SqL.of (by rw [hA]; simp), cz_paired fun z h => (htz z h).1, ?_⟩
    rw [cz_merge ndz]
    intro d hd
    have ql2 := hE _ _ ql1
    have db : d ≠ b := (hb1.ex hE).ne hd
    have dl : d ≠ l := fun z => by subst z; rw [ql2] at hd; cases hd
    have e03 : Ex H (upd H2 d (.dK (czK tz))) := e02.trans (Ex.new hd)
    generalize hH3 : upd H2 d (.dK (czK tz)) = H3 at e03
    have qd3 : H3 d = some (.dK (czK tz)) := by rw [← hH3]; exact upd_same
    have ql3 : H3 l = some (.lst (zR zs)) := by rw [← hH3]; exact up_new hd ql2
    have htz3 : ∀ z ∈ tz, H3 z.2.2 = some (.lst (strsV (crs rows rows.length z.2.1))) := fun z h => by rw [← hH3]; exact up_new hd (htz z h).2.2.2.2
    walk_at "go"
    refine ⟨sz_le (by show 2 ≤ _; omega), fun tp htp => ?_⟩
    have e04 := e03.trans (Ex.new (o := .tup [.ref l, .ref d]) htp)
    have qtp : upd H3 tp (.tup [.ref l, .ref d]) tp = some (.tup [.ref l, .ref d]) := upd_same
    walk_at "go"
    intro p pdx hp hpd hpp
    have D4 : Dp K (upd H3 tp (.tup [.ref l, .ref d])) (.ref l) (rowsD rows) := by
      rw [← hrows]
      exact dp_rowsZ (SqL.of (up_new htp ql3)) fun z h => SqT.of (e04 _ _ (hp_del (hz z h)))
    refine use_make D4 g hp hpd hpp fun H5 e5 R5 => ?_
    have e05 := e04.trans e5
    have ql5 : H5 l = some (.lst (zR zs)) := e5 _ _ (up_new htp ql3)
    have qd5 : H5 d = some (.dK (czK tz)) := e5 _ _ (up_new htp qd3)
    have hb5 := hb.ex e05
    obtain ⟨bx, by_, qb5, _⟩ := id hb5
    -- what stays, whatever becomes of the handed list
    have g1 : RiverAt K (del (del H5 b) l) p rows := by
      have := R5.del qb5
      exact this.del (del_some lb ql5)
    have g2 : Dp K (del (del H5 b) l) (.ref a) (rowsD rows) := Dp.mono (ex_del2 e05 hl) hD0
    have g3 : CrsAt (del (del H5 b) l) d rows := by
      refine ⟨czK tz, del_some dl (del_some db qd5), fun u hu => ?_⟩
      rw [← htw] at hu
      obtain ⟨z, hz', e, hv⟩ := cz_val hu
      obtain ⟨_, _, a3, a4, _⟩ := htz z hz'
      refine ⟨z.2.2, hv, del_some a4 (del_some a3 (e5 _ _ (up_new htp ?_)))⟩
      rw [← e]; exact htz3 z hz'
    have g4 : ExtN G0 (del (del H5 b) l) := LamX.ExtN.trans old (ExtN.ofEx (ex_del2 e05 hl))
    have hs5 := SqL.of (K := K) ql5
    have hsa5 : SqL K H5 a (zR zs) := SqL.of (e05 _ _ haH)
    walk_at "go"
    refine g_neD (d := rowsD rows) (e := rowsD rows) ?_ ?_ (shaped_rows g.okr) (shaped_rows g.okr) ?_
    · exact Dp.mono e5 D4
    · exact Dp.mono e05 (Dp.mono (ex_del _ _) hD0)
    rw [eqv_rows, decide_eq_true rfl]
    have hzrl : (zR zs).length = rows.length := by rw [zR_len, hzl]
    have hpos := g.pos
    walk_at "go"
    refine ⟨b, _, rfl, hb5, by omega, by omega, fun r H6 r0 r1 kp6 => ?_⟩
    obtain ⟨j, rfl⟩ : ∃ j : Nat, r = (j : Int) := ⟨r.toNat, by omega⟩
    have ql6 : H6 l = some (.lst (zR zs)) := hp_kp (del_some lb ql5) kp6
    have hij : ixN (zR zs).length (j : Int) = some j := by unfold ixN; rw [if_pos (by omega), if_pos (by omega)]; simp
    refine g_setL ql6 hij ?_
    have hsl : ((zR zs).set j V.non).length ≤ 40 := by rw [List.length_set]; omega
    walk_at "go"
    refine ⟨sz_le (by show 2 ≤ _; omega), fun t7 ht7 => ?_⟩
    have t7l : l ≠ t7 := fun z => by subst z; rw [upd_same] at ht7; cases ht7
    have q7 : upd (upd H6 l (.lst ((zR zs).set j .non))) t7 (.tup [.str "odd", .str "sea"]) l = some (.lst ((zR zs).set j .non)) := up_new ht7 upd_same
    walk_at "go"
    generalize hH8 : upd (upd (upd H6 l (.lst ((zR zs).set j .non))) t7 (.tup [.str "odd", .str "sea"])) l (.lst ((zR zs).set j .non ++ [.ref t7])) = H8
    have at8 : ∀ c o, c ≠ l → H6 c = some o → H8 c = some o := fun c o n h => by
      rw [← hH8, upd_ne n]
      exact up_new ht7 (by rw [upd_ne n]; exact h)
    have e8 : Ex (del (del H5 b) l) (del H8 b) := fun c o h => by
      have cl : c ≠ l := fun z => by subst z; rw [del_same] at h; cases h
      rw [del_ne cl] at h
      have cb : c ≠ b := fun z => by subst z; rw [del_same] at h; cases h
      rw [del_ne cb]
      exact at8 c o cl (hp_kp h kp6)
    have b8 : Bag H8 b := by
      obtain ⟨x, y, h1, h2, h3⟩ := kp6.bag
      exact ⟨x, y, at8 _ _ (Ne.symm lb) h1, h2, h3⟩
    have t8 : Tabs (TK K) H8 := by
      have t6 : Tabs (TK K) H6 := tabs_kp (hT.ext e05) hb5 kp6
      intro P hP
      obtain ⟨ps, h1, h2, h3⟩ := t6 P hP
      refine ⟨ps, at8 _ _ (fun z => by rw [z, ql6] at h1; cases h1) h1, h2, fun pos cv hc => ?_⟩
      obtain ⟨c, e1, e2⟩ := h3 pos cv hc
      exact ⟨c, e1, at8 _ _ (fun z => by rw [z, ql6] at e2; unfold CodeO at e2; cases e2) e2⟩
    exact law_ask pf ⟨b8, g1.mono e8, Dp.mono e8 g2, g3.mono e8, t8, LamX.ExtN.trans g4 (ExtN.ofEx e8)⟩ fun u7 H9 f9 => k p d l u7 _ _ H9 f9
theorem pure_law {K : PySem.W.Frag} (vs : List V) (H : Hp) (Q : VK) (E : XK) (h : sp_law K vs H Q E) : t_law K { nx := fun _ H' => Q .non H', rt := Q } (start N_law vs) H := by
  obtain ⟨sc, xs, rfl, hs, hxl, hT, k⟩ := h
  unfold t_law
  walk_at "go"
  refine for_R _ (fun i σ' H' => ∃ u1 u2 u3 u4 u5 u6 u7 u8 u9, σ' = [some (.ref sc), u1, u2, u3, u4, u5, u6, u7, u8, u9] ∧ ExtN H H' ∧ Tabs (TK K) H') ⟨_, _, _, _, _, _, _, _, _, rfl, LamX.ExtN.refl H, hT⟩ ?_ ?_
  · rintro i _ H1 hi ⟨u1, u2, u3, u4, u5, u6, u7, u8, u9, rfl, e1, T1⟩
    have hs1 := sl_en hs e1
    walk_at "go"
    refine ⟨sc, xs, _, _, rfl, hs1, by omega, by omega, fun b H2 hb e2 b2 => ?_⟩
    have T2 := T1.ext e2
    have old2 : ExtN H1 (del H2 b) := ExtN.ofEx fun c o h => del_some (fun z => by subst z; rw [hb] at h; cases h) (e2 _ _ h)
    walk_at "go"
    refine ⟨b, _, rfl, b2, by omega, by omega, fun q H3 q0 q1 kp3 => ?_⟩
    have rest : ∀ (m : Int), 0 < m → m ≤ 40 → ∀ {Q' : VK}, (∀ (r : Nat) H4, 1 ≤ r → r ≤ 40 → Kp b H2 H4 → Q' (.int (r : Nat)) H4) → sp_l_take K ([.ref b, .int m] ++ []) H3 (fun y H5 => rAddI (.int 1) y H5 Q') E0 := by
      intro m m0 m1 Q' hQ
      refine ⟨b, m, rfl, kp3.bag, m0, by omega, fun r H4 r0 r1 kp4 => ?_⟩
      refine ⟨1, r, rfl, rfl, ?_⟩
      have := hQ (1 + r).toNat H4 (by omega) (by omega) (kp3.trans kp4)
      rw [show (((1 + r).toNat : Nat) : Int) = 1 + r by omega] at this
      exact this
    have fin : ∀ (r : Nat) (H4 : Hp), 1 ≤ r → r ≤ 40 → Kp b H2 H4 → ∀ D : Ends, D.nx = (fun σ' H' => ∃ u1 u2 u3 u4 u5 u6 u7 u8 u9, σ' = [some (.ref sc), u1, u2, u3, u4, u5, u6, u7, u8, u9] ∧ ExtN H H' ∧ Tabs (TK K) H') →
        sp_l_river K ([.ref b, .int (r : Nat)] ++ []) H4 (fun x H5 => gName 3 x [some (.ref sc), some (.int (i : Nat)), some (.ref b), u3, u4, u5, u6, u7, u8, u9] H5 (tLawMake K D)) E0 := by
      intro r H4 r0 r1 kp4 D hD
      refine ⟨b, r, rfl, kp4.bag, r0, r1, fun a H5 zs kp5 ha hra hz g pf => ?_⟩
      have kp25 := kp4.trans kp5
      have T5 := tabs_kp T2 b2 kp25
      refine g_name ?_
      refine law_make (G0 := H1) kp25.bag hra hz g pf T5 (LamX.ExtN.trans old2 (ExtN.ofEx kp25.ex)) fun p d l u7 u8 u9 H6 f6 => ?_
      rw [hD]
      exact ⟨_, _, _, _, _, _, _, _, _, rfl, LamX.ExtN.trans e1 (LamX.ExtN.trans f6.old (ExtN.ofEx (ex_del _ _))), f6.tab⟩
    walk_at "go"
    refine iteD (fun h => ?_) (fun h => ?_)
    · walk_at "go"
      exact rest 40 (by omega) (by omega) fun r H4 r0 r1 kp4 => fin r H4 r0 r1 kp4 _ rfl
    · walk_at "go"
      exact rest 6 (by omega) (by omega) fun r H4 r0 r1 kp4 => fin r H4 r0 r1 kp4 _ rfl
  · rintro _ H1 ⟨u1, u2, u3, u4, u5, u6, u7, u8, u9, rfl, e1, T1⟩
    exact k H1
end WK
namespace WK
open PySem L2
def top (i : Nat) : Stmt := PySem.Challenge.pw_weirkeepers_k00_rivers_made.main.body.getD i (.Pass ⟨0, 0, 0, 0⟩)
structure Gd (K : PySem.W.Frag) (mg : Str → Option Value) : Prop where
  cl_River : Cls K (He.ga K "River")
  g_River : mg "River" = some (.ref (He.ga K "River"))
  it_River : ItCl K (He.ga K "River") (He.ma K (He.ga K "River") "__iter__") "weirs"
  ne_River : NeCl K (He.ga K "River")
  k_LETTERS : ∃ u, mg "LETTERS" = some u ∧ RelV (.str "abcdefghijklmnopqrstuvwxyz") u
  k_MOST_WEIRS : ∃ u, mg "MOST_WEIRS" = some u ∧ RelV (.int 40) u
  river : GRiver K
  ty : GTy K (He.ga K "River")
theorem len_l_take {K : PySem.W.Frag} {vs : List V} {H : Hp} {Q : VK} {E : XK} (h : sp_l_take K vs H Q E) : vs.length = 2 := by obtain ⟨_, _, rfl, _⟩ := h; rfl
theorem len_l_of {K : PySem.W.Frag} {vs : List V} {H : Hp} {Q : VK} {E : XK} (h : sp_l_of K vs H Q E) : vs.length = 2 := by obtain ⟨_, _, _, rfl, _⟩ := h; rfl
theorem len_l_mixed {K : PySem.W.Frag} {vs : List V} {H : Hp} {Q : VK} {E : XK} (h : sp_l_mixed K vs H Q E) : vs.length = 2 := by obtain ⟨_, _, _, rfl, _⟩ := h; rfl
abbrev s_l_bag : Stmt := top 16
theorem sc_l_bag : FnScope N_l_bag ["_law_script", "_law_at", "_law_salt"] (defScope s_l_bag) := ⟨rfl, rfl, rfl, by decide +kernel, rfl, by decide +kernel, by decide +kernel⟩
theorem ok_l_bag {P : Program} {w : World} {K : PySem.W.Frag} {mg : Str → Option Value} {base : Heap} {f : Addr} {fd : FuncData} (F : FunD K "_law_bag" "_law_bag" (defArgs s_l_bag) (defBody s_l_bag) (defScope s_l_bag) [] [] f fd) (B : Bf mg) (G : Gd K mg)  :
    FnOk P w K mg base (L2.CX P w) 1 f fd ["_law_script", "_law_at", "_law_salt"] (sp_l_bag K) := by
  refine F.ok sc_l_bag (fun vs H Q E h => len_l_bag h) (fun cdv A outer s H vs Q E hr h => ⟨t_l_bag K, PSs.nox ?_, pure_l_bag vs H Q E h⟩)
  have hu := hu_of hr
  have hu65 := hu65_of hr
  exact (pss_cons (ps_set (i := 3) sc_l_bag.nd rfl (Or.inl rfl) (pe_ifExp (pt_cmpR op_lt (pv 1) (pe_callB cr_len (by rfl) B.len bt_len (pa_cons (pv 0) pa_nil)) (nomark _)) (pe_ix ix_seq (pv 0) (pv 1) (fun _ _ => rfl)) pe_int))
  (pss_cons (ps_set (i := 4) sc_l_bag.nd rfl (Or.inl rfl) (pe_op op_add (pv 2) (pe_op op_mul pe_int (pv 1))))
  (pss_cons (ps_for PassesOwn.never rfl (pi_enum rfl B.enumerate (pa_cons (pe_slice sl_list (pv 0) po_none (po_some pe_int)) pa_nil)) (pg_tup rfl (pgs_cons (pg_name (i := 5) sc_l_bag.nd rfl (Or.inl rfl)) (pgs_cons (pg_name (i := 6) sc_l_bag.nd rfl (Or.inl rfl)) pgs_nil))) (pss_one (ps_set (i := 4) sc_l_bag.nd rfl (Or.inl rfl) (pe_op op_mod (pe_callTy call_int1 (by rfl) B.int bt_int (pa_cons (pe_op op_add (pe_op op_add (pe_op op_add (pe_op op_mul (pv 4) pe_int) (pe_op op_mod (pe_callTy call_int1 (by rfl) B.int bt_int (pa_cons (pv 6) pa_nil)) pe_int)) (pe_op op_mul pe_int (pv 5))) pe_int) pa_nil)) pe_int))))
  (pss_one (ps_ret (pe_lst (pa_cons (pe_ifExp (pt_cmpR op_ge (pe_callB call_abs (by rfl) B.abs bt_abs (pa_cons (pv 3) pa_nil)) (pe_op op_pow pe_int pe_int) (nomark _)) (pe_callB call_abs (by rfl) B.abs bt_abs (pa_cons (pv 3) pa_nil)) pe_int) (pa_cons (pv 4) pa_nil))))))))
abbrev s_l_take : Stmt := top 17
theorem sc_l_take : FnScope N_l_take ["_law_bag_here", "_law_many"] (defScope s_l_take) := ⟨rfl, rfl, rfl, by decide +kernel, rfl, by decide +kernel, by decide +kernel⟩
theorem ok_l_take {P : Program} {w : World} {K : PySem.W.Frag} {mg : Str → Option Value} {base : Heap} {f : Addr} {fd : FuncData} (F : FunD K "_law_take" "_law_take" (defArgs s_l_take) (defBody s_l_take) (defScope s_l_take) [] [] f fd) (B : Bf mg) (G : Gd K mg)  :
    FnOk P w K mg base (L2.CX P w) 1 f fd ["_law_bag_here", "_law_many"] (sp_l_take K) := by
  refine F.ok sc_l_take (fun vs H Q E h => len_l_take h) (fun cdv A outer s H vs Q E hr h => ⟨t_l_take K, PSs.nox ?_, pure_l_take vs H Q E h⟩)
  have hu := hu_of hr
  have hu65 := hu65_of hr
  exact (pss_cons (ps_if (pt_cmpR op_gt (pe_ix ix_seq (pv 0) pe_int (fun _ _ => rfl)) pe_int (nomark _)) (pss_cons (ps_set (i := 2) sc_l_take.nd rfl (Or.inl rfl) (pe_op op_mod (pe_callTy call_int1 (by rfl) B.int bt_int (pa_cons (pe_ix ix_seq (pv 0) pe_int (fun _ _ => rfl)) pa_nil)) (pv 1)))
  (pss_cons (ps_asg (pe_op op_fdiv (pe_ix ix_seq (pv 0) pe_int (fun _ _ => rfl)) (pv 1)) (pg_sub (pv 0) pe_int set_list))
  (pss_one (ps_ret (pv 2))))) pss_nil)
  (pss_cons (ps_asg (pe_op op_mod (pe_callTy call_int1 (by rfl) B.int bt_int (pa_cons (pe_op op_add (pe_op op_mul (pe_ix ix_seq (pv 0) pe_int (fun _ _ => rfl)) pe_int) pe_int) pa_nil)) pe_int) (pg_sub (pv 0) pe_int set_list))
  (pss_one (ps_ret (pe_op op_mod (pe_op op_fdiv (pe_op op_mod (pe_callTy call_int1 (by rfl) B.int bt_int (pa_cons (pe_op op_mul (pe_op op_fdiv (pe_ix ix_seq (pv 0) pe_int (fun _ _ => rfl)) pe_int) pe_int) pa_nil)) pe_int) pe_int) (pv 1))))))
abbrev s_l_of : Stmt := top 18
theorem sc_l_of : FnScope N_l_of ["_law_bag_here", "_law_some"] (defScope s_l_of) := ⟨rfl, rfl, rfl, by decide +kernel, rfl, by decide +kernel, by decide +kernel⟩
theorem ok_l_of {P : Program} {w : World} {K : PySem.W.Frag} {mg : Str → Option Value} {base : Heap} {f : Addr} {fd : FuncData} (F : FunD K "_law_of" "_law_of" (defArgs s_l_of) (defBody s_l_of) (defScope s_l_of) [] [] f fd) (B : Bf mg) (G : Gd K mg) (c_l_take : Cal P w K mg base 1 "_law_take" ["_law_bag_here", "_law_many"] (sp_l_take K)) :
    FnOk P w K mg base (L2.CX P w) 2 f fd ["_law_bag_here", "_law_some"] (sp_l_of K) := by
  refine F.ok sc_l_of (fun vs H Q E h => len_l_of h) (fun cdv A outer s H vs Q E hr h => ⟨t_l_of K, PSs.nox ?_, pure_l_of vs H Q E h⟩)
  have hu := hu_of hr
  have hu65 := hu65_of hr
  exact (pss_one (ps_ret (pe_ix ix_seq (pv 1) (pe_cal c_l_take (hr.mono (by decide)) rfl passL (pa_cons (pv 0) (pa_cons (pe_callB cr_len (by rfl) B.len bt_len (pa_cons (pv 1) pa_nil)) pa_nil))) (fun _ _ => rfl))))
abbrev s_l_mixed : Stmt := top 19
theorem sc_l_mixed : FnScope N_l_mixed ["_law_bag_here", "_law_some"] (defScope s_l_mixed) := ⟨rfl, rfl, rfl, by decide +kernel, rfl, by decide +kernel, by decide +kernel⟩
theorem ok_l_mixed {P : Program} {w : World} {K : PySem.W.Frag} {mg : Str → Option Value} {base : Heap} {f : Addr} {fd : FuncData} (F : FunD K "_law_mixed" "_law_mixed" (defArgs s_l_mixed) (defBody s_l_mixed) (defScope s_l_mixed) [] [] f fd) (B : Bf mg) (G : Gd K mg) (c_l_take : Cal P w K mg base 1 "_law_take" ["_law_bag_here", "_law_many"] (sp_l_take K)) :
    FnOk P w K mg base (L2.CX P w) 2 f fd ["_law_bag_here", "_law_some"] (sp_l_mixed K) := by
  refine F.ok sc_l_mixed (fun vs H Q E h => len_l_mixed h) (fun cdv A outer s H vs Q E hr h => ⟨t_l_mixed K, PSs.nox ?_, pure_l_mixed vs H Q E h⟩)
  have hu := hu_of hr
  have hu65 := hu65_of hr
  exact (pss_cons (ps_par (i := 2) (j := 3) (by rfl) sc_l_mixed.nd rfl rfl (by decide) rfl rfl (pa_cons (pe_callTy call_list_of (by rfl) B.list bt_list (pa_cons (pv 1) pa_nil)) (pa_cons (pe_lst pa_nil) pa_nil)) (by rfl))
  (pss_cons (ps_for PassesOwn.never rfl (pi_range1 rfl B.range (pa_cons (pe_callB cr_len (by rfl) B.len bt_len (pa_cons (pv 1) pa_nil)) pa_nil)) (pg_name (i := 4) sc_l_mixed.nd rfl (Or.inl rfl)) (pss_one (ps_expr (pe_bm PySem.F.plainAttrs_list PySem.F.slot_list_append PySem.F.type_list_append mt_append (pv 3) (pa_cons (pe_bm PySem.F.plainAttrs_list PySem.F.slot_list_pop PySem.F.type_list_pop mt_popAt (pv 2) (pa_cons (pe_cal c_l_take (hr.mono (by decide)) rfl passL (pa_cons (pv 0) (pa_cons (pe_callB cr_len (by rfl) B.len bt_len (pa_cons (pv 2) pa_nil)) pa_nil))) pa_nil)) pa_nil)))))
  (pss_one (ps_ret (pv 3)))))
abbrev s_l_names : Stmt := top 20
theorem sc_l_names : FnScope N_l_names ["_law_bag_here", "_law_many"] (defScope s_l_names) := ⟨rfl, rfl, rfl, by decide +kernel, rfl, by decide +kernel, by decide +kernel⟩
theorem ok_l_names {P : Program} {w : World} {K : PySem.W.Frag} {mg : Str → Option Value} {base : Heap} {f : Addr} {fd : FuncData} (F : FunD K "_law_names" "_law_names" (defArgs s_l_names) (defBody s_l_names) (defScope s_l_names) [] [] f fd) (B : Bf mg) (G : Gd K mg) (c_l_of : Cal P w K mg base 2 "_law_of" ["_law_bag_here", "_law_some"] (sp_l_of K)) (c_l_take : Cal P w K mg base 1 "_law_take" ["_law_bag_here", "_law_many"] (sp_l_take K)) :
    FnOk P w K mg base (L2.CX P w) 3 f fd ["_law_bag_here", "_law_many"] (sp_l_names K) := by
  refine F.ok sc_l_names (fun vs H Q E h => len_l_names h) (fun cdv A outer s H vs Q E hr h => ⟨t_l_names K, PSs.nox ?_, pure_l_names vs H Q E h⟩)
  have hu := hu_of hr
  have hu65 := hu65_of hr
  exact (pss_cons (ps_set (i := 2) sc_l_names.nd rfl (Or.inr rfl) pe_str)
  (pss_cons (ps_set (i := 3) sc_l_names.nd rfl (Or.inl rfl) (pe_bm PySem.F.plainAttrs_str PySem.F.slot_str_join PySem.F.type_str_join mt_joinU pe_str (pa_cons (pe_lc (own := [("_law_k", 7)]) (by rfl) sc_l_names.nd (pi_range1 rfl B.range (pa_cons (pe_cal c_l_of (hr.mono (by decide)) rfl passL (pa_cons (pv 0) (pa_cons (pe_lst (pa_cons pe_int (pa_cons pe_int (pa_cons pe_int (pa_cons pe_int (pa_cons pe_int pa_nil)))))) pa_nil))) pa_nil)) (blkOk_by (own := [("_law_k", 7)]) (N := N_l_names) (sc := defScope s_l_names) (by decide +kernel)) (fun _ _ _ _ _ => (pg_name (i := 7) sc_l_names.nd rfl (Or.inl rfl))) (fun _ _ _ _ _ => pts_nil) (fun _ _ _ _ _ => (pe_ix ix_seq (pv 2) (pe_cal c_l_take (hr.mono (by decide)) rfl passL (pa_cons (pv 0) (pa_cons pe_int pa_nil))) (fun _ _ => rfl)))) pa_nil)))
  (pss_cons (ps_par (i := 4) (j := 5) (by rfl) sc_l_names.nd rfl rfl (by decide) rfl rfl (pa_cons (pe_cal c_l_take (hr.mono (by decide)) rfl passL (pa_cons (pv 0) (pa_cons pe_int pa_nil))) (pa_cons (pe_cal c_l_take (hr.mono (by decide)) rfl passL (pa_cons (pv 0) (pa_cons pe_int pa_nil))) pa_nil)) (by rfl))
  (pss_cons (ps_set (i := 6) sc_l_names.nd rfl (Or.inl rfl) (pe_lst pa_nil))
  (pss_cons (ps_for PassesOwn.never rfl (pi_range1 rfl B.range (pa_cons (pv 1) pa_nil)) (pg_name (i := 7) sc_l_names.nd rfl (Or.inl rfl)) (pss_cons (ps_set (i := 8) sc_l_names.nd rfl (Or.inl rfl) (pe_op op_add_str (pe_ix ix_seq (pv 2) (pe_op op_mod (pe_op op_add (pv 4) (pe_op op_mul pe_int (pv 7))) pe_int) (fun _ _ => rfl)) (pe_ifExp (pt_cmpR op_gt (pv 1) pe_int (nomark _)) (pe_ix ix_seq (pv 2) (pe_op op_fdiv (pv 7) pe_int) (fun _ _ => rfl)) pe_str)))
  (pss_cons (ps_set (i := 9) sc_l_names.nd rfl (Or.inl rfl) (pe_lst (pa_cons (pe_op op_add_str (pv 3) (pv 8)) (pa_cons (pe_op op_add_str (pv 8) (pv 3)) (pa_cons (pe_op op_add_str (pv 8) (pe_slice sl_str (pv 3) po_none (po_some (pe_op op_mod (pv 7) (pe_op op_add (pe_callB cr_len (by rfl) B.len bt_len (pa_cons (pv 3) pa_nil)) pe_int))))) (pa_cons (pe_op op_add_str (pe_op op_add_str (pe_slice sl_str (pv 3) po_none (po_some pe_int)) (pv 8)) (pe_slice sl_str (pv 3) (po_some pe_int) po_none)) pa_nil))))))
  (pss_one (ps_expr (pe_bm PySem.F.plainAttrs_list PySem.F.slot_list_append PySem.F.type_list_append mt_append (pv 6) (pa_cons (pe_ifExp (pt_cmpR (op_eqU hr.units) (pe_ix ix_seq (pv 9) (pv 5) (fun _ _ => rfl)) pe_str (nomark _)) pe_str (pe_ix ix_seq (pv 9) (pv 5) (fun _ _ => rfl))) pa_nil)))))))
  (pss_one (ps_ret (pv 6))))))))
abbrev s_l_river : Stmt := top 21
theorem sc_l_river : FnScope N_l_river ["_law_bag_here", "_law_many"] (defScope s_l_river) := ⟨rfl, rfl, rfl, by decide +kernel, rfl, by decide +kernel, by decide +kernel⟩
theorem ok_l_river {P : Program} {w : World} {K : PySem.W.Frag} {mg : Str → Option Value} {base : Heap} {f : Addr} {fd : FuncData} (F : FunD K "_law_river" "_law_river" (defArgs s_l_river) (defBody s_l_river) (defScope s_l_river) [] [] f fd) (B : Bf mg) (G : Gd K mg) (c_l_mixed : Cal P w K mg base 2 "_law_mixed" ["_law_bag_here", "_law_some"] (sp_l_mixed K)) (c_l_names : Cal P w K mg base 3 "_law_names" ["_law_bag_here", "_law_many"] (sp_l_names K)) (c_l_take : Cal P w K mg base 1 "_law_take" ["_law_bag_here", "_law_many"] (sp_l_take K)) :
    FnOk P w K mg base (L2.CX P w) 4 f fd ["_law_bag_here", "_law_many"] (sp_l_river K) := by
  refine F.ok sc_l_river (fun vs H Q E h => len_l_river h) (fun cdv A outer s H vs Q E hr h => ⟨t_l_river K, PSs.nox ?_, pure_l_river vs H Q E h⟩)
  have hu := hu_of hr
  have hu65 := hu65_of hr
  exact (pss_cons (ps_par (i := 2) (j := 3) (by rfl) sc_l_river.nd rfl rfl (by decide) rfl rfl (pa_cons (pe_cal c_l_names (hr.mono (by decide)) rfl passL (pa_cons (pv 0) (pa_cons (pv 1) pa_nil))) (pa_cons (pe_lst pa_nil) pa_nil)) (by rfl))
  (pss_cons (ps_for PassesOwn.never rfl (pi_range1 rfl B.range (pa_cons (pv 1) pa_nil)) (pg_name (i := 4) sc_l_river.nd rfl (Or.inl rfl)) (pss_cons (ps_set (i := 5) sc_l_river.nd rfl (Or.inl rfl) (pe_cal c_l_take (hr.mono (by decide)) rfl passL (pa_cons (pv 0) (pa_cons pe_int pa_nil))))
  (pss_one (ps_if (PW.pt (pw_or (pt_cmpR (op_eqU hr.units) (pv 4) pe_int (nomark _)) (pw_or1 (pt_cmpR (op_eqU hr.units) (pv 5) pe_int (nomark _))))) (pss_one (ps_expr (pe_bm PySem.F.plainAttrs_list PySem.F.slot_list_append PySem.F.type_list_append mt_append (pv 3) (pa_cons (pe_tup (pa_cons (pe_ix ix_seq (pv 2) (pv 4) (fun _ _ => rfl)) (pa_cons pe_str pa_nil))) pa_nil)))) (pss_one (ps_expr (pe_bm PySem.F.plainAttrs_list PySem.F.slot_list_append PySem.F.type_list_append mt_append (pv 3) (pa_cons (pe_tup (pa_cons (pe_ix ix_seq (pv 2) (pv 4) (fun _ _ => rfl)) (pa_cons (pe_ifExp (pt_cmpR op_lt (pv 5) pe_int (nomark _)) (pe_ix ix_seq (pv 2) (pe_op op_sub (pv 4) pe_int) (fun _ _ => rfl)) (pe_ix ix_seq (pv 2) (pe_cal c_l_take (hr.mono (by decide)) rfl passL (pa_cons (pv 0) (pa_cons (pv 4) pa_nil))) (fun _ _ => rfl))) pa_nil))) pa_nil))))))))
  (pss_one (ps_ret (pe_cal c_l_mixed (hr.mono (by decide)) rfl passL (pa_cons (pv 0) (pa_cons (pv 3) pa_nil)))))))
abbrev s_l_course : Stmt := top 22
theorem sc_l_course : FnScope N_l_course ["_law_rows", "_law_weir"] (defScope s_l_course) := ⟨rfl, rfl, rfl, by decide +kernel, rfl, by decide +kernel, by decide +kernel⟩
theorem ok_l_course {P : Program} {w : World} {K : PySem.W.Frag} {mg : Str → Option Value} {base : Heap} {f : Addr} {fd : FuncData} (F : FunD K "_law_course" "_law_course" (defArgs s_l_course) (defBody s_l_course) (defScope s_l_course) [] [] f fd) (B : Bf mg) (G : Gd K mg)  :
    FnOk P w K mg base (L2.CX P w) 1 f fd ["_law_rows", "_law_weir"] (sp_l_course K) := by
  refine F.ok sc_l_course (fun vs H Q E h => len_l_course h) (fun cdv A outer s H vs Q E hr h => ⟨t_l_course K, PSs.nox ?_, pure_l_course vs H Q E h⟩)
  have hu := hu_of hr
  have hu65 := hu65_of hr
  exact (pss_cons (ps_par (i := 2) (j := 3) (by rfl) sc_l_course.nd rfl rfl (by decide) rfl rfl (pa_cons (pe_callTy (cr_dictP rfl) (by rfl) B.dict bt_dict (pa_cons (pv 0) pa_nil)) (pa_cons (pe_lst pa_nil) pa_nil)) (by rfl))
  (pss_cons (ps_for PassesOwn.never rfl (pi_range1 rfl B.range (pa_cons (pe_callB cr_len (by rfl) B.len bt_len (pa_cons (pv 0) pa_nil)) pa_nil)) (pg_name (i := 4) sc_l_course.nd rfl (Or.inl rfl)) (pss_one (ps_if (pt_cmpR (op_neU hr.units) (pv 1) pe_str (nomark _)) (pss_cons (ps_expr (pe_bm PySem.F.plainAttrs_list PySem.F.slot_list_append PySem.F.type_list_append mt_append (pv 3) (pa_cons (pv 1) pa_nil)))
  (pss_one (ps_set (i := 1) sc_l_course.nd rfl (Or.inl rfl) (pe_dget hu (pv 2) (pv 1) (fun _ _ => rfl))))) pss_nil)))
  (pss_one (ps_ret (pv 3)))))
abbrev s_l_odd : Stmt := top 24
theorem sc_l_odd : FnScope N_l_odd ["_law_bag_here", "_law_rows"] (defScope s_l_odd) := ⟨rfl, rfl, rfl, by decide +kernel, rfl, by decide +kernel, by decide +kernel⟩
theorem ok_l_odd {P : Program} {w : World} {K : PySem.W.Frag} {mg : Str → Option Value} {base : Heap} {f : Addr} {fd : FuncData} (F : FunD K "_law_odd" "_law_odd" (defArgs s_l_odd) (defBody s_l_odd) (defScope s_l_odd) [] [] f fd) (B : Bf mg) (G : Gd K mg) (c_l_of : Cal P w K mg base 2 "_law_of" ["_law_bag_here", "_law_some"] (sp_l_of K)) :
    FnOk P w K mg base (L2.CX P w) 3 f fd ["_law_bag_here", "_law_rows"] (sp_l_odd K) := by
  refine F.ok sc_l_odd (fun vs H Q E h => len_l_odd h) (fun cdv A outer s H vs Q E hr h => ⟨t_l_odd K, PSs.nox ?_, pure_l_odd vs H Q E h⟩)
  have hu := hu_of hr
  have hu65 := hu65_of hr
  exact (pss_cons (ps_set (i := 2) sc_l_odd.nd rfl (Or.inl rfl) (pe_ix ix_seq (pe_cal c_l_of (hr.mono (by decide)) rfl passL (pa_cons (pv 0) (pa_cons (pv 1) pa_nil))) pe_int (fun _ _ => rfl)))
  (pss_one (ps_ret (pe_cal c_l_of (hr.mono (by decide)) rfl passL (pa_cons (pv 0) (pa_cons (pe_lst (pa_cons (pe_op op_add_str (pv 2) pe_str) (pa_cons (pe_op op_add_str (pv 2) pe_str) (pa_cons pe_str (pa_cons pe_str (pa_cons pe_non (pa_cons pe_int (pa_cons pe_bl (pa_cons (pe_lst (pa_cons (pv 2) pa_nil)) (pa_cons (pe_tup (pa_cons (pv 2) pa_nil)) (pa_cons (pe_lst pa_nil) (pa_cons (pe_op op_add_str (pv 2) (pv 2)) pa_nil)))))))))))) pa_nil))))))
abbrev s_l_is_whole : Stmt := top 28
theorem sc_l_is_whole : FnScope N_l_is_whole ["_law_rows"] (defScope s_l_is_whole) := ⟨rfl, rfl, rfl, by decide +kernel, rfl, by decide +kernel, by decide +kernel⟩
theorem ok_l_is_whole {P : Program} {w : World} {K : PySem.W.Frag} {mg : Str → Option Value} {base : Heap} {f : Addr} {fd : FuncData} (F : FunD K "_law_is_whole" "_law_is_whole" (defArgs s_l_is_whole) (defBody s_l_is_whole) (defScope s_l_is_whole) [] [] f fd) (B : Bf mg) (G : Gd K mg)  :
    FnOk P w K mg base (L2.CX P w) 1 f fd ["_law_rows"] (sp_l_is_whole K) := by
  refine F.ok sc_l_is_whole (fun vs H Q E h => len_l_is_whole h) (fun cdv A outer s H vs Q E hr h => ⟨t_l_is_whole K, PSs.nox ?_, pure_l_is_whole vs H Q E h⟩)
  have hu := hu_of hr
  have hu65 := hu65_of hr
  exact (pss_cons (ps_set (i := 1) sc_l_is_whole.nd rfl (Or.inr rfl) (pe_lc (own := [("_law_weir", 2), ("_law_below", 3)]) (by rfl) sc_l_is_whole.nd (pi_list (pv 0)) (blkOk_by (own := [("_law_weir", 2), ("_law_below", 3)]) (N := N_l_is_whole) (sc := defScope s_l_is_whole) (by decide +kernel)) (fun _ _ _ _ _ => (pg_tup rfl (pgs_cons (pg_name (i := 2) sc_l_is_whole.nd rfl (Or.inl rfl)) (pgs_cons (pg_name (i := 3) sc_l_is_whole.nd rfl (Or.inl rfl)) pgs_nil)))) (fun _ _ _ _ _ => pts_nil) (fun _ _ _ _ _ => (pv 2))))
  (pss_one (ps_ret (pe_and (pe_cmpR (op_neU hr.units) (pv 0) (pe_lst pa_nil) (nomark _)) (pe_one (pe_callB (cr_all rfl) (by rfl) B.all bt_all (pa_cons (pe_lc (own := [("_law_weir", 2), ("_law_below", 3)]) (by rfl) sc_l_is_whole.nd (pi_list (pv 0)) (blkOk_by (own := [("_law_weir", 2), ("_law_below", 3)]) (N := N_l_is_whole) (sc := defScope s_l_is_whole) (by decide +kernel)) (fun _ _ _ _ _ => (pg_tup rfl (pgs_cons (pg_name (i := 2) sc_l_is_whole.nd rfl (Or.inl rfl)) (pgs_cons (pg_name (i := 3) sc_l_is_whole.nd rfl (Or.inl rfl)) pgs_nil)))) (fun _ _ _ _ _ => pts_nil) (fun _ _ _ _ _ => (pe_or (pe_cmpR (op_eqU hr.units) (pv 3) pe_str (nomark _)) (pe_one (pe_cmpR (op_inU hu65) (pv 3) (pv 1) (by rfl)))))) pa_nil)))))))
abbrev s_is_name : Stmt := top 9
theorem sc_is_name : FnScope N_is_name ["value"] (defScope s_is_name) := ⟨rfl, rfl, rfl, by decide +kernel, rfl, by decide +kernel, by decide +kernel⟩
theorem ok_is_name {P : Program} {w : World} {K : PySem.W.Frag} {mg : Str → Option Value} {base : Heap} {f : Addr} {fd : FuncData} (F : FunD K "is_name" "is_name" (defArgs s_is_name) (defBody s_is_name) (defScope s_is_name) [] [] f fd) (B : Bf mg) (G : Gd K mg)  :
    FnOk P w K mg base (L2.CX P w) 1 f fd ["value"] (sp_is_name K) := by
  refine F.ok sc_is_name (fun vs H Q E h => len_is_name h) (fun cdv A outer s H vs Q E hr h => ⟨t_is_name K, PSs.nox ?_, pure_is_name vs H Q E h⟩)
  have hu := hu_of hr
  have hu65 := hu65_of hr
  exact (pss_cons (ps_if (PW.pt (pw_or (pt_not (pt_val (pe_callB call_isi (by rfl) B.isinstance bt_isinstance (pa_cons (pv 0) (pa_cons (pe_bltn (by rfl) B.str (by decide +kernel) rfl) pa_nil))))) (pw_or1 (pt_not (pt_chain op_le op_le pe_int (pe_callB cr_len (by rfl) B.len bt_len (pa_cons (pv 0) pa_nil)) pe_int))))) (pss_one (ps_ret pe_bl)) pss_nil)
  (pss_one (ps_ret (pe_callB (cr_all rfl) (by rfl) B.all bt_all (pa_cons (pe_lc (own := [("letter", 1)]) (by rfl) sc_is_name.nd (pi_str (pv 0)) (blkOk_by (own := [("letter", 1)]) (N := N_is_name) (sc := defScope s_is_name) (by decide +kernel)) (fun _ _ _ _ _ => (pg_name (i := 1) sc_is_name.nd rfl (Or.inl rfl))) (fun _ _ _ _ _ => pts_nil) (fun _ _ _ _ _ => (pe_cmpR op_inSg (pv 1) (pe_gl rfl G.k_LETTERS) (by rfl)))) pa_nil)))))
abbrev s_is_wrong_row : Stmt := top 10
theorem sc_is_wrong_row : FnScope N_is_wrong_row ["entry", "earlier"] (defScope s_is_wrong_row) := ⟨rfl, rfl, rfl, by decide +kernel, rfl, by decide +kernel, by decide +kernel⟩
theorem ok_is_wrong_row {P : Program} {w : World} {K : PySem.W.Frag} {mg : Str → Option Value} {base : Heap} {f : Addr} {fd : FuncData} (F : FunD K "is_wrong_row" "is_wrong_row" (defArgs s_is_wrong_row) (defBody s_is_wrong_row) (defScope s_is_wrong_row) [] [] f fd) (B : Bf mg) (G : Gd K mg) (c_is_name : Cal P w K mg base 1 "is_name" ["value"] (sp_is_name K)) :
    FnOk P w K mg base (L2.CX P w) 2 f fd ["entry", "earlier"] (sp_is_wrong_row K) := by
  refine F.ok sc_is_wrong_row (fun vs H Q E h => len_is_wrong_row h) (fun cdv A outer s H vs Q E hr h => ⟨t_is_wrong_row K, PSs.nox ?_, pure_is_wrong_row vs H Q E h⟩)
  have hu := hu_of hr
  have hu65 := hu65_of hr
  exact (pss_cons (ps_if (PW.pt (pw_or (pt_not (pt_val (pe_callB call_isi (by rfl) B.isinstance bt_isinstance (pa_cons (pv 0) (pa_cons (pe_bltn (by rfl) B.tuple (by decide +kernel) rfl) pa_nil))))) (pw_or1 (pt_cmpR (op_neU hr.units) (pe_callB cr_len (by rfl) B.len bt_len (pa_cons (pv 0) pa_nil)) pe_int (nomark _))))) (pss_one (ps_ret pe_bl)) pss_nil)
  (pss_cons (ps_asg (pv 0) (pg_tup rfl (pgs_cons (pg_name (i := 2) sc_is_wrong_row.nd rfl (Or.inl rfl)) (pgs_cons (pg_name (i := 3) sc_is_wrong_row.nd rfl (Or.inl rfl)) pgs_nil))))
  (pss_cons (ps_if (PW.pt (pw_or (pt_not (pt_val (pe_cal c_is_name (hr.mono (by decide)) rfl passL (pa_cons (pv 2) pa_nil)))) (pw_or1 (pt_not (pt_val (pe_cal c_is_name (hr.mono (by decide)) rfl passL (pa_cons (pv 3) pa_nil))))))) (pss_one (ps_ret pe_bl)) pss_nil)
  (pss_one (ps_ret (pe_or (pe_cmpR (op_eqU hr.units) (pv 2) pe_str (nomark _)) (pe_one (pe_cmpR (op_inDc hu) (pv 2) (pv 1) (by rfl)))))))))
abbrev s_reaches_sea : Stmt := top 11
theorem sc_reaches_sea : FnScope N_reaches_sea ["weir", "lower"] (defScope s_reaches_sea) := ⟨rfl, rfl, rfl, by decide +kernel, rfl, by decide +kernel, by decide +kernel⟩
theorem ok_reaches_sea {P : Program} {w : World} {K : PySem.W.Frag} {mg : Str → Option Value} {base : Heap} {f : Addr} {fd : FuncData} (F : FunD K "reaches_sea" "reaches_sea" (defArgs s_reaches_sea) (defBody s_reaches_sea) (defScope s_reaches_sea) [] [] f fd) (B : Bf mg) (G : Gd K mg)  :
    FnOk P w K mg base (L2.CX P w) 1 f fd ["weir", "lower"] (sp_reaches_sea K) := by
  refine F.ok sc_reaches_sea (fun vs H Q E h => len_reaches_sea h) (fun cdv A outer s H vs Q E hr h => ⟨t_reaches_sea K, PSs.nox ?_, pure_reaches_sea vs H Q E h⟩)
  have hu := hu_of hr
  have hu65 := hu65_of hr
  exact (pss_cons (ps_for PassesOwn.never rfl (pi_range1 rfl B.range (pa_cons (pe_callB cr_len (by rfl) B.len bt_len (pa_cons (pv 1) pa_nil)) pa_nil)) (pg_name (i := 2) sc_reaches_sea.nd rfl (Or.inl rfl)) (pss_cons (ps_if (pt_cmpR (op_eqU hr.units) (pv 0) pe_str (nomark _)) (pss_one (ps_ret pe_bl)) pss_nil)
  (pss_one (ps_set (i := 0) sc_reaches_sea.nd rfl (Or.inl rfl) (pe_dget hu (pv 1) (pv 0) (fun _ _ => rfl))))))
  (pss_one (ps_ret (pe_cmpR (op_eqU hr.units) (pv 0) pe_str (nomark _)))))
abbrev s_river_fault : Stmt := top 12
theorem sc_river_fault : FnScope N_river_fault ["rows"] (defScope s_river_fault) := ⟨rfl, rfl, rfl, by decide +kernel, rfl, by decide +kernel, by decide +kernel⟩
theorem ok_river_fault {P : Program} {w : World} {K : PySem.W.Frag} {mg : Str → Option Value} {base : Heap} {f : Addr} {fd : FuncData} (F : FunD K "river_fault" "river_fault" (defArgs s_river_fault) (defBody s_river_fault) (defScope s_river_fault) [] [] f fd) (B : Bf mg) (G : Gd K mg) (c_is_wrong_row : Cal P w K mg base 2 "is_wrong_row" ["entry", "earlier"] (sp_is_wrong_row K)) (c_reaches_sea : Cal P w K mg base 1 "reaches_sea" ["weir", "lower"] (sp_reaches_sea K)) :
    FnOk P w K mg base (L2.CX P w) 3 f fd ["rows"] (sp_river_fault K) := by
  refine F.ok sc_river_fault (fun vs H Q E h => len_river_fault h) (fun cdv A outer s H vs Q E hr h => ⟨t_river_fault K, PSs.nox ?_, pure_river_fault vs H Q E h⟩)
  have hu := hu_of hr
  have hu65 := hu65_of hr
  exact (pss_cons (ps_if (PW.pt (pw_or (pt_not (pt_val (pe_callB call_isi (by rfl) B.isinstance bt_isinstance (pa_cons (pv 0) (pa_cons (pe_bltn (by rfl) B.list (by decide +kernel) rfl) pa_nil))))) (pw_or1 (pt_not (pt_chain op_le op_le pe_int (pe_callB cr_len (by rfl) B.len bt_len (pa_cons (pv 0) pa_nil)) (pe_gl rfl G.k_MOST_WEIRS)))))) (pss_one (ps_ret (pe_un un_neg pe_int))) pss_nil)
  (pss_cons (ps_set (i := 1) sc_river_fault.nd rfl (Or.inl rfl) pe_dnewK)
  (pss_cons (ps_for PassesOwn.never rfl (pi_enum rfl B.enumerate (pa_cons (pv 0) pa_nil)) (pg_tup rfl (pgs_cons (pg_name (i := 2) sc_river_fault.nd rfl (Or.inl rfl)) (pgs_cons (pg_name (i := 3) sc_river_fault.nd rfl (Or.inl rfl)) pgs_nil))) (pss_cons (ps_if (pt_val (pe_cal c_is_wrong_row (hr.mono (by decide)) rfl passL (pa_cons (pv 3) (pa_cons (pv 1) pa_nil)))) (pss_one (ps_ret (pv 2))) pss_nil)
  (pss_one (ps_dput hu (pv 1) (pe_ix ix_seq (pv 3) pe_int (fun _ _ => rfl)) (pe_ix ix_seq (pv 3) pe_int (fun _ _ => rfl)) rfl))))
  (pss_cons (ps_for PassesOwn.never rfl (pi_enum rfl B.enumerate (pa_cons (pv 0) pa_nil)) (pg_tup rfl (pgs_cons (pg_name (i := 2) sc_river_fault.nd rfl (Or.inl rfl)) (pgs_cons (pg_name (i := 3) sc_river_fault.nd rfl (Or.inl rfl)) pgs_nil))) (pss_one (ps_if (PW.pt (pw_and (pt_cmpR (op_neU hr.units) (pe_ix ix_seq (pv 3) pe_int (fun _ _ => rfl)) pe_str (nomark _)) (pw_and1 (pt_cmpR (op_notInDc hu) (pe_ix ix_seq (pv 3) pe_int (fun _ _ => rfl)) (pv 1) (by rfl))))) (pss_one (ps_ret (pv 2))) pss_nil)))
  (pss_cons (ps_for PassesOwn.never rfl (pi_enum rfl B.enumerate (pa_cons (pv 0) pa_nil)) (pg_tup rfl (pgs_cons (pg_name (i := 2) sc_river_fault.nd rfl (Or.inl rfl)) (pgs_cons (pg_name (i := 3) sc_river_fault.nd rfl (Or.inl rfl)) pgs_nil))) (pss_one (ps_if (pt_not (pt_val (pe_cal c_reaches_sea (hr.mono (by decide)) rfl passL (pa_cons (pe_ix ix_seq (pv 3) pe_int (fun _ _ => rfl)) (pa_cons (pv 1) pa_nil))))) (pss_one (ps_ret (pv 2))) pss_nil)))
  (pss_one (ps_ret pe_non)))))))
abbrev s_course_of : Stmt := top 13
theorem sc_course_of : FnScope N_course_of ["weir", "lower"] (defScope s_course_of) := ⟨rfl, rfl, rfl, by decide +kernel, rfl, by decide +kernel, by decide +kernel⟩
theorem ok_course_of {P : Program} {w : World} {K : PySem.W.Frag} {mg : Str → Option Value} {base : Heap} {f : Addr} {fd : FuncData} (F : FunD K "course_of" "course_of" (defArgs s_course_of) (defBody s_course_of) (defScope s_course_of) [] [] f fd) (B : Bf mg) (G : Gd K mg)  :
    FnOk P w K mg base (L2.CX P w) 1 f fd ["weir", "lower"] (sp_course_of K) := by
  refine F.ok sc_course_of (fun vs H Q E h => len_course_of h) (fun cdv A outer s H vs Q E hr h => ⟨t_course_of K, PSs.nox ?_, pure_course_of vs H Q E h⟩)
  have hu := hu_of hr
  have hu65 := hu65_of hr
  exact (pss_cons (ps_set (i := 2) sc_course_of.nd rfl (Or.inl rfl) (pe_lst pa_nil))
  (pss_cons (ps_while PassesOwn.never (pt_cmpR (op_neU hr.units) (pv 0) pe_str (nomark _)) (pss_cons (ps_expr (pe_bm PySem.F.plainAttrs_list PySem.F.slot_list_append PySem.F.type_list_append mt_append (pv 2) (pa_cons (pv 0) pa_nil)))
  (pss_one (ps_set (i := 0) sc_course_of.nd rfl (Or.inl rfl) (pe_dget hu (pv 1) (pv 0) (fun _ _ => rfl))))))
  (pss_one (ps_ret (pe_callTy call_tuple_of (by rfl) B.tuple bt_tuple (pa_cons (pv 2) pa_nil))))))
abbrev s_River__init_ : Stmt := inClass (top 14) 0
theorem sc_River__init_ : FnScope N_River__init_ ["self", "rows"] (defScope s_River__init_) := ⟨rfl, rfl, rfl, by decide +kernel, rfl, by decide +kernel, by decide +kernel⟩
theorem ok_River__init_ {P : Program} {w : World} {K : PySem.W.Frag} {mg : Str → Option Value} {base : Heap} {f : Addr} {fd : FuncData} (F : FunD K "__init__" "River.__init__" (defArgs s_River__init_) (defBody s_River__init_) (defScope s_River__init_) [] [] f fd) (B : Bf mg) (G : Gd K mg) (c_course_of : Cal P w K mg base 1 "course_of" ["weir", "lower"] (sp_course_of K)) (c_river_fault : Cal P w K mg base 3 "river_fault" ["rows"] (sp_river_fault K)) :
    FnOk P w K mg base (L2.CX P w) 4 f fd ["self", "rows"] (sp_River__init_ K) := by
  refine F.ok sc_River__init_ (fun vs H Q E h => len_River__init_ h) (fun cdv A outer s H vs Q E hr h => ⟨t_River__init_ K, PSs.nox ?_, pure_River__init_ G.river vs H Q E h⟩)
  have hu := hu_of hr
  have hu65 := hu65_of hr
  exact (pss_cons (ps_set (i := 2) sc_River__init_.nd rfl (Or.inl rfl) (pe_cal c_river_fault (hr.mono (by decide)) rfl passL (pa_cons (pv 1) pa_nil)))
  (pss_cons (ps_if (pt_cmpR op_notNn (pv 2) pe_non (nomark _)) (pss_one ps_never) pss_nil)
  (pss_cons (ps_fld (pv 0) (pe_callTy call_tuple_of (by rfl) B.tuple bt_tuple (pa_cons (pe_lc (own := [("weir", 3), ("below", 4)]) (by rfl) sc_River__init_.nd (pi_list (pv 1)) (blkOk_by (own := [("weir", 3), ("below", 4)]) (N := N_River__init_) (sc := defScope s_River__init_) (by decide +kernel)) (fun _ _ _ _ _ => (pg_tup rfl (pgs_cons (pg_name (i := 3) sc_River__init_.nd rfl (Or.inl rfl)) (pgs_cons (pg_name (i := 4) sc_River__init_.nd rfl (Or.inl rfl)) pgs_nil)))) (fun _ _ _ _ _ => pts_nil) (fun _ _ _ _ _ => (pv 3))) pa_nil)) rfl)
  (pss_cons (ps_fld (pv 0) (pe_dc (own := [("weir", 3), ("below", 4)]) (by rfl) sc_River__init_.nd (pi_list (pv 1)) (blkOk_by (own := [("weir", 3), ("below", 4)]) (N := N_River__init_) (sc := defScope s_River__init_) (by decide +kernel)) (fun _ _ _ _ _ => (pg_tup rfl (pgs_cons (pg_name (i := 3) sc_River__init_.nd rfl (Or.inl rfl)) (pgs_cons (pg_name (i := 4) sc_River__init_.nd rfl (Or.inl rfl)) pgs_nil)))) (fun _ _ _ _ _ => pts_nil) (fun _ _ _ _ _ => (pv 3)) (fun _ _ _ _ _ => (pv 4))) rfl)
  (pss_one (ps_fld (pv 0) (pe_dc (own := [("weir", 3)]) (by rfl) sc_River__init_.nd (pi_tup (pe_fld (pv 0) rfl)) (blkOk_by (own := [("weir", 3)]) (N := N_River__init_) (sc := defScope s_River__init_) (by decide +kernel)) (fun _ _ _ _ _ => (pg_name (i := 3) sc_River__init_.nd rfl (Or.inl rfl))) (fun _ _ _ _ _ => pts_nil) (fun _ _ _ _ _ => (pv 3)) (fun _ _ _ _ _ => (pe_cal c_course_of (hr.mono (by decide)) rfl passL (pa_cons (pv 3) (pa_cons (pe_fld (pv 0) rfl) pa_nil))))) rfl))))))
abbrev s_River__len_ : Stmt := inClass (top 14) 1
theorem sc_River__len_ : FnScope N_River__len_ ["self"] (defScope s_River__len_) := ⟨rfl, rfl, rfl, by decide +kernel, rfl, by decide +kernel, by decide +kernel⟩
theorem ok_River__len_ {P : Program} {w : World} {K : PySem.W.Frag} {mg : Str → Option Value} {base : Heap} {f : Addr} {fd : FuncData} (F : FunD K "__len__" "River.__len__" (defArgs s_River__len_) (defBody s_River__len_) (defScope s_River__len_) [] [] f fd) (B : Bf mg) (G : Gd K mg)  :
    FnOk P w K mg base (L2.CX P w) 1 f fd ["self"] (sp_River__len_ K) := by
  refine F.ok sc_River__len_ (fun vs H Q E h => len_River__len_ h) (fun cdv A outer s H vs Q E hr h => ⟨t_River__len_ K, PSs.nox ?_, pure_River__len_ G.river vs H Q E h⟩)
  have hu := hu_of hr
  have hu65 := hu65_of hr
  exact (pss_one (ps_ret (pe_callB cr_len (by rfl) B.len bt_len (pa_cons (pe_fld (pv 0) rfl) pa_nil))))
abbrev s_River__eq_ : Stmt := inClass (top 14) 3
theorem sc_River__eq_ : FnScope N_River__eq_ ["self", "other"] (defScope s_River__eq_) := ⟨rfl, rfl, rfl, by decide +kernel, rfl, by decide +kernel, by decide +kernel⟩
theorem ok_River__eq_ {P : Program} {w : World} {K : PySem.W.Frag} {mg : Str → Option Value} {base : Heap} {f : Addr} {fd : FuncData} (F : FunD K "__eq__" "River.__eq__" (defArgs s_River__eq_) (defBody s_River__eq_) (defScope s_River__eq_) [] [] f fd) (B : Bf mg) (G : Gd K mg)  :
    FnOk P w K mg base (L2.CX P w) 1 f fd ["self", "other"] (sp_River__eq_ K) := by
  refine F.ok sc_River__eq_ (fun vs H Q E h => len_River__eq_ h) (fun cdv A outer s H vs Q E hr h => ⟨t_River__eq_ K, PSs.nox ?_, pure_River__eq_ G.river G.ty vs H Q E h⟩)
  have hu := hu_of hr
  have hu65 := hu65_of hr
  exact (pss_one (ps_ret (pe_and (pe_callB call_isi (by rfl) B.isinstance bt_isinstance (pa_cons (pv 1) (pa_cons (pe_glob rfl G.g_River rfl) pa_nil))) (pe_and (pe_cmpR (op_eqU hr.units) (pe_fld (pv 0) rfl) (pe_fld (pv 1) rfl) (nomark _)) (pe_one (pe_cmpR (op_eqDs hr.units0) (pe_fld (pv 0) rfl) (pe_fld (pv 1) rfl) (nomark _)))))))
abbrev s_River_need : Stmt := inClass (top 14) 4
theorem sc_River_need : FnScope N_River_need ["self", "weir"] (defScope s_River_need) := ⟨rfl, rfl, rfl, by decide +kernel, rfl, by decide +kernel, by decide +kernel⟩
theorem ok_River_need {P : Program} {w : World} {K : PySem.W.Frag} {mg : Str → Option Value} {base : Heap} {f : Addr} {fd : FuncData} (F : FunD K "need" "River.need" (defArgs s_River_need) (defBody s_River_need) (defScope s_River_need) [] [] f fd) (B : Bf mg) (G : Gd K mg) (c_NoWeir__init_ : XCal P w K mg base 1 "NoWeir" ["self", "name"] (sp_NoWeir__init_ K)) :
    FnOk P w K mg base (L2.CX P w) 3 f fd ["self", "weir"] (sp_River_need K) := by
  refine F.ok sc_River_need (fun vs H Q E h => len_River_need h) (fun cdv A outer s H vs Q E hr h => ⟨t_River_need K E, ?_, pure_River_need G.river vs H Q E h⟩)
  have hu := hu_of hr
  have hu65 := hu65_of hr
  exact (pss_one (ps_if (pt_cmpR (op_notInU hu65) (pv 1) (pe_fld (pv 0) rfl) (by rfl)) (pss_one (ps_raiseO rfl (takes_of rfl rfl rfl rfl) c_NoWeir__init_ (hr.mono (by decide)) rfl (pa_cons (pv 1) pa_nil))) pss_nil))
abbrev s_River_rows : Stmt := inClass (top 14) 5
theorem sc_River_rows : FnScope N_River_rows ["self"] (defScope s_River_rows) := ⟨rfl, rfl, rfl, by decide +kernel, rfl, by decide +kernel, by decide +kernel⟩
theorem ok_River_rows {P : Program} {w : World} {K : PySem.W.Frag} {mg : Str → Option Value} {base : Heap} {f : Addr} {fd : FuncData} (F : FunD K "rows" "River.rows" (defArgs s_River_rows) (defBody s_River_rows) (defScope s_River_rows) [] [] f fd) (B : Bf mg) (G : Gd K mg)  :
    FnOk P w K mg base (L2.CX P w) 1 f fd ["self"] (sp_River_rows K) := by
  refine F.ok sc_River_rows (fun vs H Q E h => len_River_rows h) (fun cdv A outer s H vs Q E hr h => ⟨t_River_rows K, PSs.nox ?_, pure_River_rows G.river vs H Q E h⟩)
  have hu := hu_of hr
  have hu65 := hu65_of hr
  exact (pss_one (ps_ret (pe_lc (own := [("weir", 1)]) (by rfl) sc_River_rows.nd (pi_tup (pe_fld (pv 0) rfl)) (blkOk_by (own := [("weir", 1)]) (N := N_River_rows) (sc := defScope s_River_rows) (by decide +kernel)) (fun _ _ _ _ _ => (pg_name (i := 1) sc_River_rows.nd rfl (Or.inl rfl))) (fun _ _ _ _ _ => pts_nil) (fun _ _ _ _ _ => (pe_tup (pa_cons (pv 1) (pa_cons (pe_dget hu (pe_fld (pv 0) rfl) (pv 1) (fun _ _ => rfl)) pa_nil)))))))
abbrev s_River_below : Stmt := inClass (top 14) 6
theorem sc_River_below : FnScope N_River_below ["self", "weir"] (defScope s_River_below) := ⟨rfl, rfl, rfl, by decide +kernel, rfl, by decide +kernel, by decide +kernel⟩
theorem ok_River_below {P : Program} {w : World} {K : PySem.W.Frag} {mg : Str → Option Value} {base : Heap} {f : Addr} {fd : FuncData} (F : FunD K "below" "River.below" (defArgs s_River_below) (defBody s_River_below) (defScope s_River_below) [] [] f fd) (B : Bf mg) (G : Gd K mg) (c_River_need : MCal P w K mg base 3 "River" "need" ["self", "weir"] (sp_River_need K)) :
    FnOk P w K mg base (L2.CX P w) 4 f fd ["self", "weir"] (sp_River_below K) := by
  refine F.ok sc_River_below (fun vs H Q E h => len_River_below h) (fun cdv A outer s H vs Q E hr h => ⟨t_River_below K E, ?_, pure_River_below G.river vs H Q E h⟩)
  have hu := hu_of hr
  have hu65 := hu65_of hr
  exact (pss_cons (ps_expr (pe_mcal (pv 0) c_River_need G.cl_River (hr.mono (by decide)) (passes_call (takes_of rfl rfl rfl rfl) (fun _ _ _ _ h => h)) (pa_cons (pv 1) pa_nil)))
  (pss_one (ps_ret (pe_dget hu (pe_fld (pv 0) rfl) (pv 1) (fun _ _ => rfl)))))
abbrev s_River_above : Stmt := inClass (top 14) 7
theorem sc_River_above : FnScope N_River_above ["self", "weir"] (defScope s_River_above) := ⟨rfl, rfl, rfl, by decide +kernel, rfl, by decide +kernel, by decide +kernel⟩
theorem ok_River_above {P : Program} {w : World} {K : PySem.W.Frag} {mg : Str → Option Value} {base : Heap} {f : Addr} {fd : FuncData} (F : FunD K "above" "River.above" (defArgs s_River_above) (defBody s_River_above) (defScope s_River_above) [] [] f fd) (B : Bf mg) (G : Gd K mg) (c_River_need : MCal P w K mg base 3 "River" "need" ["self", "weir"] (sp_River_need K)) :
    FnOk P w K mg base (L2.CX P w) 4 f fd ["self", "weir"] (sp_River_above K) := by
  refine F.ok sc_River_above (fun vs H Q E h => len_River_above h) (fun cdv A outer s H vs Q E hr h => ⟨t_River_above K E, ?_, pure_River_above G.river vs H Q E h⟩)
  have hu := hu_of hr
  have hu65 := hu65_of hr
  exact (pss_cons (ps_if (pt_cmpR (op_neU hr.units) (pv 1) pe_str (nomark _)) (pss_one (ps_expr (pe_mcal (pv 0) c_River_need G.cl_River (hr.mono (by decide)) (passes_call (takes_of rfl rfl rfl rfl) (fun _ _ _ _ h => h)) (pa_cons (pv 1) pa_nil)))) pss_nil)
  (pss_one (ps_ret (pe_callTy call_tuple_of (by rfl) B.tuple bt_tuple (pa_cons (pe_lc (own := [("one", 2)]) (by rfl) sc_River_above.nd (pi_tup (pe_fld (pv 0) rfl)) (blkOk_by (own := [("one", 2)]) (N := N_River_above) (sc := defScope s_River_above) (by decide +kernel)) (fun _ _ _ _ _ => (pg_name (i := 2) sc_River_above.nd rfl (Or.inl rfl))) (fun _ _ _ _ _ => (pts_one (pt_cmpR (op_eqU hr.units) (pe_dget hu (pe_fld (pv 0) rfl) (pv 2) (fun _ _ => rfl)) (pv 1) (nomark _)))) (fun _ _ _ _ _ => (pv 2))) pa_nil)))))
abbrev s_River_course : Stmt := inClass (top 14) 8
theorem sc_River_course : FnScope N_River_course ["self", "weir"] (defScope s_River_course) := ⟨rfl, rfl, rfl, by decide +kernel, rfl, by decide +kernel, by decide +kernel⟩
theorem ok_River_course {P : Program} {w : World} {K : PySem.W.Frag} {mg : Str → Option Value} {base : Heap} {f : Addr} {fd : FuncData} (F : FunD K "course" "River.course" (defArgs s_River_course) (defBody s_River_course) (defScope s_River_course) [] [] f fd) (B : Bf mg) (G : Gd K mg) (c_River_need : MCal P w K mg base 3 "River" "need" ["self", "weir"] (sp_River_need K)) :
    FnOk P w K mg base (L2.CX P w) 4 f fd ["self", "weir"] (sp_River_course K) := by
  refine F.ok sc_River_course (fun vs H Q E h => len_River_course h) (fun cdv A outer s H vs Q E hr h => ⟨t_River_course K E, ?_, pure_River_course G.river vs H Q E h⟩)
  have hu := hu_of hr
  have hu65 := hu65_of hr
  exact (pss_cons (ps_expr (pe_mcal (pv 0) c_River_need G.cl_River (hr.mono (by decide)) (passes_call (takes_of rfl rfl rfl rfl) (fun _ _ _ _ h => h)) (pa_cons (pv 1) pa_nil)))
  (pss_one (ps_ret (pe_dget hu (pe_fld (pv 0) rfl) (pv 1) (fun _ _ => rfl)))))
abbrev s_River_depth : Stmt := inClass (top 14) 9
theorem sc_River_depth : FnScope N_River_depth ["self", "weir"] (defScope s_River_depth) := ⟨rfl, rfl, rfl, by decide +kernel, rfl, by decide +kernel, by decide +kernel⟩
theorem ok_River_depth {P : Program} {w : World} {K : PySem.W.Frag} {mg : Str → Option Value} {base : Heap} {f : Addr} {fd : FuncData} (F : FunD K "depth" "River.depth" (defArgs s_River_depth) (defBody s_River_depth) (defScope s_River_depth) [] [] f fd) (B : Bf mg) (G : Gd K mg) (c_River_course : MCal P w K mg base 4 "River" "course" ["self", "weir"] (sp_River_course K)) :
    FnOk P w K mg base (L2.CX P w) 5 f fd ["self", "weir"] (sp_River_depth K) := by
  refine F.ok sc_River_depth (fun vs H Q E h => len_River_depth h) (fun cdv A outer s H vs Q E hr h => ⟨t_River_depth K E, ?_, pure_River_depth vs H Q E h⟩)
  have hu := hu_of hr
  have hu65 := hu65_of hr
  exact (pss_one (ps_ret (pe_callB cr_len (by rfl) B.len bt_len (pa_cons (pe_mcal (pv 0) c_River_course G.cl_River (hr.mono (by decide)) (passes_call (takes_of rfl rfl rfl rfl) (fun _ _ _ _ h => h)) (pa_cons (pv 1) pa_nil)) pa_nil))))
abbrev s_River_upstream : Stmt := inClass (top 14) 10
theorem sc_River_upstream : FnScope N_River_upstream ["self", "weir"] (defScope s_River_upstream) := ⟨rfl, rfl, rfl, by decide +kernel, rfl, by decide +kernel, by decide +kernel⟩
theorem ok_River_upstream {P : Program} {w : World} {K : PySem.W.Frag} {mg : Str → Option Value} {base : Heap} {f : Addr} {fd : FuncData} (F : FunD K "upstream" "River.upstream" (defArgs s_River_upstream) (defBody s_River_upstream) (defScope s_River_upstream) [] [] f fd) (B : Bf mg) (G : Gd K mg) (c_River_need : MCal P w K mg base 3 "River" "need" ["self", "weir"] (sp_River_need K)) :
    FnOk P w K mg base (L2.CX P w) 4 f fd ["self", "weir"] (sp_River_upstream K) := by
  refine F.ok sc_River_upstream (fun vs H Q E h => len_River_upstream h) (fun cdv A outer s H vs Q E hr h => ⟨t_River_upstream K E, ?_, pure_River_upstream G.river vs H Q E h⟩)
  have hu := hu_of hr
  have hu65 := hu65_of hr
  exact (pss_cons (ps_expr (pe_mcal (pv 0) c_River_need G.cl_River (hr.mono (by decide)) (passes_call (takes_of rfl rfl rfl rfl) (fun _ _ _ _ h => h)) (pa_cons (pv 1) pa_nil)))
  (pss_one (ps_ret (pe_callTy call_tuple_of (by rfl) B.tuple bt_tuple (pa_cons (pe_lc (own := [("one", 2)]) (by rfl) sc_River_upstream.nd (pi_tup (pe_fld (pv 0) rfl)) (blkOk_by (own := [("one", 2)]) (N := N_River_upstream) (sc := defScope s_River_upstream) (by decide +kernel)) (fun _ _ _ _ _ => (pg_name (i := 2) sc_River_upstream.nd rfl (Or.inl rfl))) (fun _ _ _ _ _ => (pts_one (pt_cmpR (op_inU hu65) (pv 1) (pe_dget hu (pe_fld (pv 0) rfl) (pv 2) (fun _ _ => rfl)) (by rfl)))) (fun _ _ _ _ _ => (pv 2))) pa_nil)))))
abbrev s_l_told_right : Stmt := top 25
theorem sc_l_told_right : FnScope N_l_told_right ["_law_river_here", "_law_rows"] (defScope s_l_told_right) := ⟨rfl, rfl, rfl, by decide +kernel, rfl, by decide +kernel, by decide +kernel⟩
theorem ok_l_told_right {P : Program} {w : World} {K : PySem.W.Frag} {mg : Str → Option Value} {base : Heap} {f : Addr} {fd : FuncData} (F : FunD K "_law_told_right" "_law_told_right" (defArgs s_l_told_right) (defBody s_l_told_right) (defScope s_l_told_right) [] [] f fd) (B : Bf mg) (G : Gd K mg) (c_River__len_ : MCal P w K mg base 1 "River" "__len__" ["self"] (sp_River__len_ K)) (c_River_rows : MCal P w K mg base 1 "River" "rows" ["self"] (sp_River_rows K)) (c_iter_River : IterOk P w K mg base (He.ma K (He.ga K "River") "__iter__") "weirs") :
    FnOk P w K mg base (L2.CX P w) 3 f fd ["_law_river_here", "_law_rows"] (sp_l_told_right K) := by
  refine F.ok sc_l_told_right (fun vs H Q E h => len_l_told_right h) (fun cdv A outer s H vs Q E hr h => ⟨t_l_told_right K, PSs.nox ?_, pure_l_told_right G.river vs H Q E h⟩)
  have hu := hu_of hr
  have hu65 := hu65_of hr
  exact (pss_cons (ps_setLc (i := 2) (own := [("_law_weir", 4), ("_law_below", 5)]) (by rfl) sc_l_told_right.nd rfl rfl (sw_true rfl rfl rfl (by decide +kernel)) (pi_list (pv 1)) (blkOk_by (own := [("_law_weir", 4), ("_law_below", 5)]) (N := N_l_told_right) (sc := defScope s_l_told_right) (by decide +kernel)) (fun _ _ _ _ _ => (pg_tup rfl (pgs_cons (pg_name (i := 4) sc_l_told_right.nd rfl (Or.inl rfl)) (pgs_cons (pg_name (i := 5) sc_l_told_right.nd rfl (Or.inl rfl)) pgs_nil)))) (fun _ _ _ _ _ => pts_nil) (fun _ _ _ _ _ => (pv 4)))
  (pss_cons (ps_if (PW.pt (pw_or (pt_cmpR (op_neU hr.units) (pe_fld (pv 0) rfl) (pe_callTy call_tuple_of (by rfl) B.tuple bt_tuple (pa_cons (pv 2) pa_nil)) (nomark _)) (pw_or (pt_cmpR (op_neU hr.units) (pe_callB (cr_lenOwn c_River__len_ (hr.mono (by decide))) (by rfl) B.len bt_len (pa_cons (pv 0) pa_nil)) (pe_callB cr_len (by rfl) B.len bt_len (pa_cons (pv 1) pa_nil)) (nomark _)) (pw_or1 (pt_cmpR (op_neU hr.units) (pe_lc (own := [("_law_one", 6)]) (by rfl) sc_l_told_right.nd (pi_own (pv 0) c_iter_River G.it_River (hr.mono (by decide))) (blkOk_by (own := [("_law_one", 6)]) (N := N_l_told_right) (sc := defScope s_l_told_right) (by decide +kernel)) (fun _ _ _ _ _ => (pg_name (i := 6) sc_l_told_right.nd rfl (Or.inl rfl))) (fun _ _ _ _ _ => pts_nil) (fun _ _ _ _ _ => (pv 6))) (pv 2) (nomark _)))))) (pss_one (ps_ret pe_bl)) pss_nil)
  (pss_cons (ps_set (i := 3) sc_l_told_right.nd rfl (Or.inl rfl) (pe_mcal0 (pv 0) c_River_rows G.cl_River (hr.mono (by decide)) passL))
  (pss_cons (ps_if (PW.pt (pw_or (pt_not (pt_val (pe_callB call_isi (by rfl) B.isinstance bt_isinstance (pa_cons (pv 3) (pa_cons (pe_bltn (by rfl) B.list (by decide +kernel) rfl) pa_nil))))) (pw_or1 (pt_cmpR (op_neU hr.units) (pv 3) (pv 1) (nomark _))))) (pss_one (ps_ret pe_bl)) pss_nil)
  (pss_cons (ps_expr (pe_bm0 PySem.F.plainAttrs_list PySem.F.slot_list_clear PySem.F.type_list_clear mt_clear (pv 3)))
  (pss_one (ps_ret (pe_and (pe_cmpR (op_eqU hr.units) (pe_mcal0 (pv 0) c_River_rows G.cl_River (hr.mono (by decide)) passL) (pv 1) (nomark _)) (pe_one (pe_cmpR (op_eqU hr.units) (pe_fld (pv 0) rfl) (pe_callTy call_tuple_of (by rfl) B.tuple bt_tuple (pa_cons (pv 2) pa_nil)) (nomark _)))))))))))
abbrev s_l_weir_right : Stmt := top 26
theorem sc_l_weir_right : FnScope N_l_weir_right ["_law_river_here", "_law_rows", "_law_courses", "_law_weir"] (defScope s_l_weir_right) := ⟨rfl, rfl, rfl, by decide +kernel, rfl, by decide +kernel, by decide +kernel⟩
theorem ok_l_weir_right {P : Program} {w : World} {K : PySem.W.Frag} {mg : Str → Option Value} {base : Heap} {f : Addr} {fd : FuncData} (F : FunD K "_law_weir_right" "_law_weir_right" (defArgs s_l_weir_right) (defBody s_l_weir_right) (defScope s_l_weir_right) [] [] f fd) (B : Bf mg) (G : Gd K mg) (c_River_above : MCal P w K mg base 4 "River" "above" ["self", "weir"] (sp_River_above K)) (c_River_below : MCal P w K mg base 4 "River" "below" ["self", "weir"] (sp_River_below K)) (c_River_course : MCal P w K mg base 4 "River" "course" ["self", "weir"] (sp_River_course K)) (c_River_depth : MCal P w K mg base 5 "River" "depth" ["self", "weir"] (sp_River_depth K)) (c_River_upstream : MCal P w K mg base 4 "River" "upstream" ["self", "weir"] (sp_River_upstream K)) (c_iter_River : IterOk P w K mg base (He.ma K (He.ga K "River") "__iter__") "weirs") :
    FnOk P w K mg base (L2.CX P w) 6 f fd ["_law_river_here", "_law_rows", "_law_courses", "_law_weir"] (sp_l_weir_right K) := by
  refine F.ok sc_l_weir_right (fun vs H Q E h => len_l_weir_right h) (fun cdv A outer s H vs Q E hr h => ⟨t_l_weir_right K, PSs.nox ?_, pure_l_weir_right G.river vs H Q E h⟩)
  have hu := hu_of hr
  have hu65 := hu65_of hr
  exact (pss_cons (ps_set (i := 4) sc_l_weir_right.nd rfl (Or.inl rfl) (pe_dget hu (pv 2) (pv 3) (fun _ _ => rfl)))
  (pss_cons (ps_if (PW.pt (pw_or (pt_cmpR (op_neU hr.units) (pe_mcal (pv 0) c_River_below G.cl_River (hr.mono (by decide)) passL (pa_cons (pv 3) pa_nil)) (pe_dget hu (pe_callTy (cr_dictP rfl) (by rfl) B.dict bt_dict (pa_cons (pv 1) pa_nil)) (pv 3) (fun _ _ => rfl)) (nomark _)) (pw_or (pt_cmpR (op_neU hr.units) (pe_mcal (pv 0) c_River_course G.cl_River (hr.mono (by decide)) passL (pa_cons (pv 3) pa_nil)) (pe_callTy call_tuple_of (by rfl) B.tuple bt_tuple (pa_cons (pv 4) pa_nil)) (nomark _)) (pw_or1 (pt_cmpR (op_notInOwn c_iter_River G.it_River (hr.mono (by decide)) hu65) (pv 3) (pv 0) (by rfl)))))) (pss_one (ps_ret pe_bl)) pss_nil)
  (pss_cons (ps_set (i := 5) sc_l_weir_right.nd rfl (Or.inl rfl) (pe_mcal (pv 0) c_River_depth G.cl_River (hr.mono (by decide)) passL (pa_cons (pv 3) pa_nil)))
  (pss_cons (ps_if (PW.pt (pw_or (pt_not (pt_val (pe_callB call_isi (by rfl) B.isinstance bt_isinstance (pa_cons (pv 5) (pa_cons (pe_bltn (by rfl) B.int (by decide +kernel) rfl) pa_nil))))) (pw_or (pt_val (pe_callB call_isi (by rfl) B.isinstance bt_isinstance (pa_cons (pv 5) (pa_cons (pe_bltn (by rfl) B.bool (by decide +kernel) rfl) pa_nil)))) (pw_or1 (pt_cmpR (op_neU hr.units) (pv 5) (pe_callB cr_len (by rfl) B.len bt_len (pa_cons (pv 4) pa_nil)) (nomark _)))))) (pss_one (ps_ret pe_bl)) pss_nil)
  (pss_cons (ps_if (pt_cmpR (op_neU hr.units) (pe_mcal (pv 0) c_River_above G.cl_River (hr.mono (by decide)) passL (pa_cons (pv 3) pa_nil)) (pe_callTy call_tuple_of (by rfl) B.tuple bt_tuple (pa_cons (pe_lc (own := [("_law_one", 6), ("_law_below", 7)]) (by rfl) sc_l_weir_right.nd (pi_list (pv 1)) (blkOk_by (own := [("_law_one", 6), ("_law_below", 7)]) (N := N_l_weir_right) (sc := defScope s_l_weir_right) (by decide +kernel)) (fun _ _ _ _ _ => (pg_tup rfl (pgs_cons (pg_name (i := 6) sc_l_weir_right.nd rfl (Or.inl rfl)) (pgs_cons (pg_name (i := 7) sc_l_weir_right.nd rfl (Or.inl rfl)) pgs_nil)))) (fun _ _ _ _ _ => (pts_one (pt_cmpR (op_eqU hr.units) (pv 7) (pv 3) (nomark _)))) (fun _ _ _ _ _ => (pv 6))) pa_nil)) (nomark _)) (pss_one (ps_ret pe_bl)) pss_nil)
  (pss_one (ps_ret (pe_cmpR (op_eqU hr.units) (pe_mcal (pv 0) c_River_upstream G.cl_River (hr.mono (by decide)) passL (pa_cons (pv 3) pa_nil)) (pe_callTy call_tuple_of (by rfl) B.tuple bt_tuple (pa_cons (pe_lc (own := [("_law_one", 6), ("_law_below", 7)]) (by rfl) sc_l_weir_right.nd (pi_list (pv 1)) (blkOk_by (own := [("_law_one", 6), ("_law_below", 7)]) (N := N_l_weir_right) (sc := defScope s_l_weir_right) (by decide +kernel)) (fun _ _ _ _ _ => (pg_tup rfl (pgs_cons (pg_name (i := 6) sc_l_weir_right.nd rfl (Or.inl rfl)) (pgs_cons (pg_name (i := 7) sc_l_weir_right.nd rfl (Or.inl rfl)) pgs_nil)))) (fun _ _ _ _ _ => (pts_one (pt_cmpR (op_inU hu65) (pv 3) (pe_dget hu (pv 2) (pv 6) (fun _ _ => rfl)) (by rfl)))) (fun _ _ _ _ _ => (pv 6))) pa_nil)) (nomark _)))))))))
abbrev s_l_equal_right : Stmt := top 27
theorem sc_l_equal_right : FnScope N_l_equal_right ["_law_bag_here", "_law_river_here", "_law_rows"] (defScope s_l_equal_right) := ⟨rfl, rfl, rfl, by decide +kernel, rfl, by decide +kernel, by decide +kernel⟩
theorem ok_l_equal_right {P : Program} {w : World} {K : PySem.W.Frag} {mg : Str → Option Value} {base : Heap} {f : Addr} {fd : FuncData} (F : FunD K "_law_equal_right" "_law_equal_right" (defArgs s_l_equal_right) (defBody s_l_equal_right) (defScope s_l_equal_right) [] [] f fd) (B : Bf mg) (G : Gd K mg) (c_River__eq_ : MCal P w K mg base 1 "River" "__eq__" ["self", "other"] (sp_River__eq_ K)) (c_River__init_ : ICal P w K mg base 4 "River" ["self", "rows"] (sp_River__init_ K)) (c_River_rows : MCal P w K mg base 1 "River" "rows" ["self"] (sp_River_rows K)) (c_l_is_whole : Cal P w K mg base 1 "_law_is_whole" ["_law_rows"] (sp_l_is_whole K)) (c_l_mixed : Cal P w K mg base 2 "_law_mixed" ["_law_bag_here", "_law_some"] (sp_l_mixed K)) (c_l_take : Cal P w K mg base 1 "_law_take" ["_law_bag_here", "_law_many"] (sp_l_take K)) :
    FnOk P w K mg base (L2.CX P w) 6 f fd ["_law_bag_here", "_law_river_here", "_law_rows"] (sp_l_equal_right K) := by
  refine F.ok sc_l_equal_right (fun vs H Q E h => len_l_equal_right h) (fun cdv A outer s H vs Q E hr h => ⟨t_l_equal_right K, PSs.nox ?_, pure_l_equal_right G.river G.ty vs H Q E h⟩)
  have hu := hu_of hr
  have hu65 := hu65_of hr
  exact (pss_cons (ps_set (i := 3) sc_l_equal_right.nd rfl (Or.inl rfl) (pe_cal c_l_take (hr.mono (by decide)) rfl passL (pa_cons (pv 0) (pa_cons (pe_callB cr_len (by rfl) B.len bt_len (pa_cons (pv 2) pa_nil)) pa_nil))))
  (pss_cons (ps_set (i := 4) sc_l_equal_right.nd rfl (Or.inl rfl) (pe_op op_cat (pe_op op_cat (pe_slice sl_list (pv 2) po_none (po_some (pv 3))) (pe_lst (pa_cons (pe_tup (pa_cons (pe_ix ix_seq (pe_ix ix_seq (pv 2) (pv 3) (fun _ _ => rfl)) pe_int (fun _ _ => rfl)) (pa_cons pe_str pa_nil))) pa_nil))) (pe_slice sl_list (pv 2) (po_some (pe_op op_add (pv 3) pe_int)) po_none)))
  (pss_cons (ps_for PassesOwn.never rfl (pi_list (pe_lst (pa_cons (pe_callTy call_list_of (by rfl) B.list bt_list (pa_cons (pv 2) pa_nil)) (pa_cons (pe_cal c_l_mixed (hr.mono (by decide)) rfl passL (pa_cons (pv 0) (pa_cons (pv 2) pa_nil))) (pa_cons (pv 4) (pa_cons (pe_ifExp (pt_val (pe_cal c_l_is_whole (hr.mono (by decide)) rfl passL (pa_cons (pe_slice sl_list (pv 2) (po_some pe_int) po_none) pa_nil))) (pe_slice sl_list (pv 2) (po_some pe_int) po_none) (pv 4)) pa_nil)))))) (pg_name (i := 5) sc_l_equal_right.nd rfl (Or.inl rfl)) (pss_cons (ps_set (i := 6) sc_l_equal_right.nd rfl (Or.inl rfl) (pe_mak c_River__init_ (hr.mono (by decide)) rfl passL (pa_cons (pv 5) pa_nil)))
  (pss_one (ps_if (PW.pt (pw_or (pt_cmpR (op_neU hr.units) (pe_cmpR (op_eqOwn c_River__eq_ (hr.mono (by decide))) (pv 1) (pv 6) (nomark _)) (pe_cmpR (op_eqU hr.units) (pv 5) (pv 2) (nomark _)) (nomark _)) (pw_or1 (pt_cmpR (op_neU hr.units) (pe_cmpR (op_neOwn c_River__eq_ G.ne_River (hr.mono (by decide))) (pv 1) (pv 6) (nomark _)) (pe_cmpR (op_neU hr.units) (pv 5) (pv 2) (nomark _)) (nomark _))))) (pss_one (ps_ret pe_bl)) pss_nil))))
  (pss_one (ps_ret (pe_not (pe_callB (cr_any rfl) (by rfl) B.any bt_any (pa_cons (pe_lc (own := [("_law_one", 7)]) (by rfl) sc_l_equal_right.nd (pi_list (pe_lst (pa_cons pe_non (pa_cons (pv 2) (pa_cons (pe_callTy call_tuple_of (by rfl) B.tuple bt_tuple (pa_cons (pv 2) pa_nil)) (pa_cons (pe_fld (pv 1) rfl) (pa_cons (pe_mcal0 (pv 1) c_River_rows G.cl_River (hr.mono (by decide)) passL) (pa_cons (pe_callB cr_len (by rfl) B.len bt_len (pa_cons (pv 2) pa_nil)) pa_nil)))))))) (blkOk_by (own := [("_law_one", 7)]) (N := N_l_equal_right) (sc := defScope s_l_equal_right) (by decide +kernel)) (fun _ _ _ _ _ => (pg_name (i := 7) sc_l_equal_right.nd rfl (Or.inl rfl))) (fun _ _ _ _ _ => pts_nil) (fun _ _ _ _ _ => (pe_cmpR (op_eqOwn c_River__eq_ (hr.mono (by decide))) (pv 1) (pv 7) (nomark _)))) pa_nil))))))))
abbrev s_law : Stmt := top 30
theorem sc_law : FnScope N_law ["_law_script"] (defScope s_law) := ⟨rfl, rfl, rfl, by decide +kernel, rfl, by decide +kernel, by decide +kernel⟩
theorem ok_law {P : Program} {w : World} {K : PySem.W.Frag} {mg : Str → Option Value} {base : Heap} {f : Addr} {fd : FuncData} (F : FunD K "law" "law" (defArgs s_law) (defBody s_law) (defScope s_law) [] [] f fd) (B : Bf mg) (G : Gd K mg) (c_River__init_ : ICal P w K mg base 4 "River" ["self", "rows"] (sp_River__init_ K)) (c_River_above : MCal P w K mg base 4 "River" "above" ["self", "weir"] (sp_River_above K)) (c_l_bag : Cal P w K mg base 1 "_law_bag" ["_law_script", "_law_at", "_law_salt"] (sp_l_bag K)) (c_l_course : Cal P w K mg base 1 "_law_course" ["_law_rows", "_law_weir"] (sp_l_course K)) (c_l_equal_right : Cal P w K mg base 6 "_law_equal_right" ["_law_bag_here", "_law_river_here", "_law_rows"] (sp_l_equal_right K)) (c_l_refuses_right : Cal P w K mg base 9 "_law_refuses_right" ["_law_bag_here", "_law_river_here", "_law_rows"] (spK_l_refuses_right K)) (c_l_river : Cal P w K mg base 4 "_law_river" ["_law_bag_here", "_law_many"] (sp_l_river K)) (c_l_take : Cal P w K mg base 1 "_law_take" ["_law_bag_here", "_law_many"] (sp_l_take K)) (c_l_told_right : Cal P w K mg base 3 "_law_told_right" ["_law_river_here", "_law_rows"] (sp_l_told_right K)) (c_l_weir_right : Cal P w K mg base 6 "_law_weir_right" ["_law_river_here", "_law_rows", "_law_courses", "_law_weir"] (sp_l_weir_right K)) :
    FnOk P w K mg base (L2.CX P w) 10 f fd ["_law_script"] (sp_law K) := by
  refine F.ok sc_law (fun vs H Q E h => len_law h) (fun cdv A outer s H vs Q E hr h => ⟨t_law K, PSs.nox ?_, pure_law vs H Q E h⟩)
  have hu := hu_of hr
  have hu65 := hu65_of hr
  exact (pss_cons (ps_for PassesOwn.never rfl (pi_range1 rfl B.range (pa_cons (pe_callB (call_max2 rfl) (by rfl) B.max bt_max (pa_cons pe_int (pa_cons (pe_callB (call_min2 rfl) (by rfl) B.min bt_min (pa_cons pe_int (pa_cons (pe_callB cr_len (by rfl) B.len bt_len (pa_cons (pv 0) pa_nil)) pa_nil))) pa_nil))) pa_nil)) (pg_name (i := 1) sc_law.nd rfl (Or.inl rfl)) (pss_cons (ps_set (i := 2) sc_law.nd rfl (Or.inl rfl) (pe_cal c_l_bag (hr.mono (by decide)) rfl passL (pa_cons (pv 0) (pa_cons (pv 1) (pa_cons pe_int pa_nil)))))
  (pss_cons (ps_set (i := 3) sc_law.nd rfl (Or.inr rfl) (pe_cal c_l_river (hr.mono (by decide)) rfl passL (pa_cons (pv 2) (pa_cons (pe_op op_add pe_int (pe_cal c_l_take (hr.mono (by decide)) rfl passL (pa_cons (pv 2) (pa_cons (pe_ifExp (pt_cmpR (op_eqU hr.units) (pe_cal c_l_take (hr.mono (by decide)) rfl passL (pa_cons (pv 2) (pa_cons pe_int pa_nil))) pe_int (nomark _)) pe_int pe_int) pa_nil)))) pa_nil))))
  (pss_cons (ps_asg (pe_tup (pa_cons (pe_callTy call_list_of (by rfl) B.list bt_list (pa_cons (pv 3) pa_nil)) (pa_cons (pe_callTy (cr_dictP rfl) (by rfl) B.dict bt_dict (pa_cons (pe_lc (own := [("_law_weir", 8), ("_law_below", 9)]) (by rfl) sc_law.nd (pi_list (pv 3)) (blkOk_by (own := [("_law_weir", 8), ("_law_below", 9)]) (N := N_law) (sc := defScope s_law) (by decide +kernel)) (fun _ _ _ _ _ => (pg_tup rfl (pgs_cons (pg_name (i := 8) sc_law.nd rfl (Or.inl rfl)) (pgs_cons (pg_name (i := 9) sc_law.nd rfl (Or.inl rfl)) pgs_nil)))) (fun _ _ _ _ _ => pts_nil) (fun _ _ _ _ _ => (pe_tup (pa_cons (pv 8) (pa_cons (pe_cal c_l_course (hr.mono (by decide)) rfl passL (pa_cons (pv 3) (pa_cons (pv 8) pa_nil))) pa_nil))))) pa_nil)) pa_nil))) (pg_tup rfl (pgs_cons (pg_name (i := 4) sc_law.nd rfl (Or.inl rfl)) (pgs_cons (pg_name (i := 5) sc_law.nd rfl (Or.inr rfl)) pgs_nil))))
  (pss_cons (ps_set (i := 6) sc_law.nd rfl (Or.inr rfl) (pe_mak c_River__init_ (hr.mono (by decide)) rfl passL (pa_cons (pv 4) pa_nil)))
  (pss_cons (ps_if (pt_cmpR (op_neU hr.units) (pv 4) (pv 3) (nomark _)) (pss_one (ps_ret pe_bl)) pss_nil)
  (pss_cons (ps_asg pe_non (pg_sub (pv 4) (pe_cal c_l_take (hr.mono (by decide)) rfl passL (pa_cons (pv 2) (pa_cons (pe_callB cr_len (by rfl) B.len bt_len (pa_cons (pv 3) pa_nil)) pa_nil))) set_list))
  (pss_cons (ps_expr (pe_bm PySem.F.plainAttrs_list PySem.F.slot_list_append PySem.F.type_list_append mt_append (pv 4) (pa_cons (pe_tup (pa_cons pe_str (pa_cons pe_str pa_nil))) pa_nil)))
  (pss_cons (ps_for PassesOwn.never rfl (pi_range1 rfl B.range (pa_cons pe_int pa_nil)) (pg_name (i := 7) sc_law.nd rfl (Or.inl rfl)) (pss_cons (ps_if (PW.pt (pw_or (pt_not (pt_val (pe_cal c_l_told_right (hr.mono (by decide)) rfl passL (pa_cons (pv 6) (pa_cons (pv 3) pa_nil))))) (pw_or1 (pt_not (pt_val (pe_cal c_l_refuses_right (hr.mono (by decide)) rfl passL (pa_cons (pv 2) (pa_cons (pv 6) (pa_cons (pv 3) pa_nil))))))))) (pss_one (ps_ret pe_bl)) pss_nil)
  (pss_cons (ps_if (pt_not (pt_val (pe_callB (cr_all rfl) (by rfl) B.all bt_all (pa_cons (pe_lc (own := [("_law_weir", 8), ("_law_below", 9)]) (by rfl) sc_law.nd (pi_list (pv 3)) (blkOk_by (own := [("_law_weir", 8), ("_law_below", 9)]) (N := N_law) (sc := defScope s_law) (by decide +kernel)) (fun _ _ _ _ _ => (pg_tup rfl (pgs_cons (pg_name (i := 8) sc_law.nd rfl (Or.inl rfl)) (pgs_cons (pg_name (i := 9) sc_law.nd rfl (Or.inl rfl)) pgs_nil)))) (fun _ _ _ _ _ => pts_nil) (fun _ _ _ _ _ => (pe_cal c_l_weir_right (hr.mono (by decide)) rfl passL (pa_cons (pv 6) (pa_cons (pv 3) (pa_cons (pv 5) (pa_cons (pv 8) pa_nil))))))) pa_nil)))) (pss_one (ps_ret pe_bl)) pss_nil)
  (pss_one (ps_if (pt_cmpR (op_neU hr.units) (pe_mcal (pv 6) c_River_above G.cl_River (hr.mono (by decide)) passL (pa_cons pe_str pa_nil)) (pe_callTy call_tuple_of (by rfl) B.tuple bt_tuple (pa_cons (pe_lc (own := [("_law_weir", 8), ("_law_below", 9)]) (by rfl) sc_law.nd (pi_list (pv 3)) (blkOk_by (own := [("_law_weir", 8), ("_law_below", 9)]) (N := N_law) (sc := defScope s_law) (by decide +kernel)) (fun _ _ _ _ _ => (pg_tup rfl (pgs_cons (pg_name (i := 8) sc_law.nd rfl (Or.inl rfl)) (pgs_cons (pg_name (i := 9) sc_law.nd rfl (Or.inl rfl)) pgs_nil)))) (fun _ _ _ _ _ => (pts_one (pt_cmpR (op_eqU hr.units) (pv 9) pe_str (nomark _)))) (fun _ _ _ _ _ => (pv 8))) pa_nil)) (nomark _)) (pss_one (ps_ret pe_bl)) pss_nil)))))
  (pss_one (ps_if (pt_not (pt_val (pe_cal c_l_equal_right (hr.mono (by decide)) rfl passL (pa_cons (pv 2) (pa_cons (pv 6) (pa_cons (pv 3) pa_nil)))))) (pss_one (ps_ret pe_bl)) pss_nil)))))))))))
  (pss_one (ps_ret pe_bl)))
end WK
namespace WK
open PySem L2
open LamX (CodeO TabS Tabs ExtN TabB LamS lamEnv lamCx)
/-! ### __iter__, the error's __init__ -/
abbrev s_River__iter_ : Stmt := inClass (top 14) 2
theorem sc_River__iter_ : FnScope ["self"] ["self"] (defScope s_River__iter_) := ⟨rfl, rfl, rfl, by decide +kernel, rfl, by decide +kernel, by decide +kernel⟩
theorem ok_River__iter_ {P : Program} {w : World} {K : PySem.W.Frag} {mg : Str → Option Value} {base : Heap} {f : Addr} {fd : FuncData} (F : FunD K "__iter__" "River.__iter__" (defArgs s_River__iter_) (defBody s_River__iter_) (defScope s_River__iter_) [] [] f fd) (hb : L2.Binds K fd ["self"] []) (B : Bf mg) : IterOk P w K mg base f "weirs" :=
  iter_of F sc_River__iter_ hb B.iter rfl (Or.inl rfl) (fun _ => rfl)
abbrev s_NoWeir__init_ : Stmt := inClass (top 4) 0
theorem sc_NoWeir__init_ : FnScope ["self", "name"] ["self", "name"] (defScope s_NoWeir__init_) := ⟨rfl, rfl, rfl, by decide +kernel, rfl, by decide +kernel, by decide +kernel⟩
theorem ok_NoWeir__init_ {P : Program} {w : World} {K : PySem.W.Frag} {mg : Str → Option Value} {base : Heap} {f : Addr} {fd : FuncData} (F : FunD K "__init__" "NoWeir.__init__" (defArgs s_NoWeir__init_) (defBody s_NoWeir__init_) (defScope s_NoWeir__init_) [] [] f fd) (GX : GExc K "NoWeir" "name") :
    FnOk P w K mg base (L2.CX P w) 1 f fd ["self", "name"] (sp_NoWeir__init_ K) := by
  refine F.ok sc_NoWeir__init_ (fun vs H Q E h => len_xinit h) (fun cdv A outer s H vs Q E hr h => ⟨t_xinit "name" K, PSs.nox ?_, pure_xinit GX rfl vs H Q E h⟩)
  exact pss_one (ps_ost (pv 0) (pv 1))
end WK
namespace WK
open PySem L2
open LamX (CodeO TabS Tabs ExtN TabB LamS lamEnv lamCx)
/-! ### _law_refused -/
structure GErr (K : PySem.W.Frag) (mg : Str → Option Value) : Prop where
  we : mg "WeirError" = some (.ref (He.ga K "WeirError"))
  nw : mg "NoWeir" = some (.ref (He.ga K "NoWeir"))
  nr : mg "NoRight" = some (.ref (He.ga K "NoRight"))
  exm : PySem.W.exmOne K (.ref (He.ga K "NoWeir")) (.ref (He.ga K "WeirError")) = some true
  ec : ExcC K (He.ga K "NoWeir")
  xf : XfC K (He.ga K "NoWeir")
  no : PySem.W.findIn K (.ref (He.ga K "NoWeir")) "name" = some none
  k1 : PySem.W.kitOne K (.ref (He.ga K "NoWeir")) (.ref (He.ga K "NoWeir")) = some true
  k2 : PySem.W.kitOne K (.ref (He.ga K "NoWeir")) (.ref (He.ga K "NoRight")) = some false
  k3 : PySem.W.kitOne K (.ref (He.ga K "NoWeir")) (.type "ValueError") = some true
abbrev s_l_refused : Stmt := top 23
abbrev N_l_refused : List Str := ["_law_ask", "_law_odd_here", "e"]
theorem sc_l_refused : FnScope N_l_refused ["_law_ask", "_law_odd_here"] (defScope s_l_refused) := ⟨rfl, rfl, rfl, by decide +kernel, rfl, by decide +kernel, by decide +kernel⟩
def t_refSuite (K : PySem.W.Frag) (a : Addr) (cls : Value) (d : Option Addr) : TS :=
  (tSeq (tIfS (tOr (tNot (tB (tCB (rIsX K (He.ga K "NoWeir") a cls d) (tCons (tVar 2) (tCons (tC (.ref (He.ga K "NoWeir"))) tNil))))) (tOr (tB (tCB (rIsX K (He.ga K "NoWeir") a cls d) (tCons (tVar 2) (tCons (tC (.ref (He.ga K "NoRight"))) tNil)))) (tNot (tB (tCB (rIsX K (He.ga K "NoWeir") a cls d) (tCons (tVar 2) (tCons (tC (.ty "ValueError")) tNil))))))) (tRet (tC (.bl false))) tNext)
  (tRet (tAndV (tOp (rEqU K) (tXf a cls d (He.ga K "NoWeir") "name" (tVar 2)) (tVar 1)) (tOp (rEqU K) (tCB (rIsi K) (tCons (tXf a cls d (He.ga K "NoWeir") "name" (tVar 2)) (tCons (tC (.ty "bool")) tNil))) (tCB (rIsi K) (tCons (tVar 1) (tCons (tC (.ty "bool")) tNil)))))))
local macro_rules | `(tactic| walk_at "kb") => `(tactic| first | exact kb_str_str | exact kb_str_int | exact kb_str_bool | exact kb_str_list | exact kb_str_tuple | exact kb_str_dict | exact kb_int_str | exact kb_int_int | exact kb_int_bool | exact kb_int_list | exact kb_int_tuple | exact kb_int_dict | exact kb_bool_str | exact kb_bool_int | exact kb_bool_bool | exact kb_bool_list | exact kb_bool_tuple | exact kb_bool_dict | exact kb_list_str | exact kb_list_int | exact kb_list_bool | exact kb_list_list | exact kb_list_tuple | exact kb_list_dict | exact kb_tuple_str | exact kb_tuple_int | exact kb_tuple_bool | exact kb_tuple_list | exact kb_tuple_tuple | exact kb_tuple_dict | exact kb_dict_str | exact kb_dict_int | exact kb_dict_bool | exact kb_dict_list | exact kb_dict_tuple | exact kb_dict_dict | exact kb_NoneType_str | exact kb_NoneType_int | exact kb_NoneType_bool | exact kb_NoneType_list | exact kb_NoneType_tuple | exact kb_NoneType_dict)
local macro_rules | `(tactic| walk_at "hn") => `(tactic| first
  | assumption
  | ((with_reducible refine' Ex.nn ?hne ?hnh); (case hnh => assumption); (case hne => walk_at "ex"))
  | ((with_reducible refine' Kp.nn ?hnk ?hnb ?hnh); (case hnh => assumption); (case hnk => assumption); (case hnb => assumption))
  | ((with_reducible refine del_none ?_); walk_at "hn")
  | ((with_reducible refine' Eq.trans (upd_ne ?hnq) ?_); (case hnq => walk_at "ne"); walk_at "hn"))
local macro_rules | `(tactic| walk_at "ne") => `(tactic| first
  | assumption
  | exact Ne.symm (by assumption)
  | exact Bag.ne (by assumption) (by assumption)
  | exact Ne.symm (Bag.ne (by assumption) (by assumption))
  | exact ne_of_none (by assumption) (by assumption)
  | exact Ne.symm (ne_of_none (by assumption) (by assumption)))
local macro_rules | `(tactic| walk_at "ex") => `(tactic| first
  | assumption
  | with_reducible exact Ex.refl _
  | ((with_reducible refine' Ex.mut ?exm ?exn); (case exn => walk_at "hn"); (case exm => walk_at "ex"))
  | ((with_reducible refine' Ex.trans ?exa ?exb); (case exb => assumption); (case exa => walk_at "ex"))
  | ((with_reducible refine' Ex.trans ?exa (Ex.new ?exn)); (case exn => walk_at "hn"); (case exa => walk_at "ex")))
local macro_rules | `(tactic| walk_at "hp") => `(tactic| first
  | assumption
  | with_reducible exact upd_same
  | ((with_reducible refine' up_new ?hpn ?hpr); (case hpn => walk_at "hn"); (case hpr => walk_at "hp"))
  | ((with_reducible refine' up_ne ?hpn ?hpr); (case hpr => walk_at "hp"); (case hpn => walk_at "ne"))
  | ((with_reducible refine' hp_kp ?hph ?hpk); (case hph => assumption); (case hpk => assumption))
  | ((with_reducible refine' hp_del ?hph); (case hph => assumption))
  | ((with_reducible refine' hp_ex ?hph ?hpe); (case hph => assumption); (case hpe => walk_at "ex")))
local macro_rules | `(tactic| walk_at "sq") => `(tactic| first
  | assumption
  | ((with_reducible refine' SqL.of ?sof); (case sof => walk_at "hp"))
  | ((with_reducible refine' SqT.of ?sof); (case sof => walk_at "hp"))
  | ((with_reducible refine' sl_new ?hpn ?hpr); (case hpn => walk_at "hn"); (case hpr => walk_at "sq"))
  | ((with_reducible refine' st_new ?hpn ?hpr); (case hpn => walk_at "hn"); (case hpr => walk_at "sq"))
  | ((with_reducible refine' sl_kp ?hph ?hpk); (case hph => assumption); (case hpk => assumption))
  | ((with_reducible refine' st_kp ?hph ?hpk); (case hph => assumption); (case hpk => assumption))
  | ((with_reducible refine' sl_del ?hph); (case hph => assumption))
  | ((with_reducible refine' st_del ?hph); (case hph => assumption))
  | ((with_reducible refine' sl_ex ?hph ?hpe); (case hph => assumption); (case hpe => walk_at "ex"))
  | ((with_reducible refine' st_ex ?hph ?hpe); (case hph => assumption); (case hpe => walk_at "ex")))
local macro_rules | `(tactic| walk_at "ty") => `(tactic| first
  | exact TyX.base (.str _)
  | exact TyX.base (.int _)
  | exact TyX.base (.bl _)
  | exact TyX.base .non
  | exact ty_L (by walk_at "sq")
  | exact ty_T (by walk_at "sq"))
local macro_rules | `(tactic| walk_at "sz") => `(tactic| first | omega | exact sz_le (by omega) | exact sz_lt (by omega) | (refine sz_le ?_; simp; omega) | (refine sz_lt ?_; simp; omega) | (refine sz_le ?_; simp))
local macro_rules | `(tactic| walk_at "side") => `(tactic| first | assumption | omega | (refine ⟨?_, ?_⟩ <;> omega) | (exact .inl ⟨by omega, by omega⟩) | (exact .inr ⟨by omega, by omega⟩) | (exact ⟨by decide, by decide, by decide⟩) | rfl)
local macro_rules | `(tactic| walk_at "g1") => `(tactic| first
  | with_reducible first
    | refine g_seq ?_ | refine g_asg ?_ | refine g_name ?_ | refine g_op ?_ | refine g_c ?_ | refine g_cons ?_ | refine g_nil ?_ | refine g_cb ?_ | refine g_call ?_ | refine g_ret ?_ | refine g_drop ?_ | refine g_next ?_
    | refine g_ifS ?_ | refine g_if ?_ | refine g_test ?_ | refine g_tB ?_ | refine g_bl ?_ | refine g_and ?_ | refine g_or ?_ | refine g_not ?_ | refine g_andV ?_ | refine g_orV ?_ | refine g_notV ?_
    | refine g_un ?_ | refine g_neg ?_ | refine g_rI0 ?_ | refine g_int1 ?_ | refine g_abs ?_ | refine g_mx2 ?_ | refine g_mn2 ?_ | refine g_par ?_ | refine g_par2 ?_ | refine g_chain ?_
    | refine g_for ?_ | refine g_lc ?_ | refine g_dc ?_ | refine g_iList ?_ | refine g_iTup ?_ | refine g_iStr ?_ | refine g_iRng1 ?_ | refine g_iEnum ?_ | refine g_itS ?_ | refine g_gcons ?_ | refine g_gnil ?_
    | refine g_dget ?_ | refine g_dput ?_ | refine g_dnew ?_ | refine g_inSg ?_ | refine g_notNn ?_ | refine g_isNn ?_ | refine g_sl ?_ | refine g_nopart ?_ | refine g_part ?_ | refine g_parti ?_ | refine g_meth ?_ | refine g_make ?_ | refine g_fldE ?_ | refine g_sfld ?_
    | refine g_sub ?_ | refine g_lst ?_ | refine g_tup ?_ | refine g_bm ?_ | refine g_bm0 ?_ | refine g_tyS ?_ | refine g_yes ?_ | refine iteT ?_ | refine iteF ?_ | refine iteNT ?_ | refine iteNF ?_
  | ((with_reducible refine' g_var ?ev ?_); (case ev => rfl))
  | ((with_reducible refine' g_rI ?ec ?_); (case ec => walk_at "side"))
  | ((with_reducible refine' g_ixL ?es ?ea ?_); (case es => walk_at "sq"); (case ea => first | rfl | assumption))
  | ((with_reducible refine' g_ixT ?es ?ea ?_); (case es => walk_at "sq"); (case ea => first | rfl | assumption))
  | ((with_reducible refine' g_lenL ?es ?_); (case es => walk_at "sq"))
  | ((with_reducible refine' g_lenT ?es ?_); (case es => walk_at "sq"))
  | ((with_reducible refine' g_lenS ?es ?_); (case es => walk_at "sz"))
  | ((with_reducible refine' g_lenD ?es ?_); (case es => walk_at "hp"))
  | ((with_reducible refine' g_listL ?es ?_); (case es => walk_at "sq"))
  | ((with_reducible refine' g_listT ?es ?_); (case es => walk_at "sq"))
  | ((with_reducible refine' g_tupL ?es ?_); (case es => walk_at "sq"))
  | ((with_reducible refine' g_tyL ?es ?_); (case es => walk_at "sq"))
  | ((with_reducible refine g_eqS ?es ?_); (case es => rfl))
  | ((with_reducible refine g_neS ?es ?_); (case es => rfl))
  | ((with_reducible refine' g_inDcS ?es ?_); (case es => walk_at "hp"))
  | ((with_reducible refine' g_notInDcS ?es ?_); (case es => walk_at "hp"))
  | ((with_reducible refine' g_dgetS ?es ?ev ?_); (case es => walk_at "hp"); (case ev => first | assumption | walk_at "dv"))
  | ((with_reducible refine' g_dputS ?es ?el ?_); (case es => walk_at "hp"); (case el => walk_at "sz"))
  | ((with_reducible refine' g_fldI ?es ?ec ?en ?el ?_); (case es => walk_at "hp"); (case ec => assumption); (case en => assumption); (case el => first | assumption | walk_at "fl"))
  | ((with_reducible refine' g_methI ?es ?em ?_); (case es => walk_at "hp"); (case em => first | assumption | walk_at "fl"))
  | ((with_reducible refine' g_sfldI ?es ?ec ?en ?el ?_); (case es => walk_at "hp"); (case ec => assumption); (case en => assumption); (case el => first | assumption | walk_at "fl"))
  | ((with_reducible refine' g_isi ?et ?ek ?_); (case et => walk_at "ty"); (case ek => walk_at "kb"))
  | ((with_reducible refine g_addT ?el ?_); (case el => walk_at "sz"))
  | ((with_reducible refine' g_cat ?e1 ?e2 ?el ?_); (case e1 => walk_at "hp"); (case e2 => walk_at "hp"); (case el => walk_at "sz"))
  | ((with_reducible refine' g_slL ?es ?_); (case es => walk_at "sq"))
  | ((with_reducible refine g_slS ?el ?_); (case el => walk_at "sz"))
  | ((with_reducible refine' g_itL ?es ?_); (case es => walk_at "sq"))
  | ((with_reducible refine' g_itT ?es ?_); (case es => walk_at "sq"))
  | ((with_reducible refine' g_itE ?es ?_); (case es => walk_at "sq"))
  | ((with_reducible refine' g_itR ?es ?_); (case es => (constructor <;> omega)))
  | ((with_reducible refine' g_gtup ?es ?en ?_); (case es => walk_at "sq"); (case en => first | rfl | assumption))
  | ((with_reducible refine' g_setL ?es ?ej ?_); (case es => walk_at "hp"); (case ej => first | rfl | assumption))
  | ((with_reducible refine' g_app ?es ?el ?_); (case es => walk_at "hp"); (case el => walk_at "sz")))
local macro_rules | `(tactic| walk_at "go") => `(tactic| repeat (walk_at "g1"))
theorem g_isX {K : PySem.W.Frag} {D a dd : Addr} {H : Hp} {Q : VK} {c : V} {cv : Value} {b : Bool} {fs : List (Str × V)} (hc : ClsV c cv) (hx : H dd = some (.xd fs)) (hk : PySem.W.kitOne K (.ref D) cv = some b) (h : Q (.bl b) H) : rIsX K D a (.ref D) (some dd) [.ref a, c] H Q := ⟨c, cv, b, dd, fs, rfl, hc, rfl, rfl, hx, hk, h⟩
theorem g_isT {K : PySem.W.Frag} {H : Hp} {Q : VK} {x : V} {T U : String} {b : Bool} (ty : TyX K H x (.type T)) (hk : kitB T U = some b) (h : Q (.bl b) H) : rIsi K [x, .ty U] H Q := ⟨x, .ty U, .type T, .type U, b, rfl, .ty U, ty, kit_ty hk, h⟩
theorem g_xf {a dd C : Addr} {f : Str} {te : TE} {σ : L2.St} {H : Hp} {Q : VK} {fs : List (Str × V)} {v : V} (ht : ∀ R : VK, R (.ref a) H → te σ H R) (hx : H dd = some (.xd fs)) (hl : fs.lookup f = some v) (h : Q v H) : tXf a (.ref C) (some dd) C f te σ H Q := ht _ ⟨rfl, rfl, dd, fs, v, rfl, hx, hl, h⟩
theorem pure_refSuite {K : PySem.W.Frag} {mg : Str → Option Value} (G : GErr K mg) {f a dd : Addr} {v : V} {dv : PyData} {H : Hp} {Q : VK} {D : Ends} (hrt : D.rt = Q) (hx : H dd = some (.xd [("name", v)])) (hd : Dp K H v dv) (sh : SeqAt.shaped dv = true) (eq : PyData.eqv dv dv = true) (k : Q (.bl true) H) :
    t_refSuite K a (.ref (He.ga K "NoWeir")) (some dd) D [some (.ref f), some v, some (.ref a)] H := by
  obtain ⟨N, b, ty, kb⟩ := dp_ty hd
  have lk : List.lookup ("name" : Str) [(("name" : Str), v)] = some v := by rw [lk_cons, if_pos rfl]
  have xf : ∀ R : VK, R v H → tXf a (.ref (He.ga K "NoWeir")) (some dd) (He.ga K "NoWeir") "name" (tVar 2) [some (.ref f), some v, some (.ref a)] H R := fun R h => g_xf (fun R h => ⟨_, rfl, h⟩) hx lk h
  unfold t_refSuite
  walk_at "go"
  refine g_isX (.own _) hx G.k1 ?_
  walk_at "go"
  refine g_isX (.own _) hx G.k2 ?_
  walk_at "go"
  refine g_isX (.ty _) hx G.k3 ?_
  walk_at "go"
  refine xf _ ?_
  walk_at "go"
  refine g_eqD hd hd sh sh ?_
  rw [eq]
  walk_at "go"
  refine xf _ ?_
  refine g_cons (g_c (g_nil ?_))
  refine g_isT ty kb ?_
  refine g_cb (g_cons (g_var rfl (g_cons (g_c (g_nil ?_)))))
  refine g_isT ty kb ?_
  refine g_eqS rfl ?_
  rw [show decide (V.bl b = V.bl b) = true from decide_eq_true rfl, hrt]
  exact k
end WK
namespace WK
open PySem L2
open LamX (CodeO TabS Tabs ExtN TabB LamS lamEnv lamCx)
theorem gives_refused {X : Cx} {g : Addr} {cdg : Value} {q : Str} (B : Bf X.mg) (G : GErr X.K X.mg) : Gives2 X N_l_refused "_law_refused" (defScope s_l_refused) g cdg (defBody s_l_refused) "_law_ask" q (TTref X.K) := by
  intro f c' s H v Q tl hr act hc h
  have hu := hr.units
  refine ⟨_, pss_cons (ps_try_as (X := (cxOf C8.CX0 X.prog X.w X.K X.mg X.base N_l_refused "_law_refused" (defScope s_l_refused) g cdg X.A X.stack s H C8.E0).nox) (c := .ref (He.ga X.K "WeirError")) (i := 2) (ts := t_refSuite X.K)
      (tb := fun W D σ H => ∃ Ech : L2.St → XK, (∀ σ' cls d H', Ech σ' cls d H' → W cls d σ' H') ∧ σ[0]? = some (some (.ref f)) ∧ H c' = some (CodeO c' q) ∧ tl (Ech σ) H fun _ H' => D.nx σ H')
      rfl rfl sc_l_refused.nd rfl rfl ⟨rfl, by decide, .inl G.we⟩ LamX.takes0 (fun W pn xe tk _ => ?_) (fun a oe cls d pn hz hf => ?_)) (pss_one (ps_ret pe_bl)), ?_⟩
  · refine ⟨fun pins s' σ H' D I h' => ?_⟩
    obtain ⟨Ech, hW, h1, h2, h3⟩ := h'
    exact (pss_one (ps_expr (act W pn xe Ech _ _ tk hW))).run pins s' σ H' D I ⟨h1, h2, h3⟩
  · exact (pss_cons (ps_if (PW.pt (pw_or (pt_not (pt_val (pe_callB (call_isX G.ec hz hf) (by rfl) B.isinstance bt_isinstance (pa_cons (pv 2) (pa_cons (pe_glob rfl G.nw rfl) pa_nil))))) (pw_or (pt_val (pe_callB (call_isX G.ec hz hf) (by rfl) B.isinstance bt_isinstance (pa_cons (pv 2) (pa_cons (pe_glob rfl G.nr rfl) pa_nil)))) (pw_or1 (pt_not (pt_val (pe_callB (call_isX G.ec hz hf) (by rfl) B.isinstance bt_isinstance (pa_cons (pv 2) (pa_cons (pe_bltn (by rfl) B.ValueError (by decide +kernel) rfl) pa_nil))))))))) (pss_one (ps_ret pe_bl)) pss_nil)
      (pss_one (ps_ret (pe_and (pe_cmpR (op_eqU hu) (pe_xf G.xf G.no hz hf (pv 2)) (pv 1) (nomark _)) (pe_one (pe_cmpR (op_eqU hu) (pe_callB call_isi (by rfl) B.isinstance bt_isinstance (pa_cons (pe_xf G.xf G.no hz hf (pv 2)) (pa_cons (pe_bltn (by rfl) B.bool (by decide +kernel) rfl) pa_nil))) (pe_callB call_isi (by rfl) B.isinstance bt_isinstance (pa_cons (pv 1) (pa_cons (pe_bltn (by rfl) B.bool (by decide +kernel) rfl) pa_nil))) (nomark _)))))))
  · have key : ∀ P : XK, tl P H (fun _ H' => Q (.bl false) H') → (∀ cls d H', P cls d H' → cls = .ref (He.ga X.K "NoWeir") ∧ ∃ dd dv, d = some dd ∧ H' dd = some (.xd [("name", v)]) ∧ Dp X.K H' v dv ∧ SeqAt.shaped dv = true ∧ PyData.eqv dv dv = true ∧ Q (.bl true) H') →
        ∃ Ech : L2.St → XK, (∀ σ' cls d H', Ech σ' cls d H' → wAs X.K (.ref (He.ga X.K "WeirError")) 2 (t_refSuite X.K) (fun _ _ _ _ => False) { nx := tRet (tC (.bl false)) { nx := fun _ H' => Q .non H', rt := Q }, rt := Q } cls d σ' H') ∧ (L2.start N_l_refused [.ref f, v])[0]? = some (some (.ref f)) ∧ H c' = some (CodeO c' q) ∧ tl (Ech (L2.start N_l_refused [.ref f, v])) H fun _ H' => Q (.bl false) H' := by
      intro P hP hE
      refine ⟨fun σ' cls d H' => σ' = L2.start N_l_refused [.ref f, v] ∧ P cls d H', ?_, rfl, hc, ?_⟩
      · rintro σ' cls d H' ⟨rfl, p⟩
        obtain ⟨rfl, dd, dv, rfl, hx, hd, sh, eq, k⟩ := hE cls d H' p
        exact ⟨true, G.exm, fun _ a ha => pure_refSuite G rfl hx hd sh eq k, fun z => by cases z⟩
      · have e : (fun (cls : Value) (d : Option Addr) (H' : Hp) => L2.start N_l_refused [.ref f, v] = L2.start N_l_refused [.ref f, v] ∧ P cls d H') = P := funext fun cls => funext fun d => funext fun H' => propext ⟨fun h => h.2, fun h => ⟨rfl, h⟩⟩
        show tl (fun (cls : Value) (d : Option Addr) (H' : Hp) => L2.start N_l_refused [.ref f, v] = L2.start N_l_refused [.ref f, v] ∧ P cls d H') H _
        rw [e]; exact hP
    exact key _ h fun cls d H' z => z
end WK
namespace WK
open PySem L2
open LamX (CodeO TabS Tabs ExtN TabB LamS lamEnv lamCx)
abbrev s_l_refuses_right : Stmt := top 29
theorem sc_l_refuses_right : FnScope N_l_refuses_right ["_law_bag_here", "_law_river_here", "_law_rows"] (defScope s_l_refuses_right) := ⟨rfl, rfl, rfl, by decide +kernel, rfl, by decide +kernel, by decide +kernel⟩
theorem lamS1 : LamS (defScope s_l_refuses_right) { kind := ScopeKind.function, names := [("_law_odd_here", NameKind.free), ("_law_river_here", NameKind.free)], isGenerator := false, isCoroutine := false } := LamX.lamS_by (by decide +kernel)
theorem ok_l_refuses_right {P : Program} {w : World} {K : PySem.W.Frag} {mg : Str → Option Value} {base : Heap} {fd fdR : FuncData} (F : FunD K "_law_refuses_right" "_law_refuses_right" (defArgs s_l_refuses_right) (defBody s_l_refuses_right) (defScope s_l_refuses_right) [] [] (He.ga K "_law_refuses_right") fd) (B : Bf mg) (G : Gd K mg) (GE : GErr K mg)
    (FR : FunD K "_law_refused" "_law_refused" (defArgs s_l_refused) (defBody s_l_refused) (defScope s_l_refused) [] [] (He.ga K "_law_refused") fdR) (bR : L2.Binds K fdR ["_law_ask", "_law_odd_here"] []) (gR : mg "_law_refused" = some (.ref (He.ga K "_law_refused")))
    (TB : TabB base mg (He.cT K ("_law_refuses_right", Option.none)).1 (He.cT K ("_law_refuses_right", Option.none)).2)
    (c_l_odd : Cal P w K mg base 3 "_law_odd" ["_law_bag_here", "_law_rows"] (sp_l_odd K)) (c_iter_River : IterOk P w K mg base (He.ma K (He.ga K "River") "__iter__") "weirs")
    (c_River_below : MCal P w K mg base 4 "River" "below" ["self", "weir"] (sp_River_below K)) (c_River_course : MCal P w K mg base 4 "River" "course" ["self", "weir"] (sp_River_course K)) (c_River_depth : MCal P w K mg base 5 "River" "depth" ["self", "weir"] (sp_River_depth K))
    (c_River_above : MCal P w K mg base 4 "River" "above" ["self", "weir"] (sp_River_above K)) (c_River_upstream : MCal P w K mg base 4 "River" "upstream" ["self", "weir"] (sp_River_upstream K)) :
    FnOk P w K mg base (L2.CX P w) 9 (He.ga K "_law_refuses_right") fd ["_law_bag_here", "_law_river_here", "_law_rows"] (spK_l_refuses_right K) := by
  obtain ⟨oc, od, dV, kV, doc, pm, an, cdv, ct, osl, rfl, lk, hcd, _, _⟩ := F.ex
  obtain ⟨c, rfl⟩ := He.codeIn_ref hcd
  have ec : He.codeOf K ("_law_refuses_right", Option.none) = c := He.codeOf_eq (p := ("_law_refuses_right", Option.none)) lk rfl
  have TB' : TabB base mg c (He.cT K ("_law_refuses_right", Option.none)).2 := by rw [← ec]; exact TB
  refine fn_of (k := 8) (N := N_l_refuses_right) lk hcd sc_l_refuses_right (fun vs H Q E h => len_l_refuses_right h) (fun A outer s H vs Q E hr h => ⟨t_l_refuses_right K (TK K), PSs.nox ?_, pure_l_refuses_right vs H Q E h⟩)
  have hu := hu_of hr
  have hu65 := hu65_of hr
  have memT : ((He.cT K ("_law_refuses_right", Option.none)).2, lamName) ∈ TK K := by simp [TK]
  have uT : ∀ p ∈ TK K, p.1 = (He.cT K ("_law_refuses_right", Option.none)).2 → p.2 = lamName := fun p hp _ => by
    have : p = ((He.cT K ("_law_refuses_right", Option.none)).2, lamName) := by simpa [TK] using hp
    rw [this]
  exact (pss_cons (ps_set (i := 3) sc_l_refuses_right.nd rfl (Or.inr rfl) (pe_cal c_l_odd (hr.mono (by decide)) rfl passL (pa_cons (pv 0) (pa_cons (pv 2) pa_nil))))
    (pss_cons (ps_if (PW.pt (pw_or (pt_cmpR (op_inOwn c_iter_River G.it_River (hr.mono (by decide)) hu65) (pv 3) (pv 1) (by rfl)) (pw_or1 (pt_not (pt_val
      (pe_lam2 (T := TK K) (TT := TTref K) (k := 5) (iy := 3) FR rfl gR bR sc_l_refused rfl (Or.inl rfl) (fun cdv => gives_refused B GE) TB' rfl memT uT (hr.mono (by decide)) lamS1 rfl (fun _ _ _ _ _ => rfl) rfl (Or.inr (Or.inl rfl))
        (fun A outer s H E f c' hr' => pe_mcal (pv 1) c_River_below G.cl_River (hr'.mono (by decide)) (passes_call (takes_of rfl rfl rfl rfl) (fun _ _ _ _ h => h)) (pa_cons (pv 3) pa_nil)))))))) (pss_one (ps_ret pe_bl)) pss_nil)
    (pss_cons (ps_if (pt_not (pt_val
      (pe_lam2 (T := TK K) (TT := TTref K) (k := 5) (iy := 3) FR rfl gR bR sc_l_refused rfl (Or.inl rfl) (fun cdv => gives_refused B GE) TB' rfl memT uT (hr.mono (by decide)) lamS1 rfl (fun _ _ _ _ _ => rfl) rfl (Or.inr (Or.inl rfl))
        (fun A outer s H E f c' hr' => pe_mcal (pv 1) c_River_course G.cl_River (hr'.mono (by decide)) (passes_call (takes_of rfl rfl rfl rfl) (fun _ _ _ _ h => h)) (pa_cons (pv 3) pa_nil))))) (pss_one (ps_ret pe_bl)) pss_nil)
    (pss_cons (ps_if (pt_not (pt_val
      (pe_lam2 (T := TK K) (TT := TTref K) (k := 5) (iy := 3) FR rfl gR bR sc_l_refused rfl (Or.inl rfl) (fun cdv => gives_refused B GE) TB' rfl memT uT (hr.mono (by decide)) lamS1 rfl (fun _ _ _ _ _ => rfl) rfl (Or.inr (Or.inl rfl))
        (fun A outer s H E f c' hr' => pe_mcal (pv 1) c_River_depth G.cl_River (hr'.mono (by decide)) (passes_call (takes_of rfl rfl rfl rfl) (fun _ _ _ _ h => h)) (pa_cons (pv 3) pa_nil))))) (pss_one (ps_ret pe_bl)) pss_nil)
    (pss_cons (ps_if (PW.pt (pw_and (pt_cmpR (op_neU hr.units) (pv 3) pe_str (nomark _)) (pw_and1 (pt_not (pt_val
      (pe_lam2 (T := TK K) (TT := TTref K) (k := 5) (iy := 3) FR rfl gR bR sc_l_refused rfl (Or.inl rfl) (fun cdv => gives_refused B GE) TB' rfl memT uT (hr.mono (by decide)) lamS1 rfl (fun _ _ _ _ _ => rfl) rfl (Or.inr (Or.inl rfl))
        (fun A outer s H E f c' hr' => pe_mcal (pv 1) c_River_above G.cl_River (hr'.mono (by decide)) (passes_call (takes_of rfl rfl rfl rfl) (fun _ _ _ _ h => h)) (pa_cons (pv 3) pa_nil)))))))) (pss_one (ps_ret pe_bl)) pss_nil)
    (pss_one (ps_ret
      (pe_lam2 (T := TK K) (TT := TTref K) (k := 5) (iy := 3) FR rfl gR bR sc_l_refused rfl (Or.inl rfl) (fun cdv => gives_refused B GE) TB' rfl memT uT (hr.mono (by decide)) lamS1 rfl (fun _ _ _ _ _ => rfl) rfl (Or.inr (Or.inl rfl))
        (fun A outer s H E f c' hr' => pe_mcal (pv 1) c_River_upstream G.cl_River (hr'.mono (by decide)) (passes_call (takes_of rfl rfl rfl rfl) (fun _ _ _ _ h => h)) (pa_cons (pv 3) pa_nil))))))))))
end WK
namespace WK
open PySem PySem.Spec PyProof.Rows L2
def dd_l_bag : He.DefD := ⟨("_law_bag", none), "_law_bag", "_law_bag", defArgs s_l_bag, defBody s_l_bag, defScope s_l_bag, [], []⟩
def dd_l_take : He.DefD := ⟨("_law_take", none), "_law_take", "_law_take", defArgs s_l_take, defBody s_l_take, defScope s_l_take, [], []⟩
def dd_l_of : He.DefD := ⟨("_law_of", none), "_law_of", "_law_of", defArgs s_l_of, defBody s_l_of, defScope s_l_of, [], []⟩
def dd_l_mixed : He.DefD := ⟨("_law_mixed", none), "_law_mixed", "_law_mixed", defArgs s_l_mixed, defBody s_l_mixed, defScope s_l_mixed, [], []⟩
def dd_l_names : He.DefD := ⟨("_law_names", none), "_law_names", "_law_names", defArgs s_l_names, defBody s_l_names, defScope s_l_names, [], []⟩
def dd_l_river : He.DefD := ⟨("_law_river", none), "_law_river", "_law_river", defArgs s_l_river, defBody s_l_river, defScope s_l_river, [], []⟩
def dd_l_course : He.DefD := ⟨("_law_course", none), "_law_course", "_law_course", defArgs s_l_course, defBody s_l_course, defScope s_l_course, [], []⟩
def dd_l_odd : He.DefD := ⟨("_law_odd", none), "_law_odd", "_law_odd", defArgs s_l_odd, defBody s_l_odd, defScope s_l_odd, [], []⟩
def dd_l_is_whole : He.DefD := ⟨("_law_is_whole", none), "_law_is_whole", "_law_is_whole", defArgs s_l_is_whole, defBody s_l_is_whole, defScope s_l_is_whole, [], []⟩
def dd_is_name : He.DefD := ⟨("is_name", none), "is_name", "is_name", defArgs s_is_name, defBody s_is_name, defScope s_is_name, [], []⟩
def dd_is_wrong_row : He.DefD := ⟨("is_wrong_row", none), "is_wrong_row", "is_wrong_row", defArgs s_is_wrong_row, defBody s_is_wrong_row, defScope s_is_wrong_row, [], []⟩
def dd_reaches_sea : He.DefD := ⟨("reaches_sea", none), "reaches_sea", "reaches_sea", defArgs s_reaches_sea, defBody s_reaches_sea, defScope s_reaches_sea, [], []⟩
def dd_river_fault : He.DefD := ⟨("river_fault", none), "river_fault", "river_fault", defArgs s_river_fault, defBody s_river_fault, defScope s_river_fault, [], []⟩
def dd_course_of : He.DefD := ⟨("course_of", none), "course_of", "course_of", defArgs s_course_of, defBody s_course_of, defScope s_course_of, [], []⟩
def dd_River__init_ : He.DefD := ⟨("River", some "__init__"), "__init__", "River.__init__", defArgs s_River__init_, defBody s_River__init_, defScope s_River__init_, [], []⟩
def dd_River__len_ : He.DefD := ⟨("River", some "__len__"), "__len__", "River.__len__", defArgs s_River__len_, defBody s_River__len_, defScope s_River__len_, [], []⟩
def dd_River__eq_ : He.DefD := ⟨("River", some "__eq__"), "__eq__", "River.__eq__", defArgs s_River__eq_, defBody s_River__eq_, defScope s_River__eq_, [], []⟩
def dd_River_need : He.DefD := ⟨("River", some "need"), "need", "River.need", defArgs s_River_need, defBody s_River_need, defScope s_River_need, [], []⟩
def dd_River_rows : He.DefD := ⟨("River", some "rows"), "rows", "River.rows", defArgs s_River_rows, defBody s_River_rows, defScope s_River_rows, [], []⟩
def dd_River_below : He.DefD := ⟨("River", some "below"), "below", "River.below", defArgs s_River_below, defBody s_River_below, defScope s_River_below, [], []⟩
def dd_River_above : He.DefD := ⟨("River", some "above"), "above", "River.above", defArgs s_River_above, defBody s_River_above, defScope s_River_above, [], []⟩
def dd_River_course : He.DefD := ⟨("River", some "course"), "course", "River.course", defArgs s_River_course, defBody s_River_course, defScope s_River_course, [], []⟩
def dd_River_depth : He.DefD := ⟨("River", some "depth"), "depth", "River.depth", defArgs s_River_depth, defBody s_River_depth, defScope s_River_depth, [], []⟩
def dd_River_upstream : He.DefD := ⟨("River", some "upstream"), "upstream", "River.upstream", defArgs s_River_upstream, defBody s_River_upstream, defScope s_River_upstream, [], []⟩
def dd_l_told_right : He.DefD := ⟨("_law_told_right", none), "_law_told_right", "_law_told_right", defArgs s_l_told_right, defBody s_l_told_right, defScope s_l_told_right, [], []⟩
def dd_l_weir_right : He.DefD := ⟨("_law_weir_right", none), "_law_weir_right", "_law_weir_right", defArgs s_l_weir_right, defBody s_l_weir_right, defScope s_l_weir_right, [], []⟩
def dd_l_equal_right : He.DefD := ⟨("_law_equal_right", none), "_law_equal_right", "_law_equal_right", defArgs s_l_equal_right, defBody s_l_equal_right, defScope s_l_equal_right, [], []⟩
def dd_law : He.DefD := ⟨("law", none), "law", "law", defArgs s_law, defBody s_law, defScope s_law, [], []⟩
def dd_NoWeir__init_ : He.DefD := ⟨("NoWeir", some "__init__"), "__init__", "NoWeir.__init__", defArgs s_NoWeir__init_, defBody s_NoWeir__init_, defScope s_NoWeir__init_, [], []⟩
def dd_River__iter_ : He.DefD := ⟨("River", some "__iter__"), "__iter__", "River.__iter__", defArgs s_River__iter_, defBody s_River__iter_, defScope s_River__iter_, [], []⟩
def dd_l_refused : He.DefD := ⟨("_law_refused", none), "_law_refused", "_law_refused", defArgs s_l_refused, defBody s_l_refused, defScope s_l_refused, [], []⟩
def dd_l_refuses_right : He.DefD := ⟨("_law_refuses_right", none), "_law_refuses_right", "_law_refuses_right", defArgs s_l_refuses_right, defBody s_l_refuses_right, defScope s_l_refuses_right, [], []⟩
def hfn : List He.DefD := [dd_l_bag, dd_l_take, dd_l_of, dd_l_mixed, dd_l_names, dd_l_river, dd_l_course, dd_l_odd, dd_l_is_whole, dd_is_name, dd_is_wrong_row, dd_reaches_sea, dd_river_fault, dd_course_of, dd_River__init_, dd_River__len_, dd_River__eq_, dd_River_need, dd_River_rows, dd_River_below, dd_River_above, dd_River_course, dd_River_depth, dd_River_upstream, dd_l_told_right, dd_l_weir_right, dd_l_equal_right, dd_law, dd_NoWeir__init_, dd_River__iter_, dd_l_refused, dd_l_refuses_right]
def hfa : List He.Fa := [.glo "_law_bag", .glo "_law_take", .glo "_law_of", .glo "_law_mixed", .glo "_law_names", .glo "_law_river", .glo "_law_course", .glo "_law_odd", .glo "_law_is_whole", .glo "is_name", .glo "is_wrong_row", .glo "reaches_sea", .glo "river_fault", .glo "course_of", .glo "_law_told_right", .glo "_law_weir_right", .glo "_law_equal_right", .glo "law", .glo "_law_refused", .glo "_law_refuses_right", .glo "River", .glo "NoWeir", .glo "WeirError", .glo "NoRight", .free "len", .free "abs", .free "max", .free "min", .free "int", .free "bool", .free "str", .free "list", .free "tuple", .free "dict", .free "isinstance", .free "all", .free "any", .free "sum", .free "iter", .free "sorted", .free "range", .free "enumerate", .free "zip", .free "ValueError", .str "LETTERS" "abcdefghijklmnopqrstuvwxyz", .int "MOST_WEIRS" 40, .cls "River", .mkr "River", .noat "River" "weirs", .noat "River" "lower", .noat "River" "courses", .noat "NoWeir" "name", .exm "NoWeir" "WeirError" true, .meth "River" "__len__", .meth "River" "__eq__", .meth "River" "need", .meth "River" "rows", .meth "River" "below", .meth "River" "above", .meth "River" "course", .meth "River" "depth", .meth "River" "upstream"]
def oexB (K : PySem.W.Frag) (C : Addr) : Bool := match K.lookup C with
  | some ⟨.type "type", _, .cls cd, sl⟩ => (match cd.mro, sl.toList with
    | .ref C' :: bm, [_, _, _, _, some (.builtin n), _] => C' == C && n == "ValueError.__new__" && !cd.hasDel && cd.hasDict && PySem.HandSPX.refsVE bm
    | _, _ => false)
  | _ => false
theorem oexB_ok {K : PySem.W.Frag} {C : Addr} (q : oexB K C = true) : ∃ nm qn N bs bm sn sub ab col dd k0 k1 k2 k3 k5, K.lookup C = some (excClassObj nm qn C N bs bm true sn sub ab col dd k0 k1 k2 k3 k5 "ValueError.__new__") ∧ PySem.HandSPX.refsVE bm = true := by
  unfold oexB at q
  split at q
  · rename_i dd cd sl ho
    split at q
    · rename_i C' bm k0 k1 k2 k3 n k5 hm hs
      simp only [Bool.and_eq_true, beq_iff_eq, Bool.not_eq_true'] at q
      obtain ⟨⟨⟨⟨rfl, rfl⟩, hdel⟩, hdct⟩, ht⟩ := q
      obtain ⟨nm, bs, mro, ns, qn, hd, sn, sub, ab, col, del⟩ := cd
      dsimp only at hm hdel hdct
      subst hm hdel hdct
      have hsl : sl = #[k0, k1, k2, k3, some (.builtin "ValueError.__new__"), k5] := by
        obtain ⟨l⟩ := sl
        simp only at hs
        rw [hs]
      subst hsl
      exact ⟨nm, qn, ns, bs, bm, sn, sub, ab, col, dd, k0, k1, k2, k3, k5, ho, ht⟩
    · cases q
  · cases q
def eB (a b : Option (Option Value)) : Bool := decide (a = b)
def exList (K : PySem.W.Frag) : List Bool :=
  let C := He.ga K "River"; let D := He.ga K "NoWeir"
  [eB (PySem.W.findIn K (.ref C) "__iter__") (some (some (.ref (He.ma K C "__iter__")))), PySem.W.isFn K (.ref (He.ma K C "__iter__")), eB (PySem.W.findIn K (.ref C) "__contains__") (some none),
   eB (PySem.W.findIn K (.ref C) "__ne__") (some (some (.builtin "object.__ne__"))), decide (PySem.W.subIn K (.ref C) (.type "object") = some true),
   eB (PySem.W.findIn K (.ref C) "__class__") (some (some (.builtin "object.__class__"))), eB (PySem.W.specialIn K (.builtin "object.__class__") "__get__") (some (some (.builtin "getset_descriptor.__get__"))), decide (PySem.W.takesIn K (.builtin "object.__class__") = some true), decide (PySem.W.mroIn K C (.type "object") = some true),
   tyNames.all (fun T => decide (PySem.W.kitOne K (.type T) (.ref C) = some false) && PySem.W.notFirst K C (.type T)),
   oexB K D, eB (PySem.W.findIn K (.ref D) "__setattr__") (some (some (.builtin "object.__setattr__"))), decide (PySem.W.subIn K (.ref D) (.type "BaseException") = some true), decide (PySem.W.typeIn K (.ref D) = some (.type "type")), PySem.W.keepIn K (.ref D),
   eB (PySem.W.findIn K (.ref D) "__init__") (some (some (.ref (He.ma K D "__init__")))), decide (PySem.W.typeIn K (.ref (He.ma K D "__init__")) = some (.type "function")),
   eB (PySem.W.findIn K (.ref D) "__getattribute__") (some (some (.builtin "BaseException.__getattribute__"))), eB (PySem.W.findIn K (.ref D) "__getattr__") (some none), PySem.W.hasDictIn K D,
   eB (PySem.W.findIn K (.ref D) "__class__") (some (some (.builtin "object.__class__"))), decide (PySem.W.mroIn K D (.type "object") = some true),
   decide (PySem.W.kitOne K (.ref D) (.ref D) = some true), decide (PySem.W.kitOne K (.ref D) (.ref (He.ga K "NoRight")) = some false), decide (PySem.W.kitOne K (.ref D) (.type "ValueError") = some true)]
def hex (K : PySem.W.Frag) : Bool := (exList K).all id
theorem hex_at {K : PySem.W.Frag} (h : hex K = true) (i : Nat) {b : Bool} (e : (exList K)[i]? = some b := by rfl) : b = true := by
  have := List.all_eq_true.mp h b (List.mem_of_getElem? e)
  exact this
theorem eB_ok {a b : Option (Option Value)} (h : eB a b = true) : a = b := of_decide_eq_true h
def htf : List He.Defn := [("_law_refuses_right", none)]
abbrev R : PySem.W.OpenRow := PySem.W.OpenLaw.row PySem.Challenge.rw_weirkeepers_k00_rivers_made
abbrev hk : PySem.W.Hook := He.hookX 5 hfa hfn [] htf hex
def ob (s : PySem.W.SharedT) : He.AlX := He.obsX 5 hfa hfn [] htf hex (HandSHeadRun.getT s)
theorem ob_eq (s : PySem.W.SharedT) : ob s = hk.obs s.abs := He.obsX_eq (HandSHeadRun.getT_eq s)
def loose : List Str := ["_wall", "__name__", "WeirError", "NotRiver", "NoWeir", "NoRight", "MOST_WEIRS", "LETTERS", "is_name", "is_wrong_row", "reaches_sea", "river_fault", "course_of", "River", "_law_bag", "_law_take", "_law_of", "_law_mixed", "_law_names", "_law_river", "_law_course", "_law_refused", "_law_odd", "_law_told_right", "_law_weir_right", "_law_equal_right", "_law_is_whole", "_law_refuses_right"]
theorem run (w : World) : HandSHeadRun.RunEq R (PySem.W.view R.prog [30]) hk ob 20000 loose w := by
  intro os
  kernel_rfl
theorem facts {P : Program} {w : World} {K : PySem.W.Frag} {h : Heap} {mg : Str → Option Value} {f : Addr} (X : K.In h) (G : h.Ns mainGlobals mg) (hfa_ : mg ("law" : Str) = some (.ref f)) (c : He.SaysX hfa hfn [] htf hex w h K) :
    ∃ fd : FuncData, (∀ (s : Shared) (v : Value), BindsTo s fd ⟨[v], []⟩ [("_law_script", v)]) ∧ ∀ base : Heap, K.In base → base.Ns mainGlobals mg → LamX.TabB base mg (He.cT K ("_law_refuses_right", none)).1 (He.cT K ("_law_refuses_right", none)).2 → FnOk P w K mg base (L2.CX P w) 10 f fd ["_law_script"] (sp_law K) := by
  obtain ⟨fd_l_bag, F_l_bag⟩ := c.t.d.def_ 0 (d := dd_l_bag) rfl
  have b_l_bag : L2.Binds K fd_l_bag ["_law_script", "_law_at", "_law_salt"] [] := FunD.bindsN F_l_bag fun _ _ _ _ _ _ us hl => match us, hl with | [_, _, _], _ => rfl
  obtain ⟨fd_l_take, F_l_take⟩ := c.t.d.def_ 1 (d := dd_l_take) rfl
  have b_l_take : L2.Binds K fd_l_take ["_law_bag_here", "_law_many"] [] := FunD.bindsN F_l_take fun _ _ _ _ _ _ us hl => match us, hl with | [_, _], _ => rfl
  obtain ⟨fd_l_of, F_l_of⟩ := c.t.d.def_ 2 (d := dd_l_of) rfl
  have b_l_of : L2.Binds K fd_l_of ["_law_bag_here", "_law_some"] [] := FunD.bindsN F_l_of fun _ _ _ _ _ _ us hl => match us, hl with | [_, _], _ => rfl
  obtain ⟨fd_l_mixed, F_l_mixed⟩ := c.t.d.def_ 3 (d := dd_l_mixed) rfl
  have b_l_mixed : L2.Binds K fd_l_mixed ["_law_bag_here", "_law_some"] [] := FunD.bindsN F_l_mixed fun _ _ _ _ _ _ us hl => match us, hl with | [_, _], _ => rfl
  obtain ⟨fd_l_names, F_l_names⟩ := c.t.d.def_ 4 (d := dd_l_names) rfl
  have b_l_names : L2.Binds K fd_l_names ["_law_bag_here", "_law_many"] [] := FunD.bindsN F_l_names fun _ _ _ _ _ _ us hl => match us, hl with | [_, _], _ => rfl
  obtain ⟨fd_l_river, F_l_river⟩ := c.t.d.def_ 5 (d := dd_l_river) rfl
  have b_l_river : L2.Binds K fd_l_river ["_law_bag_here", "_law_many"] [] := FunD.bindsN F_l_river fun _ _ _ _ _ _ us hl => match us, hl with | [_, _], _ => rfl
  obtain ⟨fd_l_course, F_l_course⟩ := c.t.d.def_ 6 (d := dd_l_course) rfl
  have b_l_course : L2.Binds K fd_l_course ["_law_rows", "_law_weir"] [] := FunD.bindsN F_l_course fun _ _ _ _ _ _ us hl => match us, hl with | [_, _], _ => rfl
  obtain ⟨fd_l_odd, F_l_odd⟩ := c.t.d.def_ 7 (d := dd_l_odd) rfl
  have b_l_odd : L2.Binds K fd_l_odd ["_law_bag_here", "_law_rows"] [] := FunD.bindsN F_l_odd fun _ _ _ _ _ _ us hl => match us, hl with | [_, _], _ => rfl
  obtain ⟨fd_l_is_whole, F_l_is_whole⟩ := c.t.d.def_ 8 (d := dd_l_is_whole) rfl
  have b_l_is_whole : L2.Binds K fd_l_is_whole ["_law_rows"] [] := FunD.bindsN F_l_is_whole fun _ _ _ _ _ _ us hl => match us, hl with | [_], _ => rfl
  obtain ⟨fd_is_name, F_is_name⟩ := c.t.d.def_ 9 (d := dd_is_name) rfl
  have b_is_name : L2.Binds K fd_is_name ["value"] [] := FunD.bindsN F_is_name fun _ _ _ _ _ _ us hl => match us, hl with | [_], _ => rfl
  obtain ⟨fd_is_wrong_row, F_is_wrong_row⟩ := c.t.d.def_ 10 (d := dd_is_wrong_row) rfl
  have b_is_wrong_row : L2.Binds K fd_is_wrong_row ["entry", "earlier"] [] := FunD.bindsN F_is_wrong_row fun _ _ _ _ _ _ us hl => match us, hl with | [_, _], _ => rfl
  obtain ⟨fd_reaches_sea, F_reaches_sea⟩ := c.t.d.def_ 11 (d := dd_reaches_sea) rfl
  have b_reaches_sea : L2.Binds K fd_reaches_sea ["weir", "lower"] [] := FunD.bindsN F_reaches_sea fun _ _ _ _ _ _ us hl => match us, hl with | [_, _], _ => rfl
  obtain ⟨fd_river_fault, F_river_fault⟩ := c.t.d.def_ 12 (d := dd_river_fault) rfl
  have b_river_fault : L2.Binds K fd_river_fault ["rows"] [] := FunD.bindsN F_river_fault fun _ _ _ _ _ _ us hl => match us, hl with | [_], _ => rfl
  obtain ⟨fd_course_of, F_course_of⟩ := c.t.d.def_ 13 (d := dd_course_of) rfl
  have b_course_of : L2.Binds K fd_course_of ["weir", "lower"] [] := FunD.bindsN F_course_of fun _ _ _ _ _ _ us hl => match us, hl with | [_, _], _ => rfl
  obtain ⟨fd_River__init_, F_River__init_⟩ := c.t.d.def_ 14 (d := dd_River__init_) rfl
  have b_River__init_ : L2.Binds K fd_River__init_ ["self", "rows"] [] := FunD.bindsN F_River__init_ fun _ _ _ _ _ _ us hl => match us, hl with | [_, _], _ => rfl
  obtain ⟨fd_River__len_, F_River__len_⟩ := c.t.d.def_ 15 (d := dd_River__len_) rfl
  have b_River__len_ : L2.Binds K fd_River__len_ ["self"] [] := FunD.bindsN F_River__len_ fun _ _ _ _ _ _ us hl => match us, hl with | [_], _ => rfl
  obtain ⟨fd_River__eq_, F_River__eq_⟩ := c.t.d.def_ 16 (d := dd_River__eq_) rfl
  have b_River__eq_ : L2.Binds K fd_River__eq_ ["self", "other"] [] := FunD.bindsN F_River__eq_ fun _ _ _ _ _ _ us hl => match us, hl with | [_, _], _ => rfl
  obtain ⟨fd_River_need, F_River_need⟩ := c.t.d.def_ 17 (d := dd_River_need) rfl
  have b_River_need : L2.Binds K fd_River_need ["self", "weir"] [] := FunD.bindsN F_River_need fun _ _ _ _ _ _ us hl => match us, hl with | [_, _], _ => rfl
  obtain ⟨fd_River_rows, F_River_rows⟩ := c.t.d.def_ 18 (d := dd_River_rows) rfl
  have b_River_rows : L2.Binds K fd_River_rows ["self"] [] := FunD.bindsN F_River_rows fun _ _ _ _ _ _ us hl => match us, hl with | [_], _ => rfl
  obtain ⟨fd_River_below, F_River_below⟩ := c.t.d.def_ 19 (d := dd_River_below) rfl
  have b_River_below : L2.Binds K fd_River_below ["self", "weir"] [] := FunD.bindsN F_River_below fun _ _ _ _ _ _ us hl => match us, hl with | [_, _], _ => rfl
  obtain ⟨fd_River_above, F_River_above⟩ := c.t.d.def_ 20 (d := dd_River_above) rfl
  have b_River_above : L2.Binds K fd_River_above ["self", "weir"] [] := FunD.bindsN F_River_above fun _ _ _ _ _ _ us hl => match us, hl with | [_, _], _ => rfl
  obtain ⟨fd_River_course, F_River_course⟩ := c.t.d.def_ 21 (d := dd_River_course) rfl
  have b_River_course : L2.Binds K fd_River_course ["self", "weir"] [] := FunD.bindsN F_River_course fun _ _ _ _ _ _ us hl => match us, hl with | [_, _], _ => rfl
  obtain ⟨fd_River_depth, F_River_depth⟩ := c.t.d.def_ 22 (d := dd_River_depth) rfl
  have b_River_depth : L2.Binds K fd_River_depth ["self", "weir"] [] := FunD.bindsN F_River_depth fun _ _ _ _ _ _ us hl => match us, hl with | [_, _], _ => rfl
  obtain ⟨fd_River_upstream, F_River_upstream⟩ := c.t.d.def_ 23 (d := dd_River_upstream) rfl
  have b_River_upstream : L2.Binds K fd_River_upstream ["self", "weir"] [] := FunD.bindsN F_River_upstream fun _ _ _ _ _ _ us hl => match us, hl with | [_, _], _ => rfl
  obtain ⟨fd_l_told_right, F_l_told_right⟩ := c.t.d.def_ 24 (d := dd_l_told_right) rfl
  have b_l_told_right : L2.Binds K fd_l_told_right ["_law_river_here", "_law_rows"] [] := FunD.bindsN F_l_told_right fun _ _ _ _ _ _ us hl => match us, hl with | [_, _], _ => rfl
  obtain ⟨fd_l_weir_right, F_l_weir_right⟩ := c.t.d.def_ 25 (d := dd_l_weir_right) rfl
  have b_l_weir_right : L2.Binds K fd_l_weir_right ["_law_river_here", "_law_rows", "_law_courses", "_law_weir"] [] := FunD.bindsN F_l_weir_right fun _ _ _ _ _ _ us hl => match us, hl with | [_, _, _, _], _ => rfl
  obtain ⟨fd_l_equal_right, F_l_equal_right⟩ := c.t.d.def_ 26 (d := dd_l_equal_right) rfl
  have b_l_equal_right : L2.Binds K fd_l_equal_right ["_law_bag_here", "_law_river_here", "_law_rows"] [] := FunD.bindsN F_l_equal_right fun _ _ _ _ _ _ us hl => match us, hl with | [_, _, _], _ => rfl
  obtain ⟨fd_law, F_law⟩ := c.t.d.def_ 27 (d := dd_law) rfl
  have b_law : L2.Binds K fd_law ["_law_script"] [] := FunD.bindsN F_law fun _ _ _ _ _ _ us hl => match us, hl with | [_], _ => rfl
  obtain ⟨fd_NoWeir__init_, F_NoWeir__init_⟩ := c.t.d.def_ 28 (d := dd_NoWeir__init_) rfl
  have b_NoWeir__init_ : L2.Binds K fd_NoWeir__init_ ["self", "name"] [] := FunD.bindsN F_NoWeir__init_ fun _ _ _ _ _ _ us hl => match us, hl with | [_, _], _ => rfl
  obtain ⟨fd_River__iter_, F_River__iter_⟩ := c.t.d.def_ 29 (d := dd_River__iter_) rfl
  have b_River__iter_ : L2.Binds K fd_River__iter_ ["self"] [] := FunD.bindsN F_River__iter_ fun _ _ _ _ _ _ us hl => match us, hl with | [_], _ => rfl
  obtain ⟨fd_l_refused, F_l_refused⟩ := c.t.d.def_ 30 (d := dd_l_refused) rfl
  have b_l_refused : L2.Binds K fd_l_refused ["_law_ask", "_law_odd_here"] [] := FunD.bindsN F_l_refused fun _ _ _ _ _ _ us hl => match us, hl with | [_, _], _ => rfl
  obtain ⟨fd_l_refuses_right, F_l_refuses_right⟩ := c.t.d.def_ 31 (d := dd_l_refuses_right) rfl
  have b_l_refuses_right : L2.Binds K fd_l_refuses_right ["_law_bag_here", "_law_river_here", "_law_rows"] [] := FunD.bindsN F_l_refuses_right fun _ _ _ _ _ _ us hl => match us, hl with | [_, _, _], _ => rfl
  have B : Bf mg := ⟨He.free_ok X G (c.t.d.fact 24 (f := .free "len") rfl), He.free_ok X G (c.t.d.fact 25 (f := .free "abs") rfl), He.free_ok X G (c.t.d.fact 26 (f := .free "max") rfl), He.free_ok X G (c.t.d.fact 27 (f := .free "min") rfl), He.free_ok X G (c.t.d.fact 28 (f := .free "int") rfl), He.free_ok X G (c.t.d.fact 29 (f := .free "bool") rfl), He.free_ok X G (c.t.d.fact 30 (f := .free "str") rfl), He.free_ok X G (c.t.d.fact 31 (f := .free "list") rfl), He.free_ok X G (c.t.d.fact 32 (f := .free "tuple") rfl), He.free_ok X G (c.t.d.fact 33 (f := .free "dict") rfl), He.free_ok X G (c.t.d.fact 34 (f := .free "isinstance") rfl), He.free_ok X G (c.t.d.fact 35 (f := .free "all") rfl), He.free_ok X G (c.t.d.fact 36 (f := .free "any") rfl), He.free_ok X G (c.t.d.fact 37 (f := .free "sum") rfl), He.free_ok X G (c.t.d.fact 38 (f := .free "iter") rfl), He.free_ok X G (c.t.d.fact 39 (f := .free "sorted") rfl), He.free_ok X G (c.t.d.fact 40 (f := .free "range") rfl), He.free_ok X G (c.t.d.fact 41 (f := .free "enumerate") rfl), He.free_ok X G (c.t.d.fact 42 (f := .free "zip") rfl), He.free_ok X G (c.t.d.fact 43 (f := .free "ValueError") rfl)⟩
  have hx := c.more
  have clR : Cls K (He.ga K "River") := He.cls_ok (c.t.d.fact 46 (f := .cls "River") rfl)
  have tyR : GTy K (He.ga K "River") := ⟨clR, eB_ok (hex_at hx 5), eB_ok (hex_at hx 6), of_decide_eq_true (hex_at hx 7), of_decide_eq_true (hex_at hx 8), fun T hT => by
    have h := List.all_eq_true.mp (hex_at hx 9) T hT
    obtain ⟨h1, h2⟩ := Bool.and_eq_true_iff.mp h
    exact ⟨of_decide_eq_true h1, h2⟩⟩
  have river : GRiver K := ⟨clR, He.noat_ok (c.t.d.fact 48 (f := .noat "River" "weirs") rfl), He.noat_ok (c.t.d.fact 49 (f := .noat "River" "lower") rfl), He.noat_ok (c.t.d.fact 50 (f := .noat "River" "courses") rfl)⟩
  have Gd' : Gd K mg := ⟨clR, He.glo_ok X G (c.t.d.fact 20 (f := .glo "River") rfl), ⟨eB_ok (hex_at hx 0), hex_at hx 1, eB_ok (hex_at hx 2), clR, river.nw⟩, ⟨eB_ok (hex_at hx 3), of_decide_eq_true (hex_at hx 4)⟩,
    (by obtain ⟨t, e⟩ := He.str_ok X G (c.t.d.fact 44 (f := .str "LETTERS" "abcdefghijklmnopqrstuvwxyz") rfl); exact ⟨_, e, t, rfl⟩), (by obtain ⟨t, e⟩ := He.int_ok X G (c.t.d.fact 45 (f := .int "MOST_WEIRS" 40) rfl); exact ⟨_, e, t, rfl⟩), river, tyR⟩
  have nmN := He.noat_ok (c.t.d.fact 51 (f := .noat "NoWeir" "name") rfl)
  have oxN : OexC K (He.ga K "NoWeir") := ⟨oexB_ok (hex_at hx 10), eB_ok (hex_at hx 11), of_decide_eq_true (hex_at hx 12), of_decide_eq_true (hex_at hx 13), hex_at hx 14⟩
  have GX : GExc K "NoWeir" "name" := ⟨oxN, nmN⟩
  have GE : GErr K mg := ⟨He.glo_ok X G (c.t.d.fact 22 (f := .glo "WeirError") rfl), He.glo_ok X G (c.t.d.fact 21 (f := .glo "NoWeir") rfl), He.glo_ok X G (c.t.d.fact 23 (f := .glo "NoRight") rfl), He.exm_ok (c.t.d.fact 52 (f := .exm "NoWeir" "WeirError" true) rfl),
    ⟨eB_ok (hex_at hx 17), eB_ok (hex_at hx 18), of_decide_eq_true (hex_at hx 12), hex_at hx 19, eB_ok (hex_at hx 20), eB_ok (hex_at hx 6), of_decide_eq_true (hex_at hx 7), of_decide_eq_true (hex_at hx 21)⟩,
    ⟨eB_ok (hex_at hx 17), eB_ok (hex_at hx 18), of_decide_eq_true (hex_at hx 12), hex_at hx 19⟩, nmN, of_decide_eq_true (hex_at hx 22), of_decide_eq_true (hex_at hx 23), of_decide_eq_true (hex_at hx 24)⟩
  have e_ := hfa_.symm.trans (He.glo_ok X G (c.t.d.fact 17 (f := .glo "law") rfl))
  cases e_
  refine ⟨fd_law, fun s v => FunD.bindsA (ps := ["_law_script"]) F_law (fun _ _ _ _ _ _ us hl => match us, hl with | [_], _ => rfl) s [v] rfl, fun base hB hG TB => ?_⟩
  have c_iter_River : IterOk P w K mg base (He.ma K (He.ga K "River") "__iter__") "weirs" := ok_River__iter_ F_River__iter_ b_River__iter_ B
  have c_NoWeir__init_ : XCal P w K mg base 1 "NoWeir" ["self", "name"] (sp_NoWeir__init_ K) := ⟨⟨_, ok_NoWeir__init_ F_NoWeir__init_ GX, b_NoWeir__init_⟩, oxN, eB_ok (hex_at hx 15), of_decide_eq_true (hex_at hx 16), He.glo_ok X G (c.t.d.fact 21 (f := .glo "NoWeir") rfl)⟩
  have c_l_bag : Cal P w K mg base 1 "_law_bag" ["_law_script", "_law_at", "_law_salt"] (sp_l_bag K) := ⟨⟨_, ok_l_bag F_l_bag B Gd' , b_l_bag⟩, He.glo_ok X G (c.t.d.fact 0 (f := .glo "_law_bag") rfl), F_l_bag.kp⟩
  have c_l_take : Cal P w K mg base 1 "_law_take" ["_law_bag_here", "_law_many"] (sp_l_take K) := ⟨⟨_, ok_l_take F_l_take B Gd' , b_l_take⟩, He.glo_ok X G (c.t.d.fact 1 (f := .glo "_law_take") rfl), F_l_take.kp⟩
  have c_l_of : Cal P w K mg base 2 "_law_of" ["_law_bag_here", "_law_some"] (sp_l_of K) := ⟨⟨_, ok_l_of F_l_of B Gd' c_l_take, b_l_of⟩, He.glo_ok X G (c.t.d.fact 2 (f := .glo "_law_of") rfl), F_l_of.kp⟩
  have c_l_mixed : Cal P w K mg base 2 "_law_mixed" ["_law_bag_here", "_law_some"] (sp_l_mixed K) := ⟨⟨_, ok_l_mixed F_l_mixed B Gd' c_l_take, b_l_mixed⟩, He.glo_ok X G (c.t.d.fact 3 (f := .glo "_law_mixed") rfl), F_l_mixed.kp⟩
  have c_l_names : Cal P w K mg base 3 "_law_names" ["_law_bag_here", "_law_many"] (sp_l_names K) := ⟨⟨_, ok_l_names F_l_names B Gd' c_l_of c_l_take, b_l_names⟩, He.glo_ok X G (c.t.d.fact 4 (f := .glo "_law_names") rfl), F_l_names.kp⟩
  have c_l_river : Cal P w K mg base 4 "_law_river" ["_law_bag_here", "_law_many"] (sp_l_river K) := ⟨⟨_, ok_l_river F_l_river B Gd' c_l_mixed c_l_names c_l_take, b_l_river⟩, He.glo_ok X G (c.t.d.fact 5 (f := .glo "_law_river") rfl), F_l_river.kp⟩
  have c_l_course : Cal P w K mg base 1 "_law_course" ["_law_rows", "_law_weir"] (sp_l_course K) := ⟨⟨_, ok_l_course F_l_course B Gd' , b_l_course⟩, He.glo_ok X G (c.t.d.fact 6 (f := .glo "_law_course") rfl), F_l_course.kp⟩
  have c_l_odd : Cal P w K mg base 3 "_law_odd" ["_law_bag_here", "_law_rows"] (sp_l_odd K) := ⟨⟨_, ok_l_odd F_l_odd B Gd' c_l_of, b_l_odd⟩, He.glo_ok X G (c.t.d.fact 7 (f := .glo "_law_odd") rfl), F_l_odd.kp⟩
  have c_l_is_whole : Cal P w K mg base 1 "_law_is_whole" ["_law_rows"] (sp_l_is_whole K) := ⟨⟨_, ok_l_is_whole F_l_is_whole B Gd' , b_l_is_whole⟩, He.glo_ok X G (c.t.d.fact 8 (f := .glo "_law_is_whole") rfl), F_l_is_whole.kp⟩
  have c_is_name : Cal P w K mg base 1 "is_name" ["value"] (sp_is_name K) := ⟨⟨_, ok_is_name F_is_name B Gd' , b_is_name⟩, He.glo_ok X G (c.t.d.fact 9 (f := .glo "is_name") rfl), F_is_name.kp⟩
  have c_is_wrong_row : Cal P w K mg base 2 "is_wrong_row" ["entry", "earlier"] (sp_is_wrong_row K) := ⟨⟨_, ok_is_wrong_row F_is_wrong_row B Gd' c_is_name, b_is_wrong_row⟩, He.glo_ok X G (c.t.d.fact 10 (f := .glo "is_wrong_row") rfl), F_is_wrong_row.kp⟩
  have c_reaches_sea : Cal P w K mg base 1 "reaches_sea" ["weir", "lower"] (sp_reaches_sea K) := ⟨⟨_, ok_reaches_sea F_reaches_sea B Gd' , b_reaches_sea⟩, He.glo_ok X G (c.t.d.fact 11 (f := .glo "reaches_sea") rfl), F_reaches_sea.kp⟩
  have c_river_fault : Cal P w K mg base 3 "river_fault" ["rows"] (sp_river_fault K) := ⟨⟨_, ok_river_fault F_river_fault B Gd' c_is_wrong_row c_reaches_sea, b_river_fault⟩, He.glo_ok X G (c.t.d.fact 12 (f := .glo "river_fault") rfl), F_river_fault.kp⟩
  have c_course_of : Cal P w K mg base 1 "course_of" ["weir", "lower"] (sp_course_of K) := ⟨⟨_, ok_course_of F_course_of B Gd' , b_course_of⟩, He.glo_ok X G (c.t.d.fact 13 (f := .glo "course_of") rfl), F_course_of.kp⟩
  have c_River__init_ : ICal P w K mg base 4 "River" ["self", "rows"] (sp_River__init_ K) := ⟨⟨_, ok_River__init_ F_River__init_ B Gd' c_course_of c_river_fault, b_River__init_⟩, He.mkr_ok (c.t.d.fact 47 (f := .mkr "River") rfl), He.glo_ok X G (c.t.d.fact 20 (f := .glo "River") rfl)⟩
  have c_River__len_ : MCal P w K mg base 1 "River" "__len__" ["self"] (sp_River__len_ K) := ⟨⟨_, ok_River__len_ F_River__len_ B Gd' , b_River__len_⟩, He.meth_ok (c.t.d.fact 53 (f := .meth "River" "__len__") rfl)⟩
  have c_River__eq_ : MCal P w K mg base 1 "River" "__eq__" ["self", "other"] (sp_River__eq_ K) := ⟨⟨_, ok_River__eq_ F_River__eq_ B Gd' , b_River__eq_⟩, He.meth_ok (c.t.d.fact 54 (f := .meth "River" "__eq__") rfl)⟩
  have c_River_need : MCal P w K mg base 3 "River" "need" ["self", "weir"] (sp_River_need K) := ⟨⟨_, ok_River_need F_River_need B Gd' c_NoWeir__init_, b_River_need⟩, He.meth_ok (c.t.d.fact 55 (f := .meth "River" "need") rfl)⟩
  have c_River_rows : MCal P w K mg base 1 "River" "rows" ["self"] (sp_River_rows K) := ⟨⟨_, ok_River_rows F_River_rows B Gd' , b_River_rows⟩, He.meth_ok (c.t.d.fact 56 (f := .meth "River" "rows") rfl)⟩
  have c_River_below : MCal P w K mg base 4 "River" "below" ["self", "weir"] (sp_River_below K) := ⟨⟨_, ok_River_below F_River_below B Gd' c_River_need, b_River_below⟩, He.meth_ok (c.t.d.fact 57 (f := .meth "River" "below") rfl)⟩
  have c_River_above : MCal P w K mg base 4 "River" "above" ["self", "weir"] (sp_River_above K) := ⟨⟨_, ok_River_above F_River_above B Gd' c_River_need, b_River_above⟩, He.meth_ok (c.t.d.fact 58 (f := .meth "River" "above") rfl)⟩
  have c_River_course : MCal P w K mg base 4 "River" "course" ["self", "weir"] (sp_River_course K) := ⟨⟨_, ok_River_course F_River_course B Gd' c_River_need, b_River_course⟩, He.meth_ok (c.t.d.fact 59 (f := .meth "River" "course") rfl)⟩
  have c_River_depth : MCal P w K mg base 5 "River" "depth" ["self", "weir"] (sp_River_depth K) := ⟨⟨_, ok_River_depth F_River_depth B Gd' c_River_course, b_River_depth⟩, He.meth_ok (c.t.d.fact 60 (f := .meth "River" "depth") rfl)⟩
  have c_River_upstream : MCal P w K mg base 4 "River" "upstream" ["self", "weir"] (sp_River_upstream K) := ⟨⟨_, ok_River_upstream F_River_upstream B Gd' c_River_need, b_River_upstream⟩, He.meth_ok (c.t.d.fact 61 (f := .meth "River" "upstream") rfl)⟩
  have c_l_told_right : Cal P w K mg base 3 "_law_told_right" ["_law_river_here", "_law_rows"] (sp_l_told_right K) := ⟨⟨_, ok_l_told_right F_l_told_right B Gd' c_River__len_ c_River_rows c_iter_River, b_l_told_right⟩, He.glo_ok X G (c.t.d.fact 14 (f := .glo "_law_told_right") rfl), F_l_told_right.kp⟩
  have c_l_weir_right : Cal P w K mg base 6 "_law_weir_right" ["_law_river_here", "_law_rows", "_law_courses", "_law_weir"] (sp_l_weir_right K) := ⟨⟨_, ok_l_weir_right F_l_weir_right B Gd' c_River_above c_River_below c_River_course c_River_depth c_River_upstream c_iter_River, b_l_weir_right⟩, He.glo_ok X G (c.t.d.fact 15 (f := .glo "_law_weir_right") rfl), F_l_weir_right.kp⟩
  have c_l_equal_right : Cal P w K mg base 6 "_law_equal_right" ["_law_bag_here", "_law_river_here", "_law_rows"] (sp_l_equal_right K) := ⟨⟨_, ok_l_equal_right F_l_equal_right B Gd' c_River__eq_ c_River__init_ c_River_rows c_l_is_whole c_l_mixed c_l_take, b_l_equal_right⟩, He.glo_ok X G (c.t.d.fact 16 (f := .glo "_law_equal_right") rfl), F_l_equal_right.kp⟩
  have c_l_refuses_right : Cal P w K mg base 9 "_law_refuses_right" ["_law_bag_here", "_law_river_here", "_law_rows"] (spK_l_refuses_right K) := ⟨⟨_, ok_l_refuses_right F_l_refuses_right B Gd' GE F_l_refused b_l_refused (He.glo_ok X G (c.t.d.fact 18 (f := .glo "_law_refused") rfl)) TB c_l_odd c_iter_River c_River_below c_River_course c_River_depth c_River_above c_River_upstream, b_l_refuses_right⟩, He.glo_ok X G (c.t.d.fact 19 (f := .glo "_law_refuses_right") rfl), F_l_refuses_right.kp⟩
  exact ok_law F_law B Gd' c_River__init_ c_River_above c_l_bag c_l_course c_l_equal_right c_l_refuses_right c_l_river c_l_take c_l_told_right c_l_weir_right
end WK
open PySem PySem.W PySem.Calls PyProof.Rows
theorem PySem.Challenge.cw_weirkeepers_k00_rivers_made_holds : PySem.Challenge.rw_weirkeepers_k00_rivers_made.Holds := by
  w_on; o_law
  refine HandSHeadRun.head_any (r := OpenLaw.row PySem.Challenge.rw_weirkeepers_k00_rivers_made) (q := view (OpenLaw.row PySem.Challenge.rw_weirkeepers_k00_rivers_made).prog [30]) (H := WK.hk) (ob := WK.ob) (M := 20000) (loose := WK.loose) (d := HandSHeadRun.topDef (OpenLaw.row PySem.Challenge.rw_weirkeepers_k00_rivers_made).prog 30) (kwd := []) WK.ob_eq
    (by kernel_rfl) (fun s => by kernel_rfl) WK.run (by kernel_rfl) (by kernel_rfl) (by kernel_rfl) (by rfl) (by first | assumption | decide +kernel) (by decide +kernel) ⟨rfl, rfl, rfl, rfl, rfl, by decide +kernel⟩ ?hw ?hc
  case hw => w_witness2
  case hc =>
    refine LamX.walk_ofTsE (l := PySem.Challenge.rw_weirkeepers_k00_rivers_made) (n := 63) (k := 10) (x := "_law_script") (CX := fun w => L2.CX (PySem.Challenge.rw_weirkeepers_k00_rivers_made).prog w) rfl (by decide) (by kernel_rfl) ⟨rfl, by decide, by decide⟩ ?F ?C
    case F =>
      intro w mg fa h Y G hmg0
      obtain ⟨K, KX, c⟩ := Y
      have hmg : mg ("law" : PySem.Str) = some (.ref fa) := by
        have e : (HandSHeadRun.topDef (OpenLaw.row PySem.Challenge.rw_weirkeepers_k00_rivers_made).prog 30).name = ("law" : PySem.Str) := by kernel_rfl
        rw [← e]
        exact hmg0
      obtain ⟨fd, hb, hF⟩ := WK.facts (P := (PySem.Challenge.rw_weirkeepers_k00_rivers_made).prog) (w := w) KX G hmg c
      refine ⟨K, KX, fd, [He.cT K ("_law_refuses_right", none)], WK.sp_law K, ?_, ?_, ?_, hb, ?_, ?_⟩
      · intro p hp
        have e : p = He.cT K ("_law_refuses_right", none) := by simpa using hp
        rw [e]; exact c.empty _ (by simp [WK.htf])
      · intro p hp
        have e : p = He.cT K ("_law_refuses_right", none) := by simpa using hp
        rw [e]; exact c.out _ (by simp [WK.htf])
      · intro p hp
        have e : p = He.cT K ("_law_refuses_right", none) := by simpa using hp
        rw [e]; exact PySem.W.codeHd_of_K KX (c.hd _ (by simp [WK.htf]))
      · intro H a ns hl _ hT hS
        refine ⟨a, ns, rfl, hS, by omega, fun p hp => ?_, fun _ => rfl⟩
        have e : p = ((He.cT K ("_law_refuses_right", none)).2, WK.lamName) := by simpa [WK.TK] using hp
        rw [e]
        exact LamX.TabS.nil (hT _ (by simp))
      · intro base hB hG TB
        exact hF base hB hG (TB _ (by simp))
    case C =>
      intro w H s e s' z
      obtain ⟨_, _, _, _, _, _, _, _, _, _, _, _, q⟩ := z
      exact q
