import PyProof.Rows.All
import HandS.Exc
import HandS.ExcIs
import HandS.ExcInit
import HandS.Small
import HandS.Head0
import HandS.Head1
import HandS.Head2
import HandS.HeadEnd
import HandS.HeadHook1
import HandS.HeadHook2
import HandS.HeadHook3
import HandS.HeadHook4
import HandS.HeadWalk
import HandS.Property
import HandS.HeadNt
import HandS.Words
import Wide.All
import OpenK.AllK
import Wide.FinOn
import KE.KStateDown
import HandS.ForMost
import HandS.TryOnly
import HandS.WordsExc
import HandS.Defaults
import HandS.DictComp
import HandS.Deep
import HandS.IsInst
import HandS.ExcField
import HandS.Evl
import HandS.Wide
import HandS.Lambda
import HandS.Codes
import HandS.Conv
import PyProof.P3In
import HandS.TupAny
import HandS.More
import HandS.Finally
import HandS.Strs
import HandS.IterVal
import HandS.OwnIter
import HandS.OwnEq
import HandS.DictEq
import KE.KExcIs
import HandS.MakeKwOnly
import OpenK.KMeth
import HandS.DictTup
import KE.KDictList
import HandS.Style
import HandS.ListEq
import HandS.Star
import PyProof.NeKinds
import PyProof.CompUse
import HandS.SortKw
import PyProof.TupleOfSeq
import HandS.Iter
import HandS.ClsMeth
import HandS.GenList
import KE.GoesEnum
import KE.KSortTupAny
import KE.KSortTupG
import HandS.NamedTupSort
import KE.SortData
import KE.SortCalls
import PyProof.Rows.SetFrom
import HandS.SetFor
import PySem.Challenge.RW_weirkeepers_k01_rows_refused
set_option Elab.async false
set_option linter.all false
set_option maxRecDepth 100000
set_option maxHeartbeats 0
/-! What a head looks at, as lists of bits. -/
namespace WK
open PySem PySem.Spec PyProof.Rows L2
abbrev builtN : List String := ["NoneType", "bool", "int", "str", "tuple", "list", "dict"]
def oexB (K : PySem.W.Frag) (C : Addr) : Bool := match K.lookup C with
  | some ⟨.type "type", _, .cls cd, sl⟩ => (match cd.mro, sl.toList with
    | .ref C' :: bm, [_, _, _, _, some (.builtin n), _] => C' == C && n == "ValueError.__new__" && !cd.hasDel && cd.hasDict && PySem.HandSPX.refsVE bm
    | _, _ => false)
  | _ => false
def eB (a b : Option (Option Value)) : Bool := decide (a = b)
def glbL (K : PySem.W.Frag) : List Bool := [eB (PySem.W.specialIn K (.builtin "object.__class__") "__get__") (some (some (.builtin "getset_descriptor.__get__"))), decide (PySem.W.takesIn K (.builtin "object.__class__") = some true)]
def clsL (K : PySem.W.Frag) (cs : List Str) (c : Str) : List Bool :=
  [PySem.W.selfFirst K (He.ga K c), eB (PySem.W.findIn K (.ref (He.ga K c)) "__ne__") (some (some (.builtin "object.__ne__"))), decide (PySem.W.subIn K (.ref (He.ga K c)) (.type "object") = some true),
   eB (PySem.W.findIn K (.ref (He.ga K c)) "__class__") (some (some (.builtin "object.__class__"))), decide (PySem.W.mroIn K (He.ga K c) (.type "object") = some true),
   builtN.all (fun T => PySem.W.notFirst K (He.ga K c) (.type T)), cs.all (fun c' => PySem.W.notFirst K (He.ga K c) (.ref (He.ga K c'))),
   builtN.all (fun T => decide (PySem.W.kitOne K (.type T) (.ref (He.ga K c)) = some false)), cs.all (fun c' => decide (PySem.W.kitOne K (.ref (He.ga K c')) (.ref (He.ga K c)) = some (c' == c))),
   builtN.all (fun T => decide (PySem.W.kitOne K (.ref (He.ga K c)) (.type T) = some false))]
def itL (K : PySem.W.Frag) (c : Str) : List Bool :=
  [eB (PySem.W.findIn K (.ref (He.ga K c)) "__iter__") (some (some (.ref (He.ma K (He.ga K c) "__iter__")))), PySem.W.isFn K (.ref (He.ma K (He.ga K c) "__iter__")), eB (PySem.W.findIn K (.ref (He.ga K c)) "__contains__") (some none)]
def excL (K : PySem.W.Frag) (xs : List Str) (c : Str) : List Bool :=
  [oexB K (He.ga K c), eB (PySem.W.findIn K (.ref (He.ga K c)) "__setattr__") (some (some (.builtin "object.__setattr__"))), decide (PySem.W.subIn K (.ref (He.ga K c)) (.type "BaseException") = some true), decide (PySem.W.typeIn K (.ref (He.ga K c)) = some (.type "type")), PySem.W.keepIn K (.ref (He.ga K c)),
   eB (PySem.W.findIn K (.ref (He.ga K c)) "__getattribute__") (some (some (.builtin "BaseException.__getattribute__"))), eB (PySem.W.findIn K (.ref (He.ga K c)) "__getattr__") (some none), PySem.W.hasDictIn K (He.ga K c),
   eB (PySem.W.findIn K (.ref (He.ga K c)) "__class__") (some (some (.builtin "object.__class__"))), decide (PySem.W.mroIn K (He.ga K c) (.type "object") = some true),
   xs.all (fun c' => decide (PySem.W.kitOne K (.ref (He.ga K c)) (.ref (He.ga K c')) = some (c' == c || c' == ("WeirError" : Str)))), decide (PySem.W.kitOne K (.ref (He.ga K c)) (.type "ValueError") = some true),
   xs.all (fun c' => decide (PySem.W.exmOne K (.ref (He.ga K c)) (.ref (He.ga K c')) = some (c' == c || c' == ("WeirError" : Str))))]
def xinL (K : PySem.W.Frag) (c : Str) : List Bool :=
  [eB (PySem.W.findIn K (.ref (He.ga K c)) "__init__") (some (some (.ref (He.ma K (He.ga K c) "__init__")))), decide (PySem.W.typeIn K (.ref (He.ma K (He.ga K c) "__init__")) = some (.type "function"))]
def allB (l : List Bool) : Bool := l.all id
end WK
namespace WK
open PySem PySem.Spec PySem.W PySem.Calls PyProof.Rows L2
end WK
/-! a head that sees properties' getters, too. -/
namespace WK
open PySem PySem.Spec PySem.W PySem.Calls PyProof.Rows L2
/-- the getter that stands in the property's record -/
def gAd (K : PySem.W.Frag) (p : Str × Str) : Addr := match PySem.W.recIn K (He.ma K (He.ga K p.1) p.2) "property" with
  | some (.ref g :: _) => g
  | _ => 0
def fnG (K : PySem.W.Frag) (p : Str × Str) : He.FnW := match K.lookup (gAd K p) with
  | some ⟨_, _, .func fd, _⟩ => some (fd.name, fd.qualname, fd.params, fd.body, fd.scope, fd.globals, fd.closure, fd.builtins)
  | _ => none
abbrev PrD : Type := (Str × Str) × He.DefD
end WK
/-! a head that sees the tables of defs that make lambdas, and classmethods' defs, too. -/
namespace WK
open PySem PySem.Spec PySem.W PySem.Calls PyProof.Rows L2
abbrev ObQ : Type := He.AlX × List He.FnW × (Bool × List He.FnW)
def obQ (as : List Addr) (fa : List He.Fa) (fn : List He.DefD) (tf : List He.Defn) (ex : PySem.W.Frag → Bool) (ps : List PrD) (ds : List He5.DefA) (g : Addr → Option Obj) : ObQ :=
  ((He.obsT fa fn [] (He.frT g as), ex (He.frT g as) && He.tabsB g tf (He.frT g as)), ps.map (fun p => fnG (He.frT g as) p.1), (ds.all fun d => d.ok (He.frT g as), ds.map fun d => He5.fnA (He.frT g as) (d.at_ (He.frT g as))))
def valQ (fn : List He.DefD) (ps : List PrD) (ds : List He5.DefA) (w : World) : ObQ := (He.valX fn [] w, ps.map fun p => p.2.val, (true, ds.map He5.DefA.val))
structure SaysQ (fa : List He.Fa) (fn : List He.DefD) (tf : List He.Defn) (ex : PySem.W.Frag → Bool) (ps : List PrD) (ds : List He5.DefA) (w : World) (h : Heap) (K : PySem.W.Frag) : Prop where
  x : He.SaysX fa fn [] tf ex w h K
  p : (ps.map fun p => fnG K p.1) = ps.map fun p => p.2.val
  dk : (ds.all fun d => d.ok K) = true
  dv : (ds.map fun d => He5.fnA K (d.at_ K)) = ds.map He5.DefA.val
theorem saysQ_of {as : List Addr} {fa : List He.Fa} {fn : List He.DefD} {tf : List He.Defn} {ex : PySem.W.Frag → Bool} {ps : List PrD} {ds : List He5.DefA} {w : World} {h : Heap} (e : obQ as fa fn tf ex ps ds h.get? = valQ fn ps ds w) : SaysQ fa fn tf ex ps ds w h (He.frT h.get? as) := by
  have e1 : He.obsT fa fn [] (He.frT h.get? as) = He.valT fn [] w := congrArg (fun z : ObQ => z.1.1) e
  have e2 : (ex (He.frT h.get? as) && He.tabsB h.get? tf (He.frT h.get? as)) = true := congrArg (fun z : ObQ => z.1.2) e
  obtain ⟨h1, h2⟩ := He.ba e2
  have key : ∀ p ∈ tf, PySem.W.codeHdIn (He.frT h.get? as) (He.cT (He.frT h.get? as) p).1 (He.cT (He.frT h.get? as) p).2 = true ∧ ∃ o, h.get? (He.cT (He.frT h.get? as) p).2 = some o ∧ He.emptyTab o = true := fun p hp => by
    obtain ⟨h3, h4⟩ := He.ba (List.all_eq_true.mp h2 p hp)
    refine ⟨h3, ?_⟩
    cases q : h.get? (He.cT (He.frT h.get? as) p).2 with
    | none =>
      rw [q] at h4
      cases h4
    | some o =>
      rw [q] at h4
      exact ⟨o, rfl, h4⟩
  refine ⟨⟨e1, h1, fun p hp => (key p hp).1, fun p hp => ?_, fun p hp => ?_⟩, congrArg (fun z : ObQ => z.2.1) e, congrArg (fun z : ObQ => z.2.2.1) e, congrArg (fun z : ObQ => z.2.2.2) e⟩
  · obtain ⟨_, o, q, z⟩ := key p hp
    exact He.frT_none q z
  · obtain ⟨_, o, q, z⟩ := key p hp
    rw [q, He.emptyTab_eq z]
def hookQ (as : List Addr) (fa : List He.Fa) (fn : List He.DefD) (tf : List He.Defn) (ex : PySem.W.Frag → Bool) (ps : List PrD) (ds : List He5.DefA) : PySem.W.Hook where
  α := ObQ
  obs := fun s => obQ as fa fn tf ex ps ds s.heap.get?
  val := fun w => valQ fn ps ds w
  says := fun w h => ∃ K : PySem.W.Frag, K.In h ∧ SaysQ fa fn tf ex ps ds w h K
  of := fun _ _ e => ⟨_, He.frT_in, saysQ_of e⟩
  keeps := fun _ _ _ ⟨K, hK, c⟩ k => ⟨K, PySem.W.Frag.In.keeps hK k, ⟨⟨c.x.t, c.x.more, c.x.hd, c.x.out, fun p hp => k _ _ (c.x.empty p hp)⟩, c.p, c.dk, c.dv⟩⟩
theorem obQ_eq {as : List Addr} {fa : List He.Fa} {fn : List He.DefD} {tf : List He.Defn} {ex : PySem.W.Frag → Bool} {ps : List PrD} {ds : List He5.DefA} {s : PySem.W.SharedT} : obQ as fa fn tf ex ps ds (HandSHeadRun.getT s) = (hookQ as fa fn tf ex ps ds).obs s.abs := by
  have e : HandSHeadRun.getT s = s.abs.heap.get? := funext (HandSHeadRun.getT_eq s)
  show obQ as fa fn tf ex ps ds (HandSHeadRun.getT s) = obQ as fa fn tf ex ps ds s.abs.heap.get?
  rw [e]
end WK
namespace WK
open PySem PySem.Spec PySem.W PyProof.Rows L2
def top (i : Nat) : Stmt := PySem.Challenge.pw_weirkeepers_k01_rows_refused.main.body.getD i (.Pass ⟨0, 0, 0, 0⟩)
abbrev eCS : List Str := [("River" : Str), ("Rights" : Str)]
abbrev eXS : List Str := [("WeirError" : Str), ("NotRiver" : Str), ("NotRights" : Str), ("NotText" : Str), ("NoWeir" : Str), ("NoRight" : Str), ("NotDown" : Str)]
abbrev eITS : List (Str × Str) := []
def dd_l_bag : He.DefD := ⟨("_law_bag", none), "_law_bag", "_law_bag", defArgs (top 24), defBody (top 24), defScope (top 24), [], []⟩
def dd_l_take : He.DefD := ⟨("_law_take", none), "_law_take", "_law_take", defArgs (top 25), defBody (top 25), defScope (top 25), [], []⟩
def dd_l_of : He.DefD := ⟨("_law_of", none), "_law_of", "_law_of", defArgs (top 26), defBody (top 26), defScope (top 26), [], []⟩
def dd_l_mixed : He.DefD := ⟨("_law_mixed", none), "_law_mixed", "_law_mixed", defArgs (top 27), defBody (top 27), defScope (top 27), [], []⟩
def dd_l_names : He.DefD := ⟨("_law_names", none), "_law_names", "_law_names", defArgs (top 28), defBody (top 28), defScope (top 28), [], []⟩
def dd_l_river : He.DefD := ⟨("_law_river", none), "_law_river", "_law_river", defArgs (top 29), defBody (top 29), defScope (top 29), [], []⟩
def dd_l_course : He.DefD := ⟨("_law_course", none), "_law_course", "_law_course", defArgs (top 30), defBody (top 30), defScope (top 30), [], []⟩
def dd_is_name : He.DefD := ⟨("is_name", none), "is_name", "is_name", defArgs (top 12), defBody (top 12), defScope (top 12), [], []⟩
def dd_is_wrong_row : He.DefD := ⟨("is_wrong_row", none), "is_wrong_row", "is_wrong_row", defArgs (top 13), defBody (top 13), defScope (top 13), [], []⟩
def dd_reaches_sea : He.DefD := ⟨("reaches_sea", none), "reaches_sea", "reaches_sea", defArgs (top 14), defBody (top 14), defScope (top 14), [], []⟩
def dd_river_fault : He.DefD := ⟨("river_fault", none), "river_fault", "river_fault", defArgs (top 15), defBody (top 15), defScope (top 15), [], []⟩
def dd_course_of : He.DefD := ⟨("course_of", none), "course_of", "course_of", defArgs (top 16), defBody (top 16), defScope (top 16), [], []⟩
def dd_River__init_ : He.DefD := ⟨("River", some "__init__"), "__init__", "River.__init__", defArgs (inClass (top 17) 0), defBody (inClass (top 17) 0), defScope (inClass (top 17) 0), [], []⟩
def dd_River_need : He.DefD := ⟨("River", some "need"), "need", "River.need", defArgs (inClass (top 17) 4), defBody (inClass (top 17) 4), defScope (inClass (top 17) 4), [], []⟩
def dd_River_is_down : He.DefD := ⟨("River", some "is_down"), "is_down", "River.is_down", defArgs (inClass (top 17) 11), defBody (inClass (top 17) 11), defScope (inClass (top 17) 11), [], []⟩
def dd_River_way : He.DefD := ⟨("River", some "way"), "way", "River.way", defArgs (inClass (top 17) 13), defBody (inClass (top 17) 13), defScope (inClass (top 17) 13), [], []⟩
def dd_is_wrong_right : He.DefD := ⟨("is_wrong_right", none), "is_wrong_right", "is_wrong_right", defArgs (top 20), defBody (top 20), defScope (top 20), [], []⟩
def dd_rights_fault : He.DefD := ⟨("rights_fault", none), "rights_fault", "rights_fault", defArgs (top 21), defBody (top 21), defScope (top 21), [], []⟩
def dd_Rights__init_ : He.DefD := ⟨("Rights", some "__init__"), "__init__", "Rights.__init__", defArgs (inClass (top 22) 0), defBody (inClass (top 22) 0), defScope (inClass (top 22) 0), [], []⟩
def dd_Rights__len_ : He.DefD := ⟨("Rights", some "__len__"), "__len__", "Rights.__len__", defArgs (inClass (top 22) 1), defBody (inClass (top 22) 1), defScope (inClass (top 22) 1), [], []⟩
def dd_Rights_rows : He.DefD := ⟨("Rights", some "rows"), "rows", "Rights.rows", defArgs (inClass (top 22) 5), defBody (inClass (top 22) 5), defScope (inClass (top 22) 5), [], []⟩
def dd_Rights_joined : He.DefD := ⟨("Rights", some "joined"), "joined", "Rights.joined", defArgs (inClass (top 22) 16), defBody (inClass (top 22) 16), defScope (inClass (top 22) 16), [], []⟩
def dd_l_right_names : He.DefD := ⟨("_law_right_names", none), "_law_right_names", "_law_right_names", defArgs (top 31), defBody (top 31), defScope (top 31), [], []⟩
def dd_l_rights : He.DefD := ⟨("_law_rights", none), "_law_rights", "_law_rights", defArgs (top 32), defBody (top 32), defScope (top 32), [], []⟩
def dd_l_is_name : He.DefD := ⟨("_law_is_name", none), "_law_is_name", "_law_is_name", defArgs (top 33), defBody (top 33), defScope (top 33), [], []⟩
def dd_l_is_pair : He.DefD := ⟨("_law_is_pair", none), "_law_is_pair", "_law_is_pair", defArgs (top 34), defBody (top 34), defScope (top 34), [], []⟩
def dd_l_wrong_river : He.DefD := ⟨("_law_wrong_river", none), "_law_wrong_river", "_law_wrong_river", defArgs (top 35), defBody (top 35), defScope (top 35), [], []⟩
def dd_l_is_right : He.DefD := ⟨("_law_is_right", none), "_law_is_right", "_law_is_right", defArgs (top 36), defBody (top 36), defScope (top 36), [], []⟩
def dd_l_wrong_rights : He.DefD := ⟨("_law_wrong_rights", none), "_law_wrong_rights", "_law_wrong_rights", defArgs (top 37), defBody (top 37), defScope (top 37), [], []⟩
def dd_l_bad_word : He.DefD := ⟨("_law_bad_word", none), "_law_bad_word", "_law_bad_word", defArgs (top 38), defBody (top 38), defScope (top 38), [], []⟩
def dd_l_bad_entry : He.DefD := ⟨("_law_bad_entry", none), "_law_bad_entry", "_law_bad_entry", defArgs (top 39), defBody (top 39), defScope (top 39), [], []⟩
def dd_l_spoilt : He.DefD := ⟨("_law_spoilt", none), "_law_spoilt", "_law_spoilt", defArgs (top 40), defBody (top 40), defScope (top 40), [], []⟩
def dd_l_refusal : He.DefD := ⟨("_law_refusal", none), "_law_refusal", "_law_refusal", defArgs (top 41), defBody (top 41), defScope (top 41), [], []⟩
def dd_l_due : He.DefD := ⟨("_law_due", none), "_law_due", "_law_due", defArgs (top 42), defBody (top 42), defScope (top 42), [], []⟩
def dd_l_rivers_right : He.DefD := ⟨("_law_rivers_right", none), "_law_rivers_right", "_law_rivers_right", defArgs (top 43), defBody (top 43), defScope (top 43), [], []⟩
def dd_l_rights_right : He.DefD := ⟨("_law_rights_right", none), "_law_rights_right", "_law_rights_right", defArgs (top 44), defBody (top 44), defScope (top 44), [], []⟩
def dd_l_words_right : He.DefD := ⟨("_law_words_right", none), "_law_words_right", "_law_words_right", defArgs (top 45), defBody (top 45), defScope (top 45), [], []⟩
def dd_law : He.DefD := ⟨("law", none), "law", "law", defArgs (top 46), defBody (top 46), defScope (top 46), [], []⟩
def dd_NotRiver__init_ : He.DefD := ⟨("NotRiver", some "__init__"), "__init__", "NotRiver.__init__", defArgs (inClass (top 3) 0), defBody (inClass (top 3) 0), defScope (inClass (top 3) 0), [], []⟩
def dd_NoWeir__init_ : He.DefD := ⟨("NoWeir", some "__init__"), "__init__", "NoWeir.__init__", defArgs (inClass (top 6) 0), defBody (inClass (top 6) 0), defScope (inClass (top 6) 0), [], []⟩
def dd_NotDown__init_ : He.DefD := ⟨("NotDown", some "__init__"), "__init__", "NotDown.__init__", defArgs (inClass (top 8) 0), defBody (inClass (top 8) 0), defScope (inClass (top 8) 0), [], []⟩
def dd_NotRights__init_ : He.DefD := ⟨("NotRights", some "__init__"), "__init__", "NotRights.__init__", defArgs (inClass (top 4) 0), defBody (inClass (top 4) 0), defScope (inClass (top 4) 0), [], []⟩
def hpr : List PrD := []
def hds : List He5.DefA := []
def htf : List He.Defn := [("_law_rivers_right", none), ("_law_rights_right", none)]
def distB : List Addr → Bool
  | [] => true
  | a :: l => l.all (fun b => !(a == b)) && distB l
def hfn : List He.DefD := [dd_l_bag, dd_l_take, dd_l_of, dd_l_mixed, dd_l_names, dd_l_river, dd_l_course, dd_is_name, dd_is_wrong_row, dd_reaches_sea, dd_river_fault, dd_course_of, dd_River__init_, dd_River_need, dd_River_is_down, dd_River_way, dd_is_wrong_right, dd_rights_fault, dd_Rights__init_, dd_Rights__len_, dd_Rights_rows, dd_Rights_joined, dd_l_right_names, dd_l_rights, dd_l_is_name, dd_l_is_pair, dd_l_wrong_river, dd_l_is_right, dd_l_wrong_rights, dd_l_bad_word, dd_l_bad_entry, dd_l_spoilt, dd_l_refusal, dd_l_due, dd_l_rivers_right, dd_l_rights_right, dd_l_words_right, dd_law, dd_NotRiver__init_, dd_NoWeir__init_, dd_NotDown__init_, dd_NotRights__init_]
def hfa : List He.Fa := [.glo "_law_bag", .glo "_law_take", .glo "_law_of", .glo "_law_mixed", .glo "_law_names", .glo "_law_river", .glo "_law_course", .glo "is_name", .glo "is_wrong_row", .glo "reaches_sea", .glo "river_fault", .glo "course_of", .glo "is_wrong_right", .glo "rights_fault", .glo "_law_right_names", .glo "_law_rights", .glo "_law_is_name", .glo "_law_is_pair", .glo "_law_wrong_river", .glo "_law_is_right", .glo "_law_wrong_rights", .glo "_law_bad_word", .glo "_law_bad_entry", .glo "_law_spoilt", .glo "_law_refusal", .glo "_law_due", .glo "_law_rivers_right", .glo "_law_rights_right", .glo "_law_words_right", .glo "law", .glo "River", .glo "Rights", .glo "WeirError", .glo "NotRiver", .glo "NotRights", .glo "NotText", .glo "NoWeir", .glo "NoRight", .glo "NotDown", .free "len", .free "abs", .free "max", .free "min", .free "int", .free "bool", .free "str", .free "list", .free "tuple", .free "dict", .free "isinstance", .free "all", .free "any", .free "sum", .free "iter", .free "sorted", .free "range", .free "enumerate", .free "zip", .free "ValueError", .free "set", .str "LETTERS" "abcdefghijklmnopqrstuvwxyz", .int "MOST_WEIRS" 40, .int "MOST_RIGHTS" 40, .cls "River", .cls "Rights", .mkr "River", .mkr "Rights", .noat "River" "weirs", .noat "River" "lower", .noat "River" "courses", .noat "Rights" "river", .noat "Rights" "names", .noat "Rights" "entries", .noat "Rights" "ways", .noat "Rights" "stops", .noat "NotRiver" "place", .noat "NotRights" "place", .noat "NotText" "line", .noat "NoWeir" "name", .noat "NoRight" "name", .noat "NotDown" "high", .noat "NotDown" "low", .meth "River" "need", .meth "River" "is_down", .meth "River" "way", .meth "Rights" "__len__", .meth "Rights" "rows", .meth "Rights" "joined"]
def hexL (K : PySem.W.Frag) : List Bool := [allB (glbL K), eCS.all (fun c => allB (clsL K eCS c)), eITS.all (fun p => allB (itL K p.1)), eXS.all (fun c => allB (excL K eXS c)), ([("NotRiver" : Str), ("NoWeir" : Str), ("NotDown" : Str), ("NotRights" : Str)] : List Str).all (fun c => allB (xinL K c)), distB (htf.map fun d => (He.cT K d).2)]
def hex (K : PySem.W.Frag) : Bool := allB (hexL K)
abbrev R : PySem.W.OpenRow := PySem.W.OpenLaw.row PySem.Challenge.rw_weirkeepers_k01_rows_refused
def ads0 : List Addr := [2, 3, 30, 31, 47, 48, 50, 51, 66, 67, 69, 70, 88, 89, 104, 105, 107, 108, 126, 127, 142, 143, 145, 146, 152, 153, 159, 160, 166, 167]
def ads1 : List Addr := [173, 174, 180, 181, 192, 193, 220, 221, 265, 266, 279, 280, 289, 290, 300, 301, 307, 308, 319, 320, 326, 327, 352, 353, 429, 430, 432, 433, 443, 444]
def ads2 : List Addr := [450, 451, 457, 458, 464, 465, 469, 470, 476, 477, 483, 484, 488, 489, 495, 496, 500, 501, 505, 506, 512, 513, 517, 518, 522, 523, 529, 530, 536, 537]
def ads3 : List Addr := [543, 544, 550, 551, 557, 558, 562, 563, 567, 568, 574, 575, 581, 582]
def ads : List Addr := ads0 ++ ads1 ++ ads2 ++ ads3
abbrev hk : PySem.W.Hook := hookQ ads hfa hfn htf hex hpr hds
def ob (s : PySem.W.SharedT) : ObQ := obQ ads hfa hfn htf hex hpr hds (HandSHeadRun.getT s)
theorem ob_eq (s : PySem.W.SharedT) : ob s = hk.obs s.abs := obQ_eq
def loose0 : List Str := [("_wall" : Str), ("__name__" : Str), ("WeirError" : Str), ("NotRiver" : Str), ("NotRights" : Str), ("NotText" : Str), ("NoWeir" : Str), ("NoRight" : Str), ("NotDown" : Str), ("MOST_WEIRS" : Str), ("LETTERS" : Str), ("is_name" : Str), ("is_wrong_row" : Str), ("reaches_sea" : Str), ("river_fault" : Str), ("course_of" : Str), ("River" : Str), ("MOST_RIGHTS" : Str), ("is_wrong_right" : Str), ("rights_fault" : Str), ("Rights" : Str), ("_law_bag" : Str), ("_law_take" : Str), ("_law_of" : Str), ("_law_mixed" : Str), ("_law_names" : Str), ("_law_river" : Str), ("_law_course" : Str), ("_law_right_names" : Str), ("_law_rights" : Str)]
def loose1 : List Str := [("_law_is_name" : Str), ("_law_is_pair" : Str), ("_law_wrong_river" : Str), ("_law_is_right" : Str), ("_law_wrong_rights" : Str), ("_law_bad_word" : Str), ("_law_bad_entry" : Str), ("_law_spoilt" : Str), ("_law_refusal" : Str), ("_law_due" : Str), ("_law_rivers_right" : Str), ("_law_rights_right" : Str), ("_law_words_right" : Str)]
def loose : List Str := loose0 ++ loose1
abbrev qv : Program := PySem.W.view R.prog [46]
noncomputable abbrev en (w : World) (os : OsState) := HandSHeadRun.endF (HandSHeadRun.stepQ (HandSHeadRun.denQ HandSHeadRun.tabQ) R.prog w) 60000 R.prog w os
theorem runA (w : World) (os : OsState) : (en w os).map (fun s => (HandSHeadRun.looksF R.prog (boot_heap w.params) s.abs, HandSHeadRun.seenQ qv loose (importedModules R.prog.main.body) (fun s => xlAt qv [] s && PySem.W.recOk R.toRowW.records s) s.abs)) = some (true, openGood qv loose) := by
  kernel_rfl
theorem runB (w : World) (os : OsState) : (en w os).map (fun s => He.obsT hfa hfn [] (He.frT (HandSHeadRun.getT s) ads)) = some (He.valT hfn [] w) := by
  kernel_rfl
theorem runC (w : World) (os : OsState) : (en w os).map (fun s => hex (He.frT (HandSHeadRun.getT s) ads) && He.tabsB (HandSHeadRun.getT s) htf (He.frT (HandSHeadRun.getT s) ads)) = some true := by
  kernel_rfl
theorem runD (w : World) (os : OsState) : (en w os).map (fun s => hpr.map fun p => fnG (He.frT (HandSHeadRun.getT s) ads) p.1) = some (hpr.map fun p => p.2.val) := by
  kernel_rfl
theorem runE (w : World) (os : OsState) : (en w os).map (fun s => ((hds.all fun d => d.ok (He.frT (HandSHeadRun.getT s) ads)), (hds.map fun d => He5.fnA (He.frT (HandSHeadRun.getT s) ads) (d.at_ (He.frT (HandSHeadRun.getT s) ads))))) = some (true, hds.map He5.DefA.val) := by
  kernel_rfl
theorem run (w : World) : HandSHeadRun.RunEq R qv hk ob 60000 loose w := by
  intro os
  obtain ⟨s, e, ea⟩ := Option.map_eq_some_iff.mp (runA w os)
  obtain ⟨s2, e2, eb⟩ := Option.map_eq_some_iff.mp (runB w os)
  obtain ⟨s3, e3, ec⟩ := Option.map_eq_some_iff.mp (runC w os)
  obtain ⟨s4, e4', ed⟩ := Option.map_eq_some_iff.mp (runD w os)
  cases e.symm.trans e2
  cases e.symm.trans e3
  cases e.symm.trans e4'
  obtain ⟨s5, e5', ee⟩ := Option.map_eq_some_iff.mp (runE w os)
  cases e.symm.trans e5'
  obtain ⟨e4, e5⟩ := Prod.mk.inj ea
  refine Option.map_eq_some_iff.mpr ⟨s, e, ?_⟩
  exact Prod.ext e4 (Prod.ext e5 (Prod.ext (Prod.ext eb ec) (Prod.ext ed ee)))
abbrev hdDef : PySem.DefRec := HandSHeadRun.topDef R.prog 46
theorem hdHolds (call : PySem.W.WalkO qv loose (PySem.W.XL qv []) hk.says R.toRowW hdDef [] fun f vs => PySem.call f vs) : R.Holds := by
  refine HandSHeadRun.head_any (r := R) (q := qv) (H := hk) (ob := ob) (M := 60000) (loose := loose) (d := hdDef) (kwd := []) ob_eq
    (by kernel_rfl) (fun s => by kernel_rfl) run (by kernel_rfl) (by kernel_rfl) (by kernel_rfl) (by rfl) (by first | assumption | decide +kernel) (by decide +kernel) ⟨rfl, rfl, rfl, rfl, rfl, by decide +kernel⟩ ?hw call
  case hw => w_witness2
theorem hdName : hdDef.name = ("law" : Str) := by kernel_rfl
end WK
section
open PySem PySem.W PySem.Calls PyProof.Rows
theorem WK.finI (call : PySem.W.WalkO WK.qv WK.loose (PySem.W.XL WK.qv []) WK.hk.says WK.R.toRowW WK.hdDef [] fun f vs => PySem.call f vs) : PySem.Challenge.rw_weirkeepers_k01_rows_refused.Holds := by
  w_on; o_law
  exact WK.hdHolds call
end
namespace WK
end WK
/-! The frame: readings by names, steps, heaps. -/
namespace WK
open PySem L2
abbrev Ex := Evl.Ex
/-! ### readings by short names -/
abbrev rAddI : R2 := rI0 fun i j => .int (i + j)
def rAddT : R2 := fun x y H Q => ∃ i j, x = .str i ∧ y = .str j ∧ i.length + j.length ≤ sizeLine ∧ Q (.str (i ++ j)) H
def rAbs : List V → Hp → VK → Prop := fun xs H Q => ∃ i, xs = [.int i] ∧ Q (.int (if i < 0 then -i else i)) H
def rMx2 : List V → Hp → VK → Prop := fun xs H Q => ∃ i j, xs = [.int i, .int j] ∧ Q (.int (if j > i then j else i)) H
def rMn2 : List V → Hp → VK → Prop := fun xs H Q => ∃ i j, xs = [.int i, .int j] ∧ Q (.int (if j < i then j else i)) H
def rInt1 : List V → Hp → VK → Prop := fun xs H Q => (∃ i, xs = [.int i] ∧ Q (.int i) H) ∨ ∃ k, xs = [.bl k] ∧ Q (.int (if k then 1 else 0)) H
def rTupOf (K : PySem.W.Frag) : List V → Hp → VK → Prop := fun xs H Q => ∃ p ys, xs = [.ref p] ∧ ((SqL K H p ys ∧ ∀ l, H l = none → Q (.ref l) (upd H l (.tup ys))) ∨ (SqT K H p ys ∧ Q (.ref p) H))
/-- the built-ins' names are still free -/
structure Bf (mg : Str → Option Value) : Prop where
  len : mg "len" = none
  abs : mg "abs" = none
  max : mg "max" = none
  min : mg "min" = none
  int : mg "int" = none
  bool : mg "bool" = none
  str : mg "str" = none
  list : mg "list" = none
  tuple : mg "tuple" = none
  dict : mg "dict" = none
  isinstance : mg "isinstance" = none
  all : mg "all" = none
  any : mg "any" = none
  sum : mg "sum" = none
  iter : mg "iter" = none
  sorted : mg "sorted" = none
  range : mg "range" = none
  enumerate : mg "enumerate" = none
  zip : mg "zip" = none
  ValueError : mg "ValueError" = none
  set : mg "set" = none
theorem bt_len : bootBuiltins "len" = some (.builtin "len") := by decide +kernel
theorem bt_abs : bootBuiltins "abs" = some (.builtin "abs") := by decide +kernel
theorem bt_max : bootBuiltins "max" = some (.builtin "max") := by decide +kernel
theorem bt_min : bootBuiltins "min" = some (.builtin "min") := by decide +kernel
theorem bt_int : bootBuiltins "int" = some (.type "int") := by decide +kernel
theorem bt_list : bootBuiltins "list" = some (.type "list") := by decide +kernel
theorem bt_tuple : bootBuiltins "tuple" = some (.type "tuple") := by decide +kernel
theorem bt_dict : bootBuiltins "dict" = some (.type "dict") := by decide +kernel
theorem bt_isinstance : bootBuiltins "isinstance" = some (.builtin "isinstance") := by decide +kernel
theorem bt_all : bootBuiltins "all" = some (.builtin "all") := by decide +kernel
theorem bt_any : bootBuiltins "any" = some (.builtin "any") := by decide +kernel
/-! ### defs by their names -/
structure Cal (P : Program) (w : World) (K : PySem.W.Frag) (mg : Str → Option Value) (base : Heap) (k : Nat) (x : Str) (ps : List Str) (sp : Sp) : Prop where
  fn : ∃ fd, FnOk P w K mg base (L2.CX P w) k (He.ga K x) fd ps sp ∧ Binds K fd ps []
  gl : mg x = some (.ref (He.ga K x))
  kp : PySem.W.keepIn K (.ref (He.ga K x)) = true
structure MCal (P : Program) (w : World) (K : PySem.W.Frag) (mg : Str → Option Value) (base : Heap) (k : Nat) (c m : Str) (ps : List Str) (sp : Sp) : Prop where
  fn : ∃ fd, FnOk P w K mg base (L2.CX P w) k (He.ma K (He.ga K c) m) fd ps sp ∧ Binds K fd ps []
  mt : Meth K (He.ga K c) m (He.ma K (He.ga K c) m)
structure ICal (P : Program) (w : World) (K : PySem.W.Frag) (mg : Str → Option Value) (base : Heap) (k : Nat) (c : Str) (ps : List Str) (sp : Sp) : Prop where
  fn : ∃ fd, FnOk P w K mg base (L2.CX P w) k (He.ma K (He.ga K c) "__init__") fd ps sp ∧ Binds K fd ps []
  mkr : Mk K (He.ga K c) (He.ma K (He.ga K c) "__init__")
  gl : mg c = some (.ref (He.ga K c))
theorem hu65_of {A : Around} {k : Nat} (hr : Room k A) : A.units + 65 < cLine := by have := hr.un; omega
section
variable {X : Cx} {k : Nat} {x c m : Str} {ps : List Str} {sp : Sp} {E : XK} {p pos apos : Pos} {e o : Expr} {es : List Expr} {t : TA} {ta : TE}
end
end WK
namespace WK
open PySem L2
section
variable {K : PySem.W.Frag} {σ : L2.St} {H : Hp} {Q : VK} {D : Ends} {ta tb te tl : TE} {c d : TT} {t u : TS} {tg : TG} {tgs : TGs} {r r' : R2} {tas : TA} {x y v : V} {E : XK} {sp : Sp}
/-! ### sizes -/
theorem sz_le {n : Nat} (h : n ≤ 10000000) : n ≤ sizeLine := by rw [PySem.sizeLine_eq]; omega
theorem sz_lt {n : Nat} (h : n < 10000000) : n < sizeLine := by rw [PySem.sizeLine_eq]; omega
theorem up_new {p a : Addr} {o u : HO} (hn : H p = none) (h : H a = some u) : upd H p o a = some u := Evl.Ex.new hn _ _ h
end
end WK
namespace WK
open PySem L2
/-! ### heaps that grow; a bag that turns -/
theorem Ex.refl (H : Hp) : Ex H H := Evl.Ex.refl H
theorem Ex.trans {H H1 H2 : Hp} (a : Ex H H1) (b : Ex H1 H2) : Ex H H2 := Evl.Ex.trans a b
theorem Ex.new {H : Hp} {p : Addr} {o : HO} (h : H p = none) : Ex H (upd H p o) := Evl.Ex.new h
theorem Ex.mut {H H' : Hp} {p : Addr} {o : HO} (e : Ex H H') (h : H p = none) : Ex H (upd H' p o) := Evl.Ex.mut e h
theorem Ex.nn {H H' : Hp} {p : Addr} (e : Ex H H') (h : H' p = none) : H p = none := Evl.fresh_back e h
theorem Ex.del {H H' : Hp} (b : Addr) (e : Ex H H') : Ex (del H b) (del H' b) := fun a o h => by
  by_cases q : a = b
  · subst q; rw [del_same] at h; cases h
  · rw [del_ne q] at h ⊢; exact e a o h
theorem del_none {H : Hp} {a b : Addr} (h : H a = none) : del H b a = none := by
  by_cases q : a = b
  · subst q; exact del_same
  · rw [del_ne q]; exact h
/-- a bag: two ints that are not negative -/
def Bag (H : Hp) (b : Addr) : Prop := ∃ x y : Int, H b = some (.lst [.int x, .int y]) ∧ 0 ≤ x ∧ 0 ≤ y
theorem Bag.ne {H : Hp} {b p : Addr} (h : Bag H b) (n : H p = none) : p ≠ b := by
  obtain ⟨x, y, e, _⟩ := h
  intro q; subst q; rw [n] at e; cases e
theorem Bag.ex {H H' : Hp} {b : Addr} (h : Bag H b) (e : Ex H H') : Bag H' b := by
  obtain ⟨x, y, q, h1, h2⟩ := h
  exact ⟨x, y, e _ _ q, h1, h2⟩
/-- all but the bag is kept, the bag is a bag -/
structure Kp (b : Addr) (H H' : Hp) : Prop where
  ex : Ex (del H b) (del H' b)
  bag : Bag H' b
theorem Kp.refl {b : Addr} {H : Hp} (h : Bag H b) : Kp b H H := ⟨Ex.refl _, h⟩
theorem Kp.trans {b : Addr} {H H1 H2 : Hp} (k : Kp b H H1) (k' : Kp b H1 H2) : Kp b H H2 := ⟨k.ex.trans k'.ex, k'.bag⟩
theorem Kp.of_ex {b : Addr} {H H' : Hp} (h : Bag H b) (e : Ex H H') : Kp b H H' := ⟨e.del b, h.ex e⟩
theorem Kp.grow {b : Addr} {H H1 H2 : Hp} (k : Kp b H H1) (e : Ex H1 H2) : Kp b H H2 := k.trans (Kp.of_ex k.bag e)
theorem Kp.turn {b : Addr} {H : Hp} {x y : Int} (hx : 0 ≤ x) (hy : 0 ≤ y) : Kp b H (upd H b (.lst [.int x, .int y])) :=
  ⟨fun a o h => by
    by_cases q : a = b
    · subst q; rw [del_same] at h; cases h
    · rw [del_ne q] at h ⊢; rw [upd_ne q]; exact h, x, y, upd_same, hx, hy⟩
theorem Kp.nn {b p : Addr} {H H' : Hp} (k : Kp b H H') (h : Bag H b) (n : H' p = none) : H p = none := by
  have q : p ≠ b := k.bag.ne n
  have := k.ex.nn (p := p) (del_none n)
  rw [del_ne q] at this
  exact this
/-- an object that is younger than H may turn -/
theorem Kp.mut {b p : Addr} {o : HO} {H H' : Hp} (k : Kp b H H') (q : p ≠ b) (n : H p = none) : Kp b H (upd H' p o) :=
  ⟨fun a u h => by
    have e := k.ex a u h
    by_cases z : a = b
    · subst z; rw [del_same] at h; cases h
    · rw [del_ne z] at e ⊢
      by_cases y : a = p
      · subst y; rw [del_none n] at h; cases h
      · rw [upd_ne y]; exact e, by
    obtain ⟨x, y, e, h1, h2⟩ := k.bag
    exact ⟨x, y, by rw [upd_ne (Ne.symm q)]; exact e, h1, h2⟩⟩
section
variable {K : PySem.W.Frag} {H H' : Hp} {a b : Addr} {xs : List V} {o : HO}
theorem sl_ex (h : SqL K H a xs) (e : Ex H H') : SqL K H' a xs := Evl.ex_l e h
theorem st_ex (h : SqT K H a xs) (e : Ex H H') : SqT K H' a xs := Evl.ex_t e h
end
/-! ### data of any depth -/
mutual
theorem Dp.mono {K : PySem.W.Frag} {H H' : Hp} (e : Ex H H') : ∀ {v : V} {d : PyData}, Dp K H v d → Dp K H' v d
  | _, _, .non => .non
  | _, _, .bl b => .bl b
  | _, _, .int i => .int i
  | _, _, .str x => .str x
  | _, _, .lst s h => .lst (Evl.ex_l e s) (DpAll.mono e h)
  | _, _, .tup s h => .tup (Evl.ex_t e s) (DpAll.mono e h)
theorem DpAll.mono {K : PySem.W.Frag} {H H' : Hp} (e : Ex H H') : ∀ {vs : List V} {ds : List PyData}, DpAll K H vs ds → DpAll K H' vs ds
  | _, _, .nil => .nil
  | _, _, .cons h t => .cons (Dp.mono e h) (DpAll.mono e t)
end
end WK
namespace WK
open PySem L2
section
variable {K : PySem.W.Frag} {σ : L2.St} {H : Hp} {Q : VK} {D : Ends} {wi : TI} {g : TG} {tb : TS} {tt : TT} {te tl tk tv : TE} {ta : TA} {vs : List Nat} {R : It → Hp → Prop}
end
end WK
namespace WK
open PySem L2 PySem.Spec PyProof.Rows
def rEqU (K : PySem.W.Frag) : R2 := fun x y H Q => rEq x y H Q ∨ rEqD K x y H Q
def rNeU (K : PySem.W.Frag) : R2 := fun x y H Q => rNe x y H Q ∨ rNeD K x y H Q
def rInU (K : PySem.W.Frag) : R2 := fun x y H Q => ∃ d ds, Dp K H x d ∧ (Dp K H y (.list ds) ∨ Dp K H y (.tuple ds)) ∧ SeqAt.shaped d = true ∧ PyData.canLayAll0 ds = true ∧ Q (.bl (ds.any fun z => PyData.eqv z d)) H
def rNotInU (K : PySem.W.Frag) : R2 := fun x y H Q => ∃ d ds, Dp K H x d ∧ (Dp K H y (.list ds) ∨ Dp K H y (.tuple ds)) ∧ SeqAt.shaped d = true ∧ PyData.canLayAll0 ds = true ∧ Q (.bl (!ds.any fun z => PyData.eqv z d)) H
def rInDc : R2 := fun y x H Q => ∃ a o, x = .ref a ∧ DGet H a y o ∧ Q (.bl o.isSome) H
def rNotInDc : R2 := fun y x H Q => ∃ a o, x = .ref a ∧ DGet H a y o ∧ Q (.bl (!o.isSome)) H
def rInSg : R2 := fun x y H Q => ∃ (c : Nat) (z : Str), x = .str ⟨#[c]⟩ ∧ y = .str z ∧ Q (.bl (decide (c ∈ z.cps.toList))) H
def rNotNn : R2 := fun x y H Q => y = .non ∧ Q (.bl (!decide (x = .non))) H
def rIsNn : R2 := fun x y H Q => y = .non ∧ Q (.bl (decide (x = .non))) H
def rJoin (K : PySem.W.Frag) : V → List V → Hp → VK → Prop := fun x xs H Q => ∃ a p, ∃ ys : List Str, x = .str a ∧ xs = [.ref p] ∧ (SqL K H p (ys.map V.str) ∨ SqT K H p (ys.map V.str)) ∧
    (ys.map (·.length)).sum + ys.length * a.length ≤ 16777216 ∧ Q (.str (Txt.join a ys)) H
def rDictP (K : PySem.W.Frag) : List V → Hp → VK → Prop := fun xs H Q => ∃ (a : Addr) (ps : List Addr) (kvs : List (Key × V)), xs = [.ref a] ∧ SqL K H a (ps.map V.ref) ∧ Paired (fun p kv => SqT K H p [kV kv.1, kv.2]) ps kvs ∧
    ∀ p, H p = none → Q (.ref p) (upd H p (.dK (mergeK [] kvs)))
section
variable {X : Cx}
theorem op_eqU (hu : X.A.units + 64 < cLine) : OpR X (compareOp .Eq) (rEqU X.K) := OpR.or op_eq (op_eqD hu)
theorem op_neU (hu : X.A.units + 64 < cLine) : OpR X (compareOp .NotEq) (rNeU X.K) := OpR.or op_ne (op_neD hu)
theorem op_inU (hu : X.A.units + 65 < cLine) : OpR X (compareOp .In) (rInU X.K) := by
  intro pins s σ H x y v u Q I rx ry h
  obtain ⟨d, ds, hd, he, sd, se, q⟩ := h
  obtain ⟨as, r1⟩ := Dp.reads I d x v hd rx
  rcases he with he | he
  · obtain ⟨bs, r2⟩ := Dp.reads I (.list ds) y u he ry
    exact SeqAt.in_list_reads r2 r1 se (SeqAt.canLay_of_shaped sd) (room_in_shaped sd hu) ⟨.bl _, H, I, rfl, q⟩
  · obtain ⟨bs, r2⟩ := Dp.reads I (.tuple ds) y u he ry
    exact SeqAt.in_tuple_reads r2 r1 se (SeqAt.canLay_of_shaped sd) (room_in_shaped sd hu) ⟨.bl _, H, I, rfl, q⟩
theorem op_notInU (hu : X.A.units + 65 < cLine) : OpR X (compareOp .NotIn) (rNotInU X.K) := by
  intro pins s σ H x y v u Q I rx ry h
  obtain ⟨d, ds, hd, he, sd, se, q⟩ := h
  obtain ⟨as, r1⟩ := Dp.reads I d x v hd rx
  rcases he with he | he
  · obtain ⟨bs, r2⟩ := Dp.reads I (.list ds) y u he ry
    exact SeqAt.notIn_list_reads r2 r1 se (SeqAt.canLay_of_shaped sd) (room_in_shaped sd hu) ⟨.bl _, H, I, rfl, q⟩
  · obtain ⟨bs, r2⟩ := Dp.reads I (.tuple ds) y u he ry
    exact SeqAt.notIn_tuple_reads r2 r1 se (SeqAt.canLay_of_shaped sd) (room_in_shaped sd hu) ⟨.bl _, H, I, rfl, q⟩
theorem op_inDc (hu : X.A.units + 1 < cLine) : OpR X (compareOp .In) rInDc := by
  intro pins s σ H y x v u Q I ry rx h
  obtain ⟨a, o, rfl, hd, q⟩ := h
  cases rx
  exact d_in hu I hd ry fun s' I' => ⟨.bl _, H, I', rfl, q⟩
theorem op_notInDc (hu : X.A.units + 1 < cLine) : OpR X (compareOp .NotIn) rNotInDc := by
  intro pins s σ H y x v u Q I ry rx h
  obtain ⟨a, o, rfl, hd, q⟩ := h
  cases rx
  exact d_notIn hu I hd ry fun s' I' => ⟨.bl _, H, I', rfl, q⟩
theorem op_inSg : OpR X (compareOp .In) rInSg := op_in_sign
theorem mt_joinU : MtR X "str.join" (rJoin X.K) := mt_join
theorem cr_dictP (h : X.calm = true) : CallR X (.type "dict") (rDictP X.K) := call_dictP h
theorem op_notNn : OpR X (compareOp .IsNot) rNotNn := op_notN
theorem op_isNn : OpR X (compareOp .Is) rIsNn := op_isN
theorem pe_gl {x : Str} {v : V} {pos : Pos} (hg : Gl X x) (hm : ∃ u, X.mg x = some u ∧ RelV v u) (hd : (x == ("__debug__" : Str)) = false := by decide) : PE X (.Name x pos) (tC v) := by
  obtain ⟨u, h1, h2⟩ := hm
  exact pe_glob hg h1 h2 hd
end
theorem kb_str_str : kitB "str" "str" = some true := by decide +kernel
theorem kb_str_int : kitB "str" "int" = some false := by decide +kernel
theorem kb_str_bool : kitB "str" "bool" = some false := by decide +kernel
theorem kb_str_list : kitB "str" "list" = some false := by decide +kernel
theorem kb_str_tuple : kitB "str" "tuple" = some false := by decide +kernel
theorem kb_str_dict : kitB "str" "dict" = some false := by decide +kernel
theorem kb_int_str : kitB "int" "str" = some false := by decide +kernel
theorem kb_int_int : kitB "int" "int" = some true := by decide +kernel
theorem kb_int_bool : kitB "int" "bool" = some false := by decide +kernel
theorem kb_int_list : kitB "int" "list" = some false := by decide +kernel
theorem kb_int_tuple : kitB "int" "tuple" = some false := by decide +kernel
theorem kb_int_dict : kitB "int" "dict" = some false := by decide +kernel
theorem kb_bool_str : kitB "bool" "str" = some false := by decide +kernel
theorem kb_bool_int : kitB "bool" "int" = some true := by decide +kernel
theorem kb_bool_bool : kitB "bool" "bool" = some true := by decide +kernel
theorem kb_bool_list : kitB "bool" "list" = some false := by decide +kernel
theorem kb_bool_tuple : kitB "bool" "tuple" = some false := by decide +kernel
theorem kb_bool_dict : kitB "bool" "dict" = some false := by decide +kernel
theorem kb_list_str : kitB "list" "str" = some false := by decide +kernel
theorem kb_list_int : kitB "list" "int" = some false := by decide +kernel
theorem kb_list_bool : kitB "list" "bool" = some false := by decide +kernel
theorem kb_list_list : kitB "list" "list" = some true := by decide +kernel
theorem kb_list_tuple : kitB "list" "tuple" = some false := by decide +kernel
theorem kb_list_dict : kitB "list" "dict" = some false := by decide +kernel
theorem kb_tuple_str : kitB "tuple" "str" = some false := by decide +kernel
theorem kb_tuple_int : kitB "tuple" "int" = some false := by decide +kernel
theorem kb_tuple_bool : kitB "tuple" "bool" = some false := by decide +kernel
theorem kb_tuple_list : kitB "tuple" "list" = some false := by decide +kernel
theorem kb_tuple_tuple : kitB "tuple" "tuple" = some true := by decide +kernel
theorem kb_tuple_dict : kitB "tuple" "dict" = some false := by decide +kernel
theorem kb_dict_str : kitB "dict" "str" = some false := by decide +kernel
theorem kb_dict_int : kitB "dict" "int" = some false := by decide +kernel
theorem kb_dict_bool : kitB "dict" "bool" = some false := by decide +kernel
theorem kb_dict_list : kitB "dict" "list" = some false := by decide +kernel
theorem kb_dict_tuple : kitB "dict" "tuple" = some false := by decide +kernel
theorem kb_dict_dict : kitB "dict" "dict" = some true := by decide +kernel
theorem kb_NoneType_str : kitB "NoneType" "str" = some false := by decide +kernel
theorem kb_NoneType_int : kitB "NoneType" "int" = some false := by decide +kernel
theorem kb_NoneType_bool : kitB "NoneType" "bool" = some false := by decide +kernel
theorem kb_NoneType_list : kitB "NoneType" "list" = some false := by decide +kernel
theorem kb_NoneType_tuple : kitB "NoneType" "tuple" = some false := by decide +kernel
theorem kb_NoneType_dict : kitB "NoneType" "dict" = some false := by decide +kernel
theorem iteD {P A B : Prop} [Decidable P] (h1 : P → A) (h2 : ¬ P → B) : if decide P = true then A else B := by
  by_cases h : P
  · rw [if_pos (decide_eq_true h)]; exact h1 h
  · rw [if_neg (by simpa using h)]; exact h2 h
theorem iteNT {A B : Prop} (h : B) : if (!true) = true then A else B := h
theorem iteNF {A B : Prop} (h : A) : if (!false) = true then A else B := h
section
variable {K : PySem.W.Frag} {σ : L2.St} {H : Hp} {Q : VK} {x y v : V} {ta tb te : TE} {D : Ends}
end
end WK
/-! Data, and heaps that hold them. -/
namespace WK
open PySem L2
open LamX (Tabs TabS CodeO)
inductive D where
  | non | bl (b : Bool) | int (i : Int) | str (x : Str) | ty (n : String) | cls (c : Str)
  | scr (xs : List Int) | tup (xs : List D) | tpn (xs : List D) | lst (xs : List D) | dct (kvs : List (Key × D)) | obj (c : Str) (fs : List (Str × D))
  /-- an exception that was caught: its address, its dict's -/
  | exc (a dd : Addr) (c : Str) (fs : List (Str × D))
  /-- an exception that was made and not raised -/
  | err (c : Str) (fs : List (Str × D))
  /-- an address, whatever stands there -/
  | adr (a : Addr)
  /-- a dict whose keys are tuples -/
  | dcT (kvs : List (List Key × D))
  /-- a tuple that may be a key -/
  | tpk (ks : List Key)
abbrev NT (o : HO) : Prop := ∀ ps, o ≠ .tbl ps
/-- no tuple: tuples never change, they may be told at any time -/
abbrev NTu (o : HO) : Prop := ∀ vs, o ≠ .tup vs
mutual
/-- what a value holds in a heap that stays -/
inductive Rp (K : PySem.W.Frag) (G : Hp) : V → D → Prop
  | non : Rp K G .non .non
  | bl (b : Bool) : Rp K G (.bl b) (.bl b)
  | int (i : Int) : Rp K G (.int i) (.int i)
  | str (x : Str) : Rp K G (.str x) (.str x)
  | ty (n : String) : Rp K G (.ty n) (.ty n)
  | cls (c : Str) : Rp K G (.ref (He.ga K c)) (.cls c)
  | tup {a : Addr} {vs : List V} {ds : List D} : SqT K G a vs → RpL K G vs ds → Rp K G (.ref a) (.tup ds)
  /-- a tuple whose object is known to have no dict -/
  | tpn {a : Addr} {o : Obj} {vs : List V} {ds : List D} : G a = some (.frz o (.tup vs)) → o.dict = none → RpL K G vs ds → Rp K G (.ref a) (.tpn ds)
  | scr {a : Addr} {xs : List Int} : SqL K G a (xs.map V.int) → Rp K G (.ref a) (.scr xs)
  | lst {a : Addr} {vs : List V} {ds : List D} : G a = some (.lst vs) → RpL K G vs ds → Rp K G (.ref a) (.lst ds)
  | dct {a : Addr} {kvs : List (Key × V)} {kds : List (Key × D)} : Rd G a (.dK kvs) → kvs.map (·.1) = kds.map (·.1) → RpL K G (kvs.map (·.2)) (kds.map (·.2)) → Rp K G (.ref a) (.dct kds)
  | obj {a dx : Addr} {c : Str} {fs : List (Str × V)} {fds : List (Str × D)} : G a = some (.ins (He.ga K c) dx fs) → fs.map (·.1) = fds.map (·.1) → RpL K G (fs.map (·.2)) (fds.map (·.2)) → Rp K G (.ref a) (.obj c fds)
  | exc {a dd : Addr} {c : Str} {fs : List (Str × V)} {fds : List (Str × D)} : G dd = some (.xd fs) → fs.map (·.1) = fds.map (·.1) → RpL K G (fs.map (·.2)) (fds.map (·.2)) → Rp K G (.ref a) (.exc a dd c fds)
  | err {a dd : Addr} {c : Str} {fs : List (Str × V)} {fds : List (Str × D)} : G a = some (L2.exo a (He.ga K c) (some dd)) → G dd = some (L2.exd dd fs) → fs.map (·.1) = fds.map (·.1) → RpL K G (fs.map (·.2)) (fds.map (·.2)) → Rp K G (.ref a) (.err c fds)
  | adr (a : Addr) : Rp K G (.ref a) (.adr a)
  | dcT {a : Addr} {kvs : List (List Key × V)} {kds : List (List Key × D)} : Rd G a (.dT kvs) → kvs.map (·.1) = kds.map (·.1) → RpL K G (kvs.map (·.2)) (kds.map (·.2)) → Rp K G (.ref a) (.dcT kds)
  | tpk {a : Addr} {ks : List Key} : G a = some (.tup (ks.map kV)) → Rp K G (.ref a) (.tpk ks)
inductive RpL (K : PySem.W.Frag) (G : Hp) : List V → List D → Prop
  | nil : RpL K G [] []
  | cons {v : V} {d : D} {vs : List V} {ds : List D} : Rp K G v d → RpL K G vs ds → RpL K G (v :: vs) (d :: ds)
end
theorem rd_ex {G G' : Hp} {a : Addr} {u : HO} (e : Ex G G') (h : Rd G a u) : Rd G' a u := by
  rcases h with h | ⟨o, h⟩
  · exact .inl (e _ _ h)
  · exact .inr ⟨o, e _ _ h⟩
mutual
theorem Rp.mono {K : PySem.W.Frag} {G G' : Hp} (e : Ex G G') : ∀ {v : V} {d : D}, Rp K G v d → Rp K G' v d
  | _, _, .non => .non
  | _, _, .bl b => .bl b
  | _, _, .int i => .int i
  | _, _, .str x => .str x
  | _, _, .ty n => .ty n
  | _, _, .cls c => .cls c
  | _, _, .tup h t => .tup (st_ex h e) (RpL.mono e t)
  | _, _, .tpn h n t => .tpn (e _ _ h) n (RpL.mono e t)
  | _, _, .scr h => .scr (sl_ex h e)
  | _, _, .lst h t => .lst (e _ _ h) (RpL.mono e t)
  | _, _, .dct h k t => .dct (rd_ex e h) k (RpL.mono e t)
  | _, _, .obj h k t => .obj (e _ _ h) k (RpL.mono e t)
  | _, _, .exc h k t => .exc (e _ _ h) k (RpL.mono e t)
  | _, _, .err h h2 k t => .err (e _ _ h) (e _ _ h2) k (RpL.mono e t)
  | _, _, .adr a => .adr a
  | _, _, .dcT h k t => .dcT (rd_ex e h) k (RpL.mono e t)
  | _, _, .tpk h => .tpk (e _ _ h)
theorem RpL.mono {K : PySem.W.Frag} {G G' : Hp} (e : Ex G G') : ∀ {vs : List V} {ds : List D}, RpL K G vs ds → RpL K G' vs ds
  | _, _, .nil => .nil
  | _, _, .cons h t => .cons (Rp.mono e h) (RpL.mono e t)
end
/-- pairs by their keys -/
def RpM (K : PySem.W.Frag) (G : Hp) {κ : Type} (kvs : List (κ × V)) (kds : List (κ × D)) : Prop := kvs.map (·.1) = kds.map (·.1) ∧ RpL K G (kvs.map (·.2)) (kds.map (·.2))
section
variable {K : PySem.W.Frag} {G G' : Hp} {vs ws : List V} {ds es : List D} {v : V} {d : D} {κ : Type}
theorem RpM.mono {kvs : List (κ × V)} {kds : List (κ × D)} (e : Ex G G') (h : RpM K G kvs kds) : RpM K G' kvs kds := ⟨h.1, RpL.mono e h.2⟩
theorem RpM.nil : RpM K G ([] : List (κ × V)) [] := ⟨rfl, .nil⟩
theorem RpM.cons {k : κ} {kvs : List (κ × V)} {kds : List (κ × D)} (h : Rp K G v d) (t : RpM K G kvs kds) : RpM K G ((k, v) :: kvs) ((k, d) :: kds) := ⟨by simp [t.1], .cons h t.2⟩
theorem RpM.ind {P : List (κ × V) → List (κ × D) → Prop} (h0 : P [] []) (h1 : ∀ k v d kvs kds, Rp K G v d → RpM K G kvs kds → P kvs kds → P ((k, v) :: kvs) ((k, d) :: kds)) : ∀ {kvs : List (κ × V)} {kds : List (κ × D)}, RpM K G kvs kds → P kvs kds
  | [], [], _ => h0
  | [], _ :: _, h => by cases h.1
  | _ :: _, [], h => by cases h.1
  | (k, v) :: kvs, (k', d) :: kds, h => by
    obtain ⟨a, b⟩ := h
    simp only [List.map_cons, List.cons.injEq] at a
    obtain ⟨rfl, a⟩ := a
    cases b with
    | cons b1 b2 => exact h1 _ _ _ _ _ b1 ⟨a, b2⟩ (RpM.ind h0 h1 ⟨a, b2⟩)
theorem RpM.app {kvs kws : List (κ × V)} {kds kes : List (κ × D)} (h : RpM K G kvs kds) (t : RpM K G kws kes) : RpM K G (kvs ++ kws) (kds ++ kes) := by
  refine RpM.ind (P := fun kvs kds => RpM K G (kvs ++ kws) (kds ++ kes)) t (fun k v d _ _ r _ ih => .cons r ih) h
theorem RpM.length {kvs : List (κ × V)} {kds : List (κ × D)} (h : RpM K G kvs kds) : kvs.length = kds.length := by
  have := congrArg List.length h.1; simpa using this
theorem RpL.length : ∀ {vs : List V} {ds : List D}, RpL K G vs ds → vs.length = ds.length
  | _, _, .nil => rfl
  | _, _, .cons _ t => by simp [RpL.length t]
theorem RpL.app : ∀ {vs : List V} {ds : List D}, RpL K G vs ds → RpL K G ws es → RpL K G (vs ++ ws) (ds ++ es)
  | _, _, .nil, h => h
  | _, _, .cons a t, h => .cons a (RpL.app t h)
theorem RpL.snoc (h : RpL K G vs ds) (a : Rp K G v d) : RpL K G (vs ++ [v]) (ds ++ [d]) := h.app (.cons a .nil)
theorem RpL.get : ∀ {vs : List V} {ds : List D} {i : Nat} {v : V}, RpL K G vs ds → vs[i]? = some v → ∃ d, ds[i]? = some d ∧ Rp K G v d
  | _, _, _, _, .nil, e => by simp at e
  | _, _, 0, _, .cons r _, e => by simp at e; subst e; exact ⟨_, rfl, r⟩
  | _, _, i + 1, v, .cons _ t, e => by
    obtain ⟨u, h1, h2⟩ := RpL.get (i := i) (v := v) t (by simpa using e)
    exact ⟨u, by simpa using h1, h2⟩
theorem RpL.at : ∀ {vs : List V} {ds : List D} {i : Nat} {d : D}, RpL K G vs ds → ds[i]? = some d → ∃ v, vs[i]? = some v ∧ Rp K G v d
  | _, _, _, _, .nil, e => by simp at e
  | _, _, 0, _, .cons r _, e => by simp at e; subst e; exact ⟨_, rfl, r⟩
  | _, _, i + 1, d, .cons _ t, e => by
    obtain ⟨u, h1, h2⟩ := RpL.at (i := i) (d := d) t (by simpa using e)
    exact ⟨u, by simpa using h1, h2⟩
theorem RpL.set (r : Rp K G v d) : ∀ {vs : List V} {ds : List D} (i : Nat), RpL K G vs ds → RpL K G (vs.set i v) (ds.set i d)
  | _, _, _, .nil => .nil
  | _, _, 0, .cons _ t => .cons r t
  | _, _, i + 1, .cons q t => .cons q (RpL.set r i t)
theorem RpL.take : ∀ {vs : List V} {ds : List D} (n : Nat), RpL K G vs ds → RpL K G (vs.take n) (ds.take n)
  | _, _, 0, _ => .nil
  | _, _, _ + 1, .nil => .nil
  | _, _, n + 1, .cons r t => .cons r (RpL.take n t)
theorem RpL.drop : ∀ {vs : List V} {ds : List D} (n : Nat), RpL K G vs ds → RpL K G (vs.drop n) (ds.drop n)
  | _, _, 0, r => r
  | _, _, _ + 1, .nil => .nil
  | _, _, n + 1, .cons _ t => RpL.drop n t
theorem RpL.erase (i : Nat) (h : RpL K G vs ds) : RpL K G (vs.eraseIdx i) (ds.eraseIdx i) := by
  rw [List.eraseIdx_eq_take_drop_succ, List.eraseIdx_eq_take_drop_succ]
  exact (h.take i).app (h.drop (i + 1))
end
/-! ### pairs: what is found, what is put -/
def valD {κ : Type} [DecidableEq κ] (kds : List (κ × D)) (k : κ) : Option D := (kds.find? fun kv => decide (kv.1 = k)).map (·.2)
def putD {κ : Type} [DecidableEq κ] (kds : List (κ × D)) (k : κ) (d : D) : List (κ × D) :=
  if (kds.any fun kv => decide (kv.1 = k)) = true then kds.map (fun kv => if kv.1 = k then (kv.1, d) else kv) else kds ++ [(k, d)]
def dropD {κ : Type} [DecidableEq κ] (kds : List (κ × D)) (k : κ) : List (κ × D) := kds.filter fun kv => decide (kv.1 ≠ k)
def putG (f : Str) (d : D) : List (Str × D) → List (Str × D)
  | [] => [(f, d)]
  | (g, x) :: r => if g = f then (g, d) :: r else (g, x) :: putG f d r
def cutD {α : Type} (xs : List α) (lo hi : Option Int) : List α := (xs.drop (HT.sIx xs.length 0 lo)).take (HT.sIx xs.length xs.length hi - HT.sIx xs.length 0 lo)
section
variable {K : PySem.W.Frag} {G G' : Hp} {v : V} {d : D} {κ : Type} [DecidableEq κ]
theorem RpM.val {kvs : List (κ × V)} {kds : List (κ × D)} (h : RpM K G kvs kds) (k : κ) : (valV kvs k = none ∧ valD kds k = none) ∨ ∃ v d, valV kvs k = some v ∧ valD kds k = some d ∧ Rp K G v d := by
  refine RpM.ind (P := fun kvs kds => (valV kvs k = none ∧ valD kds k = none) ∨ ∃ v d, valV kvs k = some v ∧ valD kds k = some d ∧ Rp K G v d) (.inl ⟨rfl, rfl⟩) (fun k' v d kvs kds r _ ih => ?_) h
  by_cases e : k' = k
  · refine .inr ⟨v, d, ?_, ?_, r⟩
    · unfold valV; rw [List.find?_cons_of_pos (by simpa using e)]; rfl
    · unfold valD; rw [List.find?_cons_of_pos (by simpa using e)]; rfl
  · have e1 : valV ((k', v) :: kvs) k = valV kvs k := by unfold valV; rw [List.find?_cons_of_neg (by simpa using e)]
    have e2 : valD ((k', d) :: kds) k = valD kds k := by unfold valD; rw [List.find?_cons_of_neg (by simpa using e)]
    rw [e1, e2]; exact ih
theorem RpM.look {fs : List (Str × V)} {fds : List (Str × D)} (h : RpM K G fs fds) (k : Str) : (fs.lookup k = none ∧ fds.lookup k = none) ∨ ∃ v d, fs.lookup k = some v ∧ fds.lookup k = some d ∧ Rp K G v d := by
  refine RpM.ind (P := fun kvs kds => (kvs.lookup k = none ∧ kds.lookup k = none) ∨ ∃ v d, kvs.lookup k = some v ∧ kds.lookup k = some d ∧ Rp K G v d) (.inl ⟨rfl, rfl⟩) (fun k' v d kvs kds r _ ih => ?_) h
  rw [List.lookup_cons, List.lookup_cons]
  cases e : k == k' with
  | true => exact .inr ⟨v, d, rfl, rfl, r⟩
  | false => exact ih
theorem RpM.any {kvs : List (κ × V)} {kds : List (κ × D)} (h : RpM K G kvs kds) (k : κ) : (kvs.any fun kv => decide (kv.1 = k)) = (kds.any fun kv => decide (kv.1 = k)) := by
  refine RpM.ind (P := fun kvs kds => (kvs.any fun kv => decide (kv.1 = k)) = (kds.any fun kv => decide (kv.1 = k))) rfl (fun k' v d kvs kds r _ ih => ?_) h
  simp [ih]
theorem RpM.put {kvs : List (κ × V)} {kds : List (κ × D)} (h : RpM K G kvs kds) (k : κ) (r : Rp K G v d) : RpM K G (putK kvs k v) (putD kds k d) := by
  unfold putK putD
  rw [h.any k]
  cases (kds.any fun kv => decide (kv.1 = k)) with
  | true =>
    rw [if_pos rfl, if_pos rfl]
    refine RpM.ind (P := fun kvs kds => RpM K G (kvs.map fun kv => if kv.1 = k then (kv.1, v) else kv) (kds.map fun kv => if kv.1 = k then (kv.1, d) else kv)) .nil (fun k' v' d' kvs kds r' _ ih => ?_) h
    by_cases e : k' = k
    · simp only [List.map_cons, e, if_true]; exact .cons r ih
    · simp only [List.map_cons, e, if_false]; exact .cons r' ih
  | false => rw [if_neg (by decide), if_neg (by decide)]; exact h.app (.cons r .nil)
theorem RpM.drop {kvs : List (κ × V)} {kds : List (κ × D)} (h : RpM K G kvs kds) (k : κ) : RpM K G (dropK kvs k) (dropD kds k) := by
  refine RpM.ind (P := fun kvs kds => RpM K G (dropK kvs k) (dropD kds k)) .nil (fun k' v d kvs kds r _ ih => ?_) h
  unfold dropK dropD at *
  by_cases e : k' = k
  · rw [List.filter_cons_of_neg (by simpa using e), List.filter_cons_of_neg (by simpa using e)]; exact ih
  · rw [List.filter_cons_of_pos (by simpa using e), List.filter_cons_of_pos (by simpa using e)]; exact .cons r ih
theorem RpM.putF {fs : List (Str × V)} {fds : List (Str × D)} (h : RpM K G fs fds) (f : Str) (r : Rp K G v d) : RpM K G (L2.putF f v fs) (putG f d fds) := by
  refine RpM.ind (P := fun kvs kds => RpM K G (L2.putF f v kvs) (putG f d kds)) (.cons r .nil) (fun k' v' d' kvs kds r' t ih => ?_) h
  show RpM K G (if k' = f then (k', v) :: kvs else (k', v') :: L2.putF f v kvs) (if k' = f then (k', d) :: kds else (k', d') :: putG f d kds)
  by_cases e : k' = f
  · rw [if_pos e, if_pos e]; exact .cons r t
  · rw [if_neg e, if_neg e]; exact .cons r' ih
theorem RpL.cut {vs : List V} {ds : List D} (h : RpL K G vs ds) (lo hi : Option Int) : RpL K G (cutV vs lo hi) (cutD ds lo hi) := by
  unfold cutV cutD; rw [h.length]; exact (h.drop _).take _
end
/-- what an object of one's own holds -/
def OwnR (K : PySem.W.Frag) (H G : Hp) (a : Addr) : D → Prop
  | .lst ds => ∃ vs, H a = some (.lst vs) ∧ RpL K G vs ds
  | .dct kds => ∃ kvs, H a = some (.dK kvs) ∧ RpM K G kvs kds
  | .obj c fds => ∃ dx fs, H a = some (.ins (He.ga K c) dx fs) ∧ RpM K G fs fds
  | .dcT kds => ∃ kvs, H a = some (.dT kvs) ∧ RpM K G kvs kds
  | _ => False
section
variable {K : PySem.W.Frag} {H H' G G' : Hp} {a : Addr} {d : D}
theorem OwnR.some (h : OwnR K H G a d) : ∃ o, H a = some o ∧ NT o ∧ (∀ φ, o ≠ .ext φ) := by
  cases d with
  | lst ds => obtain ⟨vs, h, _⟩ := h; exact ⟨_, h, (fun _ z => by cases z), (fun _ z => by cases z)⟩
  | dct ds => obtain ⟨vs, h, _⟩ := h; exact ⟨_, h, (fun _ z => by cases z), (fun _ z => by cases z)⟩
  | dcT ds => obtain ⟨vs, h, _⟩ := h; exact ⟨_, h, (fun _ z => by cases z), (fun _ z => by cases z)⟩
  | obj c ds => obtain ⟨dx, vs, h, _⟩ := h; exact ⟨_, h, (fun _ z => by cases z), (fun _ z => by cases z)⟩
  | _ => exact h.elim
theorem OwnR.ntu (h : OwnR K H G a d) {o : HO} (ho : H a = Option.some o) : NTu o := by
  cases d with
  | lst ds => obtain ⟨vs, h, _⟩ := h; rw [h] at ho; cases ho; exact fun _ z => by cases z
  | dct ds => obtain ⟨vs, h, _⟩ := h; rw [h] at ho; cases ho; exact fun _ z => by cases z
  | dcT ds => obtain ⟨vs, h, _⟩ := h; rw [h] at ho; cases ho; exact fun _ z => by cases z
  | obj c ds => obtain ⟨dx, vs, h, _⟩ := h; rw [h] at ho; cases ho; exact fun _ z => by cases z
  | _ => exact h.elim
theorem OwnR.keep (h : OwnR K H G a d) (e : Ex G G') (hh : ∀ o, H a = Option.some o → H' a = Option.some o) : OwnR K H' G' a d := by
  cases d with
  | lst ds => obtain ⟨vs, h, r⟩ := h; exact ⟨vs, hh _ h, r.mono e⟩
  | dct ds => obtain ⟨vs, h, r⟩ := h; exact ⟨vs, hh _ h, r.mono e⟩
  | dcT ds => obtain ⟨vs, h, r⟩ := h; exact ⟨vs, hh _ h, r.mono e⟩
  | obj c ds => obtain ⟨dx, vs, h, r⟩ := h; exact ⟨dx, vs, hh _ h, r.mono e⟩
  | _ => exact h.elim
/-- a thing that is only read: a dict may be locked -/
def OwnL (K : PySem.W.Frag) (H G : Hp) (a : Addr) (d : D) : Prop := OwnR K H G a d ∨ ∃ kds od kvs, d = .dct kds ∧ H a = some (.frz od (.dK kvs)) ∧ RpM K G kvs kds
theorem OwnL.some (h : OwnL K H G a d) : ∃ o, H a = some o ∧ NT o ∧ (∀ φ, o ≠ .ext φ) := by
  rcases h with h | ⟨kds, od, kvs, _, h, _⟩
  · exact h.some
  · exact ⟨_, h, (fun _ z => by cases z), (fun _ z => by cases z)⟩
theorem OwnL.ntu (h : OwnL K H G a d) {o : HO} (ho : H a = Option.some o) : NTu o := by
  rcases h with h | ⟨kds, od, kvs, _, h, _⟩
  · exact h.ntu ho
  · rw [h] at ho; cases ho; exact fun _ z => by cases z
theorem OwnL.keep (h : OwnL K H G a d) (e : Ex G G') (hh : ∀ o, H a = Option.some o → H' a = Option.some o) : OwnL K H' G' a d := by
  rcases h with h | ⟨kds, od, kvs, e1, h, r⟩
  · exact .inl (h.keep e hh)
  · exact .inr ⟨kds, od, kvs, e1, hh _ h, r.mono e⟩
/-- it is told from now on -/
theorem OwnR.frz (h : OwnR K H G a d) (hn : G a = none) : ∃ o, H a = Option.some o ∧ NT o ∧ Rp K (upd G a o) (.ref a) d := by
  have e : ∀ o, Ex G (upd G a o) := fun o => Ex.new hn
  cases d with
  | lst ds => obtain ⟨vs, h, r⟩ := h; exact ⟨_, h, (fun _ z => by cases z), .lst upd_same (r.mono (e _))⟩
  | dct ds => obtain ⟨vs, h, r⟩ := h; exact ⟨_, h, (fun _ z => by cases z), .dct (.inl upd_same) r.1 (r.2.mono (e _))⟩
  | dcT ds => obtain ⟨vs, h, r⟩ := h; exact ⟨_, h, (fun _ z => by cases z), .dcT (.inl upd_same) r.1 (r.2.mono (e _))⟩
  | obj c ds => obtain ⟨dx, vs, h, r⟩ := h; exact ⟨_, h, (fun _ z => by cases z), .obj upd_same r.1 (r.2.mono (e _))⟩
  | _ => exact h.elim
end
end WK
/-! States by data. -/
namespace WK
open PySem L2
open LamX (Tabs TabS CodeO)
inductive Sl where | un | fz (d : D) | ow (d : D) | io (d : D) | lk (b : Bool) (d : D)
inductive Pv where | fz (d : D) | tm (d : D) | at (i : Nat)
def Sl.isM : Sl → Bool | .ow _ => true | .io _ => true | _ => false
def Sl.isO : Sl → Bool | .ow _ => true | .io _ => true | .lk _ _ => true | _ => false
def Sl.isK : Sl → Bool | .io _ => true | .lk _ _ => true | _ => false
def Sl.ct : Sl → Option D | .un => none | .fz d => some d | .ow d => some d | .io d => some d | .lk _ d => some d
theorem Sl.isO_of {s : Sl} (h : s.isM = true) : s.isO = true := by cases s <;> first | rfl | cases h
structure Ctx where
  K : PySem.W.Frag
  T : List (Addr × Str)
  H0 : Hp
  G0 : Hp
  P : List Addr
def Mu (σ : L2.St) (δ : List Sl) (a : Addr) : Prop := ∃ (i : Nat) (s : Sl), δ[i]? = some s ∧ s.isM = true ∧ σ[i]? = some (some (.ref a))
def Ow (σ : L2.St) (δ : List Sl) (a : Addr) : Prop := ∃ (i : Nat) (s : Sl), δ[i]? = some s ∧ s.isO = true ∧ σ[i]? = some (some (.ref a))
theorem Mu.ow {σ : L2.St} {δ : List Sl} {a : Addr} (h : Mu σ δ a) : Ow σ δ a := by obtain ⟨i, s, h1, h2, h3⟩ := h; exact ⟨i, s, h1, s.isO_of h2, h3⟩
def Fr0 (C : Ctx) (a : Addr) : Prop := ∀ o, C.H0 a = some o → ¬ NT o
def SlR (C : Ctx) (H G : Hp) (x : Option (Option V)) : Sl → Prop
  | .un => True
  | .fz d => ∃ v, x = some (some v) ∧ Rp C.K G v d
  | .ow d => ∃ a, x = some (some (.ref a)) ∧ Fr0 C a ∧ G a = none ∧ OwnR C.K H G a d
  | .io d => ∃ a, x = some (some (.ref a)) ∧ a ∈ C.P ∧ G a = none ∧ OwnR C.K H G a d
  | .lk b d => ∃ a, x = some (some (.ref a)) ∧ (if b = true then Fr0 C a else a ∈ C.P) ∧ G a = none ∧ OwnL C.K H G a d
structure SR (C : Ctx) (σ : L2.St) (δ : List Sl) (H G : Hp) : Prop where
  sub : Ex G H
  nt : ∀ a o, G a = some o → NT o
  gq : ∀ a o, C.H0 a = some o → NT o → NTu o → G a = C.G0 a
  fr : ∀ a o, C.H0 a = some o → NT o → a ∉ C.P → H a = some o
  pl : ∀ a ∈ C.P, ∃ o, H a = some o ∧ NT o ∧ NTu o
  tab : Tabs C.T H
  len : σ.length = δ.length
  sl : ∀ (i : Nat) (s : Sl), δ[i]? = some s → SlR C H G σ[i]? s
  dj : ∀ (i j : Nat) (a : Addr) (s t : Sl), δ[i]? = some s → δ[j]? = some t → s.isO = true → t.isO = true → σ[i]? = some (some (.ref a)) → σ[j]? = some (some (.ref a)) → i = j
def KeepS : Sl → Sl → Prop
  | .io _, .io _ => True
  | .lk b d, s => s = .lk b d
  | .io _, _ => False
  | _, _ => True
theorem KeepS.isK {s t : Sl} (h : KeepS s t) (k : s.isK = true) : t.isK = true := by
  cases s with
  | io d => cases t <;> first | rfl | exact (show False from h).elim
  | lk b d => rw [show t = .lk b d from h]; rfl
  | _ => cases k
theorem KeepS.trans {s t u : Sl} (h : KeepS s t) (h' : KeepS t u) : KeepS s u := by
  cases s with
  | io d =>
    cases t with
    | io d' => cases u <;> first | trivial | exact (show False from h').elim
    | _ => exact (show False from h).elim
  | lk b d =>
    have e : t = .lk b d := h
    subst e
    exact h'
  | _ => trivial
theorem KeepS.refl (s : Sl) : KeepS s s := by cases s <;> first | trivial | rfl
structure Stp (σ : L2.St) (δ : List Sl) (H G : Hp) (σ' : L2.St) (δ' : List Sl) (H' G' : Hp) : Prop where
  gs : Ex G G'
  fr : ∀ b o, H b = some o → NT o → ¬ Mu σ δ b → H' b = some o
  gk : ∀ b o, H b = some o → NT o → NTu o → ¬ Mu σ δ b → G' b = G b
  mu : ∀ b o, H b = some o → NT o → Mu σ' δ' b → Mu σ δ b
  ow : ∀ b o, H b = some o → NT o → Ow σ' δ' b → Ow σ δ b
  kp : ∀ (i : Nat) (s : Sl), δ[i]? = some s → s.isK = true → σ'[i]? = σ[i]? ∧ ∃ s', δ'[i]? = some s' ∧ KeepS s s'
  dm : ∀ b o, H b = some o → NT o → ∃ u, H' b = some u ∧ NT u
/-- nothing stands there, or a table -/
def Nn (H : Hp) (a : Addr) : Prop := ∀ o, H a = some o → ¬ NT o
theorem Nn.of {H : Hp} {a : Addr} (h : H a = none) : Nn H a := fun o z => by rw [h] at z; cases z
def PvR (C : Ctx) (σ : L2.St) (δ : List Sl) (Hs H G : Hp) (v : V) : Pv → Prop
  | .fz d => Rp C.K G v d
  | .tm d => ∃ a, v = .ref a ∧ Nn Hs a ∧ Fr0 C a ∧ G a = none ∧ ¬ Ow σ δ a ∧ OwnR C.K H G a d
  | .at i => σ[i]? = some (some v)
section
variable {C : Ctx} {σ σ' σ'' : L2.St} {δ δ' δ'' : List Sl} {H H' H'' G G' G'' Hs : Hp} {v : V} {p : Pv} {d : D} {a q : Addr} {o : HO} {i : Nat}
theorem Stp.refl : Stp σ δ H G σ δ H G := ⟨Ex.refl _, fun _ _ h _ _ => h, fun _ _ _ _ _ _ => rfl, fun _ _ _ _ h => h, fun _ _ _ _ h => h, fun i s h _ => ⟨rfl, s, h, KeepS.refl s⟩, fun b o h n => ⟨o, h, n⟩⟩
theorem Stp.trans (s : Stp σ δ H G σ' δ' H' G') (t : Stp σ' δ' H' G' σ'' δ'' H'' G'') : Stp σ δ H G σ'' δ'' H'' G'' := by
  refine ⟨s.gs.trans t.gs, fun b o h n m => t.fr b o (s.fr b o h n m) n fun z => m (s.mu b o h n z), fun b o h n q m => (t.gk b o (s.fr b o h n m) n q fun z => m (s.mu b o h n z)).trans (s.gk b o h n q m), fun b o h n z => ?_, fun b o h n z => ?_, fun i u h k => ?_, fun b o h n => ?_⟩
  · by_cases m : Mu σ δ b
    · exact m
    · exact s.mu b o h n (t.mu b o (s.fr b o h n m) n z)
  · by_cases m : Mu σ δ b
    · exact m.ow
    · exact s.ow b o h n (t.ow b o (s.fr b o h n m) n z)
  · obtain ⟨e1, u1, h1, k1⟩ := s.kp i u h k
    obtain ⟨e2, u2, h2, k2⟩ := t.kp i u1 h1 (k1.isK k)
    exact ⟨e2.trans e1, u2, h2, k1.trans k2⟩
  · obtain ⟨u, hu, n'⟩ := s.dm b o h n
    exact t.dm b u hu n'
theorem PvR.stp (h : PvR C σ δ Hs H G v p) (s : Stp σ δ H G σ δ' H' G') : PvR C σ δ' Hs H' G' v p := by
  cases p with
  | fz d => exact Rp.mono s.gs h
  | «at» i => exact h
  | tm d =>
    obtain ⟨a, e, h1, h2, h3, h4, h5⟩ := h
    obtain ⟨o, ho, hn, _⟩ := h5.some
    have hm : ¬ Mu σ δ a := fun z => h4 z.ow
    exact ⟨a, e, h1, h2, (s.gk a o ho hn (h5.ntu ho) hm).trans h3, fun z => h4 (s.ow a o ho hn z), h5.keep s.gs fun u hu => by rw [ho] at hu; cases hu; exact s.fr a o ho hn hm⟩
/-- a temporary is younger than an earlier start, too -/
theorem PvR.start {Hz : Hp} (h : PvR C σ δ Hs H G v p) (e : ∀ a, Nn Hs a → Nn Hz a) : PvR C σ δ Hz H G v p := by
  cases p with
  | fz d => exact h
  | «at» i => exact h
  | tm d =>
    obtain ⟨a, e', h1, r⟩ := h
    exact ⟨a, e', e a h1, r⟩
theorem Stp.nn (s : Stp σ δ H G σ' δ' H' G') {a : Addr} (h : Nn H' a) : Nn H a := fun o ho n => by
  obtain ⟨u, hu, n'⟩ := s.dm a o ho n
  exact h u hu n'
theorem SR.fr0 (s : SR C σ δ H G) (h : H a = none) : Fr0 C a := fun o ho hn => by
  by_cases m : a ∈ C.P
  · obtain ⟨u, hu, _⟩ := s.pl a m
    rw [h] at hu; cases hu
  · have := s.fr a o ho hn m
    rw [h] at this; cases this
theorem tabs_at {T : List (Addr × Str)} (t : Tabs T H) (hk : ∀ b u, H b = some u → (∃ ps, u = .tbl ps) ∨ (∃ φ, u = .ext φ) → H' b = some u) : Tabs T H' := fun P hP => by
  obtain ⟨ps, h1, h2, h3⟩ := t P hP
  refine ⟨ps, hk _ _ h1 (.inl ⟨_, rfl⟩), h2, fun pos cv hc => ?_⟩
  obtain ⟨c, e1, e2⟩ := h3 pos cv hc
  exact ⟨c, e1, hk _ _ e2 (.inr ⟨_, rfl⟩)⟩
theorem SlR.keep {x : Option (Option V)} {s : Sl} (h : SlR C H G x s) (e : Ex G G') (hk : ∀ b, s.isO = true → x = some (some (.ref b)) → (∀ u, H b = some u → H' b = some u) ∧ (G b = none → G' b = none)) : SlR C H' G' x s := by
  cases s with
  | un => trivial
  | fz d => obtain ⟨v, e1, r⟩ := h; exact ⟨v, e1, r.mono e⟩
  | ow d => obtain ⟨a, e1, f, g, r⟩ := h; obtain ⟨k1, k2⟩ := hk a rfl e1; exact ⟨a, e1, f, k2 g, r.keep e k1⟩
  | io d => obtain ⟨a, e1, f, g, r⟩ := h; obtain ⟨k1, k2⟩ := hk a rfl e1; exact ⟨a, e1, f, k2 g, r.keep e k1⟩
  | lk b d => obtain ⟨a, e1, f, g, r⟩ := h; obtain ⟨k1, k2⟩ := hk a rfl e1; exact ⟨a, e1, f, k2 g, r.keep e k1⟩
theorem SR.own (s : SR C σ δ H G) (h : Ow σ δ a) : G a = none ∧ ∃ d, OwnL C.K H G a d := by
  obtain ⟨i, u, h1, h2, h3⟩ := h
  have r := s.sl i u h1
  cases u with
  | un => cases h2
  | fz d => cases h2
  | ow d => obtain ⟨b, e1, _, g, r⟩ := r; rw [h3] at e1; cases e1; exact ⟨g, d, .inl r⟩
  | io d => obtain ⟨b, e1, _, g, r⟩ := r; rw [h3] at e1; cases e1; exact ⟨g, d, .inl r⟩
  | lk k d => obtain ⟨b, e1, _, g, r⟩ := r; rw [h3] at e1; cases e1; exact ⟨g, d, r⟩
theorem SR.own_some (s : SR C σ δ H G) (h : Ow σ δ a) : ∃ u, H a = some u ∧ NT u ∧ ∀ φ, u ≠ .ext φ := by
  obtain ⟨_, d, r⟩ := s.own h
  exact r.some
theorem SR.own_ntu (s : SR C σ δ H G) (h : Ow σ δ a) {u : HO} (hu : H a = some u) : NTu u := by
  obtain ⟨_, d, r⟩ := s.own h
  exact r.ntu hu
/-- a new thing, told -/
theorem SR.new (s : SR C σ δ H G) (h : H q = none) (ho : NT o) : SR C σ δ (upd H q o) (upd G q o) := by
  have gn : G q = none := s.sub.nn h
  refine ⟨fun b u z => ?_, fun b u z => ?_, fun b u z n _q => ?_, fun b u z n m => up_new h (s.fr b u z n m), fun b m => ?_, s.tab.ext (Ex.new h), s.len, fun i t ht => ?_, s.dj⟩
  · by_cases e : b = q
    · subst e; rw [upd_same] at z ⊢; exact z
    · rw [upd_ne e] at z ⊢; exact s.sub _ _ z
  · by_cases e : b = q
    · subst e; rw [upd_same] at z; cases z; exact ho
    · rw [upd_ne e] at z; exact s.nt _ _ z
  · have e : b ≠ q := fun e => s.fr0 h u (e ▸ z) n
    rw [upd_ne e]; exact s.gq b u z n ‹_›
  · obtain ⟨u, hu, n⟩ := s.pl b m
    exact ⟨u, up_new h hu, n⟩
  · refine (s.sl i t ht).keep (Ex.new gn) fun b hb hx => ?_
    obtain ⟨u, hu, _⟩ := s.own_some ⟨i, t, ht, hb, hx⟩
    have e : b ≠ q := fun e => by subst e; rw [h] at hu; cases hu
    exact ⟨fun w hw => up_new h hw, fun g => by rw [upd_ne e]; exact g⟩
theorem Stp.new (h : H q = none) (hg : G q = none) : Stp σ δ H G σ δ (upd H q o) (upd G q o) := by
  have ne : ∀ b u, H b = some u → b ≠ q := fun b u z e => by subst e; rw [h] at z; cases z
  exact ⟨Ex.new hg, fun b u z _ _ => up_new h z, fun b u z _ _ _ => upd_ne (ne b u z), fun _ _ _ _ m => m, fun _ _ _ _ m => m, fun i t ht _ => ⟨rfl, t, ht, KeepS.refl t⟩, fun b u z n => ⟨u, up_new h z, n⟩⟩
/-- a new thing that may turn -/
theorem SR.tmp (s : SR C σ δ H G) (h : H q = none) : SR C σ δ (upd H q o) G := by
  refine ⟨fun b u z => up_new h (s.sub _ _ z), s.nt, s.gq, fun b u z n m => up_new h (s.fr b u z n m), fun b m => ?_, s.tab.ext (Ex.new h), s.len, fun i t ht => (s.sl i t ht).keep (Ex.refl _) fun b hb hx => ⟨fun w hw => up_new h hw, fun g => g⟩, s.dj⟩
  obtain ⟨u, hu, n⟩ := s.pl b m
  exact ⟨u, up_new h hu, n⟩
theorem Stp.tmp (h : H q = none) : Stp σ δ H G σ δ (upd H q o) G :=
  ⟨Ex.refl _, fun b u z _ _ => up_new h z, fun b u z _ _ _ => rfl, fun _ _ _ _ m => m, fun _ _ _ _ m => m, fun i t ht _ => ⟨rfl, t, ht, KeepS.refl t⟩, fun b u z n => ⟨u, up_new h z, n⟩⟩
theorem PvR.tmp (s : SR C σ δ H G) (hs : ∀ a, Nn H a → Nn Hs a) (h : H q = none) (r : OwnR C.K (upd H q o) G q d) : PvR C σ δ Hs (upd H q o) G (.ref q) (.tm d) := by
  refine ⟨q, rfl, hs _ (.of h), s.fr0 h, s.sub.nn h, fun z => ?_, r⟩
  obtain ⟨u, hu, _⟩ := s.own_some z
  rw [h] at hu; cases hu
/-- a temporary is told -/
theorem SR.frzT (s : SR C σ δ H G) (h : PvR C σ δ Hs H G v (.tm d)) : ∃ G', SR C σ δ H G' ∧ Rp C.K G' v d ∧ (Ex G G' ∧ ∀ b, v ≠ .ref b → G' b = G b) ∧ ∀ {σ0 δ0 G0}, Stp σ0 δ0 Hs G0 σ δ H G → Stp σ0 δ0 Hs G0 σ δ H G' := by
  obtain ⟨a, rfl, h1, h2, h3, h4, h5⟩ := h
  obtain ⟨o, ho, hn, r⟩ := h5.frz h3
  refine ⟨upd G a o, ⟨fun b u z => ?_, fun b u z => ?_, fun b u z n _q => ?_, s.fr, s.pl, s.tab, s.len, fun i t ht => (s.sl i t ht).keep (Ex.new h3) fun b hb hx => ⟨fun _ w => w, fun g => ?_⟩, s.dj⟩, r, ⟨Ex.new h3, fun b hb => upd_ne fun e => hb (by rw [e])⟩, fun {σ0 δ0 G0} t => ⟨t.gs.trans (Ex.new h3), t.fr, fun b u z n _q m => ?_, t.mu, t.ow, t.kp, t.dm⟩⟩
  · by_cases e : b = a
    · subst e; rw [upd_same] at z; cases z; exact ho
    · rw [upd_ne e] at z; exact s.sub _ _ z
  · by_cases e : b = a
    · subst e; rw [upd_same] at z; cases z; exact hn
    · rw [upd_ne e] at z; exact s.nt _ _ z
  · have e : b ≠ a := fun e => h2 u (e ▸ z) n
    rw [upd_ne e]; exact s.gq b u z n ‹_›
  · have e : b ≠ a := fun e => h4 (e ▸ ⟨i, t, ht, hb, hx⟩)
    rw [upd_ne e]; exact g
  · have e : b ≠ a := fun e => h1 u (e ▸ z) n
    rw [upd_ne e]; exact t.gk b u z n ‹_› m
/-- a thing of one's own is told -/
theorem SR.frzS (s : SR C σ δ H G) (hi : δ[i]? = some (.ow d)) : ∃ G', SR C σ (δ.set i (.fz d)) H G' ∧ Stp σ δ H G σ (δ.set i (.fz d)) H G' ∧ ∀ v, σ[i]? = some (some v) → Rp C.K G' v d := by
  obtain ⟨a, ea, h2, h3, h5⟩ := s.sl i _ hi
  obtain ⟨o, ho, hn, r⟩ := h5.frz h3
  have il : i < δ.length := (List.getElem?_eq_some_iff.mp hi).1
  have back : ∀ (j : Nat) (t : Sl), (δ.set i (.fz d))[j]? = some t → t.isO = true → j ≠ i ∧ δ[j]? = some t := fun j t hj ho => by
    by_cases e : i = j
    · subst e; rw [List.getElem?_set_self il] at hj; cases hj; cases ho
    · rw [List.getElem?_set_ne e] at hj; exact ⟨Ne.symm e, hj⟩
  have mua : Mu σ δ a := ⟨i, _, hi, rfl, ea⟩
  refine ⟨upd G a o, ⟨fun b u z => ?_, fun b u z => ?_, fun b u z n _q => ?_, s.fr, s.pl, s.tab, by rw [List.length_set]; exact s.len, fun j t ht => ?_, fun j k b t u hj hk ht hu e1 e2 => ?_⟩, ⟨Ex.new h3, fun b u z _ _ => z, fun b u z n _q m => ?_, ?_, ?_, fun j t ht k => ?_, fun b u z n => ⟨u, z, n⟩⟩, fun v hv => ?_⟩
  · by_cases e : b = a
    · subst e; rw [upd_same] at z; cases z; exact ho
    · rw [upd_ne e] at z; exact s.sub _ _ z
  · by_cases e : b = a
    · subst e; rw [upd_same] at z; cases z; exact hn
    · rw [upd_ne e] at z; exact s.nt _ _ z
  · have e : b ≠ a := fun e => h2 u (e ▸ z) n
    rw [upd_ne e]; exact s.gq b u z n ‹_›
  · by_cases e : i = j
    · subst e; rw [List.getElem?_set_self il] at ht; cases ht; exact ⟨_, ea, r⟩
    · rw [List.getElem?_set_ne e] at ht
      refine (s.sl j t ht).keep (Ex.new h3) fun b hb hx => ⟨fun _ w => w, fun g => ?_⟩
      have e : b ≠ a := fun z => e (s.dj i j a _ t hi ht rfl hb ea (z ▸ hx))
      rw [upd_ne e]; exact g
  · exact s.dj j k b t u (back j t hj ht).2 (back k u hk hu).2 ht hu e1 e2
  · have e : b ≠ a := fun e => m (e ▸ mua)
    exact upd_ne e
  · rintro b u z n ⟨j, t, hj, ht, hx⟩
    exact ⟨j, t, (back j t hj (t.isO_of ht)).2, ht, hx⟩
  · rintro b u z n ⟨j, t, hj, ht, hx⟩
    exact ⟨j, t, (back j t hj ht).2, ht, hx⟩
  · refine ⟨rfl, t, ?_, KeepS.refl t⟩
    have e : i ≠ j := fun e => by subst e; rw [hi] at ht; cases ht; cases k
    rw [List.getElem?_set_ne e]; exact ht
  · rw [ea] at hv; cases hv; exact r
end
/-- the same kind of slot, another content -/
def Sl.put : Sl → D → Sl | .ow _, d => .ow d | .io _, d => .io d | s, _ => s
section
variable {C : Ctx} {σ σ' σ'' : L2.St} {δ δ' δ'' : List Sl} {H H' H'' G G' G'' Hs : Hp} {v : V} {p : Pv} {d : D} {a q : Addr} {o : HO} {i : Nat} {s : Sl}
theorem SR.at (S : SR C σ δ H G) (hi : δ[i]? = some s) (hm : s.isO = true) (hc : s.ct = some d) : ∃ a, σ[i]? = some (some (.ref a)) ∧ G a = none ∧ OwnL C.K H G a d := by
  have r := S.sl i s hi
  cases s with
  | un => cases hm
  | fz d => cases hm
  | ow d => cases hc; obtain ⟨b, e1, _, g, r⟩ := r; exact ⟨b, e1, g, .inl r⟩
  | io d => cases hc; obtain ⟨b, e1, _, g, r⟩ := r; exact ⟨b, e1, g, .inl r⟩
  | lk k d => cases hc; obtain ⟨b, e1, _, g, r⟩ := r; exact ⟨b, e1, g, r⟩
theorem SR.atM (S : SR C σ δ H G) (hi : δ[i]? = some s) (hm : s.isM = true) (hc : s.ct = some d) : ∃ a, σ[i]? = some (some (.ref a)) ∧ G a = none ∧ OwnR C.K H G a d := by
  have r := S.sl i s hi
  cases s with
  | ow d => cases hc; obtain ⟨b, e1, _, g, r⟩ := r; exact ⟨b, e1, g, r⟩
  | io d => cases hc; obtain ⟨b, e1, _, g, r⟩ := r; exact ⟨b, e1, g, r⟩
  | _ => cases hm
/-- what may turn turns -/
theorem SR.mut (S : SR C σ δ H G) (hi : δ[i]? = some s) (hm : s.isM = true) (ha : σ[i]? = some (some (.ref a))) (r : OwnR C.K (upd H a o) G a d) : SR C σ (δ.set i (s.put d)) (upd H a o) G ∧ Stp σ δ H G σ (δ.set i (s.put d)) (upd H a o) G := by
  have il : i < δ.length := (List.getElem?_eq_some_iff.mp hi).1
  have mua : Mu σ δ a := ⟨i, s, hi, hm, ha⟩
  obtain ⟨gn, d0, r0⟩ := S.own mua.ow
  obtain ⟨u0, hu0, nt0, ne0⟩ := r0.some
  have pM : (s.put d).isM = true := by cases s <;> first | rfl | cases hm
  have pO : (s.put d).isO = true := (s.put d).isO_of pM
  have back : ∀ (j : Nat) (t : Sl), (δ.set i (s.put d))[j]? = some t → (j = i ∧ t = s.put d) ∨ (j ≠ i ∧ δ[j]? = some t) := fun j t hj => by
    by_cases e : i = j
    · subst e; rw [List.getElem?_set_self il] at hj; cases hj; exact .inl ⟨rfl, rfl⟩
    · rw [List.getElem?_set_ne e] at hj; exact .inr ⟨Ne.symm e, hj⟩
  have backO : ∀ (j : Nat) (t : Sl), (δ.set i (s.put d))[j]? = some t → t.isO = true → ∃ t', δ[j]? = some t' ∧ t'.isO = true := fun j t hj ho => by
    rcases back j t hj with ⟨rfl, rfl⟩ | ⟨_, h⟩
    · exact ⟨s, hi, s.isO_of hm⟩
    · exact ⟨t, h, ho⟩
  refine ⟨⟨fun b u z => ?_, S.nt, S.gq, fun b u z n m => ?_, fun b m => ?_, tabs_at S.tab fun b u z w => ?_, by rw [List.length_set]; exact S.len, fun j t ht => ?_, fun j k b t u hj hk ht hu e1 e2 => ?_⟩, ⟨Ex.refl _, fun b u z n m => ?_, fun _ _ _ _ _ _ => rfl, ?_, ?_, fun j t ht k => ?_, fun b u z n => ?_⟩⟩
  · have e : b ≠ a := fun e => by subst e; rw [gn] at z; cases z
    rw [upd_ne e]; exact S.sub _ _ z
  · have e : b ≠ a := fun e => by
      subst e
      have r := S.sl i s hi
      cases s with
      | ow d => obtain ⟨c, e1, f, _⟩ := r; rw [ha] at e1; cases e1; exact f u z n
      | io d => obtain ⟨c, e1, f, _⟩ := r; rw [ha] at e1; cases e1; exact m f
      | _ => cases hm
    rw [upd_ne e]; exact S.fr b u z n m
  · by_cases e : b = a
    · subst e
      obtain ⟨w, hw, n, _⟩ := r.some
      exact ⟨w, hw, n, r.ntu hw⟩
    · obtain ⟨u, hu, n⟩ := S.pl b m
      exact ⟨u, by rw [upd_ne e]; exact hu, n⟩
  · have e : b ≠ a := fun e => by
      subst e; rw [hu0] at z; cases z
      rcases w with ⟨ps, rfl⟩ | ⟨φ, rfl⟩
      · exact nt0 ps rfl
      · exact ne0 φ rfl
    rw [upd_ne e]; exact z
  · rcases back j t ht with ⟨rfl, rfl⟩ | ⟨ne, h⟩
    · have r1 := S.sl j s hi
      cases s with
      | ow d' => obtain ⟨c, e1, f, g, _⟩ := r1; rw [ha] at e1; cases e1; exact ⟨a, ha, f, g, r⟩
      | io d' => obtain ⟨c, e1, f, g, _⟩ := r1; rw [ha] at e1; cases e1; exact ⟨a, ha, f, g, r⟩
      | _ => cases hm
    · refine (S.sl j t h).keep (Ex.refl _) fun b hb hx => ⟨fun w hw => ?_, fun g => g⟩
      have e : b ≠ a := fun e => ne (S.dj j i a t s h hi hb (s.isO_of hm) (e ▸ hx) ha)
      rw [upd_ne e]; exact hw
  · obtain ⟨t', h1, h2⟩ := backO j t hj ht
    obtain ⟨u', h3, h4⟩ := backO k u hk hu
    exact S.dj j k b t' u' h1 h3 h2 h4 e1 e2
  · have e : b ≠ a := fun e => m (e ▸ mua)
    rw [upd_ne e]; exact z
  · rintro b u z n ⟨j, t, hj, ht, hx⟩
    rcases back j t hj with ⟨rfl, rfl⟩ | ⟨_, h⟩
    · exact ⟨j, s, hi, hm, hx⟩
    · exact ⟨j, t, h, ht, hx⟩
  · rintro b u z n ⟨j, t, hj, ht, hx⟩
    obtain ⟨t', h1, h2⟩ := backO j t hj ht
    exact ⟨j, t', h1, h2, hx⟩
  · refine ⟨rfl, ?_⟩
    by_cases e : i = j
    · subst e
      rw [hi] at ht; cases ht
      refine ⟨_, List.getElem?_set_self il, ?_⟩
      cases s with
      | io d => trivial
      | ow d => trivial
      | _ => cases hm
    · exact ⟨t, by rw [List.getElem?_set_ne e]; exact ht, KeepS.refl t⟩
  · by_cases e : b = a
    · subst e
      obtain ⟨w, hw, n, _⟩ := r.some
      exact ⟨w, hw, n⟩
    · exact ⟨u, by rw [upd_ne e]; exact z, n⟩
/-- a name gets a told value -/
theorem SR.asgF (S : SR C σ δ H G) (hi : ∀ t, δ[i]? = some t → t.isK = false) (r : Rp C.K G v d) : SR C (σ.set i (some v)) (δ.set i (.fz d)) H G ∧ Stp σ δ H G (σ.set i (some v)) (δ.set i (.fz d)) H G := by
  have back : ∀ (j : Nat) (t : Sl), (δ.set i (.fz d))[j]? = some t → t.isO = true → i ≠ j ∧ δ[j]? = some t ∧ (σ.set i (some v))[j]? = σ[j]? := fun j t hj ho => by
    by_cases e : i = j
    · subst e
      by_cases il : i < δ.length
      · rw [List.getElem?_set_self il] at hj; cases hj; cases ho
      · rw [List.getElem?_eq_none (by rw [List.length_set]; omega)] at hj; cases hj
    · rw [List.getElem?_set_ne e] at hj; exact ⟨e, hj, List.getElem?_set_ne e⟩
  refine ⟨⟨S.sub, S.nt, S.gq, S.fr, S.pl, S.tab, by simpa using S.len, fun j t ht => ?_, fun j k b t u hj hk ht hu e1 e2 => ?_⟩, ⟨Ex.refl _, fun b u z n m => z, fun _ _ _ _ _ _ => rfl, ?_, ?_, fun j t ht k => ?_, fun b u z n => ⟨u, z, n⟩⟩⟩
  · by_cases e : i = j
    · subst e
      by_cases il : i < δ.length
      · rw [List.getElem?_set_self il] at ht; cases ht
        exact ⟨v, List.getElem?_set_self (by rw [S.len]; exact il), r⟩
      · rw [List.getElem?_eq_none (by rw [List.length_set]; omega)] at ht; cases ht
    · rw [List.getElem?_set_ne e] at ht
      rw [List.getElem?_set_ne e]; exact S.sl j t ht
  · obtain ⟨_, h1, h2⟩ := back j t hj ht
    obtain ⟨_, h3, h4⟩ := back k u hk hu
    exact S.dj j k b t u h1 h3 ht hu (h2 ▸ e1) (h4 ▸ e2)
  · rintro b u z n ⟨j, t, hj, ht, hx⟩
    obtain ⟨_, h1, h2⟩ := back j t hj (t.isO_of ht)
    exact ⟨j, t, h1, ht, h2 ▸ hx⟩
  · rintro b u z n ⟨j, t, hj, ht, hx⟩
    obtain ⟨_, h1, h2⟩ := back j t hj ht
    exact ⟨j, t, h1, ht, h2 ▸ hx⟩
  · have e : i ≠ j := fun e => by subst e; rw [hi t ht] at k; cases k
    exact ⟨List.getElem?_set_ne e, t, by rw [List.getElem?_set_ne e]; exact ht, KeepS.refl t⟩
/-- a name gets a temporary for its own -/
theorem SR.asgT (S : SR C σ δ H G) (il : i < δ.length) (hi : ∀ t, δ[i]? = some t → t.isK = false) (r : PvR C σ δ Hs H G v (.tm d)) : SR C (σ.set i (some v)) (δ.set i (.ow d)) H G ∧ ∀ {σ0 δ0 G0}, Stp σ0 δ0 Hs G0 σ δ H G → Stp σ0 δ0 Hs G0 (σ.set i (some v)) (δ.set i (.ow d)) H G := by
  obtain ⟨a, rfl, h1, h2, h3, h4, h5⟩ := r
  have is : i < σ.length := by rw [S.len]; exact il
  have back : ∀ (j : Nat) (t : Sl), (δ.set i (.ow d))[j]? = some t → (j = i ∧ t = .ow d) ∨ (i ≠ j ∧ δ[j]? = some t ∧ (σ.set i (some (.ref a)))[j]? = σ[j]?) := fun j t hj => by
    by_cases e : i = j
    · subst e; rw [List.getElem?_set_self il] at hj; cases hj; exact .inl ⟨rfl, rfl⟩
    · rw [List.getElem?_set_ne e] at hj; exact .inr ⟨e, hj, List.getElem?_set_ne e⟩
  have self : (σ.set i (some (V.ref a)))[i]? = some (some (.ref a)) := List.getElem?_set_self is
  refine ⟨⟨S.sub, S.nt, S.gq, S.fr, S.pl, S.tab, by simpa using S.len, fun j t ht => ?_, fun j k b t u hj hk ht hu e1 e2 => ?_⟩, fun {σ0 δ0 G0} T => ⟨T.gs, T.fr, T.gk, ?_, ?_, fun j t ht k => ?_, T.dm⟩⟩
  · rcases back j t ht with ⟨rfl, rfl⟩ | ⟨e, h, e'⟩
    · exact ⟨a, self, h2, h3, h5⟩
    · rw [e']; exact S.sl j t h
  · rcases back j t hj with ⟨rfl, rfl⟩ | ⟨n1, g1, f1⟩
    · rcases back k u hk with ⟨rfl, rfl⟩ | ⟨n2, g2, f2⟩
      · rfl
      · rw [self] at e1; cases e1
        exact absurd ⟨k, u, g2, hu, f2 ▸ e2⟩ h4
    · rcases back k u hk with ⟨rfl, rfl⟩ | ⟨n2, g2, f2⟩
      · rw [self] at e2; cases e2
        exact absurd ⟨j, t, g1, ht, f1 ▸ e1⟩ h4
      · exact S.dj j k b t u g1 g2 ht hu (f1 ▸ e1) (f2 ▸ e2)
  · rintro b u z n ⟨j, t, hj, ht, hx⟩
    rcases back j t hj with ⟨rfl, rfl⟩ | ⟨_, g1, f1⟩
    · rw [self] at hx; cases hx; exact absurd n (h1 u z)
    · exact T.mu b u z n ⟨j, t, g1, ht, f1 ▸ hx⟩
  · rintro b u z n ⟨j, t, hj, ht, hx⟩
    rcases back j t hj with ⟨rfl, rfl⟩ | ⟨_, g1, f1⟩
    · rw [self] at hx; cases hx; exact absurd n (h1 u z)
    · exact T.ow b u z n ⟨j, t, g1, ht, f1 ▸ hx⟩
  · obtain ⟨e1, s', h', k'⟩ := T.kp j t ht k
    have e : i ≠ j := fun e => by subst e; have := hi s' h'; rw [k'.isK k] at this; cases this
    exact ⟨(List.getElem?_set_ne e).trans e1, s', by rw [List.getElem?_set_ne e]; exact h', k'⟩
end
end WK
/-! Readings by data. -/
namespace WK
open PySem L2
abbrev Xn := Str × List (Str × D)
abbrev UX := Xn → List Sl → Prop
abbrev UK := Pv → List Sl → Prop
abbrev UE := List Sl → UK → UX → Prop
abbrev UT := List Sl → (Bool → List Sl → Prop) → UX → Prop
abbrev UA := List Sl → (List Pv → List Sl → Prop) → UX → Prop
def XR (K : PySem.W.Frag) (H G : Hp) (x : Xn) (cls : Value) (d : Option Addr) : Prop := cls = .ref (He.ga K x.1) ∧ ∃ dd fs, d = some dd ∧ G dd = some (.xd fs) ∧ RpM K G fs x.2
/-- what is wanted of an exception -/
def XC (C : Ctx) (W : WX) (σ : L2.St) (δ : List Sl) (H G : Hp) (X' : UX) : Prop :=
  ∀ x δ' H' G' cls d, SR C σ δ' H' G' → Stp σ δ H G σ δ' H' G' → XR C.K H' G' x cls d → X' x δ' → W cls d σ H'
def TrE (C : Ctx) (W : WX) (t : TE) (u : UE) : Prop := ∀ (σ : L2.St) (δ : List Sl) (H G : Hp) (Q : VK) (Q' : UK) (X' : UX), SR C σ δ H G → u δ Q' X' →
  (∀ v p δ' H' G', SR C σ δ' H' G' → Stp σ δ H G σ δ' H' G' → PvR C σ δ' H H' G' v p → Q' p δ' → Q v H') → XC C W σ δ H G X' → t σ H Q
def TrT (C : Ctx) (W : WX) (t : TT) (u : UT) : Prop := ∀ (σ : L2.St) (δ : List Sl) (H G : Hp) (Q : Bool → Hp → Prop) (Q' : Bool → List Sl → Prop) (X' : UX), SR C σ δ H G → u δ Q' X' →
  (∀ b δ' H' G', SR C σ δ' H' G' → Stp σ δ H G σ δ' H' G' → Q' b δ' → Q b H') → XC C W σ δ H G X' → t σ H Q
def PaR (K : PySem.W.Frag) (σ : L2.St) (G : Hp) (v : V) : Pv → Prop | .fz d => Rp K G v d | .at i => σ[i]? = some (some v) | .tm _ => False
inductive PasR (K : PySem.W.Frag) (σ : L2.St) (G : Hp) : List V → List Pv → Prop
  | nil : PasR K σ G [] []
  | cons {v : V} {p : Pv} {vs : List V} {ps : List Pv} : PaR K σ G v p → PasR K σ G vs ps → PasR K σ G (v :: vs) (p :: ps)
def TrA (C : Ctx) (W : WX) (t : TA) (u : UA) : Prop := ∀ (σ : L2.St) (δ : List Sl) (H G : Hp) (Q : List V → Hp → Prop) (Q' : List Pv → List Sl → Prop) (X' : UX), SR C σ δ H G → u δ Q' X' →
  (∀ vs ps δ' H' G', SR C σ δ' H' G' → Stp σ δ H G σ δ' H' G' → PasR C.K σ G' vs ps → Q' ps δ' → Q vs H') → XC C W σ δ H G X' → t σ H Q
section
variable {C : Ctx} {W : WX} {σ : L2.St} {δ δ' : List Sl} {H H' G G' Hs : Hp} {v w : V} {p q : Pv} {d : D} {vs : List V} {ps : List Pv} {i : Nat} {K : PySem.W.Frag} {X' : UX}
theorem XC.step (x : XC C W σ δ H G X') (s : Stp σ δ H G σ δ' H' G') : XC C W σ δ' H' G' X' := fun y δ2 H2 G2 cls d S T r q => x y δ2 H2 G2 cls d S (s.trans T) r q
theorem PaR.mono (e : Ex G G') (h : PaR K σ G v p) : PaR K σ G' v p := by
  cases p with
  | fz d => exact Rp.mono e h
  | «at» i => exact h
  | tm d => exact h.elim
theorem PasR.mono (e : Ex G G') : ∀ {vs ps}, PasR K σ G vs ps → PasR K σ G' vs ps
  | _, _, .nil => .nil
  | _, _, .cons h t => .cons (h.mono e) (t.mono e)
theorem PasR.length : ∀ {vs ps}, PasR K σ G vs ps → vs.length = ps.length
  | _, _, .nil => rfl
  | _, _, .cons _ t => by simp [PasR.length t]
theorem PaR.pv (h : PaR C.K σ G v p) : PvR C σ δ Hs H G v p := by
  cases p with
  | fz d => exact h
  | «at» i => exact h
  | tm d => exact h.elim
abbrev Pv.fzn : Pv → Pv | .tm d => .fz d | p => p
/-- a value that is handed on is told -/
theorem fzn_ok (S : SR C σ δ' H' G') (T : Stp σ δ H G σ δ' H' G') (r : PvR C σ δ' H H' G' v p) : ∃ G2, SR C σ δ' H' G2 ∧ Stp σ δ H G σ δ' H' G2 ∧ PaR C.K σ G2 v p.fzn := by
  cases p with
  | fz d => exact ⟨G', S, T, r⟩
  | «at» i => exact ⟨G', S, T, r⟩
  | tm d =>
    obtain ⟨G2, S2, r2, _, k⟩ := S.frzT r
    exact ⟨G2, S2, k T, r2⟩
def uNil : UA := fun δ Q _ => Q [] δ
def uCons (u : UE) (us : UA) : UA := fun δ Q X => u δ (fun p δ1 => us δ1 (fun ps δ2 => Q (p.fzn :: ps) δ2) X) X
theorem tr_nil : TrA C W tNil uNil := fun σ δ H G Q Q' X' S h k _ => k [] [] δ H G S .refl .nil h
theorem tr_cons {te : TE} {ts : TA} {u : UE} {us : UA} (h1 : TrE C W te u) (h2 : TrA C W ts us) : TrA C W (tCons te ts) (uCons u us) := fun σ δ H G Q Q' X' S h k kx => by
  refine h1 σ δ H G _ _ X' S h (fun v p δ1 H1 G1 S1 T1 r q => ?_) kx
  obtain ⟨G2, S2, T2, r2⟩ := fzn_ok S1 T1 r
  exact h2 σ δ1 H1 G2 _ _ X' S2 q (fun vs ps δ3 H3 G3 S3 T3 rs q3 => k (v :: vs) _ δ3 H3 G3 S3 (T2.trans T3) (.cons (r2.mono T3.gs) rs) q3) (kx.step T2)
/-! ### contents -/
def ctP (δ : List Sl) : Pv → Option D | .fz d => some d | .tm d => some d | .at i => δ[i]?.bind Sl.ct
def Vw (K : PySem.W.Frag) (H G : Hp) (v : V) : D → Prop
  | .lst ds => ∃ a vs, v = .ref a ∧ H a = some (.lst vs) ∧ RpL K G vs ds
  | .tup ds => ∃ a vs, v = .ref a ∧ SqT K H a vs ∧ RpL K G vs ds
  | .tpn ds => ∃ a o vs, v = .ref a ∧ H a = some (.frz o (.tup vs)) ∧ o.dict = none ∧ RpL K G vs ds
  | .scr xs => ∃ a, v = .ref a ∧ SqL K H a (xs.map V.int)
  | .dct kds => ∃ a kvs, v = .ref a ∧ Rd H a (.dK kvs) ∧ RpM K G kvs kds
  | .obj c fds => ∃ a dx fs, v = .ref a ∧ H a = some (.ins (He.ga K c) dx fs) ∧ RpM K G fs fds
  | .non => v = .non
  | .bl b => v = .bl b
  | .int i => v = .int i
  | .str x => v = .str x
  | .ty n => v = .ty n
  | .cls c => v = .ref (He.ga K c)
  | .exc a dd _ fds => v = .ref a ∧ ∃ fs, H dd = some (.xd fs) ∧ RpM K G fs fds
  | .adr a => v = .ref a
  | .dcT kds => ∃ a kvs, v = .ref a ∧ Rd H a (.dT kvs) ∧ RpM K G kvs kds
  | .tpk ks => ∃ a, v = .ref a ∧ H a = some (.tup (ks.map kV))
  | .err c fds => ∃ a dd fs, v = .ref a ∧ H a = some (L2.exo a (He.ga K c) (some dd)) ∧ H dd = some (L2.exd dd fs) ∧ RpM K G fs fds
theorem Rp.vw (h : Rp K G v d) (e : Ex G H) : Vw K H G v d := by
  cases h with
  | non => rfl
  | bl b => rfl
  | int i => rfl
  | str x => rfl
  | ty n => rfl
  | cls c => rfl
  | tup h t => exact ⟨_, _, rfl, st_ex h e, t⟩
  | tpn h n t => exact ⟨_, _, _, rfl, e _ _ h, n, t⟩
  | scr h => exact ⟨_, rfl, sl_ex h e⟩
  | lst h t => exact ⟨_, _, rfl, e _ _ h, t⟩
  | dct h k t => exact ⟨_, _, rfl, rd_ex e h, k, t⟩
  | obj h k t => exact ⟨_, _, _, rfl, e _ _ h, k, t⟩
  | exc h k t => exact ⟨rfl, _, e _ _ h, k, t⟩
  | err h h2 k t => exact ⟨_, _, _, rfl, e _ _ h, e _ _ h2, k, t⟩
  | adr a => rfl
  | dcT h k t => exact ⟨_, _, rfl, rd_ex e h, k, t⟩
  | tpk h => exact ⟨_, rfl, e _ _ h⟩
theorem OwnR.vw {a : Addr} (h : OwnR K H G a d) : Vw K H G (.ref a) d := by
  cases d with
  | lst ds => obtain ⟨vs, h, r⟩ := h; exact ⟨_, _, rfl, h, r⟩
  | dct ds => obtain ⟨vs, h, r⟩ := h; exact ⟨_, _, rfl, .inl h, r⟩
  | obj c ds => obtain ⟨dx, vs, h, r⟩ := h; exact ⟨_, _, _, rfl, h, r⟩
  | dcT ds => obtain ⟨vs, h, r⟩ := h; exact ⟨_, _, rfl, .inl h, r⟩
  | _ => exact h.elim
theorem OwnL.vw {a : Addr} (h : OwnL K H G a d) : Vw K H G (.ref a) d := by
  rcases h with h | ⟨kds, od, kvs, rfl, h, r⟩
  · exact h.vw
  · exact ⟨_, _, rfl, .inr ⟨od, h⟩, r⟩
theorem vw (S : SR C σ δ H G) (r : PvR C σ δ Hs H G v p) (e : ctP δ p = some d) : Vw C.K H G v d := by
  cases p with
  | fz d' => cases e; exact Rp.vw r S.sub
  | tm d' =>
    cases e
    obtain ⟨a, rfl, _, _, _, _, r⟩ := r
    exact r.vw
  | «at» i =>
    have e' : δ[i]?.bind Sl.ct = some d := e
    cases hi : δ[i]? with
    | none => rw [hi] at e'; cases e'
    | some s =>
      rw [hi] at e'
      have hs := S.sl i s hi
      have r' : σ[i]? = some (some v) := r
      rw [r'] at hs
      cases s with
      | un => cases e'
      | fz d' => cases e'; obtain ⟨v', h1, h2⟩ := hs; cases h1; exact Rp.vw h2 S.sub
      | ow d' => cases e'; obtain ⟨a, h1, _, _, h2⟩ := hs; cases h1; exact h2.vw
      | io d' => cases e'; obtain ⟨a, h1, _, _, h2⟩ := hs; cases h1; exact h2.vw
      | lk b d' => cases e'; obtain ⟨a, h1, _, _, h2⟩ := hs; cases h1; exact h2.vw
/-! ### names, constants -/
def uVar (i : Nat) : UE := fun δ Q _ => match δ[i]? with
  | some (.fz d) => Q (.fz d) δ
  | some (.ow _) => Q (.at i) δ
  | some (.io _) => Q (.at i) δ
  | some (.lk _ _) => Q (.at i) δ
  | _ => False
def uC (d : D) : UE := fun δ Q _ => Q (.fz d) δ
theorem tr_var : TrE C W (tVar i) (uVar i) := fun σ δ H G Q Q' X' S h k _ => by
  unfold uVar at h
  cases hi : δ[i]? with
  | none => rw [hi] at h; exact h.elim
  | some s =>
    rw [hi] at h
    have hs := S.sl i s hi
    cases s with
    | un => exact h.elim
    | fz d => obtain ⟨v, h1, h2⟩ := hs; exact ⟨v, h1, k v (.fz d) δ H G S .refl h2 h⟩
    | ow d => obtain ⟨a, h1, _⟩ := hs; exact ⟨_, h1, k _ (.at i) δ H G S .refl h1 h⟩
    | io d => obtain ⟨a, h1, _⟩ := hs; exact ⟨_, h1, k _ (.at i) δ H G S .refl h1 h⟩
    | lk b d => obtain ⟨a, h1, _⟩ := hs; exact ⟨_, h1, k _ (.at i) δ H G S .refl h1 h⟩
theorem tr_c {d : D} (h : ∀ G, Rp C.K G v d) : TrE C W (tC v) (uC d) := fun σ δ H G Q Q' X' S h' k _ => k v (.fz d) δ H G S .refl (h G) h'
theorem tr_non : TrE C W (tC .non) (uC .non) := tr_c fun _ => .non
theorem tr_bl {b : Bool} : TrE C W (tC (.bl b)) (uC (.bl b)) := tr_c fun _ => .bl b
theorem tr_int {i : Int} : TrE C W (tC (.int i)) (uC (.int i)) := tr_c fun _ => .int i
theorem tr_str {x : Str} : TrE C W (tC (.str x)) (uC (.str x)) := tr_c fun _ => .str x
theorem tr_ty {x : String} : TrE C W (tC (.ty x)) (uC (.ty x)) := tr_c fun _ => .ty x
theorem tr_cls {c : Str} : TrE C W (tC (.ref (He.ga C.K c))) (uC (.cls c)) := tr_c fun _ => .cls c
/-! ### operators -/
abbrev Op1 := List Sl → Pv → UK → Prop
abbrev Op2 := List Sl → Pv → Pv → UK → Prop
abbrev OpA := List Sl → List Pv → UK → Prop
/-- what is wanted behind an operation -/
def KC (C : Ctx) (σ : L2.St) (δ : List Sl) (Hs H G : Hp) (Q : VK) (Q' : UK) : Prop := ∀ v' p' δ' H' G', SR C σ δ' H' G' → Stp σ δ H G σ δ' H' G' → PvR C σ δ' Hs H' G' v' p' → Q' p' δ' → Q v' H'
def TrO1 (C : Ctx) (r : V → Hp → VK → Prop) (f : Op1) : Prop := ∀ σ δ H G Hs v p Q Q', SR C σ δ H G → (∀ a, Nn H a → Nn Hs a) → PvR C σ δ Hs H G v p → f δ p Q' → KC C σ δ Hs H G Q Q' → r v H Q
def TrOp (C : Ctx) (r : R2) (f : Op2) : Prop := ∀ σ δ H G Hs v w p q Q Q', SR C σ δ H G → (∀ a, Nn H a → Nn Hs a) → PvR C σ δ Hs H G v p → PvR C σ δ Hs H G w q → f δ p q Q' → KC C σ δ Hs H G Q Q' → r v w H Q
def TrCB (C : Ctx) (r : List V → Hp → VK → Prop) (f : OpA) : Prop := ∀ σ δ H G Hs vs ps Q Q', SR C σ δ H G → (∀ a, Nn H a → Nn Hs a) → PasR C.K σ G vs ps → f δ ps Q' → KC C σ δ Hs H G Q Q' → r vs H Q
def uUn (f : Op1) (ua : UE) : UE := fun δ Q X => ua δ (fun p δ1 => f δ1 p Q) X
def uOp (f : Op2) (ua ub : UE) : UE := fun δ Q X => ua δ (fun p δ1 => ub δ1 (fun q δ2 => f δ2 p q Q) X) X
def uCB (f : OpA) (us : UA) : UE := fun δ Q X => us δ (fun ps δ1 => f δ1 ps Q) X
theorem KC.of {Q : VK} {Q' : UK} (k : ∀ v p δ' H' G', SR C σ δ' H' G' → Stp σ δ H G σ δ' H' G' → PvR C σ δ' H H' G' v p → Q' p δ' → Q v H') {δ1 : List Sl} {H1 G1 : Hp} (T : Stp σ δ H G σ δ1 H1 G1) : KC C σ δ1 H H1 G1 Q Q' :=
  fun v p δ2 H2 G2 S2 T2 r q => k v p δ2 H2 G2 S2 (T.trans T2) r q
theorem tr_un {r : V → Hp → VK → Prop} {f : Op1} {ta : TE} {ua : UE} (hf : TrO1 C r f) (ha : TrE C W ta ua) : TrE C W (tUn r ta) (uUn f ua) := fun σ δ H G Q Q' X' S h k kx =>
  ha σ δ H G _ _ X' S h (fun v p δ1 H1 G1 S1 T1 r1 q1 => hf σ δ1 H1 G1 H v p Q Q' S1 (fun a => T1.nn) r1 q1 (KC.of k T1)) kx
theorem tr_op {r : R2} {f : Op2} {ta tb : TE} {ua ub : UE} (hf : TrOp C r f) (ha : TrE C W ta ua) (hb : TrE C W tb ub) : TrE C W (tOp r ta tb) (uOp f ua ub) := fun σ δ H G Q Q' X' S h k kx =>
  ha σ δ H G _ _ X' S h (fun v p δ1 H1 G1 S1 T1 r1 q1 => hb σ δ1 H1 G1 _ _ X' S1 q1 (fun w q δ2 H2 G2 S2 T2 r2 q2 => hf σ δ2 H2 G2 H v w p q Q Q' S2 (fun a z => T1.nn (T2.nn z)) (r1.stp T2) (r2.start fun a => T1.nn) q2 (KC.of k (T1.trans T2))) (kx.step T1)) kx
theorem tr_cb {r : List V → Hp → VK → Prop} {f : OpA} {ta : TA} {ua : UA} (hf : TrCB C r f) (ha : TrA C W ta ua) : TrE C W (tCB r ta) (uCB f ua) := fun σ δ H G Q Q' X' S h k kx =>
  ha σ δ H G _ _ X' S h (fun vs ps δ1 H1 G1 S1 T1 r1 q1 => hf σ δ1 H1 G1 H vs ps Q Q' S1 (fun a => T1.nn) r1 q1 (KC.of k T1)) kx
/-! ### tests -/
def uB (u : UE) : UT := fun δ Q X => u δ (fun p δ1 => ∃ b, p = .fz (.bl b) ∧ Q b δ1) X
def uNot (u : UT) : UT := fun δ Q X => u δ (fun b δ1 => Q (!b) δ1) X
def uAnd (u w : UT) : UT := fun δ Q X => u δ (fun b δ1 => if b = true then w δ1 Q X else Q false δ1) X
def uOr (u w : UT) : UT := fun δ Q X => u δ (fun b δ1 => if b = true then Q true δ1 else w δ1 Q X) X
def uIf (c : UT) (a b : UE) : UE := fun δ Q X => c δ (fun k δ1 => if k = true then a δ1 Q X else b δ1 Q X) X
def uNotV (u : UE) : UE := fun δ Q X => u δ (fun p δ1 => ∃ b, p = .fz (.bl b) ∧ Q (.fz (.bl (!b))) δ1) X
def uAndV (u w : UE) : UE := fun δ Q X => u δ (fun p δ1 => ∃ b, p = .fz (.bl b) ∧ if b = true then w δ1 Q X else Q (.fz (.bl false)) δ1) X
def uOrV (u w : UE) : UE := fun δ Q X => u δ (fun p δ1 => ∃ b, p = .fz (.bl b) ∧ if b = true then Q (.fz (.bl true)) δ1 else w δ1 Q X) X
def uChain (f f' : Op2) (ua ub uc : UE) : UE := fun δ Q X => ua δ (fun p δ1 => ub δ1 (fun q δ2 => f δ2 p q fun z δ3 => ∃ k, z = .fz (.bl k) ∧ if k = true then uc δ3 (fun r δ4 => f' δ4 q r Q) X else Q (.fz (.bl false)) δ3) X) X
theorem pvF (h : Rp C.K G v d) : PvR C σ δ Hs H G v (.fz d) := h
theorem rp_bl {b : Bool} (h : PvR C σ δ Hs H G v (.fz (.bl b))) : v = .bl b := by
  have h' : Rp C.K G v (.bl b) := h
  cases h'; rfl
theorem tr_test {t : TE} {u : UE} (h : TrE C W t u) : TrT C W (tTest t) (uB u) := fun σ δ H G Q Q' X' S hu k kx =>
  h σ δ H G _ _ X' S hu (fun v p δ1 H1 G1 S1 T1 r q => by
    obtain ⟨b, rfl, q⟩ := q
    exact ⟨b, rp_bl r, k b δ1 H1 G1 S1 T1 q⟩) kx
theorem tr_tB {t : TE} {u : UE} (h : TrE C W t u) : TrT C W (tB t) (uB u) := fun σ δ H G Q Q' X' S hu k kx =>
  h σ δ H G _ _ X' S hu (fun v p δ1 H1 G1 S1 T1 r q => by
    obtain ⟨b, rfl, q⟩ := q
    exact ⟨b, rp_bl r, k b δ1 H1 G1 S1 T1 q⟩) kx
theorem tr_not {t : TT} {u : UT} (h : TrT C W t u) : TrT C W (tNot t) (uNot u) := fun σ δ H G Q Q' X' S hu k kx =>
  h σ δ H G _ _ X' S hu (fun b δ1 H1 G1 S1 T1 q => k (!b) δ1 H1 G1 S1 T1 q) kx
theorem tr_and {t s : TT} {u w : UT} (h : TrT C W t u) (h' : TrT C W s w) : TrT C W (tAnd t s) (uAnd u w) := fun σ δ H G Q Q' X' S hu k kx =>
  h σ δ H G _ _ X' S hu (fun b δ1 H1 G1 S1 T1 q => by
    cases b with
    | true => rw [if_pos rfl] at q ⊢; exact h' σ δ1 H1 G1 _ _ X' S1 q (fun b δ2 H2 G2 S2 T2 q2 => k b δ2 H2 G2 S2 (T1.trans T2) q2) (kx.step T1)
    | false => rw [if_neg (by decide)] at q ⊢; exact k false δ1 H1 G1 S1 T1 q) kx
theorem tr_or {t s : TT} {u w : UT} (h : TrT C W t u) (h' : TrT C W s w) : TrT C W (tOr t s) (uOr u w) := fun σ δ H G Q Q' X' S hu k kx =>
  h σ δ H G _ _ X' S hu (fun b δ1 H1 G1 S1 T1 q => by
    cases b with
    | true => rw [if_pos rfl] at q ⊢; exact k true δ1 H1 G1 S1 T1 q
    | false => rw [if_neg (by decide)] at q ⊢; exact h' σ δ1 H1 G1 _ _ X' S1 q (fun b δ2 H2 G2 S2 T2 q2 => k b δ2 H2 G2 S2 (T1.trans T2) q2) (kx.step T1)) kx
theorem KC.step' {Q : VK} {Q' : UK} {δ1 : List Sl} {H1 G1 : Hp} (k : ∀ v p δ' H' G', SR C σ δ' H' G' → Stp σ δ H G σ δ' H' G' → PvR C σ δ' H H' G' v p → Q' p δ' → Q v H') (T : Stp σ δ H G σ δ1 H1 G1) :
    ∀ v p δ' H' G', SR C σ δ' H' G' → Stp σ δ1 H1 G1 σ δ' H' G' → PvR C σ δ' H1 H' G' v p → Q' p δ' → Q v H' := fun v p δ2 H2 G2 S2 T2 r q => k v p δ2 H2 G2 S2 (T.trans T2) (r.start fun a => T.nn) q
theorem tr_if {c : TT} {s t : TE} {uc : UT} {u w : UE} (h : TrT C W c uc) (h1 : TrE C W s u) (h2 : TrE C W t w) : TrE C W (tIf c s t) (uIf uc u w) := fun σ δ H G Q Q' X' S hu k kx =>
  h σ δ H G _ _ X' S hu (fun b δ1 H1 G1 S1 T1 q => by
    cases b with
    | true => rw [if_pos rfl] at q ⊢; exact h1 σ δ1 H1 G1 _ _ X' S1 q (KC.step' k T1) (kx.step T1)
    | false => rw [if_neg (by decide)] at q ⊢; exact h2 σ δ1 H1 G1 _ _ X' S1 q (KC.step' k T1) (kx.step T1)) kx
theorem tr_notV {t : TE} {u : UE} (h : TrE C W t u) : TrE C W (tNotV t) (uNotV u) := fun σ δ H G Q Q' X' S hu k kx =>
  h σ δ H G _ _ X' S hu (fun v p δ1 H1 G1 S1 T1 r q => by
    obtain ⟨b, rfl, q⟩ := q
    exact ⟨b, rp_bl r, k _ _ δ1 H1 G1 S1 T1 (pvF (Rp.bl _)) q⟩) kx
theorem tr_andV {s t : TE} {u w : UE} (h : TrE C W s u) (h' : TrE C W t w) : TrE C W (tAndV s t) (uAndV u w) := fun σ δ H G Q Q' X' S hu k kx =>
  h σ δ H G _ _ X' S hu (fun v p δ1 H1 G1 S1 T1 r q => by
    obtain ⟨b, rfl, q⟩ := q
    refine ⟨b, rp_bl r, ?_⟩
    cases b with
    | true => rw [if_pos rfl] at q ⊢; exact h' σ δ1 H1 G1 _ _ X' S1 q (KC.step' k T1) (kx.step T1)
    | false => rw [if_neg (by decide)] at q ⊢; exact k _ _ δ1 H1 G1 S1 T1 (pvF (Rp.bl _)) q) kx
theorem tr_orV {s t : TE} {u w : UE} (h : TrE C W s u) (h' : TrE C W t w) : TrE C W (tOrV s t) (uOrV u w) := fun σ δ H G Q Q' X' S hu k kx =>
  h σ δ H G _ _ X' S hu (fun v p δ1 H1 G1 S1 T1 r q => by
    obtain ⟨b, rfl, q⟩ := q
    refine ⟨b, rp_bl r, ?_⟩
    cases b with
    | true => rw [if_pos rfl] at q ⊢; exact k _ _ δ1 H1 G1 S1 T1 (pvF (Rp.bl _)) q
    | false => rw [if_neg (by decide)] at q ⊢; exact h' σ δ1 H1 G1 _ _ X' S1 q (KC.step' k T1) (kx.step T1)) kx
theorem tr_chain {r r' : R2} {f f' : Op2} {ta tb tc : TE} {ua ub uc : UE} (hf : TrOp C r f) (hf' : TrOp C r' f') (ha : TrE C W ta ua) (hb : TrE C W tb ub) (hc : TrE C W tc uc) : TrE C W (tChain r r' ta tb tc) (uChain f f' ua ub uc) := fun σ δ H G Q Q' X' S h k kx =>
  ha σ δ H G _ _ X' S h (fun v p δ1 H1 G1 S1 T1 r1 q1 => hb σ δ1 H1 G1 _ _ X' S1 q1 (fun w q δ2 H2 G2 S2 T2 r2 q2 => hf σ δ2 H2 G2 H v w p q _ _ S2 (fun a z => T1.nn (T2.nn z)) (r1.stp T2) (r2.start fun a => T1.nn) q2 fun z pz δ3 H3 G3 S3 T3 r3 q3 => by
    obtain ⟨b, rfl, q3⟩ := q3
    have T13 := (T1.trans T2).trans T3
    refine ⟨b, rp_bl r3, ?_⟩
    cases b with
    | true =>
      rw [if_pos rfl] at q3 ⊢
      exact hc σ δ3 H3 G3 _ _ X' S3 q3 (fun y py δ4 H4 G4 S4 T4 r4 q4 => hf' σ δ4 H4 G4 H w y q py Q Q' S4 (fun a z => T13.nn (T4.nn z)) (((r2.start fun a => T1.nn).stp T3).stp T4) (r4.start fun a => T13.nn) q4 (KC.of k (T13.trans T4))) (kx.step T13)
    | false => rw [if_neg (by decide)] at q3 ⊢; exact k _ _ δ3 H3 G3 S3 T13 (pvF (Rp.bl _)) q3) (kx.step T1)) kx
end
end WK
/-! Operators by data. -/
namespace WK
open PySem L2 PySem.Spec PyProof.Rows
/-! ### joined rules -/
def rIxD : R2 := fun x y H Q => ∃ a v, x = .ref a ∧ DGet H a y (some v) ∧ Q v H
abbrev rIxU (K : PySem.W.Frag) : R2 := fun x y H Q => rIx K x y H Q ∨ rIxD x y H Q
abbrev rAddU (K : PySem.W.Frag) : R2 := fun x y H Q => (rAddI x y H Q ∨ rAddT x y H Q) ∨ rCat x y H Q ∨ rCatA K x y H Q
abbrev rInX (K : PySem.W.Frag) : R2 := fun x y H Q => rInU K x y H Q ∨ rInDc x y H Q ∨ rInSg x y H Q
abbrev rNotInX (K : PySem.W.Frag) : R2 := fun x y H Q => rNotInU K x y H Q ∨ rNotInDc x y H Q
abbrev rSlU (K : PySem.W.Frag) : V → Option Int → Option Int → Hp → VK → Prop := fun x lo hi H Q => rSlL K x lo hi H Q ∨ rSlA K x lo hi H Q ∨ rSlS x lo hi H Q
abbrev rSetU : TSet := fun o i v H Q => rSetL o i v H Q ∨ rSetD o i v H Q
def rDictC : List V → Hp → VK → Prop := fun xs H Q => ∃ (a : Addr) (kvs : List (Key × V)), xs = [.ref a] ∧ Rd H a (.dK kvs) ∧ ∀ p, H p = none → Q (.ref p) (upd H p (.dK kvs))
abbrev rDictU (K : PySem.W.Frag) : List V → Hp → VK → Prop := fun xs H Q => rDictP K xs H Q ∨ rDictC xs H Q
section
variable {X : Cx}
theorem ix_dict (hu : X.A.units + 1 < cLine) : IxR X rIxD := by
  intro value slice pins s σ H x y v u Q I rx ry h hs
  obtain ⟨a, z, rfl, g, q⟩ := h
  cases rx
  have hT := dict_typeIs I g
  unfold subscriptTail
  refine wpAny_bind ?_
  rw [getitemInPython_of_ne hT.not_modules]
  refine wpAny_bind (wpAny_specialOf hT PySem.F.slot_dict_getitem.lookup ?_)
  have fin : wpAny (model X.prog X.w) X.A (subscripted slice false (.ref a) u) (fun r s₃ => wpAny (model X.prog X.w) X.A (letTemporaryGo value (.ref a) r >>= fun _ => pure r) (EP X pins σ Q) X.xe s₃) X.xe s := by
    rw [hs]
    exact wpAny_operating (d_getItem hu I g ry fun w' s3 I3 rw' => wpAny_bind (wpAny_letTemporaryGo (wpAny_pure ⟨z, H, I3, rw', q⟩)))
  first
    | exact wpAny_pure (wpAny_bind fin)
    | exact wpAny_bind (wpAny_pure (wpAny_bind fin))
    | exact wpAny_bind fin
theorem ix_U (hu : X.A.units + 1 < cLine) : IxR X (rIxU X.K) := IxR.or ix_seq (ix_dict hu)
theorem op_addU : OpR X (binaryOp .Add) (rAddU X.K) := OpR.or (OpR.or op_add op_add_str) (OpR.or op_cat op_catA)
theorem op_inX (hu : X.A.units + 65 < cLine) : OpR X (compareOp .In) (rInX X.K) := OpR.or (op_inU hu) (OpR.or (op_inDc (by omega)) op_inSg)
theorem op_notInX (hu : X.A.units + 65 < cLine) : OpR X (compareOp .NotIn) (rNotInX X.K) := OpR.or (op_notInU hu) (op_notInDc (by omega))
theorem sl_U : L2.SlR X (rSlU X.K) := SlR.or sl_list (SlR.or sl_tupA sl_str)
theorem set_U (hu : X.A.units + 1 < cLine) : PSet X rSetU := by
  intro pins s σ H o i v ov iv u Q I ro ri rv h
  rcases h with h | h
  · exact set_list pins s σ H o i v ov iv u Q I ro ri rv h
  · exact set_dict hu pins s σ H o i v ov iv u Q I ro ri rv h
theorem cr_dictU (h : X.calm = true) : CallR X (.type "dict") (rDictU X.K) := CallR.or (cr_dictP h) call_dictD
end
/-! ### data as the kit tells them -/
mutual
def toP : D → PyData
  | .bl b => .bool b
  | .int i => .int i
  | .str x => .str x
  | .tup ds => .tuple (toPs ds)
  | .tpn ds => .tuple (toPs ds)
  | .lst ds => .list (toPs ds)
  | .non => .none
  | .ty _ => .none
  | .cls _ => .none
  | .scr _ => .none
  | .dct _ => .none
  | .obj _ _ => .none
  | .exc _ _ _ _ => .none
  | .err _ _ => .none
  | .adr _ => .none
  | .dcT _ => .none
  | .tpk _ => .none
def toPs : List D → List PyData
  | [] => []
  | d :: ds => toP d :: toPs ds
end
mutual
/-- data that may be compared: no dict, no instance -/
def flD : D → Bool
  | .non => true
  | .bl _ => true
  | .int _ => true
  | .str _ => true
  | .tup ds => flDs ds
  | .tpn ds => flDs ds
  | .lst ds => flDs ds
  | _ => false
def flDs : List D → Bool
  | [] => true
  | d :: ds => flD d && flDs ds
end
def okD (d : D) : Bool := flD d && SeqAt.shaped (toP d)
def okDs (ds : List D) : Bool := flDs ds && PyData.canLayAll0 (toPs ds)
def eqD (d e : D) : Bool := PyData.eqv (toP d) (toP e)
mutual
theorem Rp.dp {K : PySem.W.Frag} {G H : Hp} (e : Ex G H) : ∀ {d : D} {v : V}, Rp K G v d → flD d = true → Dp K H v (toP d)
  | _, _, .non, _ => by rw [toP]; exact .non
  | _, _, .bl b, _ => by rw [toP]; exact .bl b
  | _, _, .int i, _ => by rw [toP]; exact .int i
  | _, _, .str x, _ => by rw [toP]; exact .str x
  | _, _, .ty n, h => by simp [flD] at h
  | _, _, .cls c, h => by simp [flD] at h
  | _, _, .scr _, h => by simp [flD] at h
  | _, _, .dct _ _ _, h => by simp [flD] at h
  | _, _, .obj _ _ _, h => by simp [flD] at h
  | _, _, .exc _ _ _, h => by simp [flD] at h
  | _, _, .err _ _ _ _, h => by simp [flD] at h
  | _, _, .adr _, h => by simp [flD] at h
  | _, _, .dcT _ _ _, h => by simp [flD] at h
  | _, _, .tpk _, h => by simp [flD] at h
  | _, _, .tup s t, h => by rw [toP]; exact .tup (st_ex s e) (RpL.dp e t (by simpa [flD] using h))
  | _, _, .tpn s _ t, h => by rw [toP]; exact .tup (.inl (.inr ⟨_, e _ _ s⟩)) (RpL.dp e t (by simpa [flD] using h))
  | _, _, .lst s t, h => by rw [toP]; exact .lst (SqL.of (e _ _ s)) (RpL.dp e t (by simpa [flD] using h))
theorem RpL.dp {K : PySem.W.Frag} {G H : Hp} (e : Ex G H) : ∀ {ds : List D} {vs : List V}, RpL K G vs ds → flDs ds = true → DpAll K H vs (toPs ds)
  | _, _, .nil, _ => by rw [toPs]; exact .nil
  | _, _, .cons a t, h => by
    rw [flDs, Bool.and_eq_true] at h
    rw [toPs]; exact .cons (Rp.dp e a h.1) (RpL.dp e t h.2)
end
section
variable {C : Ctx} {W : WX} {σ : L2.St} {δ δ' : List Sl} {H H' G G' Hs : Hp} {v w : V} {p q : Pv} {d : D} {vs : List V} {ps : List Pv} {i : Nat} {K : PySem.W.Frag} {X' : UX}
theorem Vw.dp (h : Vw K H G v d) (e : Ex G H) (f : flD d = true) : Dp K H v (toP d) := by
  cases d with
  | non => rw [show v = .non from h]; exact Rp.dp (Ex.refl H) .non f
  | bl b => rw [show v = .bl b from h]; exact Rp.dp (Ex.refl H) (.bl b) f
  | int i => rw [show v = .int i from h]; exact Rp.dp (Ex.refl H) (.int i) f
  | str x => rw [show v = .str x from h]; exact Rp.dp (Ex.refl H) (.str x) f
  | tup ds => obtain ⟨a, vs, rfl, s, t⟩ := h; exact Rp.dp (Ex.refl H) (.tup s (t.mono e)) f
  | tpn ds => obtain ⟨a, o, vs, rfl, s, n, t⟩ := h; exact Rp.dp (Ex.refl H) (.tpn s n (t.mono e)) f
  | lst ds => obtain ⟨a, vs, rfl, s, t⟩ := h; exact Rp.dp (Ex.refl H) (.lst s (t.mono e)) f
  | _ => simp [flD] at f
theorem KC.here {Q : VK} {Q' : UK} (k : KC C σ δ Hs H G Q Q') (S : SR C σ δ H G) (r : Rp C.K G v d) (h : Q' (.fz d) δ) : Q v H := k v (.fz d) δ H G S .refl r h
theorem KC.tmp {Q : VK} {Q' : UK} {q : Addr} {o : HO} (k : KC C σ δ Hs H G Q Q') (S : SR C σ δ H G) (hs : ∀ a, Nn H a → Nn Hs a) (h : H q = none) (r : OwnR C.K (upd H q o) G q d) (hq : Q' (.tm d) δ) : Q (.ref q) (upd H q o) :=
  k _ (.tm d) δ _ G (S.tmp h) (.tmp h) (.tmp S hs h r) hq
theorem KC.new {Q : VK} {Q' : UK} {q : Addr} {o : HO} (k : KC C σ δ Hs H G Q Q') (S : SR C σ δ H G) (h : H q = none) (n : NT o) (r : Rp C.K (upd G q o) (.ref q) d) (hq : Q' (.fz d) δ) : Q (.ref q) (upd H q o) :=
  k _ (.fz d) δ _ _ (S.new h n) (.new h (S.sub.nn h)) r hq
theorem rp_int {i : Int} (h : PvR C σ δ Hs H G v (.fz (.int i))) : v = .int i := by
  have h' : Rp C.K G v (.int i) := h
  cases h'; rfl
theorem rp_str {x : Str} (h : PvR C σ δ Hs H G v (.fz (.str x))) : v = .str x := by
  have h' : Rp C.K G v (.str x) := h
  cases h'; rfl
theorem OwnL.no {a : Addr} (h : OwnL K H G a d) (h1 : OwnR K H G a d → False) (h2 : ∀ kds, d ≠ .dct kds) : False := by
  rcases h with h | ⟨kds, _, _, e, _⟩
  · exact h1 h
  · exact h2 _ e
theorem rp_at {i : Nat} (S : SR C σ δ H G) (r : σ[i]? = some (some v)) (e : δ[i]?.bind Sl.ct = some d) (ho : ∀ a, OwnL C.K H G a d → False) : Rp C.K G v d := by
  cases hi : δ[i]? with
  | none => rw [hi] at e; cases e
  | some s =>
    rw [hi] at e
    have hs' := S.sl i s hi
    rw [r] at hs'
    cases s with
    | un => cases e
    | fz d' => cases e; obtain ⟨v', h1, h2⟩ := hs'; cases h1; exact h2
    | ow d' => cases e; obtain ⟨_, _, _, _, r⟩ := hs'; exact (ho _ (.inl r)).elim
    | io d' => cases e; obtain ⟨_, _, _, _, r⟩ := hs'; exact (ho _ (.inl r)).elim
    | lk b d' => cases e; obtain ⟨_, _, _, _, r⟩ := hs'; exact (ho _ r).elim
theorem rp_ct (S : SR C σ δ H G) (r : PvR C σ δ Hs H G v p) (e : ctP δ p = some d) (ho : ∀ a, OwnL C.K H G a d → False) : Rp C.K G v d := by
  cases p with
  | fz d' => cases e; exact r
  | tm d' => cases e; obtain ⟨_, _, _, _, _, _, r⟩ := r; exact (ho _ (.inl r)).elim
  | «at» i => exact rp_at S r e ho
theorem rp_tup {ds : List D} (S : SR C σ δ H G) (r : PvR C σ δ Hs H G v p) (e : ctP δ p = some (.tup ds)) : Rp C.K G v (.tup ds) := rp_ct S r e fun _ z => z.no (fun z => z) fun _ z => by cases z
/-! ### ints -/
def oI0 (g : Int → Int → D) : Op2 := fun δ p q Q => ∃ i j, p = .fz (.int i) ∧ q = .fz (.int j) ∧ Q (.fz (g i j)) δ
def oI (Cd : Int → Int → Prop) (g : Int → Int → D) : Op2 := fun δ p q Q => ∃ i j, p = .fz (.int i) ∧ q = .fz (.int j) ∧ Cd i j ∧ Q (.fz (g i j)) δ
theorem tr_I0i {g : Int → Int → Int} : TrOp C (rI0 fun i j => .int (g i j)) (oI0 fun i j => .int (g i j)) := fun σ δ H G Hs v w p q Q Q' S hs r1 r2 h k => by
  obtain ⟨i, j, rfl, rfl, h⟩ := h
  exact ⟨i, j, rp_int r1, rp_int r2, k.here S (.int _) h⟩
theorem tr_I0b {g : Int → Int → Bool} : TrOp C (rI0 fun i j => .bl (g i j)) (oI0 fun i j => .bl (g i j)) := fun σ δ H G Hs v w p q Q Q' S hs r1 r2 h k => by
  obtain ⟨i, j, rfl, rfl, h⟩ := h
  exact ⟨i, j, rp_int r1, rp_int r2, k.here S (.bl _) h⟩
theorem tr_Ii {Cd : Int → Int → Prop} {g : Int → Int → Int} : TrOp C (rI Cd fun i j => .int (g i j)) (oI Cd fun i j => .int (g i j)) := fun σ δ H G Hs v w p q Q Q' S hs r1 r2 h k => by
  obtain ⟨i, j, rfl, rfl, c, h⟩ := h
  exact ⟨i, j, rp_int r1, rp_int r2, c, k.here S (.int _) h⟩
def oNeg : Op1 := fun δ p Q => ∃ i, p = .fz (.int i) ∧ Q (.fz (.int (-i))) δ
theorem tr_neg : TrO1 C (rU fun i => .int (-i)) oNeg := fun σ δ H G Hs v p Q Q' S hs r h k => by
  obtain ⟨i, rfl, h⟩ := h
  exact ⟨i, rp_int r, k.here S (.int _) h⟩
/-! ### + -/
def oAdd : Op2 := fun δ p q Q => (∃ i j, p = .fz (.int i) ∧ q = .fz (.int j) ∧ Q (.fz (.int (i + j))) δ) ∨ (∃ x y, p = .fz (.str x) ∧ q = .fz (.str y) ∧ x.length + y.length ≤ 10000000 ∧ Q (.fz (.str (x ++ y))) δ) ∨
  (∃ xs ys, ctP δ p = some (.lst xs) ∧ ctP δ q = some (.lst ys) ∧ xs.length + ys.length ≤ 10000000 ∧ Q (.tm (.lst (xs ++ ys))) δ) ∨ (∃ xs ys, ctP δ p = some (.tup xs) ∧ ctP δ q = some (.tup ys) ∧ xs.length + ys.length ≤ 10000000 ∧ Q (.fz (.tup (xs ++ ys))) δ)
theorem tr_add : TrOp C (rAddU C.K) oAdd := fun σ δ H G Hs v w p q Q Q' S hs r1 r2 h k => by
  rcases h with ⟨i, j, rfl, rfl, h⟩ | ⟨x, y, rfl, rfl, z, h⟩ | ⟨xs, ys, e1, e2, z, h⟩ | ⟨xs, ys, e1, e2, z, h⟩
  · exact .inl (.inl ⟨i, j, rp_int r1, rp_int r2, k.here S (.int _) h⟩)
  · exact .inl (.inr ⟨x, y, rp_str r1, rp_str r2, sz_le z, k.here S (.str _) h⟩)
  · obtain ⟨a, vs, rfl, h1, t1⟩ := vw S r1 e1
    obtain ⟨b, ws, rfl, h2, t2⟩ := vw S r2 e2
    refine .inr (.inl ⟨a, b, vs, ws, rfl, rfl, h1, h2, by rw [t1.length, t2.length]; exact sz_le z, fun l hl => ?_⟩)
    exact k.tmp (d := .lst _) S hs hl ⟨_, upd_same, t1.app t2⟩ h
  · obtain ⟨a, vs, rfl, h1, t1⟩ := vw S r1 e1
    obtain ⟨b, ws, rfl, h2, t2⟩ := vw S r2 e2
    refine .inr (.inr ⟨a, b, vs, ws, rfl, rfl, h1, h2, by rw [t1.length, t2.length]; exact sz_le z, fun e => ?_, fun _ e => ?_, fun _ _ l hl => ?_⟩)
    · subst e
      have l0 : xs = [] := List.length_eq_zero_iff.mp t1.length.symm
      subst l0
      have e2' := rp_tup S r2 e2
      exact k.here S e2' h
    · subst e
      have l0 : ys = [] := List.length_eq_zero_iff.mp t2.length.symm
      subst l0
      have e1' := rp_tup S r1 e1
      rw [List.append_nil] at h
      exact k.here S e1' h
    · refine k.new S hl (fun _ z => by cases z) (.tup (SqT.of upd_same) ?_) h
      exact (t1.app t2).mono (Ex.new (S.sub.nn hl))
end
end WK
/-! More operators by data. -/
namespace WK
open PySem L2 PySem.Spec PyProof.Rows
def rLenR (K : PySem.W.Frag) : List V → Hp → VK → Prop := fun xs H Q => (∃ x n, xs = [x] ∧ LenV K x H n ∧ Q (.int n) H) ∨ ∃ a kvs, xs = [V.ref a] ∧ Rd H a (.dK kvs) ∧ Q (.int kvs.length) H
def rListU (K : PySem.W.Frag) : List V → Hp → VK → Prop := fun xs H Q => (∃ p ys, xs = [.ref p] ∧ (SqL K H p ys ∨ SqT K H p ys) ∧ ∀ l, H l = none → Q (.ref l) (upd H l (.lst ys))) ∨ ∃ (a : Addr) (kvs : List (Key × V)), xs = [.ref a] ∧ Rd H a (.dK kvs) ∧ ∀ p, H p = none → Q (.ref p) (upd H p (.lst (kvs.map fun kv => kV kv.1)))
section
variable {X : Cx}
theorem call_lenR : CallR X (.builtin "len") (fun xs H Q => ∃ a kvs, xs = [V.ref a] ∧ Rd H a (.dK kvs) ∧ Q (.int kvs.length) H) := by
  intro pins s σ H xs us Q I r h
  obtain ⟨a, kvs, rfl, ha, q⟩ := h
  obtain ⟨u, rfl, ru⟩ := vals1 r
  cases ru
  exact d_len I ha fun t s' I' => ⟨.int kvs.length, H, I', ⟨t, rfl⟩, q⟩
theorem cr_lenR : CallR X (.builtin "len") (rLenR X.K) := CallR.or call_len call_lenR
theorem cr_listU (h : X.calm = true) : CallR X (.type "list") (rListU X.K) := CallR.or call_list_of (call_listD h)
end
section
variable {K : PySem.W.Frag} {H : Hp} {a : Addr} {xs : List V}
theorem ty_L (h : SqL K H a xs) : TyX K H (.ref a) (.type "list") := by
  rcases h with h | ⟨o, its, n, h1, h2, _⟩
  · rcases h with h | ⟨o, h⟩
    · exact .base (.lst h)
    · exact .base (.frz h)
  · exact .kList h1 h2
theorem ty_T (h : SqT K H a xs) : TyX K H (.ref a) (.type "tuple") := by
  rcases h with h | ⟨o, its, n, h1, h2, _⟩
  · rcases h with h | ⟨o, h⟩
    · exact .base (.tup h)
    · exact .fTuple h
  · exact .kTuple h1 h2
end
def keyP : Pv → Option Key | .fz (.int i) => some (.inl i) | .fz (.str x) => some (.inr x) | _ => none
def ixD : D → Pv → Option D
  | .lst ds, .fz (.int i) => atI ds i
  | .tup ds, .fz (.int i) => atI ds i
  | .scr xs, .fz (.int i) => (atI xs i).map .int
  | .dct kds, q => (keyP q).bind (valD kds)
  | _, _ => none
def lenD : D → Option Nat
  | .lst ds => some ds.length
  | .tup ds => some ds.length
  | .scr xs => some xs.length
  | .dct kds => some kds.length
  | _ => none
def eqA : D → D → Option Bool
  | .int i, .int j => some (decide (i = j))
  | .str x, .str y => some (decide (x = y))
  | .bl a, .bl b => some (decide (a = b))
  | .non, .non => some true
  | .non, .int _ => some false | .int _, .non => some false | .non, .bl _ => some false | .bl _, .non => some false | .non, .str _ => some false | .str _, .non => some false
  | .int _, .str _ => some false | .str _, .int _ => some false | .bl _, .str _ => some false | .str _, .bl _ => some false
  | _, _ => none
def isNon : D → Bool | .non => true | _ => false
/-- the name of a built-in type -/
def tyD : D → Option String
  | .non => some "NoneType" | .bl _ => some "bool" | .int _ => some "int" | .str _ => some "str" | .tup _ => some "tuple" | .lst _ => some "list" | .dct _ => some "dict" | _ => none
section
variable {C : Ctx} {W : WX} {σ : L2.St} {δ δ' : List Sl} {H H' G G' Hs : Hp} {v w : V} {p q : Pv} {d : D} {vs : List V} {ds : List D} {ps : List Pv} {i : Nat} {K : PySem.W.Frag} {X' : UX}
theorem RpL.atI {j : Int} (h : RpL K G vs ds) (e : L2.atI ds j = some d) : ∃ v, L2.atI vs j = some v ∧ Rp K G v d := by
  unfold L2.atI at e ⊢
  rw [h.length]
  cases hx : ixN ds.length j with
  | none => rw [hx] at e; cases e
  | some k => rw [hx] at e; exact h.at e
theorem kp_kV (r : PvR C σ δ Hs H G v p) {k : Key} (e : keyP p = some k) : v = kV k := by
  cases p with
  | fz d' =>
    have r' : Rp C.K G v d' := r
    cases r' with
    | int i => cases e; rfl
    | str x => cases e; rfl
    | _ => cases e
  | tm d' => cases e
  | «at» i => cases e
def oIx : Op2 := fun δ p q Q => (∃ d r, ctP δ p = some d ∧ ixD d q = some r ∧ Q (.fz r) δ) ∨ (∃ z i c, p = .fz (.str z) ∧ q = .fz (.int i) ∧ z.length ≤ 10000000 ∧ atI z.cps.toList i = some c ∧ Q (.fz (.str ⟨#[c]⟩)) δ)
theorem ixD_int {q : Pv} {r : D} (h : ixD d q = some r) (hd : ∀ kds, d ≠ .dct kds) : ∃ i, q = .fz (.int i) := by
  cases q with
  | fz e =>
    cases e with
    | int i => exact ⟨i, rfl⟩
    | _ => cases d <;> first | cases h | exact absurd rfl (hd _)
  | tm e => cases d <;> first | cases h | exact absurd rfl (hd _)
  | «at» j => cases d <;> first | cases h | exact absurd rfl (hd _)
theorem tr_ix : TrOp C (rIxU C.K) oIx := fun σ δ H G Hs v w p q Q Q' S hs r1 r2 h k => by
  rcases h with ⟨d, r, e, hx, h⟩ | ⟨z, i, c, rfl, rfl, hl, hc, h⟩
  · have V1 := vw S r1 e
    cases d with
    | lst ds =>
      obtain ⟨i, rfl⟩ := ixD_int hx (fun _ z => by cases z)
      obtain ⟨a, vs, rfl, h1, t⟩ := V1
      obtain ⟨u, hu, ru⟩ := t.atI hx
      exact .inl (.inl ⟨a, vs, i, u, rfl, rp_int r2, SqL.of h1, hu, k.here S ru h⟩)
    | tup ds =>
      obtain ⟨i, rfl⟩ := ixD_int hx (fun _ z => by cases z)
      obtain ⟨a, vs, rfl, h1, t⟩ := V1
      obtain ⟨u, hu, ru⟩ := t.atI hx
      exact .inl (.inr (.inl ⟨a, vs, i, u, rfl, rp_int r2, h1, hu, k.here S ru h⟩))
    | scr xs =>
      obtain ⟨i, rfl⟩ := ixD_int hx (fun _ z => by cases z)
      obtain ⟨a, rfl, h1⟩ := V1
      have hx' : (atI xs i).map D.int = some r := hx
      cases hj : atI xs i with
      | none => rw [hj] at hx'; cases hx'
      | some j =>
        rw [hj] at hx'; cases hx'
        have : atI (xs.map V.int) i = some (.int j) := by
          unfold L2.atI at hj ⊢
          rw [List.length_map]
          cases hn : ixN xs.length i with
          | none => rw [hn] at hj; cases hj
          | some m => rw [hn] at hj; show (xs.map V.int)[m]? = _; rw [List.getElem?_map, show xs[m]? = some j from hj]; rfl
        exact .inl (.inl ⟨a, _, i, _, rfl, rp_int r2, h1, this, k.here S (.int _) h⟩)
    | dct kds =>
      obtain ⟨a, kvs, rfl, h1, t⟩ := V1
      have hx' : (keyP q).bind (valD kds) = some r := hx
      cases hk : keyP q with
      | none => rw [hk] at hx'; cases hx'
      | some key =>
        rw [hk] at hx'
        have hx' : valD kds key = some r := hx'
        rcases t.val key with ⟨_, e2⟩ | ⟨u, d', e1, e2, ru⟩
        · rw [hx'] at e2; cases e2
        · rw [hx'] at e2; cases e2
          exact .inr ⟨a, u, rfl, .inl ⟨kvs, key, h1, kp_kV r2 hk, e1.symm⟩, k.here S ru h⟩
    | _ => cases hx
  · exact .inl (.inr (.inr ⟨z, i, c, rp_str r1, rp_int r2, sz_le hl, hc, k.here S (.str _) h⟩))
/-! ### == -/
def oEq : Op2 := fun δ p q Q => (∃ d e b, ctP δ p = some d ∧ ctP δ q = some e ∧ eqA d e = some b ∧ Q (.fz (.bl b)) δ) ∨ (∃ d e, ctP δ p = some d ∧ ctP δ q = some e ∧ okD d = true ∧ okD e = true ∧ Q (.fz (.bl (eqD d e))) δ)
def oNe : Op2 := fun δ p q Q => (∃ d e b, ctP δ p = some d ∧ ctP δ q = some e ∧ eqA d e = some b ∧ Q (.fz (.bl (!b))) δ) ∨ (∃ d e, ctP δ p = some d ∧ ctP δ q = some e ∧ okD d = true ∧ okD e = true ∧ Q (.fz (.bl (!eqD d e))) δ)
theorem eqA_scal {d e : D} {b : Bool} (h : eqA d e = some b) (h1 : Vw K H G v d) (h2 : Vw K H G w e) : scal v w = true ∧ decide (v = w) = b := by
  have dd : ∀ {α : Type} [DecidableEq α] (f : α → V) (hf : ∀ x y, f x = f y → x = y) (x y : α), decide (f x = f y) = decide (x = y) := fun f hf x y => by
    rw [decide_eq_decide]; exact ⟨hf x y, fun z => by rw [z]⟩
  cases d with
  | non =>
    rw [show v = .non from h1]
    cases e <;> first | (cases h; done) | (cases h; rw [show w = _ from h2]; exact ⟨rfl, by first | rfl | exact decide_eq_false (fun z => by cases z)⟩)
  | int i =>
    rw [show v = .int i from h1]
    cases e with
    | int j => cases h; rw [show w = .int j from h2]; exact ⟨rfl, dd V.int (fun _ _ z => by injection z) i j⟩
    | _ => first | (cases h; done) | (cases h; rw [show w = _ from h2]; exact ⟨rfl, decide_eq_false (fun z => by cases z)⟩)
  | str x =>
    rw [show v = .str x from h1]
    cases e with
    | str y => cases h; rw [show w = .str y from h2]; exact ⟨rfl, dd V.str (fun _ _ z => by injection z) x y⟩
    | _ => first | (cases h; done) | (cases h; rw [show w = _ from h2]; exact ⟨rfl, decide_eq_false (fun z => by cases z)⟩)
  | bl a =>
    rw [show v = .bl a from h1]
    cases e with
    | bl c => cases h; rw [show w = .bl c from h2]; exact ⟨rfl, dd V.bl (fun _ _ z => by injection z) a c⟩
    | _ => first | (cases h; done) | (cases h; rw [show w = _ from h2]; exact ⟨rfl, decide_eq_false (fun z => by cases z)⟩)
  | _ => cases e <;> cases h
theorem tr_eq : TrOp C (rEqU C.K) oEq := fun σ δ H G Hs v w p q Q Q' S hs r1 r2 h k => by
  rcases h with ⟨d, e, b, e1, e2, hb, h⟩ | ⟨d, e, e1, e2, o1, o2, h⟩
  · obtain ⟨s1, s2⟩ := eqA_scal hb (vw S r1 e1) (vw S r2 e2)
    exact .inl ⟨s1, by rw [s2]; exact k.here S (.bl _) h⟩
  · rw [okD, Bool.and_eq_true] at o1 o2
    exact .inr ⟨_, _, (vw S r1 e1).dp S.sub o1.1, (vw S r2 e2).dp S.sub o2.1, o1.2, o2.2, k.here S (.bl _) h⟩
theorem tr_ne : TrOp C (rNeU C.K) oNe := fun σ δ H G Hs v w p q Q Q' S hs r1 r2 h k => by
  rcases h with ⟨d, e, b, e1, e2, hb, h⟩ | ⟨d, e, e1, e2, o1, o2, h⟩
  · obtain ⟨s1, s2⟩ := eqA_scal hb (vw S r1 e1) (vw S r2 e2)
    exact .inl ⟨s1, by rw [s2]; exact k.here S (.bl _) h⟩
  · rw [okD, Bool.and_eq_true] at o1 o2
    exact .inr ⟨_, _, (vw S r1 e1).dp S.sub o1.1, (vw S r2 e2).dp S.sub o2.1, o1.2, o2.2, k.here S (.bl _) h⟩
/-! ### in -/
theorem any_toPs (d : D) : ∀ ds : List D, (toPs ds).any (fun z => PyData.eqv z (toP d)) = ds.any fun z => eqD z d
  | [] => by rw [toPs]; rfl
  | e :: ds => by rw [toPs, List.any_cons, List.any_cons, any_toPs d ds]; rfl
def oInB (f : Bool → Bool) : Op2 := fun δ p q Q => (∃ d ds, ctP δ p = some d ∧ (ctP δ q = some (.lst ds) ∨ ctP δ q = some (.tup ds)) ∧ okD d = true ∧ okDs ds = true ∧ Q (.fz (.bl (f (ds.any fun z => eqD z d)))) δ) ∨
  (∃ kds k, ctP δ q = some (.dct kds) ∧ keyP p = some k ∧ Q (.fz (.bl (f (valD kds k).isSome))) δ)
def oIn : Op2 := fun δ p q Q => oInB id δ p q Q ∨ (∃ c z, p = .fz (.str ⟨#[c]⟩) ∧ q = .fz (.str z) ∧ Q (.fz (.bl (decide (c ∈ z.cps.toList)))) δ)
theorem val_some {kvs : List (Key × V)} {kds : List (Key × D)} (t : RpM K G kvs kds) (k : Key) : (valV kvs k).isSome = (valD kds k).isSome := by
  rcases t.val k with ⟨a, b⟩ | ⟨_, _, a, b, _⟩ <;> rw [a, b] <;> rfl
theorem dp_seq (S : SR C σ δ H G) (r : PvR C σ δ Hs H G v q) (he : ctP δ q = some (.lst ds) ∨ ctP δ q = some (.tup ds)) (o : okDs ds = true) : Dp C.K H v (.list (toPs ds)) ∨ Dp C.K H v (.tuple (toPs ds)) := by
  rw [okDs, Bool.and_eq_true] at o
  rcases he with he | he
  · have := (vw S r he).dp S.sub (by rw [flD]; exact o.1)
    rw [toP] at this; exact .inl this
  · have := (vw S r he).dp S.sub (by rw [flD]; exact o.1)
    rw [toP] at this; exact .inr this
theorem tr_inB {σ : L2.St} {δ : List Sl} {H G Hs : Hp} {v w : V} {p q : Pv} {Q : VK} {Q' : UK} (S : SR C σ δ H G) (r1 : PvR C σ δ Hs H G v p) (r2 : PvR C σ δ Hs H G w q) (h : oInB id δ p q Q') (k : KC C σ δ Hs H G Q Q') : rInU C.K v w H Q ∨ rInDc v w H Q := by
  rcases h with ⟨d, ds, e1, e2, o1, o2, h⟩ | ⟨kds, key, e2, e1, h⟩
  · have o1' := o1
    rw [okD, Bool.and_eq_true] at o1'
    have o2' := o2
    rw [okDs, Bool.and_eq_true] at o2'
    refine .inl ⟨_, _, (vw S r1 e1).dp S.sub o1'.1, dp_seq S r2 e2 o2, o1'.2, o2'.2, ?_⟩
    rw [any_toPs]; exact k.here S (.bl _) h
  · obtain ⟨a, kvs, rfl, h1, t⟩ := vw S r2 e2
    refine .inr ⟨a, _, rfl, .inl ⟨kvs, key, h1, kp_kV r1 e1, rfl⟩, ?_⟩
    rw [val_some t]; exact k.here S (.bl _) h
theorem tr_in : TrOp C (rInX C.K) oIn := fun σ δ H G Hs v w p q Q Q' S hs r1 r2 h k => by
  rcases h with h | ⟨c, z, rfl, rfl, h⟩
  · rcases tr_inB S r1 r2 h k with h | h
    · exact .inl h
    · exact .inr (.inl h)
  · exact .inr (.inr ⟨c, z, rp_str r1, rp_str r2, k.here S (.bl _) h⟩)
theorem tr_notIn : TrOp C (rNotInX C.K) (oInB not) := fun σ δ H G Hs v w p q Q Q' S hs r1 r2 h k => by
  rcases h with ⟨d, ds, e1, e2, o1, o2, h⟩ | ⟨kds, key, e2, e1, h⟩
  · have o1' := o1
    rw [okD, Bool.and_eq_true] at o1'
    have o2' := o2
    rw [okDs, Bool.and_eq_true] at o2'
    refine .inl ⟨_, _, (vw S r1 e1).dp S.sub o1'.1, dp_seq S r2 e2 o2, o1'.2, o2'.2, ?_⟩
    rw [any_toPs]; exact k.here S (.bl _) h
  · obtain ⟨a, kvs, rfl, h1, t⟩ := vw S r2 e2
    refine .inr ⟨a, _, rfl, .inl ⟨kvs, key, h1, kp_kV r1 e1, rfl⟩, ?_⟩
    rw [val_some t]; exact k.here S (.bl _) h
/-! ### is None -/
theorem vw_non (h : Vw K H G v d) : decide (v = .non) = isNon d := by
  cases d with
  | non => rw [show v = .non from h]; rfl
  | tup ds => obtain ⟨a, vs, rfl, _⟩ := h; rfl
  | tpn ds => obtain ⟨a, o, vs, rfl, _⟩ := h; rfl
  | lst ds => obtain ⟨a, vs, rfl, _⟩ := h; rfl
  | scr ds => obtain ⟨a, rfl, _⟩ := h; rfl
  | dct ds => obtain ⟨a, vs, rfl, _⟩ := h; rfl
  | obj c ds => obtain ⟨a, dx, vs, rfl, _⟩ := h; rfl
  | exc a dd c ds => obtain ⟨rfl, _⟩ := h; rfl
  | err c ds => obtain ⟨a, dd, fs, rfl, _⟩ := h; rfl
  | dcT ds => obtain ⟨a, vs, rfl, _⟩ := h; rfl
  | tpk ks => obtain ⟨a, rfl, _⟩ := h; rfl
  | _ => rw [show v = _ from h]; rfl
def oIsN (f : Bool → Bool) : Op2 := fun δ p q Q => ∃ d, q = .fz .non ∧ ctP δ p = some d ∧ Q (.fz (.bl (f (isNon d)))) δ
theorem rp_non (h : PvR C σ δ Hs H G v (.fz .non)) : v = .non := by
  have h' : Rp C.K G v .non := h
  cases h'; rfl
theorem tr_isN : TrOp C rIsNn (oIsN id) := fun σ δ H G Hs v w p q Q Q' S hs r1 r2 h k => by
  obtain ⟨d, rfl, e, h⟩ := h
  refine ⟨rp_non r2, ?_⟩
  rw [vw_non (vw S r1 e)]; exact k.here S (.bl _) h
theorem tr_notN : TrOp C rNotNn (oIsN not) := fun σ δ H G Hs v w p q Q Q' S hs r1 r2 h k => by
  obtain ⟨d, rfl, e, h⟩ := h
  refine ⟨rp_non r2, ?_⟩
  rw [vw_non (vw S r1 e)]; exact k.here S (.bl _) h
/-! ### built-in defs -/
theorem pas1 {σ : L2.St} (h : PasR K σ G vs [p]) : ∃ v, vs = [v] ∧ PaR K σ G v p := by
  cases h with
  | cons a t => cases t; exact ⟨_, rfl, a⟩
theorem pas2 {σ : L2.St} (h : PasR K σ G vs [p, q]) : ∃ v w, vs = [v, w] ∧ PaR K σ G v p ∧ PaR K σ G w q := by
  cases h with
  | cons a t => cases t with
    | cons b t => cases t; exact ⟨_, _, rfl, a, b⟩
theorem pa_int {σ : L2.St} {i : Int} (h : PaR K σ G v (.fz (.int i))) : v = .int i := by
  have h' : Rp K G v (.int i) := h
  cases h'; rfl
theorem pa_str {σ : L2.St} {x : Str} (h : PaR K σ G v (.fz (.str x))) : v = .str x := by
  have h' : Rp K G v (.str x) := h
  cases h'; rfl
theorem pa_bl {σ : L2.St} {b : Bool} (h : PaR K σ G v (.fz (.bl b))) : v = .bl b := by
  have h' : Rp K G v (.bl b) := h
  cases h'; rfl
def oLen : OpA := fun δ ps Q => (∃ p d n, ps = [p] ∧ ctP δ p = some d ∧ lenD d = some n ∧ Q (.fz (.int n)) δ) ∨ (∃ z, ps = [.fz (.str z)] ∧ z.length ≤ 10000000 ∧ Q (.fz (.int z.length)) δ)
theorem tr_len : TrCB C (rLenR C.K) oLen := fun σ δ H G Hs vs ps Q Q' S hs r h k => by
  rcases h with ⟨p, d, n, rfl, e, hn, h⟩ | ⟨z, rfl, hz, h⟩
  · obtain ⟨v, rfl, r1⟩ := pas1 r
    have V1 := vw (Hs := H) S r1.pv e
    cases d with
    | lst ds => cases hn; obtain ⟨a, vs, rfl, h1, t⟩ := V1; rw [← t.length] at h; exact .inl ⟨_, _, rfl, .inl ⟨vs, SqL.of h1, rfl⟩, k.here S (.int _) h⟩
    | tup ds => cases hn; obtain ⟨a, vs, rfl, h1, t⟩ := V1; rw [← t.length] at h; exact .inl ⟨_, _, rfl, .inr ⟨vs, h1, rfl⟩, k.here S (.int _) h⟩
    | scr xs => cases hn; obtain ⟨a, rfl, h1⟩ := V1; exact .inl ⟨_, _, rfl, .inl ⟨_, h1, rfl⟩, by rw [List.length_map]; exact k.here S (.int _) h⟩
    | dct kds => cases hn; obtain ⟨a, kvs, rfl, h1, t⟩ := V1; rw [← t.length] at h; exact .inr ⟨_, _, rfl, h1, k.here S (.int _) h⟩
    | _ => cases hn
  · obtain ⟨v, rfl, r1⟩ := pas1 r
    rw [pa_str r1]
    exact .inl ⟨_, _, rfl, ⟨sz_le hz, rfl⟩, k.here S (.int _) h⟩
def oAbs : OpA := fun δ ps Q => ∃ i, ps = [.fz (.int i)] ∧ Q (.fz (.int (if i < 0 then -i else i))) δ
def oMx2 : OpA := fun δ ps Q => ∃ i j, ps = [.fz (.int i), .fz (.int j)] ∧ Q (.fz (.int (if j > i then j else i))) δ
def oMn2 : OpA := fun δ ps Q => ∃ i j, ps = [.fz (.int i), .fz (.int j)] ∧ Q (.fz (.int (if j < i then j else i))) δ
def oInt : OpA := fun δ ps Q => (∃ i, ps = [.fz (.int i)] ∧ Q (.fz (.int i)) δ) ∨ (∃ b, ps = [.fz (.bl b)] ∧ Q (.fz (.int (if b then 1 else 0))) δ)
theorem tr_abs : TrCB C rAbs oAbs := fun σ δ H G Hs vs ps Q Q' S hs r h k => by
  obtain ⟨i, rfl, h⟩ := h
  obtain ⟨v, rfl, r1⟩ := pas1 r
  rw [pa_int r1]
  exact ⟨i, rfl, k.here S (.int _) h⟩
theorem tr_mx2 : TrCB C rMx2 oMx2 := fun σ δ H G Hs vs ps Q Q' S hs r h k => by
  obtain ⟨i, j, rfl, h⟩ := h
  obtain ⟨v, w, rfl, r1, r2⟩ := pas2 r
  rw [pa_int r1, pa_int r2]
  exact ⟨i, j, rfl, k.here S (.int _) h⟩
theorem tr_mn2 : TrCB C rMn2 oMn2 := fun σ δ H G Hs vs ps Q Q' S hs r h k => by
  obtain ⟨i, j, rfl, h⟩ := h
  obtain ⟨v, w, rfl, r1, r2⟩ := pas2 r
  rw [pa_int r1, pa_int r2]
  exact ⟨i, j, rfl, k.here S (.int _) h⟩
theorem tr_int1 : TrCB C rInt1 oInt := fun σ δ H G Hs vs ps Q Q' S hs r h k => by
  rcases h with ⟨i, rfl, h⟩ | ⟨b, rfl, h⟩
  · obtain ⟨v, rfl, r1⟩ := pas1 r
    rw [pa_int r1]
    exact .inl ⟨i, rfl, k.here S (.int _) h⟩
  · obtain ⟨v, rfl, r1⟩ := pas1 r
    rw [pa_bl r1]
    exact .inr ⟨b, rfl, k.here S (.int _) h⟩
def kD : Key → D | .inl i => .int i | .inr x => .str x
theorem rp_key (k : Key) : Rp K G (kV k) (kD k) := by cases k <;> constructor
theorem rpl_keysL : ∀ ks : List Key, RpL K G (ks.map kV) (ks.map kD)
  | [] => .nil
  | k :: ks => .cons (rp_key k) (rpl_keysL ks)
theorem rpl_keys {kvs : List (Key × V)} {kds : List (Key × D)} (t : RpM K G kvs kds) : RpL K G (kvs.map fun kv => kV kv.1) (kds.map fun kv => kD kv.1) := by
  have := rpl_keysL (K := K) (G := G) (kvs.map (·.1))
  have e : kvs.map (fun kv => kV kv.1) = (kvs.map (·.1)).map kV := by simp
  have e' : kds.map (fun kv => kD kv.1) = (kds.map (·.1)).map kD := by simp
  rw [e, e', ← t.1]; exact this
theorem rpl_ints : ∀ xs : List Int, RpL K G (xs.map V.int) (xs.map D.int)
  | [] => .nil
  | x :: xs => .cons (.int x) (rpl_ints xs)
/-- the items of what may be walked -/
def itD : D → Option (List D)
  | .lst ds => some ds
  | .tup ds => some ds
  | .scr xs => some (xs.map .int)
  | .dct kds => some (kds.map fun kv => kD kv.1)
  | _ => none
def oList : OpA := fun δ ps Q => ∃ p d ds, ps = [p] ∧ ctP δ p = some d ∧ itD d = some ds ∧ Q (.tm (.lst ds)) δ
theorem tr_list : TrCB C (rListU C.K) oList := fun σ δ H G Hs vs ps Q Q' S hs r h k => by
  obtain ⟨p, d, ds, rfl, e, hd, h⟩ := h
  obtain ⟨v, rfl, r1⟩ := pas1 r
  have V1 := vw (Hs := H) S r1.pv e
  cases d with
  | lst ds => cases hd; obtain ⟨a, vs, rfl, h1, t⟩ := V1; exact .inl ⟨a, vs, rfl, .inl (SqL.of h1), fun l hl => k.tmp (d := .lst _) S hs hl ⟨_, upd_same, t⟩ h⟩
  | tup ds => cases hd; obtain ⟨a, vs, rfl, h1, t⟩ := V1; exact .inl ⟨a, vs, rfl, .inr h1, fun l hl => k.tmp (d := .lst _) S hs hl ⟨_, upd_same, t⟩ h⟩
  | scr xs => cases hd; obtain ⟨a, rfl, h1⟩ := V1; exact .inl ⟨a, _, rfl, .inl h1, fun l hl => k.tmp (d := .lst _) S hs hl ⟨_, upd_same, rpl_ints xs⟩ h⟩
  | dct kds => cases hd; obtain ⟨a, kvs, rfl, h1, t⟩ := V1; exact .inr ⟨a, kvs, rfl, h1, fun l hl => k.tmp (d := .lst _) S hs hl ⟨_, upd_same, rpl_keys t⟩ h⟩
  | _ => cases hd
def oTuple : OpA := fun δ ps Q => ∃ p ds, ps = [p] ∧ (ctP δ p = some (.lst ds) ∨ ctP δ p = some (.tup ds)) ∧ Q (.fz (.tup ds)) δ
theorem tr_tuple : TrCB C (rTupOf C.K) oTuple := fun σ δ H G Hs vs ps Q Q' S hs r h k => by
  obtain ⟨p, ds, rfl, e, h⟩ := h
  obtain ⟨v, rfl, r1⟩ := pas1 r
  rcases e with e | e
  · obtain ⟨a, vs, rfl, h1, t⟩ := vw (Hs := H) S r1.pv e
    exact ⟨a, vs, rfl, .inl ⟨SqL.of h1, fun l hl => k.new S hl (fun _ z => by cases z) (.tup (SqT.of upd_same) (t.mono (Ex.new (S.sub.nn hl)))) h⟩⟩
  · have r' := rp_tup (Hs := H) S r1.pv e
    obtain ⟨a, vs, rfl, h1, t⟩ := vw (Hs := H) S r1.pv e
    exact ⟨a, vs, rfl, .inr ⟨h1, k.here S r' h⟩⟩
theorem rpl_bls : ∀ {bs : List Bool} {vs : List V}, RpL K G vs (bs.map D.bl) → vs = bs.map V.bl
  | [], _, h => by cases h; rfl
  | b :: bs, _, h => by cases h with | cons a t => cases a; rw [rpl_bls t]; rfl
theorem rpl_strsV : ∀ {bs : List Str} {vs : List V}, RpL K G vs (bs.map D.str) → vs = bs.map V.str
  | [], _, h => by cases h; rfl
  | b :: bs, _, h => by cases h with | cons a t => cases a; rw [rpl_strsV t]; rfl
def oAll : OpA := fun δ ps Q => ∃ (p : Pv) (bs : List Bool), ps = [p] ∧ ctP δ p = some (.lst (bs.map D.bl)) ∧ Q (.fz (.bl (bs.all id))) δ
def oAny : OpA := fun δ ps Q => ∃ (p : Pv) (bs : List Bool), ps = [p] ∧ ctP δ p = some (.lst (bs.map D.bl)) ∧ Q (.fz (.bl (bs.any id))) δ
theorem tr_all : TrCB C (rAll C.K) oAll := fun σ δ H G Hs vs ps Q Q' S hs r h k => by
  obtain ⟨p, bs, rfl, e, h⟩ := h
  obtain ⟨v, rfl, r1⟩ := pas1 r
  obtain ⟨a, vs, rfl, h1, t⟩ := vw (Hs := H) S r1.pv e
  rw [rpl_bls t] at h1
  exact ⟨a, bs, rfl, SqL.of h1, k.here S (.bl _) h⟩
theorem tr_any : TrCB C (rAny C.K) oAny := fun σ δ H G Hs vs ps Q Q' S hs r h k => by
  obtain ⟨p, bs, rfl, e, h⟩ := h
  obtain ⟨v, rfl, r1⟩ := pas1 r
  obtain ⟨a, vs, rfl, h1, t⟩ := vw (Hs := H) S r1.pv e
  rw [rpl_bls t] at h1
  exact ⟨a, bs, rfl, SqL.of h1, k.here S (.bl _) h⟩
/-- isinstance by a built-in type -/
def oIsi : OpA := fun δ ps Q => ∃ p d T U b, ps = [p, .fz (.ty U)] ∧ ctP δ p = some d ∧ tyD d = some T ∧ kitB T U = some b ∧ Q (.fz (.bl b)) δ
theorem vw_ty {T : String} (h : Vw K H G v d) (e : tyD d = some T) : TyX K H v (.type T) := by
  cases d with
  | non => cases e; rw [show v = .non from h]; exact TyX.base .non
  | bl b => cases e; rw [show v = .bl b from h]; exact TyX.base (.bl b)
  | int i => cases e; rw [show v = .int i from h]; exact TyX.base (.int i)
  | str x => cases e; rw [show v = .str x from h]; exact TyX.base (.str x)
  | tup ds => cases e; obtain ⟨a, vs, rfl, s, _⟩ := h; exact ty_T s
  | lst ds => cases e; obtain ⟨a, vs, rfl, s, _⟩ := h; exact ty_L (SqL.of s)
  | dct ds =>
    cases e; obtain ⟨a, vs, rfl, s, _⟩ := h
    rcases s with s | ⟨o, s⟩
    · exact TyX.base (.dK s)
    · exact TyX.fDict s
  | _ => cases e
theorem tr_isi : TrCB C (rIsi C.K) oIsi := fun σ δ H G Hs vs ps Q Q' S hs r h k => by
  obtain ⟨p, d, T, U, b, rfl, e, ht, hk, h⟩ := h
  obtain ⟨v, w, rfl, r1, r2⟩ := pas2 r
  have e2 : w = .ty U := by
    have r2' : Rp C.K G w (.ty U) := r2
    cases r2'; rfl
  subst e2
  exact ⟨v, .ty U, .type T, .type U, b, rfl, .ty U, vw_ty (vw (Hs := H) S r1.pv e) ht, kit_ty hk, k.here S (.bl _) h⟩
end
end WK
/-! Displays, slices, fields, methods by data. -/
namespace WK
open PySem L2 PySem.Spec PyProof.Rows
def uSto (p : Pv) (δ : List Sl) (k : D → List Sl → Prop) : Prop := match p with
  | .fz d => k d δ
  | .tm d => k d δ
  | .at i => match δ[i]? with
    | some (.ow d) => k d (δ.set i (.fz d))
    | some (.fz d) => k d δ
    | _ => False
def uStoL : List Pv → List Sl → (List D → List Sl → Prop) → Prop
  | [], δ, k => k [] δ
  | p :: ps, δ, k => uSto p δ fun d δ1 => uStoL ps δ1 fun ds δ2 => k (d :: ds) δ2
section
variable {C : Ctx} {W : WX} {σ : L2.St} {δ δ' : List Sl} {H H' G G' Hs : Hp} {v w : V} {p q : Pv} {d : D} {vs : List V} {ds : List D} {ps : List Pv} {i : Nat} {K : PySem.W.Frag} {X' : UX}
theorem sto_ok {k : D → List Sl → Prop} (S : SR C σ δ H G) (r : PaR C.K σ G v p) (h : uSto p δ k) : ∃ d δ' G', SR C σ δ' H G' ∧ Stp σ δ H G σ δ' H G' ∧ Rp C.K G' v d ∧ k d δ' := by
  cases p with
  | fz d => exact ⟨d, δ, G, S, .refl, r, h⟩
  | tm d => exact r.elim
  | «at» i =>
    unfold uSto at h
    cases hi : δ[i]? with
    | none => simp only [hi] at h
    | some s =>
      cases s with
      | ow d =>
        simp only [hi] at h
        obtain ⟨G', S', T', r'⟩ := S.frzS hi
        exact ⟨d, _, G', S', T', r' v r, h⟩
      | fz d =>
        simp only [hi] at h
        obtain ⟨u, e, r'⟩ := S.sl i _ hi
        rw [show σ[i]? = some (some v) from r] at e
        cases e
        exact ⟨d, δ, G, S, .refl, r', h⟩
      | _ => simp only [hi] at h
theorem stoL_ok {k : List D → List Sl → Prop} : ∀ {vs : List V} {ps : List Pv} {δ : List Sl} {G : Hp} {k : List D → List Sl → Prop}, SR C σ δ H G → PasR C.K σ G vs ps → uStoL ps δ k → ∃ ds δ' G', SR C σ δ' H G' ∧ Stp σ δ H G σ δ' H G' ∧ RpL C.K G' vs ds ∧ k ds δ'
  | _, _, δ, G, k, S, .nil, h => ⟨[], δ, G, S, .refl, .nil, h⟩
  | _, _, δ, G, k, S, .cons a t, h => by
    obtain ⟨d, δ1, G1, S1, T1, r1, h1⟩ := sto_ok S a h
    obtain ⟨ds, δ2, G2, S2, T2, r2, h2⟩ := stoL_ok (k := k) S1 (t.mono T1.gs) h1
    exact ⟨d :: ds, δ2, G2, S2, T1.trans T2, .cons (r1.mono T2.gs) r2, h2⟩
def uTup (us : UA) : UE := fun δ Q X => us δ (fun ps δ1 => uStoL ps δ1 fun ds δ2 => ds.length ≤ 10000000 ∧ Q (.fz (.tup ds)) δ2) X
def uLst (us : UA) : UE := fun δ Q X => us δ (fun ps δ1 => uStoL ps δ1 fun ds δ2 => ds.length ≤ 10000000 ∧ Q (.tm (.lst ds)) δ2) X
theorem tr_tup {t : TA} {u : UA} (h : TrA C W t u) : TrE C W (tTup t) (uTup u) := fun σ δ H G Q Q' X' S hu k kx =>
  h σ δ H G _ _ X' S hu (fun vs ps δ1 H1 G1 S1 T1 rs q => by
    obtain ⟨ds, δ2, G2, S2, T2, r2, z, q2⟩ := stoL_ok (k := fun ds δ2 => ds.length ≤ 10000000 ∧ Q' (.fz (.tup ds)) δ2) S1 rs q
    refine ⟨by rw [r2.length]; exact sz_le z, fun l hl => ?_⟩
    exact (KC.of k (T1.trans T2)).new S2 hl (fun _ z => by cases z) (.tup (SqT.of upd_same) (r2.mono (Ex.new (S2.sub.nn hl)))) q2) kx
theorem tr_lst {t : TA} {u : UA} (h : TrA C W t u) : TrE C W (tLst t) (uLst u) := fun σ δ H G Q Q' X' S hu k kx =>
  h σ δ H G _ _ X' S hu (fun vs ps δ1 H1 G1 S1 T1 rs q => by
    obtain ⟨ds, δ2, G2, S2, T2, r2, z, q2⟩ := stoL_ok (k := fun ds δ2 => ds.length ≤ 10000000 ∧ Q' (.tm (.lst ds)) δ2) S1 rs q
    refine ⟨by rw [r2.length]; exact sz_le z, fun l hl => ?_⟩
    exact (KC.of k (T1.trans T2)).tmp (d := .lst ds) S2 (fun a z => (T1.trans T2).nn z) hl ⟨_, upd_same, r2⟩ q2) kx
def uDNew : UE := fun δ Q _ => Q (.tm (.dct [])) δ
theorem tr_dnew : TrE C W tDNewK uDNew := fun σ δ H G Q Q' X' S hu k kx => fun l hl => (KC.of k .refl).tmp (d := .dct []) S (fun a z => z) hl ⟨[], upd_same, .nil⟩ hu
/-! ### slices -/
abbrev UO := List Sl → (Option Int → List Sl → Prop) → UX → Prop
def TrO (C : Ctx) (W : WX) (t : TO) (u : UO) : Prop := ∀ (σ : L2.St) (δ : List Sl) (H G : Hp) (Q : Option Int → Hp → Prop) (Q' : Option Int → List Sl → Prop) (X' : UX), SR C σ δ H G → u δ Q' X' →
  (∀ b δ' H' G', SR C σ δ' H' G' → Stp σ δ H G σ δ' H' G' → Q' b δ' → Q b H') → XC C W σ δ H G X' → t σ H Q
def uNoPart : UO := fun δ Q _ => Q none δ
def uPart (u : UE) : UO := fun δ Q X => u δ (fun p δ1 => ∃ i, p = .fz (.int i) ∧ Q (some i) δ1) X
theorem tr_noPart : TrO C W tNoPart uNoPart := fun σ δ H G Q Q' X' S hu k kx => k none δ H G S .refl hu
theorem tr_part {t : TE} {u : UE} (h : TrE C W t u) : TrO C W (tPart t) (uPart u) := fun σ δ H G Q Q' X' S hu k kx =>
  h σ δ H G _ _ X' S hu (fun v p δ1 H1 G1 S1 T1 r q => by
    obtain ⟨i, rfl, q⟩ := q
    exact ⟨i, rp_int r, k (some i) δ1 H1 G1 S1 T1 q⟩) kx
def oSl (lo hi : Option Int) : Op1 := fun δ p Q => (∃ ds, ctP δ p = some (.lst ds) ∧ Q (.tm (.lst (cutD ds lo hi))) δ) ∨ (∃ ds, ctP δ p = some (.tup ds) ∧ Q (.fz (.tup (cutD ds lo hi))) δ) ∨
  (∃ z, p = .fz (.str z) ∧ z.length ≤ 10000000 ∧ Q (.fz (.str (cutS z lo hi))) δ) ∨ (∃ xs, ctP δ p = some (.scr xs) ∧ Q (.tm (.lst (cutD (xs.map D.int) lo hi))) δ)
def uSl (u : UE) (ul uh : UO) : UE := fun δ Q X => u δ (fun p δ1 => ul δ1 (fun lo δ2 => uh δ2 (fun hi δ3 => oSl lo hi δ3 p Q) X) X) X
theorem cut_full {α : Type} {xs : List α} {lo hi : Option Int} (h : HT.sIx xs.length 0 lo = 0 ∧ HT.sIx xs.length xs.length hi = xs.length) : cutD xs lo hi = xs := by
  unfold cutD; rw [h.1, h.2]; simp
theorem tr_sl {te : TE} {tl th : TO} {u : UE} {ul uh : UO} (h : TrE C W te u) (h1 : TrO C W tl ul) (h2 : TrO C W th uh) : TrE C W (tSl (rSlU C.K) te tl th) (uSl u ul uh) := fun σ δ H G Q Q' X' S hu k kx =>
  h σ δ H G _ _ X' S hu (fun v p δ1 H1 G1 S1 T1 r q => h1 σ δ1 H1 G1 _ _ X' S1 q (fun lo δ2 H2 G2 S2 T2 q2 => h2 σ δ2 H2 G2 _ _ X' S2 q2 (fun hi δ3 H3 G3 S3 T3 q3 => by
    have T := T1.trans (T2.trans T3)
    have r3 := (r.stp T2).stp T3
    have kk := KC.of k T
    have nn := fun a z => T.nn (a := a) z
    rcases q3 with ⟨ds, e, q3⟩ | ⟨ds, e, q3⟩ | ⟨z, rfl, hz, q3⟩ | ⟨xs, e, q3⟩
    · obtain ⟨a, vs, rfl, h1, t⟩ := vw S3 r3 e
      exact .inl ⟨a, vs, rfl, SqL.of h1, fun l hl => kk.tmp (d := .lst _) S3 nn hl ⟨_, upd_same, t.cut lo hi⟩ q3⟩
    · have rt := rp_tup S3 r3 e
      obtain ⟨a, vs, rfl, h1, t⟩ := vw S3 r3 e
      refine .inr (.inl ⟨a, vs, rfl, h1, fun hf => ?_, fun hf l hl => ?_⟩)
      · rw [cut_full (by rw [← t.length]; exact hf)] at q3; exact kk.here S3 rt q3
      · exact kk.new S3 hl (fun _ z => by cases z) (.tup (SqT.of upd_same) ((t.cut lo hi).mono (Ex.new (S3.sub.nn hl)))) q3
    · exact .inr (.inr ⟨z, rp_str r3, sz_le hz, kk.here S3 (.str _) q3⟩)
    · obtain ⟨a, rfl, h1⟩ := vw S3 r3 e
      exact .inl ⟨a, _, rfl, h1, fun l hl => kk.tmp (d := .lst _) S3 nn hl ⟨_, upd_same, (rpl_ints xs).cut lo hi⟩ q3⟩) (kx.step (T1.trans T2))) (kx.step T1)) kx
/-! ### fields -/
def uFld (c f : Str) (u : UE) : UE := fun δ Q X => u δ (fun p δ1 => ∃ fds d, ctP δ1 p = some (.obj c fds) ∧ fds.lookup f = some d ∧ Q (.fz d) δ1) X
theorem tr_fld {c f : Str} {te : TE} {u : UE} (hc : Cls C.K (He.ga C.K c)) (hn : NoAttr C.K (He.ga C.K c) f) (h : TrE C W te u) : TrE C W (tFld C.K te f) (uFld c f u) := fun σ δ H G Q Q' X' S hu k kx =>
  h σ δ H G _ _ X' S hu (fun v p δ1 H1 G1 S1 T1 r q => by
    obtain ⟨fds, d, e, hl, q⟩ := q
    obtain ⟨a, dx, fs, rfl, h1, t⟩ := vw S1 r e
    rcases t.look f with ⟨_, e2⟩ | ⟨u, d', e1, e2, ru⟩
    · rw [hl] at e2; cases e2
    · rw [hl] at e2; cases e2
      exact ⟨a, _, dx, fs, u, rfl, h1, hc, hn, e1, (KC.of k T1).here S1 ru q⟩) kx
/-! ### d.get(k, x) -/
def uDGet2 (ud uk ux : UE) : UE := fun δ Q X => ud δ (fun p δ1 => (∃ kds, ctP δ1 p = some (.dct kds)) ∧ uk δ1 (fun q δ2 => ux δ2 (fun r δ3 => ∃ kds k, ctP δ3 p = some (.dct kds) ∧ keyP q = some k ∧ (∀ d, valD kds k = some d → Q (.fz d) δ3) ∧ (valD kds k = none → Q r δ3)) X) X) X
/-! ### methods of built-in types -/
abbrev OpM := List Sl → Pv → List Pv → UK → Prop
def TrM (C : Ctx) (r : V → List V → Hp → VK → Prop) (f : OpM) : Prop := ∀ σ δ H G Hs v vs p ps Q Q', SR C σ δ H G → (∀ a, Nn H a → Nn Hs a) → PvR C σ δ Hs H G v p → PasR C.K σ G vs ps → f δ p ps Q' → KC C σ δ Hs H G Q Q' → r v vs H Q
def tyP (T : String) : D → Prop | .lst _ => T = "list" | .str _ => T = "str" | _ => False
def uBM (T : String) (f : OpM) (u : UE) (us : UA) : UE := fun δ Q X => u δ (fun p δ1 => (∃ d, ctP δ1 p = some d ∧ tyP T d) ∧ us δ1 (fun qs δ2 => f δ2 p qs Q) X) X
def uBM0 (T : String) (f : OpM) (u : UE) : UE := fun δ Q X => u δ (fun p δ1 => (∃ d, ctP δ1 p = some d ∧ tyP T d) ∧ f δ1 p [] Q) X
theorem vw_tyV {T : String} (h : Vw K H G v d) (t : tyP T d) : tyV K T v H := by
  cases d with
  | lst ds => obtain ⟨a, vs, rfl, s, _⟩ := h; exact .inl ⟨t, vs, SqL.of s⟩
  | str x => rw [show v = .str x from h]; exact t
  | _ => exact t.elim
theorem tr_bm {T : String} {r : V → List V → Hp → VK → Prop} {f : OpM} {te : TE} {ts : TA} {u : UE} {us : UA} (hf : TrM C r f) (h : TrE C W te u) (hs : TrA C W ts us) : TrE C W (tBM C.K T r te ts) (uBM T f u us) := fun σ δ H G Q Q' X' S hu k kx =>
  h σ δ H G _ _ X' S hu (fun v p δ1 H1 G1 S1 T1 r1 q1 => by
    obtain ⟨⟨d, e, t⟩, q1⟩ := q1
    refine ⟨vw_tyV (vw S1 r1 e) t, ?_⟩
    exact hs σ δ1 H1 G1 _ _ X' S1 q1 (fun vs ps δ2 H2 G2 S2 T2 rs q2 => hf σ δ2 H2 G2 H v vs p ps Q Q' S2 (fun a z => T1.nn (T2.nn z)) (r1.stp T2) rs q2 (KC.of k (T1.trans T2))) (kx.step T1)) kx
/-- slot i may turn and holds d -/
def Mt (δ : List Sl) (i : Nat) (d : D) : Prop := ∃ s, δ[i]? = some s ∧ s.isM = true ∧ s.ct = some d
/-- slot i holds d from now on -/
def pt (δ : List Sl) (i : Nat) (d : D) : List Sl := match δ[i]? with | some s => δ.set i (s.put d) | none => δ
theorem mut_ok {a : Addr} {o : HO} {d d' : D} (S : SR C σ δ H G) (m : Mt δ i d) (ha : σ[i]? = some (some (.ref a))) (r : OwnR C.K (upd H a o) G a d') : SR C σ (pt δ i d') (upd H a o) G ∧ Stp σ δ H G σ (pt δ i d') (upd H a o) G := by
  obtain ⟨s, h1, h2, h3⟩ := m
  have := S.mut h1 h2 ha r
  unfold pt
  rw [h1]; exact this
theorem Mt.at (S : SR C σ δ H G) (m : Mt δ i d) : ∃ a, σ[i]? = some (some (.ref a)) ∧ OwnR C.K H G a d := by
  obtain ⟨s, h1, h2, h3⟩ := m
  obtain ⟨a, e, _, r⟩ := S.atM h1 h2 h3
  exact ⟨a, e, r⟩
def oApp : OpM := fun δ p ps Q => ∃ i q, p = .at i ∧ ps = [q] ∧ uSto q δ fun d δ1 => ∃ ds, Mt δ1 i (.lst ds) ∧ ds.length < 10000000 ∧ Q (.fz .non) (pt δ1 i (.lst (ds ++ [d])))
theorem tr_app : TrM C rAppend oApp := fun σ δ H G Hs v vs p ps Q Q' S hs r rs h k => by
  obtain ⟨i, q, rfl, rfl, h⟩ := h
  obtain ⟨w, rfl, rw'⟩ := pas1 rs
  obtain ⟨d, δ1, G1, S1, T1, r1, ds, m, z, h1⟩ := sto_ok S rw' h
  obtain ⟨a, ea, us, hu, t⟩ := m.at S1
  rw [show σ[i]? = some (some v) from r] at ea
  cases ea
  refine ⟨a, us, w, rfl, rfl, hu, by rw [t.length]; exact sz_lt z, ?_⟩
  obtain ⟨S2, T2⟩ := mut_ok (d' := .lst (ds ++ [d])) S1 m r ⟨_, upd_same, t.snoc r1⟩
  exact k _ _ _ _ _ S2 (T1.trans T2) (pvF .non) h1
def oPopAt : OpM := fun δ p ps Q => ∃ (i j : Nat) (ds : List D) (d : D), p = .at i ∧ ps = [.fz (.int (j : Nat))] ∧ Mt δ i (.lst ds) ∧ ds[j]? = some d ∧ ds.length < 10000000 ∧ Q (.fz d) (pt δ i (.lst (ds.eraseIdx j)))
theorem tr_popAt : TrM C rPopAt oPopAt := fun σ δ H G Hs v vs p ps Q Q' S hs r rs h k => by
  obtain ⟨i, j, ds, d, rfl, rfl, m, hd, z, h1⟩ := h
  obtain ⟨w, rfl, rw'⟩ := pas1 rs
  rw [pa_int rw']
  obtain ⟨a, ea, us, hu, t⟩ := m.at S
  rw [show σ[i]? = some (some v) from r] at ea
  cases ea
  obtain ⟨x, hx, rx⟩ := t.at hd
  have hj : j < us.length := (List.getElem?_eq_some_iff.mp hx).1
  have hl := t.length
  refine ⟨a, us, (j : Int), j, x, rfl, rfl, hu, by omega, by omega, (ixN_seq (by unfold ixN; rw [if_pos (by omega), if_pos (by omega)]; simp)).1, hx, ?_⟩
  obtain ⟨S2, T2⟩ := mut_ok (d' := .lst (ds.eraseIdx j)) S m r ⟨_, upd_same, t.erase j⟩
  exact k _ _ _ _ _ S2 T2 (pvF rx) h1
def oJoin : OpM := fun δ p ps Q => ∃ (a : Str) (q : Pv) (ys : List Str), p = .fz (.str a) ∧ ps = [q] ∧ (ctP δ q = some (.lst (ys.map D.str)) ∨ ctP δ q = some (.tup (ys.map D.str))) ∧ (ys.map (·.length)).sum + ys.length * a.length ≤ 16777216 ∧ Q (.fz (.str (Txt.join a ys))) δ
theorem tr_join : TrM C (rJoin C.K) oJoin := fun σ δ H G Hs v vs p ps Q Q' S hs r rs h k => by
  obtain ⟨a, q, ys, rfl, rfl, e, z, h1⟩ := h
  obtain ⟨w, rfl, r2⟩ := pas1 rs
  rcases e with e | e
  · obtain ⟨b, us, rfl, hu, t⟩ := vw (Hs := H) S r2.pv e
    rw [rpl_strsV t] at hu
    exact ⟨a, b, ys, rp_str r, rfl, .inl (SqL.of hu), z, k.here S (.str _) h1⟩
  · obtain ⟨b, us, rfl, hu, t⟩ := vw (Hs := H) S r2.pv e
    rw [rpl_strsV t] at hu
    exact ⟨a, b, ys, rp_str r, rfl, .inr hu, z, k.here S (.str _) h1⟩
/-! ### dict(..) -/
def pairD : D → Option (Key × D)
  | .tup [.int i, d] => some (.inl i, d)
  | .tup [.str x, d] => some (.inr x, d)
  | _ => none
def mergeD (kds more : List (Key × D)) : List (Key × D) := more.foldl (fun acc kv => putD acc kv.1 kv.2) kds
theorem RpM.merge {more : List (Key × V)} {md : List (Key × D)} (h : RpM K G more md) : ∀ {kvs : List (Key × V)} {kds : List (Key × D)}, RpM K G kvs kds → RpM K G (mergeK kvs more) (mergeD kds md) := by
  refine RpM.ind (P := fun (more : List (Key × V)) (md : List (Key × D)) => ∀ {kvs : List (Key × V)} {kds : List (Key × D)}, RpM K G kvs kds → RpM K G (mergeK kvs more) (mergeD kds md)) (fun h => h) (fun k v d more md r _ ih kvs kds t => ?_) h
  exact ih (t.put k r)
def oDict : OpA := fun δ ps Q => (∃ (p : Pv) (ds : List D) (kds : List (Key × D)), ps = [p] ∧ ctP δ p = some (.lst ds) ∧ ds.map pairD = kds.map some ∧ Q (.tm (.dct (mergeD [] kds))) δ) ∨ (∃ p kds, ps = [p] ∧ ctP δ p = some (.dct kds) ∧ Q (.tm (.dct kds)) δ)
theorem pairs_ok (S : Ex G H) : ∀ {vs : List V} {ds : List D} {kds : List (Key × D)}, RpL K G vs ds → ds.map pairD = kds.map some → ∃ (as : List Addr) (kvs : List (Key × V)), vs = as.map V.ref ∧ Paired (fun p kv => SqT K H p [kV kv.1, kv.2]) as kvs ∧ RpM K G kvs kds
  | _, _, [], .nil, _ => ⟨[], [], rfl, .nil, .nil⟩
  | _, _, _ :: _, .nil, h => by cases h
  | _, _, [], .cons _ _, h => by cases h
  | _, _, kd :: kds, .cons (v := v) (d := d) a t, h => by
    rw [List.map_cons, List.map_cons] at h
    injection h with h1 h2
    obtain ⟨as, kvs, rfl, pr, rm⟩ := pairs_ok S t h2
    unfold pairD at h1
    split at h1
    · cases h1
      cases a with
      | tup s rl =>
        cases rl with
        | cons r1 rl =>
          cases rl with
          | cons r2 rl =>
            cases rl
            cases r1
            exact ⟨_ :: as, (.inl _, _) :: kvs, rfl, .cons (st_ex s S) pr, .cons r2 rm⟩
    · cases h1
      cases a with
      | tup s rl =>
        cases rl with
        | cons r1 rl =>
          cases rl with
          | cons r2 rl =>
            cases rl
            cases r1
            exact ⟨_ :: as, (.inr _, _) :: kvs, rfl, .cons (st_ex s S) pr, .cons r2 rm⟩
    · cases h1
theorem tr_dict : TrCB C (rDictU C.K) oDict := fun σ δ H G Hs vs ps Q Q' S hs r h k => by
  rcases h with ⟨p, ds, kds, rfl, e, hp, h⟩ | ⟨p, kds, rfl, e, h⟩
  · obtain ⟨v, rfl, r1⟩ := pas1 r
    obtain ⟨a, vs, rfl, h1, t⟩ := vw (Hs := H) S r1.pv e
    obtain ⟨as, kvs, rfl, pr, rm⟩ := pairs_ok S.sub t hp
    exact .inl ⟨a, as, kvs, rfl, SqL.of h1, pr, fun l hl => k.tmp (d := .dct _) S hs hl ⟨_, upd_same, rm.merge .nil⟩ h⟩
  · obtain ⟨v, rfl, r1⟩ := pas1 r
    obtain ⟨a, kvs, rfl, h1, t⟩ := vw (Hs := H) S r1.pv e
    exact .inr ⟨a, kvs, rfl, h1, fun l hl => k.tmp (d := .dct _) S hs hl ⟨_, upd_same, t⟩ h⟩
end
end WK
/-! Statements by data. -/
namespace WK
open PySem L2 PySem.Spec PyProof.Rows
structure UEnds where
  nx : List Sl → Prop
  rt : Pv → List Sl → Prop
  bk : List Sl → Prop := fun _ => False
  ct : List Sl → Prop := fun _ => False
  ex : UX
abbrev US := UEnds → List Sl → Prop
structure EndsR (C : Ctx) (W : WX) (σ : L2.St) (δ : List Sl) (H G : Hp) (E : Ends) (E' : UEnds) : Prop where
  nx : ∀ σ' δ' H' G', SR C σ' δ' H' G' → Stp σ δ H G σ' δ' H' G' → E'.nx δ' → E.nx σ' H'
  rt : ∀ v p σ' δ' H' G', SR C σ' δ' H' G' → Stp σ δ H G σ' δ' H' G' → PvR C σ' δ' H H' G' v p → E'.rt p δ' → E.rt v H'
  bk : ∀ σ' δ' H' G', SR C σ' δ' H' G' → Stp σ δ H G σ' δ' H' G' → E'.bk δ' → E.bk σ' H'
  ct : ∀ σ' δ' H' G', SR C σ' δ' H' G' → Stp σ δ H G σ' δ' H' G' → E'.ct δ' → E.ct σ' H'
  ex : ∀ x cls d σ' δ' H' G', SR C σ' δ' H' G' → Stp σ δ H G σ' δ' H' G' → XR C.K H' G' x cls d → E'.ex x δ' → W cls d σ' H'
def TrS (C : Ctx) (W : WX) (t : TS) (u : US) : Prop := ∀ (σ : L2.St) (δ : List Sl) (H G : Hp) (E : Ends) (E' : UEnds), SR C σ δ H G → EndsR C W σ δ H G E E' → u E' δ → t E σ H
section
variable {C : Ctx} {W : WX} {σ σ' : L2.St} {δ δ' : List Sl} {H H' G G' Hs : Hp} {v w : V} {p q : Pv} {d : D} {vs : List V} {ds : List D} {ps : List Pv} {i j : Nat} {K : PySem.W.Frag} {E : Ends} {E' : UEnds} {t s : TS} {u r : US} {te : TE} {ue : UE}
theorem EndsR.step (e : EndsR C W σ δ H G E E') (T : Stp σ δ H G σ' δ' H' G') : EndsR C W σ' δ' H' G' E E' :=
  ⟨fun σ2 δ2 H2 G2 S2 T2 q => e.nx σ2 δ2 H2 G2 S2 (T.trans T2) q, fun v p σ2 δ2 H2 G2 S2 T2 r q => e.rt v p σ2 δ2 H2 G2 S2 (T.trans T2) (r.start fun a => T.nn) q, fun σ2 δ2 H2 G2 S2 T2 q => e.bk σ2 δ2 H2 G2 S2 (T.trans T2) q,
   fun σ2 δ2 H2 G2 S2 T2 q => e.ct σ2 δ2 H2 G2 S2 (T.trans T2) q, fun x cls d σ2 δ2 H2 G2 S2 T2 r q => e.ex x cls d σ2 δ2 H2 G2 S2 (T.trans T2) r q⟩
theorem EndsR.xc (e : EndsR C W σ δ H G E E') : XC C W σ δ H G E'.ex := fun x δ' H' G' cls d S T r q => e.ex x cls d σ δ' H' G' S T r q
def uSeq (t u : US) : US := fun E δ => t { E with nx := u E } δ
def uNext : US := fun E δ => E.nx δ
def uDrop (u : UE) : US := fun E δ => u δ (fun _ δ1 => E.nx δ1) E.ex
def uRet (u : UE) : US := fun E δ => u δ E.rt E.ex
def uRetN : US := fun E δ => E.rt (.fz .non) δ
def uIfS (c : UT) (t u : US) : US := fun E δ => c δ (fun b δ1 => if b = true then t E δ1 else u E δ1) E.ex
theorem tr_seq (h1 : TrS C W t u) (h2 : TrS C W s r) : TrS C W (tSeq t s) (uSeq u r) := fun σ δ H G E E' S e h =>
  h1 σ δ H G { E with nx := s E } { E' with nx := r E' } S ⟨fun σ' δ' H' G' S' T' q => h2 σ' δ' H' G' E E' S' (e.step T') q, e.rt, e.bk, e.ct, e.ex⟩ h
theorem tr_next : TrS C W tNext uNext := fun σ δ H G E E' S e h => e.nx σ δ H G S .refl h
theorem tr_drop (h : TrE C W te ue) : TrS C W (tDrop te) (uDrop ue) := fun σ δ H G E E' S e hu => h σ δ H G _ _ _ S hu (fun v p δ1 H1 G1 S1 T1 r q => e.nx σ δ1 H1 G1 S1 T1 q) e.xc
theorem tr_ret (h : TrE C W te ue) : TrS C W (tRet te) (uRet ue) := fun σ δ H G E E' S e hu => h σ δ H G _ _ _ S hu (fun v p δ1 H1 G1 S1 T1 r q => e.rt v p σ δ1 H1 G1 S1 T1 r q) e.xc
theorem tr_ifS {c : TT} {uc : UT} (hc : TrT C W c uc) (h1 : TrS C W t u) (h2 : TrS C W s r) : TrS C W (tIfS c t s) (uIfS uc u r) := fun σ δ H G E E' S e hu =>
  hc σ δ H G _ _ _ S hu (fun b δ1 H1 G1 S1 T1 q => by
    cases b with
    | true => rw [if_pos rfl] at q ⊢; exact h1 σ δ1 H1 G1 E E' S1 (e.step T1) q
    | false => rw [if_neg (by decide)] at q ⊢; exact h2 σ δ1 H1 G1 E E' S1 (e.step T1) q) e.xc
/-! ### targets -/
abbrev UG := Pv → List Sl → (List Sl → Prop) → Prop
abbrev UGs := List D → List Sl → (List Sl → Prop) → Prop
/-- what a store leaves: from any start ahead of it -/
def StR (σ : L2.St) (δ : List Sl) (Hs H G : Hp) (σ' : L2.St) (δ' : List Sl) (H' G' : Hp) : Prop := Ex G G' ∧ ∀ σ0 δ0 G0, Stp σ0 δ0 Hs G0 σ δ H G → Stp σ0 δ0 Hs G0 σ' δ' H' G'
theorem StR.of (T : Stp σ δ H G σ' δ' H' G') : StR σ δ Hs H G σ' δ' H' G' := ⟨T.gs, fun _ _ _ T0 => T0.trans T⟩
theorem StR.trans {σ'' : L2.St} {δ'' : List Sl} {H'' G'' : Hp} (a : StR σ δ Hs H G σ' δ' H' G') (b : StR σ' δ' Hs H' G' σ'' δ'' H'' G'') : StR σ δ Hs H G σ'' δ'' H'' G'' := ⟨a.1.trans b.1, fun _ _ _ T0 => b.2 _ _ _ (a.2 _ _ _ T0)⟩
def TrG (C : Ctx) (g : TG) (ug : UG) : Prop := ∀ (σ : L2.St) (δ : List Sl) (H G Hs : Hp) (v : V) (p : Pv) (Q : L2.St → Hp → Prop) (Q' : List Sl → Prop), SR C σ δ H G → PvR C σ δ Hs H G v p → ug p δ Q' →
  (∀ σ' δ' H' G', SR C σ' δ' H' G' → StR σ δ Hs H G σ' δ' H' G' → Q' δ' → Q σ' H') → g v σ H Q
def TrGs (C : Ctx) (g : TGs) (ug : UGs) : Prop := ∀ (σ : L2.St) (δ : List Sl) (H G Hs : Hp) (vs : List V) (ds : List D) (Q : L2.St → Hp → Prop) (Q' : List Sl → Prop), SR C σ δ H G → RpL C.K G vs ds → ug ds δ Q' →
  (∀ σ' δ' H' G', SR C σ' δ' H' G' → StR σ δ Hs H G σ' δ' H' G' → Q' δ' → Q σ' H') → g vs σ H Q
def nkO : Option Sl → Prop | some (.io _) => False | some (.lk _ _) => False | _ => True
def NK (δ : List Sl) (i : Nat) : Prop := nkO δ[i]?
theorem NK.no (h : NK δ i) : ∀ t, δ[i]? = some t → t.isK = false := fun t ht => by
  unfold NK at h
  rw [ht] at h
  cases t <;> first | rfl | exact h.elim
theorem stoP {k : D → List Sl → Prop} (S : SR C σ δ H G) (r : PvR C σ δ Hs H G v p) (h : uSto p δ k) : ∃ d δ' G', SR C σ δ' H G' ∧ StR σ δ Hs H G σ δ' H G' ∧ Rp C.K G' v d ∧ k d δ' := by
  cases p with
  | tm d =>
    obtain ⟨G2, S2, r2, ⟨gr, _⟩, kk⟩ := S.frzT r
    exact ⟨d, δ, G2, S2, ⟨gr, fun _ _ _ T => kk T⟩, r2, h⟩
  | fz d => exact ⟨d, δ, G, S, .of .refl, r, h⟩
  | «at» i =>
    obtain ⟨d, δ', G', S', T', r', h'⟩ := sto_ok S (show PaR C.K σ G v (.at i) from r) h
    exact ⟨d, δ', G', S', .of T', r', h'⟩
def uPut (i : Nat) (d : D) (δ : List Sl) (Q : List Sl → Prop) : Prop := NK δ i ∧ Q (δ.set i (.fz d))
def ugF (i : Nat) : UG := fun p δ Q => uSto p δ fun d δ1 => uPut i d δ1 Q
def ugO (i : Nat) : UG := fun p δ Q => match p with
  | .tm d => NK δ i ∧ i < δ.length ∧ Q (δ.set i (.ow d))
  | p => ugF i p δ Q
theorem tr_gF : TrG C (gName i) (ugF i) := fun σ δ H G Hs v p Q Q' S r h k => by
  obtain ⟨d, δ1, G1, S1, T1, r1, nk, q⟩ := stoP (k := fun d δ1 => NK δ1 i ∧ Q' (δ1.set i (.fz d))) S r h
  obtain ⟨S2, T2⟩ := S1.asgF nk.no r1
  exact k _ _ _ _ S2 (T1.trans (.of T2)) q
theorem tr_gO : TrG C (gName i) (ugO i) := fun σ δ H G Hs v p Q Q' S r h k => by
  cases p with
  | tm d =>
    obtain ⟨nk, il, q⟩ := h
    obtain ⟨S2, T2⟩ := S.asgT il nk.no r
    exact k _ _ _ _ S2 ⟨Ex.refl _, fun _ _ _ T => T2 T⟩ q
  | fz d => exact tr_gF σ δ H G Hs v (.fz d) Q Q' S r h k
  | «at» j => exact tr_gF σ δ H G Hs v (.at j) Q Q' S r h k
def ugTup (n : Nat) (us : UGs) : UG := fun p δ Q => ∃ ds, ctP δ p = some (.tup ds) ∧ ds.length = n ∧ us ds δ Q
def ugNil : UGs := fun ds δ Q => ds = [] ∧ Q δ
def ugCons (u : UG) (us : UGs) : UGs := fun ds δ Q => ∃ d r, ds = d :: r ∧ u (.fz d) δ fun δ1 => us r δ1 Q
theorem tr_gtup {n : Nat} {t : TGs} {us : UGs} (h : TrGs C t us) : TrG C (gTup C.K n t) (ugTup n us) := fun σ δ H G Hs v p Q Q' S r hu k => by
  obtain ⟨ds, e, hn, hu⟩ := hu
  obtain ⟨a, vs, rfl, h1, tt⟩ := vw S r e
  exact ⟨a, vs, rfl, h1, by rw [tt.length]; exact hn, h σ δ H G Hs vs ds Q Q' S tt hu k⟩
theorem tr_gnil : TrGs C gNil ugNil := fun σ δ H G Hs vs ds Q Q' S r hu k => by
  obtain ⟨rfl, q⟩ := hu
  cases r
  exact ⟨rfl, k σ δ H G S (.of .refl) q⟩
theorem tr_gcons {g : TG} {gs : TGs} {u : UG} {us : UGs} (h1 : TrG C g u) (h2 : TrGs C gs us) : TrGs C (gCons g gs) (ugCons u us) := fun σ δ H G Hs vs ds Q Q' S r hu k => by
  obtain ⟨d, ds', rfl, hu⟩ := hu
  cases r with
  | cons a t =>
    refine ⟨_, _, rfl, ?_⟩
    exact h1 σ δ H G Hs _ (.fz d) _ _ S a hu fun σ1 δ1 H1 G1 S1 T1 q => h2 σ1 δ1 H1 G1 Hs _ ds' Q Q' S1 (t.mono T1.1) q fun σ2 δ2 H2 G2 S2 T2 q2 => k σ2 δ2 H2 G2 S2 (T1.trans T2) q2
def uAsg (u : UE) (g : UG) : US := fun E δ => u δ (fun p δ1 => g p δ1 E.nx) E.ex
theorem tr_asg {g : TG} {ug : UG} (h : TrE C W te ue) (hg : TrG C g ug) : TrS C W (tAsg te g) (uAsg ue ug) := fun σ δ H G E E' S e hu =>
  h σ δ H G _ _ _ S hu (fun v p δ1 H1 G1 S1 T1 r q => hg σ δ1 H1 G1 H v p _ _ S1 r q fun σ2 δ2 H2 G2 S2 T2 q2 => e.nx σ2 δ2 H2 G2 S2 (T2.2 _ _ _ T1) q2) e.xc
/-! ### two names at once -/
def ugX (o : Bool) (i : Nat) : UG := if o = true then ugO i else ugF i
/-- a second value outlives the store of the first -/
theorem asg_keep {o : Bool} {Q' : List Sl → Prop} (S : SR C σ δ H G) (rp : PvR C σ δ Hs H G v p) (rq : PvR C σ δ Hs H G w q) (hd : ∀ d d' a, p = .tm d → q = .tm d' → v = .ref a → w ≠ .ref a) (hi : ∀ k, q = .at k → k ≠ i) (h : ugX o i p δ Q') :
    ∃ δ' G', SR C (σ.set i (some v)) δ' H G' ∧ StR σ δ Hs H G (σ.set i (some v)) δ' H G' ∧ Q' δ' ∧ PvR C (σ.set i (some v)) δ' Hs H G' w q := by
  -- the told way
  have told : ∀ {p : Pv}, PvR C σ δ Hs H G v p → (∀ d d' a, p = .tm d → q = .tm d' → v = .ref a → w ≠ .ref a) → ugF i p δ Q' → ∃ δ' G', SR C (σ.set i (some v)) δ' H G' ∧ StR σ δ Hs H G (σ.set i (some v)) δ' H G' ∧ Q' δ' ∧ PvR C (σ.set i (some v)) δ' Hs H G' w q := by
    intro p rp hd h
    -- freeze
    have fz : ∃ d δ1 G1, SR C σ δ1 H G1 ∧ StR σ δ Hs H G σ δ1 H G1 ∧ Rp C.K G1 v d ∧ (NK δ1 i ∧ Q' (δ1.set i (.fz d))) ∧ PvR C σ δ1 Hs H G1 w q := by
      cases p with
      | fz d => exact ⟨d, δ, G, S, .of .refl, rp, h, rq⟩
      | «at» k =>
        obtain ⟨d, δ1, G1, S1, T1, r1, h1⟩ := sto_ok (k := fun d δ1 => NK δ1 i ∧ Q' (δ1.set i (.fz d))) S (show PaR C.K σ G v (.at k) from rp) h
        exact ⟨d, δ1, G1, S1, .of T1, r1, h1, rq.stp T1⟩
      | tm d =>
        obtain ⟨G2, S2, r2, ⟨gr, gk⟩, kk⟩ := S.frzT rp
        refine ⟨d, δ, G2, S2, ⟨gr, fun _ _ _ T => kk T⟩, r2, h, ?_⟩
        cases q with
        | fz e => exact Rp.mono gr rq
        | «at» k => exact rq
        | tm e =>
          obtain ⟨b, rfl, b1, b2, b3, b4, b5⟩ := rq
          obtain ⟨a, ea, a1, a2, a3, a4, a5⟩ := rp
          have nb : b ≠ a := fun z => hd d e a rfl rfl ea (by rw [z])
          refine ⟨b, rfl, b1, b2, ?_, b4, b5.keep gr fun _ z => z⟩
          rw [gk b (fun z => nb (by rw [ea] at z; injection z with z; exact z.symm))]; exact b3
    obtain ⟨d, δ1, G1, S1, T1, r1, ⟨nk, q1⟩, rq1⟩ := fz
    obtain ⟨S2, T2⟩ := S1.asgF nk.no r1
    refine ⟨_, G1, S2, T1.trans (.of T2), q1, ?_⟩
    cases q with
    | fz e => exact rq1
    | «at» k => exact (List.getElem?_set_ne (Ne.symm (hi k rfl))).trans rq1
    | tm e =>
      obtain ⟨b, rfl, b1, b2, b3, b4, b5⟩ := rq1
      obtain ⟨uo, ho, hn, _⟩ := b5.some
      exact ⟨b, rfl, b1, b2, b3, fun z => b4 (T2.ow b uo ho hn z), b5⟩
  cases o with
  | false => exact told rp hd h
  | true =>
    cases p with
    | fz d => exact told rp hd h
    | «at» k => exact told rp hd h
    | tm d =>
      obtain ⟨nk, il, q1⟩ := h
      obtain ⟨S2, T2⟩ := S.asgT il nk.no rp
      refine ⟨_, G, S2, ⟨Ex.refl _, fun _ _ _ T => T2 T⟩, q1, ?_⟩
      cases q with
      | fz e => exact rq
      | «at» k => exact (List.getElem?_set_ne (Ne.symm (hi k rfl))).trans rq
      | tm e =>
        obtain ⟨b, rfl, b1, b2, b3, b4, b5⟩ := rq
        obtain ⟨a, ea, a1, a2, a3, a4, a5⟩ := rp
        have nb : b ≠ a := fun z => hd d e a rfl rfl ea (by rw [z])
        refine ⟨b, rfl, b1, b2, b3, ?_, b5⟩
        rintro ⟨j, t, hj, ht, hx⟩
        by_cases e : i = j
        · subst e
          rw [List.getElem?_set_self (by rw [S.len]; exact il), ea] at hx
          cases hx; exact nb rfl
        · rw [List.getElem?_set_ne e] at hj hx
          exact b4 ⟨j, t, hj, ht, hx⟩
end
end WK
/-! Stores, loops by data. -/
namespace WK
open PySem L2 PySem.Spec PyProof.Rows
section
variable {C : Ctx} {W : WX} {σ σ' : L2.St} {δ δ' : List Sl} {H H' G G' Hs : Hp} {v w : V} {p q : Pv} {d : D} {vs : List V} {ds : List D} {ps : List Pv} {i j : Nat} {K : PySem.W.Frag} {E : Ends} {E' : UEnds} {t s : TS} {u r : US} {te ta tb to ti : TE} {ue ua ub uo ui : UE}
def NA (q : Pv) (i : Nat) : Prop := match q with | .at k => k ≠ i | _ => True
def uPar (a b : Bool) (i j : Nat) (ua ub : UE) : US := fun E δ => ua δ (fun p δ1 => ub δ1 (fun q δ2 => NA q i ∧ ugX a i p δ2 fun δ3 => ugX b j q δ3 E.nx) E.ex) E.ex
theorem par_go {a b : Bool} {Q : L2.St → Hp → Prop} {Q' : List Sl → Prop} (S : SR C σ δ H G) (rp : PvR C σ δ Hs H G v p) (rq : PvR C σ δ Hs H G w q) (hd : ∀ d d' a, p = .tm d → q = .tm d' → v = .ref a → w ≠ .ref a) (hi : NA q i) (h : ugX a i p δ fun δ3 => ugX b j q δ3 Q')
    (k : ∀ σ' δ' H' G', SR C σ' δ' H' G' → StR σ δ Hs H G σ' δ' H' G' → Q' δ' → Q σ' H') : Q ((σ.set i (some v)).set j (some w)) H := by
  obtain ⟨δ1, G1, S1, T1, q1, r1⟩ := asg_keep (o := a) S rp rq hd (fun k e => by subst e; exact hi) h
  have hg : TrG C (gName j) (ugX b j) := by
    unfold ugX
    cases b with
    | true => exact tr_gO
    | false => exact tr_gF
  exact hg _ δ1 H G1 Hs w q Q Q' S1 r1 q1 fun σ2 δ2 H2 G2 S2 T2 q2 => k σ2 δ2 H2 G2 S2 (T1.trans T2) q2
theorem tm_ne {d d' : D} {a : Addr} {H1 G1 : Hp} {δ1 : List Sl} (r1 : PvR C σ δ1 H H1 G1 v (.tm d)) (r2 : PvR C σ δ' H1 H' G' w (.tm d')) (e : v = .ref a) : w ≠ .ref a := by
  obtain ⟨a', e1, _, _, _, _, o⟩ := r1
  obtain ⟨b, e2, n, _⟩ := r2
  rw [e] at e1; cases e1
  intro z
  rw [z] at e2; cases e2
  obtain ⟨u, hu, hn, _⟩ := o.some
  exact n u hu hn
theorem tr_par {a b : Bool} (ha : TrE C W ta ua) (hb : TrE C W tb ub) : TrS C W (tPar i j (tCons ta (tCons tb tNil))) (uPar a b i j ua ub) := fun σ δ H G E E' S e hu =>
  ha σ δ H G _ _ _ S hu (fun v p δ1 H1 G1 S1 T1 r1 q1 => hb σ δ1 H1 G1 _ _ _ S1 q1 (fun w q δ2 H2 G2 S2 T2 r2 q2 => by
    obtain ⟨na, q2⟩ := q2
    refine ⟨v, w, rfl, ?_⟩
    exact par_go S2 (r1.stp T2) (r2.start fun a => T1.nn) (fun d d' a e1 e2 ev => by subst e1 e2; exact tm_ne r1 r2 ev) na q2 fun σ3 δ3 H3 G3 S3 T3 q3 => e.nx σ3 δ3 H3 G3 S3 (T3.2 _ _ _ (T1.trans T2)) q3) (e.step T1).xc) e.xc
theorem tr_parT {a b : Bool} (ha : TrE C W ta ua) (hb : TrE C W tb ub) : TrS C W (tAsg (tTup (tCons ta (tCons tb tNil))) (gTup C.K 2 (gCons (gName i) (gCons (gName j) gNil)))) (uPar a b i j ua ub) := fun σ δ H G E E' S e hu =>
  ha σ δ H G _ _ _ S hu (fun v p δ1 H1 G1 S1 T1 r1 q1 => hb σ δ1 H1 G1 _ _ _ S1 q1 (fun w q δ2 H2 G2 S2 T2 r2 q2 => by
    obtain ⟨na, q2⟩ := q2
    refine ⟨sz_le (by simp), fun l hl => ?_⟩
    have T3 : Stp σ δ2 H2 G2 σ δ2 (upd H2 l (.tup [v, w])) G2 := .tmp hl
    refine ⟨l, [v, w], rfl, SqT.of upd_same, rfl, v, [w], rfl, ?_⟩
    show (∃ v' r', [w] = v' :: r' ∧ _)
    refine ⟨w, [], rfl, ?_⟩
    refine (show ∀ P : Prop, P → (([] : List V) = [] ∧ P) from fun _ h => ⟨rfl, h⟩) _ ?_
    exact par_go (S2.tmp hl) ((r1.stp T2).stp T3) ((r2.start fun a => T1.nn).stp T3) (fun d d' a e1 e2 ev => by subst e1 e2; exact tm_ne r1 r2 ev) na q2 fun σ3 δ3 H3 G3 S3 T4 q3 => e.nx σ3 δ3 H3 G3 S3 (T4.2 _ _ _ ((T1.trans T2).trans T3)) q3) (e.step T1).xc) e.xc
/-! ### o[k] = e -/
def oSet (o k p : Pv) (δ : List Sl) (Q : List Sl → Prop) : Prop := ∃ i, o = .at i ∧ uSto p δ fun d δ1 => (∃ ds j n, k = .fz (.int j) ∧ Mt δ1 i (.lst ds) ∧ ixN ds.length j = some n ∧ Q (pt δ1 i (.lst (ds.set n d)))) ∨ (∃ kds key, keyP k = some key ∧ Mt δ1 i (.dct kds) ∧ kds.length < 10000000 ∧ Q (pt δ1 i (.dct (putD kds key d))))
def uSetI (ue uo ui : UE) : US := fun E δ => ue δ (fun p δ1 => uo δ1 (fun o δ2 => ui δ2 (fun k δ3 => oSet o k p δ3 E.nx) E.ex) E.ex) E.ex
theorem tr_setI (h1 : TrE C W te ue) (h2 : TrE C W to uo) (h3 : TrE C W ti ui) : TrS C W (tAsg te (gSub to ti rSetU)) (uSetI ue uo ui) := fun σ δ H G E E' S e hu =>
  h1 σ δ H G _ _ _ S hu (fun v p δ1 H1 G1 S1 T1 r1 q1 => h2 σ δ1 H1 G1 _ _ _ S1 q1 (fun o po δ2 H2 G2 S2 T2 r2 q2 => h3 σ δ2 H2 G2 _ _ _ S2 q2 (fun k pk δ3 H3 G3 S3 T3 r3 q3 => by
    have T := T1.trans (T2.trans T3)
    obtain ⟨i, rfl, q3⟩ := q3
    have r2' : σ[i]? = some (some o) := r2
    obtain ⟨d, δ4, G4, S4, T4, r4, q4⟩ := stoP S3 ((r1.stp T2).stp T3) q3
    rcases q4 with ⟨ds, j, n, rfl, m, hn, q⟩ | ⟨kds, key, hk, m, hl, q⟩
    · obtain ⟨a, ea, us, hu, t⟩ := m.at S4
      rw [r2'] at ea; cases ea
      refine .inl ⟨a, us, j, n, rfl, rp_int r3, hu, by rw [t.length]; exact hn, ?_⟩
      obtain ⟨S5, T5⟩ := mut_ok (d' := .lst (ds.set n d)) S4 m r2' ⟨_, upd_same, t.set r4 n⟩
      exact e.nx _ _ _ _ S5 ((T4.2 _ _ _ T).trans T5) q
    · obtain ⟨a, ea, us, hu, t⟩ := m.at S4
      rw [r2'] at ea; cases ea
      refine .inr ⟨a, _, rfl, .inl ⟨us, key, hu, kp_kV r3 hk, by rw [t.length]; exact sz_lt hl, rfl⟩, ?_⟩
      obtain ⟨S5, T5⟩ := mut_ok (d' := .dct (putD kds key d)) S4 m r2' ⟨_, upd_same, t.put key r4⟩
      exact e.nx _ _ _ _ S5 ((T4.2 _ _ _ T).trans T5) q) (e.step (T1.trans T2)).xc) (e.step T1).xc) e.xc
/-! ### o.f = e -/
def uSFld (c f : Str) (uo ue : UE) : US := fun E δ => ue δ (fun p δ1 => uo δ1 (fun o δ2 => ∃ i, o = .at i ∧ uSto p δ2 fun d δ3 => ∃ fds, Mt δ3 i (.obj c fds) ∧ fds.length < 1000 ∧ E.nx (pt δ3 i (.obj c (putG f d fds)))) E.ex) E.ex
theorem tr_sfld {c f : Str} (hc : Cls C.K (He.ga C.K c)) (hn : NoAttr C.K (He.ga C.K c) f) (h2 : TrE C W to uo) (h1 : TrE C W te ue) : TrS C W (sFld C.K to te f) (uSFld c f uo ue) := fun σ δ H G E E' S e hu =>
  h1 σ δ H G _ _ _ S hu (fun v p δ1 H1 G1 S1 T1 r1 q1 => h2 σ δ1 H1 G1 _ _ _ S1 q1 (fun o po δ2 H2 G2 S2 T2 r2 q2 => by
    obtain ⟨i, rfl, q2⟩ := q2
    have r2' : σ[i]? = some (some o) := r2
    obtain ⟨d, δ4, G4, S4, T4, r4, fds, m, hl, q⟩ := stoP S2 (r1.stp T2) q2
    obtain ⟨a, ea, dx, fs, hu, t⟩ := m.at S4
    rw [r2'] at ea; cases ea
    refine ⟨a, _, dx, fs, rfl, hu, hc, hn, by rw [t.length]; exact hl, ?_⟩
    obtain ⟨S5, T5⟩ := mut_ok (d' := .obj c (putG f d fds)) S4 m r2' ⟨dx, _, upd_same, t.putF f r4⟩
    exact e.nx _ _ _ _ S5 ((T4.2 _ _ _ (T1.trans T2)).trans T5) q) (e.step T1).xc) e.xc
/-! ### while -/
def uWhile (c : UT) (b : US) : US := fun E δ => ∃ Inv : Nat → List Sl → Prop, (∃ m, Inv m δ) ∧ ∀ m δ, Inv m δ → c δ (fun k δ1 => if k = true then b { E with nx := fun δ' => ∃ m', m' < m ∧ Inv m' δ', ct := fun δ' => ∃ m', m' < m ∧ Inv m' δ', bk := E.nx } δ1 else E.nx δ1) E.ex
theorem tr_while {c : TT} {uc : UT} (hc : TrT C W c uc) (h : TrS C W t u) : TrS C W (tWhile c t) (uWhile uc u) := fun σ δ H G E E' S e hu => by
  obtain ⟨Inv, ⟨m, h0⟩, hs⟩ := hu
  refine ⟨fun m σ' H' => ∃ δ' G', SR C σ' δ' H' G' ∧ Stp σ δ H G σ' δ' H' G' ∧ Inv m δ', ⟨m, δ, G, S, .refl, h0⟩, ?_⟩
  rintro m σ1 H1 ⟨δ1, G1, S1, T1, i1⟩
  refine hc σ1 δ1 H1 G1 _ _ _ S1 (hs m δ1 i1) (fun b δ2 H2 G2 S2 T2 q2 => ?_) (e.step T1).xc
  cases b with
  | false => rw [if_neg (by decide)] at q2 ⊢; exact e.nx σ1 δ2 H2 G2 S2 (T1.trans T2) q2
  | true =>
    rw [if_pos rfl] at q2 ⊢
    have T12 := T1.trans T2
    refine ⟨fun σ' H' => ∃ δ' G', SR C σ' δ' H' G' ∧ Stp σ δ H G σ' δ' H' G' ∧ ∃ m', m' < m ∧ Inv m' δ', fun σ' H' ⟨δ', G', S', T', m', hm, i'⟩ => ⟨m', hm, δ', G', S', T', i'⟩, ?_⟩
    exact h σ1 δ2 H2 G2 _ { E' with nx := fun δ' => ∃ m', m' < m ∧ Inv m' δ', ct := fun δ' => ∃ m', m' < m ∧ Inv m' δ', bk := E'.nx } S2 ⟨fun σ' δ' H' G' S' T' q => ⟨δ', G', S', T12.trans T', q⟩, (e.step T12).rt, fun σ' δ' H' G' S' T' q => e.nx σ' δ' H' G' S' (T12.trans T') q, fun σ' δ' H' G' S' T' q => ⟨δ', G', S', T12.trans T', q⟩, (e.step T12).ex⟩ q2
end
/-! ### what is walked: a thing of one's own is locked -/
def lkOf (δ : List Sl) : Pv → Option Nat
  | .at i => match δ[i]? with | some (.ow _) => some i | some (.io _) => some i | _ => none
  | _ => none
def Sl.lock : Sl → Sl | .ow d => .lk true d | .io d => .lk false d | s => s
def Sl.unlk : Sl → Sl | .lk true d => .ow d | .lk false d => .io d | s => s
def lockS (o : Option Nat) (δ : List Sl) : List Sl := match o with | some i => (match δ[i]? with | some s => δ.set i s.lock | none => δ) | none => δ
def unlkS (o : Option Nat) (δ : List Sl) : List Sl := match o with | some i => (match δ[i]? with | some s => δ.set i s.unlk | none => δ) | none => δ
section
variable {C : Ctx} {W : WX} {σ σ' : L2.St} {δ δ' : List Sl} {H H' G G' Hs : Hp} {v w : V} {p q : Pv} {d : D} {i j : Nat} {o : Option Nat}
theorem lock_ok (S : SR C σ δ H G) (o : Option Nat) : SR C σ (lockS o δ) H G := by
  unfold lockS
  cases o with
  | none => exact S
  | some i =>
    dsimp only
    cases hi : δ[i]? with
    | none => exact S
    | some s =>
      dsimp only
      have il : i < δ.length := (List.getElem?_eq_some_iff.mp hi).1
      have back : ∀ (j : Nat) (t : Sl), (δ.set i s.lock)[j]? = some t → (j = i ∧ t = s.lock) ∨ (j ≠ i ∧ δ[j]? = some t) := fun j t hj => by
        by_cases e : i = j
        · subst e; rw [List.getElem?_set_self il] at hj; cases hj; exact .inl ⟨rfl, rfl⟩
        · rw [List.getElem?_set_ne e] at hj; exact .inr ⟨Ne.symm e, hj⟩
      have bO : ∀ (j : Nat) (t : Sl), (δ.set i s.lock)[j]? = some t → t.isO = true → ∃ t', δ[j]? = some t' ∧ t'.isO = true := fun j t hj ho => by
        rcases back j t hj with ⟨rfl, rfl⟩ | ⟨_, h⟩
        · exact ⟨s, hi, by cases s <;> first | rfl | exact ho⟩
        · exact ⟨t, h, ho⟩
      refine ⟨S.sub, S.nt, S.gq, S.fr, S.pl, S.tab, by rw [List.length_set]; exact S.len, fun j t ht => ?_, fun j k b t u hj hk ht hu e1 e2 => ?_⟩
      · rcases back j t ht with ⟨rfl, rfl⟩ | ⟨_, h⟩
        · have r := S.sl j s hi
          cases s with
          | ow d => obtain ⟨a, e, f, g, r⟩ := r; exact ⟨a, e, f, g, .inl r⟩
          | io d => obtain ⟨a, e, f, g, r⟩ := r; exact ⟨a, e, f, g, .inl r⟩
          | _ => exact r
        · exact S.sl j t h
      · obtain ⟨t', h1, h2⟩ := bO j t hj ht
        obtain ⟨u', h3, h4⟩ := bO k u hk hu
        exact S.dj j k b t' u' h1 h3 h2 h4 e1 e2
theorem lock_mu (h : Mu σ (lockS o δ) w') : Mu σ δ w' := by
  obtain ⟨j, t, hj, ht, hx⟩ := h
  unfold lockS at hj
  cases o with
  | none => exact ⟨j, t, hj, ht, hx⟩
  | some i =>
    dsimp only at hj
    cases hi : δ[i]? with
    | none => rw [hi] at hj; exact ⟨j, t, hj, ht, hx⟩
    | some s =>
      rw [hi] at hj
      dsimp only at hj
      by_cases e : i = j
      · subst e
        rw [List.getElem?_set_self (List.getElem?_eq_some_iff.mp hi).1] at hj
        cases hj
        cases s <;> cases ht
      · rw [List.getElem?_set_ne e] at hj; exact ⟨j, t, hj, ht, hx⟩
theorem lock_ow (h : Ow σ (lockS o δ) w') : Ow σ δ w' := by
  obtain ⟨j, t, hj, ht, hx⟩ := h
  unfold lockS at hj
  cases o with
  | none => exact ⟨j, t, hj, ht, hx⟩
  | some i =>
    dsimp only at hj
    cases hi : δ[i]? with
    | none => rw [hi] at hj; exact ⟨j, t, hj, ht, hx⟩
    | some s =>
      rw [hi] at hj
      dsimp only at hj
      by_cases e : i = j
      · subst e
        rw [List.getElem?_set_self (List.getElem?_eq_some_iff.mp hi).1] at hj
        cases hj
        exact ⟨i, s, hi, (by cases s <;> first | rfl | exact ht), hx⟩
      · rw [List.getElem?_set_ne e] at hj; exact ⟨j, t, hj, ht, hx⟩
/-- the walk's end: what was locked is free again -/
theorem unlk_ok (S : SR C σ δ H G) (hp : o = lkOf δ p) (S' : SR C σ' δ' H' G') (T : Stp σ (lockS o δ) H G σ' δ' H' G') : SR C σ' (unlkS o δ') H' G' ∧ Stp σ δ H G σ' (unlkS o δ') H' G' := by
  cases ho : o with
  | none =>
    subst ho
    exact ⟨S', T⟩
  | some i =>
    rw [ho] at hp T
    have hi : ∃ s d, δ[i]? = some s ∧ s.isM = true ∧ s.ct = some d ∧ s.lock.isK = true ∧ s.lock.unlk = s := by
      cases p with
      | fz d => cases hp
      | tm d => cases hp
      | «at» k =>
        unfold lkOf at hp
        cases hk : δ[k]? with
        | none => simp only [hk] at hp; cases hp
        | some s =>
          cases s with
          | ow d => simp only [hk] at hp; cases hp; exact ⟨_, d, hk, rfl, rfl, rfl, rfl⟩
          | io d => simp only [hk] at hp; cases hp; exact ⟨_, d, hk, rfl, rfl, rfl, rfl⟩
          | _ => simp only [hk] at hp; cases hp
    obtain ⟨s, d, hs, hm, hc, hk, hu⟩ := hi
    have il : i < δ.length := (List.getElem?_eq_some_iff.mp hs).1
    have e1 : lockS (some i) δ = δ.set i s.lock := by unfold lockS; simp only [hs]
    rw [e1] at T
    obtain ⟨eσ, s', hs', ks⟩ := T.kp i s.lock (List.getElem?_set_self il) hk
    have es : s' = s.lock := by
      cases s with
      | ow d => exact ks
      | io d => exact ks
      | _ => cases hm
    subst es
    have e2 : unlkS (some i) δ' = δ'.set i s := by unfold unlkS; simp only [hs', hu]
    rw [e2]
    have il' : i < δ'.length := (List.getElem?_eq_some_iff.mp hs').1
    have sO := s.isO_of hm
    have lO : s.lock.isO = true := by cases s <;> first | rfl | cases hm
    have back : ∀ (j : Nat) (t : Sl), (δ'.set i s)[j]? = some t → (j = i ∧ t = s) ∨ (j ≠ i ∧ δ'[j]? = some t) := fun j t hj => by
      by_cases e : i = j
      · subst e; rw [List.getElem?_set_self il'] at hj; cases hj; exact .inl ⟨rfl, rfl⟩
      · rw [List.getElem?_set_ne e] at hj; exact .inr ⟨Ne.symm e, hj⟩
    have bO : ∀ (j : Nat) (t : Sl), (δ'.set i s)[j]? = some t → t.isO = true → ∃ t', δ'[j]? = some t' ∧ t'.isO = true := fun j t hj ho => by
      rcases back j t hj with ⟨rfl, rfl⟩ | ⟨_, h⟩
      · exact ⟨_, hs', lO⟩
      · exact ⟨t, h, ho⟩
    have lm : ∀ b, Mu σ (δ.set i s.lock) b → Mu σ δ b := fun b h => lock_mu (o := some i) (by rw [e1]; exact h)
    have lw : ∀ b, Ow σ (δ.set i s.lock) b → Ow σ δ b := fun b h => lock_ow (o := some i) (by rw [e1]; exact h)
    refine ⟨⟨S'.sub, S'.nt, S'.gq, S'.fr, S'.pl, S'.tab, by rw [List.length_set]; exact S'.len, fun j t ht => ?_, fun j k b t u hj hk ht hu e1 e2 => ?_⟩, ⟨T.gs, fun b u z n m => T.fr b u z n fun h => m (lm b h), fun b u z n q m => T.gk b u z n q fun h => m (lm b h), ?_, ?_, fun j t ht k => ?_, T.dm⟩⟩
    · rcases back j t ht with ⟨rfl, rfl⟩ | ⟨_, h⟩
      · have r := S'.sl j _ hs'
        have r0 := S.sl j _ hs
        have old : ∀ a d0, OwnR C.K H G a d0 → σ[j]? = some (some (.ref a)) → OwnR C.K H' G' a d0 := fun a d0 r1 ea => by
          obtain ⟨w, hw, nw, _⟩ := r1.some
          refine r1.keep T.gs fun o ho => ?_
          rw [hw] at ho; cases ho
          refine T.fr a w hw nw fun ⟨k, t', hk', ht', hx⟩ => ?_
          by_cases ekj : j = k
          · subst ekj
            rw [List.getElem?_set_self il] at hk'; cases hk'
            cases t <;> first | cases ht' | cases hm
          · rw [List.getElem?_set_ne ekj] at hk'
            exact ekj (S.dj j k a t t' hs hk' sO (t'.isO_of ht') ea hx)
        cases t with
        | ow d => obtain ⟨a, e, f, g, r⟩ := r; obtain ⟨b', e', _, _, r0⟩ := r0; have eb : b' = a := by (rw [eσ, e'] at e; cases e; rfl)
                  subst eb; exact ⟨b', eσ.trans e', f, g, old b' d r0 e'⟩
        | io d => obtain ⟨a, e, f, g, r⟩ := r; obtain ⟨b', e', _, _, r0⟩ := r0; have eb : b' = a := by (rw [eσ, e'] at e; cases e; rfl)
                  subst eb; exact ⟨b', eσ.trans e', f, g, old b' d r0 e'⟩
        | _ => cases hm
      · exact S'.sl j t h
    · obtain ⟨t', h1, h2⟩ := bO j t hj ht
      obtain ⟨u', h3, h4⟩ := bO k u hk hu
      exact S'.dj j k b t' u' h1 h3 h2 h4 e1 e2
    · rintro b u z n ⟨j, t, hj, ht, hx⟩
      rcases back j t hj with ⟨rfl, rfl⟩ | ⟨_, h⟩
      · exact ⟨j, t, hs, hm, eσ ▸ hx⟩
      · exact lm b (T.mu b u z n ⟨j, t, h, ht, hx⟩)
    · rintro b u z n ⟨j, t, hj, ht, hx⟩
      rcases back j t hj with ⟨rfl, rfl⟩ | ⟨_, h⟩
      · exact ⟨j, t, hs, sO, eσ ▸ hx⟩
      · exact lw b (T.ow b u z n ⟨j, t, h, ht, hx⟩)
    · by_cases e : i = j
      · subst e
        rw [hs] at ht; cases ht
        refine ⟨eσ, _, List.getElem?_set_self il', KeepS.refl _⟩
      · obtain ⟨f1, t', h1, h2⟩ := T.kp j t (by rw [List.getElem?_set_ne e]; exact ht) k
        exact ⟨f1, t', by rw [List.getElem?_set_ne e]; exact h1, h2⟩
end
end WK
/-! What is walked; for. -/
namespace WK
open PySem L2 PySem.Spec PyProof.Rows
/-- a list, a tuple, a text -/
def iSeq (K : PySem.W.Frag) (tl : TE) : TI := fun σ H R => tl σ H fun x H1 => (∃ a xs, x = .ref a ∧ SqL K H1 a xs ∧ R (Itl K a) H1) ∨ (∃ a xs, x = .ref a ∧ SqT K H1 a xs ∧ R (Itt K a) H1) ∨ (∃ z, x = .str z ∧ R (Its z) H1)
theorem pi_seq {X : Cx} {tg l : Expr} {tl : TE} (hl : PE X l tl) : PI X tg l (iSeq X.K tl) := by
  refine ⟨fun pins s σ H R I h => ?_⟩
  refine thn (hl.run pins s σ H _ I h) fun v s1 ⟨x, H1, I1, r1, q1⟩ => ?_
  rcases q1 with ⟨a, xs, e, hq, q⟩ | ⟨a, xs, e, hq, q⟩ | ⟨x, ex, q⟩
  · subst e
    cases r1
    obtain ⟨its, rv, p, hz⟩ := I1.list hq
    refine wpAny_pyIter_list p.isList ?_
    refine ⟨s1.heap.objs.size, [s1.heap.objs.size], _, _, H1, rfl, I1.kept (t' := s1.toks) fun b o e => Heap.get?_push_of_some _ e, turn_list a _, ⟨_, Heap.get?_push_size _ rfl, rfl, rfl⟩, fun b hb => ?_, q⟩
    have e : b = s1.heap.objs.size := by simpa using hb
    subst e
    exact I1.fpOk (Nat.le_refl _) (I1.hok.fresh (Nat.le_refl _))
  · subst e
    cases r1
    obtain ⟨its, rv, p, hz⟩ := I1.tuple hq
    refine wpAny_pyIter_tuple (show s1.heap.IsTuple a its.toArray from p) ?_
    refine ⟨s1.heap.objs.size, [s1.heap.objs.size], _, _, H1, rfl, I1.kept (t' := s1.toks) fun b o e => Heap.get?_push_of_some _ e, turn_tuple a _, ⟨_, Heap.get?_push_size _ rfl, rfl, rfl⟩, fun b hb => ?_, q⟩
    have e : b = s1.heap.objs.size := by simpa using hb
    subst e
    exact I1.fpOk (Nat.le_refl _) (I1.hok.fresh (Nat.le_refl _))
  · subst ex
    obtain ⟨t, rfl⟩ := r1
    cases ha : x.cps.all (· < 128)
    · exact wpAny_pyIter_wide ha (pi_one (tk := s1.toks) I1 _ (turn_str _ x t "str_iterator" (.inr rfl)) ⟨_, Heap.get?_push_size _ rfl, rfl, rfl⟩ q)
    · exact wpAny_pyIter_ascii ha (pi_one (tk := s1.toks) I1 _ (turn_str _ x t "str_ascii_iterator" (.inl rfl)) ⟨_, Heap.get?_push_size _ rfl, rfl, rfl⟩ q)
abbrev UI := List Sl → (List D → Option Nat → List Sl → Prop) → UX → Prop
/-- what a walk asks of a later state -/
structure Lat (σ : L2.St) (δ : List Sl) (H G H' G' : Hp) : Prop where
  gs : Ex G G'
  fr : ∀ b o, H b = some o → NT o → ¬ Mu σ δ b → H' b = some o
theorem Stp.lat {σ σ' : L2.St} {δ δ' : List Sl} {H G H' G' : Hp} (T : Stp σ δ H G σ' δ' H' G') : Lat σ δ H G H' G' := ⟨T.gs, T.fr⟩
def ItR (C : Ctx) (σ : L2.St) (δ : List Sl) (H G : Hp) (J : It) (ds : List D) : Prop := ∀ σ' δ' H' G', SR C σ' δ' H' G' → Lat σ δ H G H' G' →
  (∀ (n : Nat) d, ds[n]? = some d → J.go n H' ∧ ∀ x H'', J.yld n H' x H'' → ∃ G'', SR C σ' δ' H'' G'' ∧ Stp σ' δ' H' G' σ' δ' H'' G'' ∧ Rp C.K G'' x d) ∧ J.stop ds.length H'
/-- what is locked is what the value names -/
def LkR (δ : List Sl) (o : Option Nat) : Prop := o = none ∨ ∃ p, o = lkOf δ p
def TrI (C : Ctx) (W : WX) (wi : TI) (u : UI) : Prop := ∀ (σ : L2.St) (δ : List Sl) (H G : Hp) (R : It → Hp → Prop) (R' : List D → Option Nat → List Sl → Prop) (X' : UX), SR C σ δ H G → u δ R' X' →
  (∀ J ds o δ' H' G', SR C σ δ' H' G' → Stp σ δ H G σ δ' H' G' → ItR C σ (lockS o δ') H' G' J ds → LkR δ' o → R' ds o δ' → R J H') → XC C W σ δ H G X' → wi σ H R
def itS : D → Option (List D)
  | .lst ds => some ds
  | .tup ds => some ds
  | .scr xs => some (xs.map .int)
  | .str z => some (z.cps.toList.map fun c => .str ⟨#[c]⟩)
  | _ => none
def uISeq (u : UE) : UI := fun δ R X => u δ (fun p δ1 => ∃ d ds o, ctP δ1 p = some d ∧ itS d = some ds ∧ o = lkOf δ1 p ∧ R ds o δ1) X
section
variable {C : Ctx} {W : WX} {σ σ' : L2.St} {δ δ' : List Sl} {H H' G G' Hs : Hp} {v w : V} {p q : Pv} {d : D} {vs : List V} {ds : List D} {i j : Nat} {K : PySem.W.Frag} {E : Ends} {E' : UEnds} {t s : TS} {u r : US} {te ta tb to ti : TE} {ue ua ub uo ui : UE}
theorem unlkR {o : Option Nat} (S : SR C σ δ H G) (hp : LkR δ o) (S' : SR C σ' δ' H' G') (T : Stp σ (lockS o δ) H G σ' δ' H' G') : SR C σ' (unlkS o δ') H' G' ∧ Stp σ δ H G σ' (unlkS o δ') H' G' := by
  rcases hp with rfl | ⟨p, hp⟩
  · exact ⟨S', T⟩
  · exact unlk_ok S hp S' T
/-- a list that stays at a while nothing turns it -/
theorem it_list {a : Addr} {us : List V} (hk : ∀ σ' δ' H' G', SR C σ' δ' H' G' → Lat σ δ H G H' G' → SqL C.K H' a us) (t : RpL C.K G us ds) : ItR C σ δ H G (Itl C.K a) ds := fun σ' δ' H' G' S' T' => by
  have h' := hk σ' δ' H' G' S' T'
  refine ⟨fun n d hd => ?_, us, h', by rw [t.length]; exact Nat.le_refl _⟩
  obtain ⟨x, hx, rx⟩ := t.at hd
  refine ⟨⟨us, x, h', hx⟩, ?_⟩
  rintro y H'' ⟨rfl, hy⟩
  have := hy us h'
  rw [hx] at this; cases this
  exact ⟨G', S', .refl, rx.mono T'.gs⟩
theorem it_tup {a : Addr} {us : List V} (h : SqT C.K G a us) (t : RpL C.K G us ds) : ItR C σ δ H G (Itt C.K a) ds := fun σ' δ' H' G' S' T' => by
  have h' := st_ex (st_ex h T'.gs) S'.sub
  refine ⟨fun n d hd => ?_, us, h', by rw [t.length]; exact Nat.le_refl _⟩
  obtain ⟨x, hx, rx⟩ := t.at hd
  refine ⟨⟨us, x, h', hx⟩, ?_⟩
  rintro y H'' ⟨rfl, hy⟩
  have := hy us h'
  rw [hx] at this; cases this
  exact ⟨G', S', .refl, rx.mono T'.gs⟩
theorem it_str {z : Str} : ItR C σ δ H G (Its z) (z.cps.toList.map fun c => .str ⟨#[c]⟩) := fun σ' δ' H' G' S' T' => by
  refine ⟨fun n d hd => ?_, by show z.cps.size ≤ _; simp⟩
  rw [List.getElem?_map] at hd
  cases hc : z.cps.toList[n]? with
  | none => rw [hc] at hd; cases hd
  | some c =>
    rw [hc] at hd; cases hd
    have hc' : z.cps[n]? = some c := by simpa using hc
    refine ⟨(Array.getElem?_eq_some_iff.mp hc').1, ?_⟩
    rintro y H'' ⟨rfl, c', e, rfl⟩
    rw [hc'] at e; cases e
    exact ⟨G', S', .refl, .str _⟩
theorem it_rng {lo : Int} {n : Nat} : ItR C σ δ H G (Itr lo n) ((List.range n).map fun k => .int (lo + (k : Nat))) := fun σ' δ' H' G' S' T' => by
  refine ⟨fun m d hd => ?_, by show n ≤ _; simp⟩
  rw [List.getElem?_map] at hd
  cases hc : (List.range n)[m]? with
  | none => rw [hc] at hd; cases hd
  | some c =>
    rw [hc] at hd; cases hd
    obtain ⟨hm, e⟩ := List.getElem?_eq_some_iff.mp hc
    have e' : m = c := by simpa using e
    subst e'
    refine ⟨by show m < n; simpa using hm, ?_⟩
    rintro y H'' ⟨rfl, rfl⟩
    exact ⟨G', S', .refl, .int _⟩
/-- the list that a value holds stays -/
theorem src_list (S : SR C σ δ H G) (r : PvR C σ δ Hs H G v p) (e : ctP δ p = some (.lst ds)) (hp : ∀ d, p ≠ .tm d) : ∃ a us, v = .ref a ∧ RpL C.K G us ds ∧ SqL C.K H a us ∧ ∀ σ' δ' H' G', SR C σ' δ' H' G' → Lat σ (lockS (lkOf δ p) δ) H G H' G' → SqL C.K H' a us := by
  have told : Rp C.K G v (.lst ds) → ∃ a us, v = .ref a ∧ RpL C.K G us ds ∧ SqL C.K H a us ∧ ∀ σ' δ' H' G', SR C σ' δ' H' G' → Lat σ (lockS (lkOf δ p) δ) H G H' G' → SqL C.K H' a us := fun r => by
    cases r with
    | lst h t => exact ⟨_, _, rfl, t, SqL.of (S.sub _ _ h), fun σ' δ' H' G' S' T' => SqL.of (S'.sub _ _ (T'.gs _ _ h))⟩
  cases p with
  | fz d => cases e; exact told r
  | tm d => exact absurd rfl (hp d)
  | «at» i =>
    have e' : δ[i]?.bind Sl.ct = some (.lst ds) := e
    cases hi : δ[i]? with
    | none => rw [hi] at e'; cases e'
    | some s =>
      rw [hi] at e'
      have hs := S.sl i s hi
      have r' : σ[i]? = some (some v) := r
      rw [r'] at hs
      -- a slot of one's own, locked in the walk
      have own : ∀ {a : Addr}, v = .ref a → s.isO = true → OwnR C.K H G a (.lst ds) → ∃ a us, v = .ref a ∧ RpL C.K G us ds ∧ SqL C.K H a us ∧ ∀ σ' δ' H' G', SR C σ' δ' H' G' → Lat σ (lockS (lkOf δ (.at i)) δ) H G H' G' → SqL C.K H' a us := by
        intro a ea so ⟨us, hu, t⟩
        subst ea
        refine ⟨a, us, rfl, t, SqL.of hu, fun σ' δ' H' G' S' T' => SqL.of (T'.fr a _ hu (fun _ z => by cases z) fun m => ?_)⟩
        obtain ⟨j, t', hj, ht, hx⟩ := m
        have hO : Ow σ (lockS (lkOf δ (.at i)) δ) a := ⟨j, t', hj, t'.isO_of ht, hx⟩
        have L := lock_ok S (lkOf δ (.at i))
        by_cases eij : j = i
        · subst eij
          unfold lkOf at hj
          simp only [hi] at hj
          cases s with
          | ow d => simp only [lockS, hi] at hj; rw [List.getElem?_set_self (List.getElem?_eq_some_iff.mp hi).1] at hj; cases hj; cases ht
          | io d => simp only [lockS, hi] at hj; rw [List.getElem?_set_self (List.getElem?_eq_some_iff.mp hi).1] at hj; cases hj; cases ht
          | lk b d => simp only [lockS, hi] at hj; cases hj; cases ht
          | _ => cases so
        · have hj' : δ[j]? = some t' := by
            unfold lockS at hj
            split at hj
            · rename_i k hk
              have : k = i := by
                unfold lkOf at hk
                simp only [hi] at hk
                cases s <;> first | (cases hk; rfl) | cases hk
              subst this
              rw [hi] at hj
              dsimp only at hj
              rw [List.getElem?_set_ne (Ne.symm eij)] at hj
              exact hj
            · exact hj
          exact eij (S.dj j i a t' s hj' hi (t'.isO_of ht) so hx r')
      cases s with
      | un => cases e'
      | fz d' => cases e'; obtain ⟨v', h1, h2⟩ := hs; cases h1; exact told h2
      | ow d' => cases e'; obtain ⟨a, h1, _, _, h2⟩ := hs; cases h1; exact own rfl rfl h2
      | io d' => cases e'; obtain ⟨a, h1, _, _, h2⟩ := hs; cases h1; exact own rfl rfl h2
      | lk b d' => cases e'; obtain ⟨a, h1, _, _, h2⟩ := hs; cases h1; exact own rfl rfl (h2.elim (fun z => z) fun ⟨_, _, _, z, _⟩ => by cases z)
theorem tr_iseq (h : TrE C W te ue) : TrI C W (iSeq C.K te) (uISeq ue) := fun σ δ H G R R' X' S hu k kx =>
  h σ δ H G _ _ X' S hu (fun v p δ1 H1 G1 S1 T1 r q => by
    obtain ⟨d, ds, o, e, hd, rfl, q⟩ := q
    by_cases hp : ∃ d', p = .tm d'
    · obtain ⟨d', rfl⟩ := hp
      have e' : d' = d := by cases e; rfl
      subst e'
      obtain ⟨G2, S2, r2, _, kk⟩ := S1.frzT r
      have T2 := kk T1
      cases d' with
      | lst ds' =>
        cases hd
        cases r2 with
        | lst h t => exact .inl ⟨_, _, rfl, SqL.of (S2.sub _ _ h), k _ ds none δ1 H1 G2 S2 T2 (it_list (fun σ' δ' H' G' S' T' => SqL.of (S'.sub _ _ (T'.gs _ _ h))) t) (.inl rfl) q⟩
      | _ => obtain ⟨_, _, _, _, _, _, o⟩ := r; first | exact o.elim | cases hd
    · have hn : ∀ d, p ≠ .tm d := fun d z => hp ⟨d, z⟩
      cases d with
      | lst ds' =>
        cases hd
        obtain ⟨a, us, rfl, t, hq, hk⟩ := src_list S1 r e hn
        exact .inl ⟨a, us, rfl, hq, k _ ds _ δ1 H1 G1 S1 T1 (it_list hk t) (.inr ⟨p, rfl⟩) q⟩
      | tup ds' =>
        cases hd
        have r' := rp_tup S1 r e
        cases r' with
        | tup h t => exact .inr (.inl ⟨_, _, rfl, st_ex h S1.sub, k _ ds _ δ1 H1 G1 S1 T1 (it_tup h t) (.inr ⟨p, rfl⟩) q⟩)
      | scr xs =>
        cases hd
        have r' : Rp C.K G1 v (.scr xs) := rp_ct S1 r e fun _ z => z.no (fun z => z) fun _ z => by cases z
        cases r' with
        | scr h => exact .inl ⟨_, _, rfl, sl_ex h S1.sub, k _ _ _ δ1 H1 G1 S1 T1 (it_list (fun σ' δ' H' G' S' T' => sl_ex (sl_ex h T'.gs) S'.sub) (rpl_ints xs)) (.inr ⟨p, rfl⟩) q⟩
      | str z =>
        cases hd
        have r' : Rp C.K G1 v (.str z) := rp_ct S1 r e fun _ z => z.no (fun z => z) fun _ z => by cases z
        cases r'
        exact .inr (.inr ⟨z, rfl, k _ _ _ δ1 H1 G1 S1 T1 it_str (.inr ⟨p, rfl⟩) q⟩)
      | _ => cases hd) kx
/-! ### range -/
def rngD (lo : Int) (n : Nat) : List D := (List.range n).map fun k => .int (lo + (k : Nat))
def uIRng1 (us : UA) : UI := fun δ R X => us δ (fun ps δ1 => ∃ j : Int, ps = [.fz (.int j)] ∧ -(2 ^ 62) ≤ j ∧ j < 2 ^ 62 ∧ R (rngD 0 j.toNat) none δ1) X
def uIRng2 (us : UA) : UI := fun δ R X => us δ (fun ps δ1 => ∃ i j : Int, ps = [.fz (.int i), .fz (.int j)] ∧ (-(2 ^ 62) ≤ i ∧ i < 2 ^ 62 ∧ -(2 ^ 62) ≤ j ∧ j < 2 ^ 62) ∧ R (rngD i (j - i).toNat) none δ1) X
theorem tr_irng1 {ts : TA} {us : UA} (h : TrA C W ts us) : TrI C W (iRng1 ts) (uIRng1 us) := fun σ δ H G R R' X' S hu k kx =>
  h σ δ H G _ _ X' S hu (fun vs ps δ1 H1 G1 S1 T1 r q => by
    obtain ⟨j, rfl, b1, b2, q⟩ := q
    obtain ⟨v, rfl, r1⟩ := pas1 r
    rw [pa_int r1]
    exact ⟨j, rfl, b1, b2, k _ _ none δ1 H1 G1 S1 T1 it_rng (.inl rfl) q⟩) kx
/-! ### enumerate -/
def enumD (ds : List D) : List D := ds.zipIdx.map fun x => .tup [.int (x.2 : Nat), x.1]
def uIEnum (us : UA) : UI := fun δ R X => us δ (fun ps δ1 => ∃ p ds es o, ps = [p] ∧ ((ctP δ1 p = some (.lst ds)) ∨ (∃ xs, ctP δ1 p = some (.scr xs) ∧ ds = xs.map .int)) ∧ es = enumD ds ∧ o = lkOf δ1 p ∧ R es o δ1) X
theorem it_enum {a : Addr} {us : List V} (hk : ∀ σ' δ' H' G', SR C σ' δ' H' G' → Lat σ δ H G H' G' → SqL C.K H' a us) (t : RpL C.K G us ds) : ItR C σ δ H G (Ite C.K a) (enumD ds) := fun σ' δ' H' G' S' T' => by
  have h' := hk σ' δ' H' G' S' T'
  refine ⟨fun n d hd => ?_, us, h', by rw [t.length]; simp [enumD]⟩
  unfold enumD at hd
  rw [List.getElem?_map, List.getElem?_zipIdx] at hd
  cases hn : ds[n]? with
  | none => rw [hn] at hd; cases hd
  | some e =>
    rw [hn] at hd
    cases hd
    obtain ⟨x, hx, rx⟩ := t.at hn
    refine ⟨⟨us, x, h', hx⟩, ?_⟩
    rintro y H'' ⟨T, z, rfl, hT, rfl, hy⟩
    have := hy us h'
    rw [hx] at this; cases this
    refine ⟨_, S'.new hT (fun _ z => by cases z), .new hT (S'.sub.nn hT), .tup (SqT.of upd_same) (.cons ?_ (.cons ((rx.mono T'.gs).mono (Ex.new (S'.sub.nn hT))) .nil))⟩
    have : Rp C.K (upd G' T (.tup [.int (n : Nat), x])) (.int (n : Nat)) (.int ((0 + n : Nat) : Int)) := by rw [Nat.zero_add]; exact .int _
    exact this
theorem tr_ienum {ts : TA} {us : UA} (h : TrA C W ts us) : TrI C W (iEnum C.K ts) (uIEnum us) := fun σ δ H G R R' X' S hu k kx =>
  h σ δ H G _ _ X' S hu (fun vs ps δ1 H1 G1 S1 T1 r q => by
    obtain ⟨p, ds, es, o, rfl, e, rfl, rfl, q⟩ := q
    obtain ⟨v, rfl, r1⟩ := pas1 r
    have hn : ∀ d, p ≠ .tm d := fun d z => by subst z; exact r1
    rcases e with e | ⟨xs, e, rfl⟩
    · obtain ⟨a, us, rfl, t, hq, hk⟩ := src_list (Hs := H) S1 r1.pv e hn
      exact ⟨a, us, rfl, hq, k _ _ _ δ1 H1 G1 S1 T1 (it_enum hk t) (.inr ⟨p, rfl⟩) q⟩
    · have r' : Rp C.K G1 v (.scr xs) := rp_ct (Hs := H) S1 r1.pv e fun _ z => z.no (fun z => z) fun _ z => by cases z
      cases r' with
      | scr h => exact ⟨_, _, rfl, sl_ex h S1.sub, k _ _ _ δ1 H1 G1 S1 T1 (it_enum (fun σ' δ' H' G' S' T' => sl_ex (sl_ex h T'.gs) S'.sub) (rpl_ints xs)) (.inr ⟨p, rfl⟩) q⟩) kx
/-! ### for -/
def UEnds.loop (E : UEnds) (o : Option Nat) (N : List Sl → Prop) : UEnds := { nx := N, ct := N, bk := fun δ => E.nx (unlkS o δ), rt := fun p δ => E.rt p (unlkS o δ), ex := fun x δ => E.ex x (unlkS o δ) }
def ForU (ds : List D) (o : Option Nat) (g : UG) (b : US) (E : UEnds) (δ : List Sl) : Prop := ∃ Inv : Nat → List Sl → Prop, Inv 0 (lockS o δ) ∧ (∀ (n : Nat) d δ, ds[n]? = some d → Inv n δ → g (.fz d) δ fun δ2 => b (E.loop o (Inv (n + 1))) δ2) ∧ ∀ δ, Inv ds.length δ → E.nx (unlkS o δ)
def uFor (ui : UI) (g : UG) (b : US) : US := fun E δ => ui δ (fun ds o δ1 => ForU ds o g b E δ1) E.ex
theorem PvR.unlk {o : Option Nat} (h : PvR C σ δ Hs H G v p) (hO : ∀ a, Ow σ (unlkS o δ) a → Ow σ δ a) : PvR C σ (unlkS o δ) Hs H G v p := by
  cases p with
  | fz d => exact h
  | «at» i => exact h
  | tm d =>
    obtain ⟨a, e, h1, h2, h3, h4, h5⟩ := h
    exact ⟨a, e, h1, h2, h3, fun z => h4 (hO a z), h5⟩
theorem unlk_ow {o : Option Nat} {a : Addr} (h : Ow σ (unlkS o δ) a) : Ow σ δ a := by
  obtain ⟨j, t, hj, ht, hx⟩ := h
  unfold unlkS at hj
  cases o with
  | none => exact ⟨j, t, hj, ht, hx⟩
  | some i =>
    dsimp only at hj
    cases hi : δ[i]? with
    | none => rw [hi] at hj; exact ⟨j, t, hj, ht, hx⟩
    | some s =>
      rw [hi] at hj
      dsimp only at hj
      by_cases e : i = j
      · subst e
        rw [List.getElem?_set_self (List.getElem?_eq_some_iff.mp hi).1] at hj
        cases hj
        exact ⟨i, s, hi, (by cases s <;> first | rfl | exact ht), hx⟩
      · rw [List.getElem?_set_ne e] at hj; exact ⟨j, t, hj, ht, hx⟩
theorem tr_for {wi : TI} {ui : UI} {g : TG} {ug : UG} (hi : TrI C W wi ui) (hg : TrG C g ug) (h : TrS C W t u) : TrS C W (tFor wi g t) (uFor ui ug u) := fun σ δ H G E E' S e hu =>
  hi σ δ H G _ _ _ S hu (fun J ds o δ1 H1 G1 S1 T1 it lk q => by
    obtain ⟨Inv, h0, hs, hd⟩ := q
    have L1 := lock_ok S1 o
    refine ⟨fun n m σ' H' => m = ds.length - n ∧ n ≤ ds.length ∧ ∃ δ' G', SR C σ' δ' H' G' ∧ Stp σ (lockS o δ1) H1 G1 σ' δ' H' G' ∧ Inv n δ', ⟨ds.length, rfl, Nat.zero_le _, _, G1, L1, .refl, h0⟩, ?_⟩
    rintro n m σ2 H2 ⟨rfl, hn, δ2, G2, S2, T2, i2⟩
    obtain ⟨gy, st⟩ := it σ2 δ2 H2 G2 S2 T2.lat
    by_cases hlt : n < ds.length
    · have hdn : ds[n]? = some ds[n] := List.getElem?_eq_getElem hlt
      obtain ⟨go, yl⟩ := gy n _ hdn
      refine .inr ⟨go, fun σ' H' => ∃ δ' G', SR C σ' δ' H' G' ∧ Stp σ (lockS o δ1) H1 G1 σ' δ' H' G' ∧ Inv (n + 1) δ', fun σ' H' ⟨δ', G', S', T', i'⟩ => ⟨_, by omega, rfl, by omega, δ', G', S', T', i'⟩, fun x H3 hy => ?_⟩
      obtain ⟨G3, S3, T3, r3⟩ := yl x H3 hy
      refine hg σ2 δ2 H3 G3 H3 x (.fz ds[n]) _ _ S3 r3 (hs n _ δ2 hdn i2) fun σ4 δ4 H4 G4 S4 T4 q4 => ?_
      have T24 := (T2.trans T3).trans (T4.2 σ2 δ2 G3 .refl)
      refine h σ4 δ4 H4 G4 _ _ S4 ⟨fun σ' δ' H' G' S' T' q => ⟨δ', G', S', T24.trans T', q⟩, fun v p σ' δ' H' G' S' T' r q => ?_, fun σ' δ' H' G' S' T' q => ?_, fun σ' δ' H' G' S' T' q => ⟨δ', G', S', T24.trans T', q⟩, fun x cls d σ' δ' H' G' S' T' r q => ?_⟩ q4
      · obtain ⟨S5, T5⟩ := unlkR S1 lk S' (T24.trans T')
        exact e.rt v p σ' _ H' G' S5 (T1.trans T5) ((r.start fun a z => T1.nn (T24.nn z)).unlk fun a => unlk_ow) q
      · obtain ⟨S5, T5⟩ := unlkR S1 lk S' (T24.trans T')
        exact e.nx σ' _ H' G' S5 (T1.trans T5) q
      · obtain ⟨S5, T5⟩ := unlkR S1 lk S' (T24.trans T')
        exact e.ex x cls d σ' _ H' G' S5 (T1.trans T5) r q
    · have en : n = ds.length := by omega
      subst en
      obtain ⟨S5, T5⟩ := unlkR S1 lk S2 T2
      exact .inl ⟨st, e.nx σ2 _ H2 G2 S5 (T1.trans T5) (hd δ2 i2)⟩) e.xc
end
end WK
/-! Comprehensions by data. -/
namespace WK
open PySem L2 PySem.Spec PyProof.Rows
def wipeS (δ : List Sl) : List Nat → List Sl
  | [] => δ
  | v :: vs => (wipeS δ vs).set v .un
/-- the slots vs as they stood -/
def restS (δ0 δ : List Sl) : List Nat → List Sl
  | [] => δ
  | v :: vs => match δ0[v]? with | some s => (restS δ0 δ vs).set v s | none => restS δ0 δ vs
theorem wipe_ne {σ : L2.St} {j : Nat} : ∀ {ns : List Nat}, j ∉ ns → (wipe σ ns)[j]? = σ[j]?
  | [], _ => rfl
  | v :: ns, h => by
    rw [List.mem_cons, not_or] at h
    show ((wipe σ ns).set v none)[j]? = _
    rw [List.getElem?_set_ne (Ne.symm h.1)]; exact wipe_ne h.2
theorem wipeS_len {δ : List Sl} : ∀ {ns : List Nat}, (wipeS δ ns).length = δ.length
  | [] => rfl
  | v :: ns => by show ((wipeS δ ns).set v .un).length = _; rw [List.length_set]; exact wipeS_len
theorem wipeS_ne {δ : List Sl} {j : Nat} : ∀ {ns : List Nat}, j ∉ ns → (wipeS δ ns)[j]? = δ[j]?
  | [], _ => rfl
  | v :: ns, h => by
    rw [List.mem_cons, not_or] at h
    show ((wipeS δ ns).set v .un)[j]? = _
    rw [List.getElem?_set_ne (Ne.symm h.1)]; exact wipeS_ne h.2
theorem wipeS_in {δ : List Sl} {j : Nat} {s : Sl} : ∀ {ns : List Nat}, j ∈ ns → (wipeS δ ns)[j]? = some s → s = .un
  | v :: ns, h, e => by
    by_cases hv : v = j
    · subst hv
      have e' : ((wipeS δ ns).set v .un)[v]? = some s := e
      by_cases hl : v < (wipeS δ ns).length
      · rw [List.getElem?_set_self hl] at e'; cases e'; rfl
      · rw [List.getElem?_eq_none (by rw [List.length_set]; omega)] at e'; cases e'
    · have e' : ((wipeS δ ns).set v .un)[j]? = some s := e
      rw [List.getElem?_set_ne hv] at e'
      exact wipeS_in (by rcases List.mem_cons.mp h with z | z; exact absurd z.symm hv; exact z) e'
theorem wipe_in {σ : L2.St} {j : Nat} : ∀ {ns : List Nat}, j ∈ ns → (wipe σ ns)[j]? = if j < σ.length then some none else none
  | w :: ns, h => by
    show ((wipe σ ns).set w none)[j]? = _
    by_cases ew : w = j
    · subst ew; rw [List.getElem?_set]; simp [wipe_length]
    · rw [List.getElem?_set_ne ew]
      exact wipe_in (by rcases List.mem_cons.mp h with z | z; exact absurd z.symm ew; exact z)
theorem wipe_wipe {σ : L2.St} {ns : List Nat} : wipe (wipe σ ns) ns = wipe σ ns := by
  apply List.ext_getElem?
  intro j
  by_cases hj : j ∈ ns
  · rw [wipe_in hj, wipe_in hj, wipe_length]
  · rw [wipe_ne hj]
/-- the slots vs are told nothing of -/
def Wp (ns : List Nat) (δ : List Sl) : Prop := ∀ (j : Nat) s, j ∈ ns → δ[j]? = some s → s = .un
theorem wipe_set {x : Option V} {i : Nat} : ∀ {ns : List Nat} {σ : L2.St}, i ∈ ns → wipe (σ.set i x) ns = wipe σ ns := by
  intro ns
  induction ns with
  | nil => intro σ h; cases h
  | cons v ns ih =>
    intro σ h
    show (wipe (σ.set i x) ns).set v none = (wipe σ ns).set v none
    by_cases hi : i ∈ ns
    · rw [ih hi]
    · have e : i = v := by rcases List.mem_cons.mp h with z | z; exact z; exact absurd z hi
      subst e
      apply List.ext_getElem?
      intro j
      by_cases ej : i = j
      · subst ej
        simp only [List.getElem?_set, if_true, wipe_length, List.length_set]
      · rw [List.getElem?_set_ne ej, List.getElem?_set_ne ej]
        by_cases hj : j ∈ ns
        · rw [wipe_in hj, wipe_in hj, List.length_set]
        · rw [wipe_ne hj, wipe_ne hj, List.getElem?_set_ne ej]
/-- a store among the block's own names -/
def GIn (ns : List Nat) (g : TG) : Prop := ∀ v σ H Q, g v σ H Q → g v σ H fun σ' H' => Q σ' H' ∧ wipe σ' ns = wipe σ ns
def GsIn (ns : List Nat) (g : TGs) : Prop := ∀ v σ H Q, g v σ H Q → g v σ H fun σ' H' => Q σ' H' ∧ wipe σ' ns = wipe σ ns
theorem gin_name {ns : List Nat} {i : Nat} (h : i ∈ ns) : GIn ns (gName i) := fun v σ H Q q => ⟨q, wipe_set h⟩
theorem gin_nil {ns : List Nat} : GsIn ns gNil := fun v σ H Q ⟨e, q⟩ => ⟨e, q, rfl⟩
theorem gin_tup {ns : List Nat} {K : PySem.W.Frag} {n : Nat} {t : TGs} (h : GsIn ns t) : GIn ns (gTup K n t) := fun v σ H Q ⟨a, xs, e, s, l, q⟩ => ⟨a, xs, e, s, l, h _ _ _ _ q⟩
section
variable {C : Ctx} {W : WX} {σ σ' σ2 : L2.St} {δ δ' : List Sl} {H H' G G' Hs : Hp} {v w : V} {p q : Pv} {d : D} {vs : List V} {ds : List D} {ns : List Nat} {i j : Nat} {K : PySem.W.Frag} {a : Addr} {o o' : HO}
/-- stores that only write slots -/
def GMono (g : TG) : Prop := ∀ v σ H (Q Q' : L2.St → Hp → Prop), (∀ σ' H', Q σ' H' → Q' σ' H') → g v σ H Q → g v σ H Q'
def GsMono (g : TGs) : Prop := ∀ v σ H (Q Q' : L2.St → Hp → Prop), (∀ σ' H', Q σ' H' → Q' σ' H') → g v σ H Q → g v σ H Q'
theorem gmono_name : GMono (gName i) := fun v σ H Q Q' k q => k _ _ q
theorem gmono_nil : GsMono gNil := fun v σ H Q Q' k ⟨e, q⟩ => ⟨e, k _ _ q⟩
theorem gmono_cons {g : TG} {gs : TGs} (h1 : GMono g) (h2 : GsMono gs) : GsMono (gCons g gs) := fun v σ H Q Q' k ⟨x, r, e, q⟩ => ⟨x, r, e, h1 _ _ _ _ _ (fun σ' H' q' => h2 _ _ _ _ _ k q') q⟩
theorem gmono_tup {n : Nat} {gs : TGs} (h : GsMono gs) : GMono (gTup K n gs) := fun v σ H Q Q' k ⟨a, xs, e, s, l, q⟩ => ⟨a, xs, e, s, l, h _ _ _ _ _ k q⟩
theorem gin_cons {g : TG} {gs : TGs} (m : GMono g) (m2 : GsMono gs) (h1 : GIn ns g) (h2 : GsIn ns gs) : GsIn ns (gCons g gs) := fun v σ H Q ⟨x, r, e, q⟩ => ⟨x, r, e, m _ _ _ _ _ (fun σ' H' ⟨q', ew⟩ => m2 _ _ _ _ _ (fun σ2 H2 ⟨q2, e2⟩ => ⟨q2, e2.trans ew⟩) (h2 _ _ _ _ q')) (h1 _ _ _ _ q)⟩
theorem SR.wipe (S : SR C σ δ H G) (ns : List Nat) : SR C (L2.wipe σ ns) (wipeS δ ns) H G := by
  have key : ∀ (j : Nat) s, (wipeS δ ns)[j]? = some s → s = .un ∨ (j ∉ ns ∧ δ[j]? = some s ∧ (L2.wipe σ ns)[j]? = σ[j]?) := fun j s h => by
    by_cases hj : j ∈ ns
    · exact .inl (wipeS_in hj h)
    · exact .inr ⟨hj, by rw [← wipeS_ne hj]; exact h, wipe_ne hj⟩
  refine ⟨S.sub, S.nt, S.gq, S.fr, S.pl, S.tab, by rw [wipe_length, wipeS_len]; exact S.len, fun j s h => ?_, fun j k b s t hj hk hs ht e1 e2 => ?_⟩
  · rcases key j s h with rfl | ⟨_, h1, h2⟩
    · trivial
    · rw [h2]; exact S.sl j s h1
  · rcases key j s hj with rfl | ⟨_, h1, h2⟩
    · cases hs
    · rcases key k t hk with rfl | ⟨_, h3, h4⟩
      · cases ht
      · exact S.dj j k b s t h1 h3 hs ht (h2 ▸ e1) (h4 ▸ e2)
theorem wipe_mu (h : Mu (L2.wipe σ ns) (wipeS δ ns) a) : Mu σ δ a := by
  obtain ⟨j, s, h1, h2, h3⟩ := h
  by_cases hj : j ∈ ns
  · rw [wipeS_in hj h1] at h2; cases h2
  · exact ⟨j, s, by rw [← wipeS_ne hj]; exact h1, h2, by rw [← wipe_ne hj]; exact h3⟩
theorem wipe_ow (h : Ow (L2.wipe σ ns) (wipeS δ ns) a) : Ow σ δ a := by
  obtain ⟨j, s, h1, h2, h3⟩ := h
  by_cases hj : j ∈ ns
  · rw [wipeS_in hj h1] at h2; cases h2
  · exact ⟨j, s, by rw [← wipeS_ne hj]; exact h1, h2, by rw [← wipe_ne hj]; exact h3⟩
/-- a turn's end: the block's own names are forgotten again -/
theorem turn_end {σw : L2.St} (S : SR C σ2 δ' H' G') (T : Stp σw δ H G σ2 δ' H' G') (hw : Wp ns δ) (e : L2.wipe σ2 ns = σw) : SR C σw (wipeS δ' ns) H' G' ∧ Stp σw δ H G σw (wipeS δ' ns) H' G' := by
  have S1 := S.wipe ns
  rw [e] at S1
  refine ⟨S1, T.gs, T.fr, T.gk, fun b u z n h => T.mu b u z n (wipe_mu (ns := ns) (by rw [e]; exact h)), fun b u z n h => T.ow b u z n (wipe_ow (ns := ns) (by rw [e]; exact h)), fun j s hj hk => ?_, T.dm⟩
  have hn : j ∉ ns := fun z => by rw [hw j s z hj] at hk; cases hk
  obtain ⟨_, s', h1, h2⟩ := T.kp j s hj hk
  exact ⟨rfl, s', by rw [wipeS_ne hn]; exact h1, h2⟩
theorem restS_len {δ0 : List Sl} : ∀ {ns : List Nat}, (restS δ0 δ ns).length = δ.length
  | [] => rfl
  | v :: ns => by
    unfold restS
    cases δ0[v]? with
    | none => exact restS_len
    | some s => dsimp only; rw [List.length_set]; exact restS_len
theorem restS_ne {δ0 : List Sl} {j : Nat} : ∀ {ns : List Nat}, j ∉ ns → (restS δ0 δ ns)[j]? = δ[j]?
  | [], _ => rfl
  | v :: ns, h => by
    rw [List.mem_cons, not_or] at h
    unfold restS
    cases δ0[v]? with
    | none => exact restS_ne h.2
    | some s => dsimp only; rw [List.getElem?_set_ne (Ne.symm h.1)]; exact restS_ne h.2
theorem restS_in {δ0 : List Sl} {j : Nat} (hl : δ0.length = δ.length) : ∀ {ns : List Nat}, j ∈ ns → (restS δ0 δ ns)[j]? = δ0[j]?
  | v :: ns, h => by
    unfold restS
    cases hv : δ0[v]? with
    | none =>
      dsimp only
      by_cases e : v = j
      · subst e
        rw [hv]
        exact List.getElem?_eq_none (by rw [restS_len]; have := List.getElem?_eq_none_iff.mp hv; omega)
      · exact restS_in hl (by rcases List.mem_cons.mp h with z | z; exact absurd z.symm e; exact z)
    | some s =>
      dsimp only
      by_cases e : v = j
      · subst e
        have := (List.getElem?_eq_some_iff.mp hv).1
        rw [List.getElem?_set_self (by rw [restS_len]; omega)]; exact hv.symm
      · rw [List.getElem?_set_ne e]
        exact restS_in hl (by rcases List.mem_cons.mp h with z | z; exact absurd z.symm e; exact z)
/-- behind the block: its names are as they were -/
theorem block_end (S : SR C σ δ H G) (S' : SR C (L2.wipe σ ns) δ' H' G') (T : Stp (L2.wipe σ ns) (wipeS δ ns) H G (L2.wipe σ ns) δ' H' G') (hw : Wp ns δ') : SR C σ (restS δ δ' ns) H' G' ∧ Stp σ δ H G σ (restS δ δ' ns) H' G' := by
  have hl : δ.length = δ'.length := by rw [← S.len, ← S'.len, wipe_length]
  have key : ∀ (j : Nat) s, (restS δ δ' ns)[j]? = some s → (j ∈ ns ∧ δ[j]? = some s) ∨ (j ∉ ns ∧ δ'[j]? = some s) := fun j s h => by
    by_cases hj : j ∈ ns
    · exact .inl ⟨hj, by rw [← restS_in hl hj]; exact h⟩
    · exact .inr ⟨hj, by rw [← restS_ne hj]; exact h⟩
  have nM : ∀ b, ¬ Mu σ δ b → ¬ Mu (L2.wipe σ ns) (wipeS δ ns) b := fun b h z => h (wipe_mu z)
  -- an owner among ns stands apart
  have apart : ∀ (j : Nat) s b, j ∈ ns → δ[j]? = some s → s.isO = true → σ[j]? = some (some (.ref b)) → ¬ Ow (L2.wipe σ ns) (wipeS δ ns) b := fun j s b hj h1 h2 h3 ⟨k, t, g1, g2, g3⟩ => by
    by_cases hk : k ∈ ns
    · rw [wipeS_in hk g1] at g2; cases g2
    · rw [wipeS_ne hk] at g1
      rw [wipe_ne hk] at g3
      exact hk (S.dj j k b s t h1 g1 h2 g2 h3 g3 ▸ hj)
  refine ⟨⟨S'.sub, S'.nt, S'.gq, S'.fr, S'.pl, S'.tab, by rw [restS_len, ← hl]; exact S.len, fun j s h => ?_, fun j k b s t hj hk hs ht e1 e2 => ?_⟩, T.gs, fun b u z n m => T.fr b u z n (nM b m), fun b u z n q m => T.gk b u z n q (nM b m), ?_, ?_, fun j s h k => ?_, T.dm⟩
  · rcases key j s h with ⟨h0, h1⟩ | ⟨h0, h1⟩
    · refine (S.sl j s h1).keep T.gs fun b hb hx => ?_
      obtain ⟨u, hu, n, _⟩ := S.own_some ⟨j, s, h1, hb, hx⟩
      have nq : NTu u := S.own_ntu ⟨j, s, h1, hb, hx⟩ hu
      have nm : ¬ Mu (L2.wipe σ ns) (wipeS δ ns) b := fun z => apart j s b h0 h1 hb hx z.ow
      exact ⟨fun w hw => by rw [hu] at hw; cases hw; exact T.fr b u hu n nm, fun g => (T.gk b u hu n ‹_› nm).trans g⟩
    · have := S'.sl j s h1
      rw [wipe_ne h0] at this
      exact this
  · have own : ∀ (k : Nat) t, k ∉ ns → δ'[k]? = some t → t.isO = true → σ[k]? = some (some (.ref b)) → (∃ u, H b = some u ∧ NT u) → Ow (L2.wipe σ ns) (wipeS δ ns) b := fun k t h0 h1 h2 h3 ⟨u, hu, n⟩ => T.ow b u hu n ⟨k, t, h1, h2, by rw [wipe_ne h0]; exact h3⟩
    rcases key j s hj with ⟨a0, a1⟩ | ⟨a0, a1⟩
    · rcases key k t hk with ⟨b0, b1⟩ | ⟨b0, b1⟩
      · exact S.dj j k b s t a1 b1 hs ht e1 e2
      · obtain ⟨u, hu, n, _⟩ := S.own_some ⟨j, s, a1, hs, e1⟩
        exact absurd (own k t b0 b1 ht e2 ⟨u, hu, n⟩) (apart j s b a0 a1 hs e1)
    · rcases key k t hk with ⟨b0, b1⟩ | ⟨b0, b1⟩
      · obtain ⟨u, hu, n, _⟩ := S.own_some ⟨k, t, b1, ht, e2⟩
        exact absurd (own j s a0 a1 hs e1 ⟨u, hu, n⟩) (apart k t b b0 b1 ht e2)
      · exact S'.dj j k b s t a1 b1 hs ht (by rw [wipe_ne a0]; exact e1) (by rw [wipe_ne b0]; exact e2)
  · rintro b u z n ⟨j, s, h, hs, hx⟩
    rcases key j s h with ⟨h0, h1⟩ | ⟨h0, h1⟩
    · exact ⟨j, s, h1, hs, hx⟩
    · exact wipe_mu (T.mu b u z n ⟨j, s, h1, hs, by rw [wipe_ne h0]; exact hx⟩)
  · rintro b u z n ⟨j, s, h, hs, hx⟩
    rcases key j s h with ⟨h0, h1⟩ | ⟨h0, h1⟩
    · exact ⟨j, s, h1, hs, hx⟩
    · exact wipe_ow (T.ow b u z n ⟨j, s, h1, hs, by rw [wipe_ne h0]; exact hx⟩)
  · refine ⟨rfl, ?_⟩
    by_cases hj : j ∈ ns
    · exact ⟨s, by rw [restS_in hl hj]; exact h, KeepS.refl s⟩
    · obtain ⟨_, s', h1, h2⟩ := T.kp j s (by rw [wipeS_ne hj]; exact h) k
      exact ⟨s', by rw [restS_ne hj]; exact h1, h2⟩
/-- the list that a comprehension fills -/
theorem SR.tmpMut (S : SR C σ δ H G) (ha : H a = some o) (hx : ∀ φ, o ≠ .ext φ) (hn : NT o) (hn' : NT o') (g : G a = none) (nO : ¬ Ow σ δ a) (f : Fr0 C a) (hq' : NTu o' := by exact fun _ z => by cases z) : SR C σ δ (upd H a o') G := by
  refine ⟨fun b u z => ?_, S.nt, S.gq, fun b u z n m => ?_, fun b m => ?_, tabs_at S.tab fun b u z w => ?_, S.len, fun j s h => (S.sl j s h).keep (Ex.refl _) fun b hb hx => ⟨fun w hw => ?_, fun g => g⟩, S.dj⟩
  · rw [upd_ne (fun e => by subst e; rw [g] at z; cases z)]; exact S.sub _ _ z
  · rw [upd_ne (show b ≠ a from fun e => f u (e ▸ z) n)]; exact S.fr b u z n m
  · by_cases e : b = a
    · subst e; exact ⟨o', upd_same, hn', hq'⟩
    · obtain ⟨u, hu, n⟩ := S.pl b m
      exact ⟨u, by rw [upd_ne e]; exact hu, n⟩
  · rw [upd_ne (fun e => by
      subst e; rw [ha] at z; cases z
      rcases w with ⟨ps, rfl⟩ | ⟨φ, rfl⟩
      · exact hn ps rfl
      · exact hx φ rfl)]; exact z
  · rw [upd_ne (show b ≠ a from fun e => nO (e ▸ ⟨j, s, h, hb, hx⟩))]; exact hw
theorem Stp.tmpMut {σ0 : L2.St} {δ0 : List Sl} {H0 G0 : Hp} (T : Stp σ0 δ0 H0 G0 σ δ H G) (n0 : Nn H0 a) (hn' : NT o') : Stp σ0 δ0 H0 G0 σ δ (upd H a o') G := by
  refine ⟨T.gs, fun b u z n m => ?_, T.gk, T.mu, T.ow, T.kp, fun b u z n => ?_⟩
  · rw [upd_ne (show b ≠ a from fun e => n0 u (e ▸ z) n)]; exact T.fr b u z n m
  · rw [upd_ne (show b ≠ a from fun e => n0 u (e ▸ z) n)]; exact T.dm b u z n
/-! ### list comprehensions -/
def noX : UX := fun _ _ => False
def LcU (ds : List D) (o : Option Nat) (g : UG) (tt : UT) (te : UE) (ns : List Nat) (Q : UK) (δ : List Sl) : Prop := ∃ Inv : Nat → List D → List Sl → Prop, Inv 0 [] (wipeS (lockS o δ) ns) ∧
  (∀ (n : Nat) d acc δ, ds[n]? = some d → acc.length ≤ n → Wp ns δ → Inv n acc δ → g (.fz d) δ fun δ2 => tt δ2 (fun b δ3 => if b = true then te δ3 (fun p δ4 => uSto p δ4 fun e δ5 => Inv (n + 1) (acc ++ [e]) (wipeS δ5 ns)) noX else Inv (n + 1) acc (wipeS δ3 ns)) noX) ∧
  ∀ acc δ', acc.length ≤ ds.length → Wp ns δ' → Inv ds.length acc δ' → Q (.tm (.lst acc)) (unlkS o (restS (lockS o δ) δ' ns))
def uLc (ui : UI) (g : UG) (tt : UT) (te : UE) (ns : List Nat) : UE := fun δ Q X => ui δ (fun ds o δ1 => ds.length ≤ 1000000 ∧ LcU ds o g tt te ns Q δ1) X
theorem wp_wipe : Wp ns (wipeS δ ns) := fun j s h e => wipeS_in h e
/-- what the block has made so far -/
structure Bk (C : Ctx) (σw : L2.St) (δw : List Sl) (H1 G1 : Hp) (ns : List Nat) (A : Addr) (δ' : List Sl) (H' G' : Hp) : Prop where
  S : SR C σw δ' H' G'
  T : Stp σw δw H1 G1 σw δ' H' G'
  wp : Wp ns δ'
  g : G' A = none
  nO : ¬ Ow σw δ' A
theorem itR_wipe {J : It} (it : ItR C σ δ H G J ds) : ItR C (L2.wipe σ ns) (wipeS δ ns) H G J ds := fun σ' δ' H' G' S' L => it σ' δ' H' G' S' ⟨L.gs, fun b u z n m => L.fr b u z n fun h => m (wipe_mu h)⟩
theorem tr_lc {wi : TI} {ui : UI} {g : TG} {ug : UG} {tt : TT} {ut : UT} {te : TE} {ue : UE} (hi : TrI C W wi ui) (hg : TrG C g ug) (gm : GMono g) (gi : GIn ns g) (ht : TrT C (fun _ _ _ _ => False) tt ut) (he : TrE C (fun _ _ _ _ => False) te ue) : TrE C W (tLc wi g tt te ns) (uLc ui ug ut ue ns) := fun σ δ H G Q Q' X' S hu k kx =>
  hi σ δ H G _ _ _ S hu (fun J ds o δ1 H1 G1 S1 T1 it lk q => by
    obtain ⟨hds, Inv, h0, hs, hd⟩ := q
    intro A hA
    have L1 := lock_ok S1 o
    have Sw := L1.wipe ns
    have itw := itR_wipe (ns := ns) it
    have fA := S1.fr0 hA
    have nA : Nn H1 A := .of hA
    have gA : G1 A = none := S1.sub.nn hA
    have oA : ¬ Ow (L2.wipe σ ns) (wipeS (lockS o δ1) ns) A := fun z => by
      obtain ⟨u, hu, _⟩ := Sw.own_some z
      rw [hA] at hu; cases hu
    refine ⟨fun n m H' => m = ds.length - n ∧ n ≤ ds.length ∧ ∃ acc ads δ' G', Bk C (L2.wipe σ ns) (wipeS (lockS o δ1) ns) H1 G1 ns A δ' H' G' ∧ H' A = some (.lst acc) ∧ RpL C.K G' acc ads ∧ ads.length ≤ n ∧ Inv n ads δ',
      ⟨ds.length, rfl, Nat.zero_le _, [], [], _, G1, ⟨Sw.tmp hA, .tmp hA, wp_wipe, gA, oA⟩, upd_same, .nil, Nat.le_refl _, h0⟩, ?_⟩
    rintro n m H2 ⟨rfl, hn, acc, ads, δ2, G2, B2, hacc, racc, hal, i2⟩
    obtain ⟨gy, st⟩ := itw _ δ2 H2 G2 B2.S B2.T.lat
    by_cases hlt : n < ds.length
    · have hdn : ds[n]? = some ds[n] := List.getElem?_eq_getElem hlt
      obtain ⟨go, yl⟩ := gy n _ hdn
      refine .inr ⟨go, fun H' => ∃ acc ads δ' G', Bk C (L2.wipe σ ns) (wipeS (lockS o δ1) ns) H1 G1 ns A δ' H' G' ∧ H' A = some (.lst acc) ∧ RpL C.K G' acc ads ∧ ads.length ≤ n + 1 ∧ Inv (n + 1) ads δ', fun H' ⟨acc, ads, δ', G', b, h1, h2, h3, h4⟩ => ⟨_, by omega, rfl, by omega, acc, ads, δ', G', b, h1, h2, h3, h4⟩, fun x H3 hy => ?_⟩
      obtain ⟨G3, S3, T3, r3⟩ := yl x H3 hy
      -- the filled list outlives a step
      have keep : ∀ {σ' δ' H' G'}, Stp (L2.wipe σ ns) δ2 H2 G2 σ' δ' H' G' → H' A = some (.lst acc) ∧ G' A = none ∧ ¬ Ow σ' δ' A := fun {σ' δ' H' G'} T => by
        have nm : ¬ Mu (L2.wipe σ ns) δ2 A := fun z => B2.nO z.ow
        exact ⟨T.fr A _ hacc (fun _ z => by cases z) nm, (T.gk A _ hacc (fun _ z => by cases z) (fun _ z => by cases z) nm).trans B2.g, fun z => B2.nO (T.ow A _ hacc (fun _ z => by cases z) z)⟩
      have g1 := gi x _ H3 _ (hg _ δ2 H3 G3 H3 x (.fz ds[n]) (fun σ4 H4 => ∃ δ4 G4, SR C σ4 δ4 H4 G4 ∧ Stp (L2.wipe σ ns) δ2 H2 G2 σ4 δ4 H4 G4 ∧ ut δ4 (fun b δ3 => if b = true then ue δ3 (fun p δ4 => uSto p δ4 fun e δ5 => Inv (n + 1) (ads ++ [e]) (wipeS δ5 ns)) noX else Inv (n + 1) ads (wipeS δ3 ns)) noX) _ S3 r3 (hs n _ ads δ2 hdn hal B2.wp i2) fun σ4 δ4 H4 G4 S4 T4 q4 => ⟨δ4, G4, S4, T3.trans (T4.2 _ δ2 G3 .refl), q4⟩)
      refine (show ∀ {P R : L2.St → Hp → Prop}, (∀ σ' H', P σ' H' → R σ' H') → g x (L2.wipe σ ns) H3 P → g x (L2.wipe σ ns) H3 R from fun {P R} m h => gm _ _ _ P R m h) ?_ g1
      rintro σ4 H4 ⟨⟨δ4, G4, S4, T4, q4⟩, ew⟩
      have ew' : L2.wipe σ4 ns = L2.wipe σ ns := by rw [ew]; exact wipe_wipe
      refine ⟨ew', ?_⟩
      refine ht σ4 δ4 H4 G4 _ _ noX S4 q4 (fun b δ5 H5 G5 S5 T5 q5 => ?_) (fun _ _ _ _ _ _ _ _ _ z => z.elim)
      cases b with
      | false =>
        rw [if_neg (by decide)] at q5 ⊢
        have T25 := T4.trans T5
        obtain ⟨S6, T6⟩ := turn_end S5 T25 B2.wp ew'
        obtain ⟨a1, a2, a3⟩ := keep T6
        exact ⟨acc, ads, _, G5, ⟨S6, B2.T.trans T6, wp_wipe, a2, a3⟩, a1, racc.mono T6.gs, by omega, q5⟩
      | true =>
        rw [if_pos rfl] at q5 ⊢
        refine he σ4 δ5 H5 G5 _ _ noX S5 q5 (fun y py δ6 H6 G6 S6 T6 r6 q6 => ?_) (fun _ _ _ _ _ _ _ _ _ z => z.elim)
        obtain ⟨e, δ7, G7, S7, T7, r7, q7⟩ := stoP S6 r6 q6
        have T27 := (T4.trans T5).trans (T7.2 σ4 δ5 G5 T6)
        obtain ⟨S8, T8⟩ := turn_end S7 T27 B2.wp ew'
        obtain ⟨a1, a2, a3⟩ := keep T8
        refine ⟨acc, a1, by rw [racc.length]; exact sz_lt (by omega), acc ++ [y], ads ++ [e], _, G7, ⟨S8.tmpMut a1 (fun _ z => by cases z) (fun _ z => by cases z) (fun _ z => by cases z) a2 a3 fA, (B2.T.trans T8).tmpMut nA (fun _ z => by cases z), wp_wipe, a2, a3⟩, upd_same, (racc.mono T8.gs).snoc r7, by simp; omega, q7⟩
    · have en : n = ds.length := by omega
      subst en
      obtain ⟨S5, T5⟩ := block_end L1 B2.S B2.T B2.wp
      obtain ⟨S6, T6⟩ := unlkR S1 lk S5 T5
      refine .inl ⟨st, k _ (.tm (.lst ads)) _ H2 G2 S6 (T1.trans T6) ⟨A, rfl, T1.nn nA, fA, B2.g, fun z => ?_, acc, hacc, racc⟩ (hd ads δ2 hal B2.wp i2)⟩
      -- nobody owns it
      have z1 := unlk_ow z
      obtain ⟨j, s, h1, h2, h3⟩ := z1
      by_cases hj : j ∈ ns
      · have hl : (lockS o δ1).length = δ2.length := by rw [← L1.len, ← B2.S.len, wipe_length]
        rw [restS_in hl hj] at h1
        obtain ⟨u, hu, _⟩ := L1.own_some ⟨j, s, h1, h2, h3⟩
        rw [hA] at hu; cases hu
      · rw [restS_ne hj] at h1
        exact B2.nO ⟨j, s, h1, h2, by rw [wipe_ne hj]; exact h3⟩) kx
/-! ### dict comprehensions -/
def DcU (ds : List D) (o : Option Nat) (g : UG) (tt : UT) (tk te : UE) (ns : List Nat) (Q : UK) (δ : List Sl) : Prop := ∃ Inv : Nat → List (Key × D) → List Sl → Prop, Inv 0 [] (wipeS (lockS o δ) ns) ∧
  (∀ (n : Nat) d acc δ, ds[n]? = some d → acc.length ≤ n → Wp ns δ → Inv n acc δ → g (.fz d) δ fun δ2 => tt δ2 (fun b δ3 => if b = true then tk δ3 (fun q δ4 => te δ4 (fun p δ5 => ∃ key, keyP q = some key ∧ uSto p δ5 fun e δ6 => Inv (n + 1) (putD acc key e) (wipeS δ6 ns)) noX) noX else Inv (n + 1) acc (wipeS δ3 ns)) noX) ∧
  ∀ acc δ', acc.length ≤ ds.length → Wp ns δ' → Inv ds.length acc δ' → Q (.tm (.dct acc)) (unlkS o (restS (lockS o δ) δ' ns))
def uDc (ui : UI) (g : UG) (tt : UT) (tk te : UE) (ns : List Nat) : UE := fun δ Q X => ui δ (fun ds o δ1 => ds.length ≤ 1000000 ∧ DcU ds o g tt tk te ns Q δ1) X
theorem tr_dc {wi : TI} {ui : UI} {g : TG} {ug : UG} {tt : TT} {ut : UT} {tk te : TE} {uk ue : UE} (hi : TrI C W wi ui) (hg : TrG C g ug) (gm : GMono g) (gi : GIn ns g) (ht : TrT C (fun _ _ _ _ => False) tt ut) (hk : TrE C (fun _ _ _ _ => False) tk uk) (he : TrE C (fun _ _ _ _ => False) te ue) : TrE C W (tDc wi g tt tk te ns) (uDc ui ug ut uk ue ns) := fun σ δ H G Q Q' X' S hu k kx =>
  hi σ δ H G _ _ _ S hu (fun J ds o δ1 H1 G1 S1 T1 it lk q => by
    obtain ⟨hds, Inv, h0, hs, hd⟩ := q
    intro A hA
    have L1 := lock_ok S1 o
    have Sw := L1.wipe ns
    have itw := itR_wipe (ns := ns) it
    have fA := S1.fr0 hA
    have nA : Nn H1 A := .of hA
    have gA : G1 A = none := S1.sub.nn hA
    have oA : ¬ Ow (L2.wipe σ ns) (wipeS (lockS o δ1) ns) A := fun z => by
      obtain ⟨u, hu, _⟩ := Sw.own_some z
      rw [hA] at hu; cases hu
    refine ⟨fun n m H' => m = ds.length - n ∧ n ≤ ds.length ∧ ∃ acc ads δ' G', Bk C (L2.wipe σ ns) (wipeS (lockS o δ1) ns) H1 G1 ns A δ' H' G' ∧ H' A = some (.dK acc) ∧ RpM C.K G' acc ads ∧ ads.length ≤ n ∧ Inv n ads δ',
      ⟨ds.length, rfl, Nat.zero_le _, [], [], _, G1, ⟨Sw.tmp hA, .tmp hA, wp_wipe, gA, oA⟩, upd_same, .nil, Nat.le_refl _, h0⟩, ?_⟩
    rintro n m H2 ⟨rfl, hn, acc, ads, δ2, G2, B2, hacc, racc, hal, i2⟩
    obtain ⟨gy, st⟩ := itw _ δ2 H2 G2 B2.S B2.T.lat
    by_cases hlt : n < ds.length
    · have hdn : ds[n]? = some ds[n] := List.getElem?_eq_getElem hlt
      obtain ⟨go, yl⟩ := gy n _ hdn
      refine .inr ⟨go, fun H' => ∃ acc ads δ' G', Bk C (L2.wipe σ ns) (wipeS (lockS o δ1) ns) H1 G1 ns A δ' H' G' ∧ H' A = some (.dK acc) ∧ RpM C.K G' acc ads ∧ ads.length ≤ n + 1 ∧ Inv (n + 1) ads δ', fun H' ⟨acc, ads, δ', G', b, h1, h2, h3, h4⟩ => ⟨_, by omega, rfl, by omega, acc, ads, δ', G', b, h1, h2, h3, h4⟩, fun x H3 hy => ?_⟩
      obtain ⟨G3, S3, T3, r3⟩ := yl x H3 hy
      -- the filled list outlives a step
      have keep : ∀ {σ' δ' H' G'}, Stp (L2.wipe σ ns) δ2 H2 G2 σ' δ' H' G' → H' A = some (.dK acc) ∧ G' A = none ∧ ¬ Ow σ' δ' A := fun {σ' δ' H' G'} T => by
        have nm : ¬ Mu (L2.wipe σ ns) δ2 A := fun z => B2.nO z.ow
        exact ⟨T.fr A _ hacc (fun _ z => by cases z) nm, (T.gk A _ hacc (fun _ z => by cases z) (fun _ z => by cases z) nm).trans B2.g, fun z => B2.nO (T.ow A _ hacc (fun _ z => by cases z) z)⟩
      have g1 := gi x _ H3 _ (hg _ δ2 H3 G3 H3 x (.fz ds[n]) (fun σ4 H4 => ∃ δ4 G4, SR C σ4 δ4 H4 G4 ∧ Stp (L2.wipe σ ns) δ2 H2 G2 σ4 δ4 H4 G4 ∧ ut δ4 (fun b δ3 => if b = true then uk δ3 (fun q δ4 => ue δ4 (fun p δ5 => ∃ key, keyP q = some key ∧ uSto p δ5 fun e δ6 => Inv (n + 1) (putD ads key e) (wipeS δ6 ns)) noX) noX else Inv (n + 1) ads (wipeS δ3 ns)) noX) _ S3 r3 (hs n _ ads δ2 hdn hal B2.wp i2) fun σ4 δ4 H4 G4 S4 T4 q4 => ⟨δ4, G4, S4, T3.trans (T4.2 _ δ2 G3 .refl), q4⟩)
      refine (show ∀ {P R : L2.St → Hp → Prop}, (∀ σ' H', P σ' H' → R σ' H') → g x (L2.wipe σ ns) H3 P → g x (L2.wipe σ ns) H3 R from fun {P R} m h => gm _ _ _ P R m h) ?_ g1
      rintro σ4 H4 ⟨⟨δ4, G4, S4, T4, q4⟩, ew⟩
      have ew' : L2.wipe σ4 ns = L2.wipe σ ns := by rw [ew]; exact wipe_wipe
      refine ⟨ew', ?_⟩
      refine ht σ4 δ4 H4 G4 _ _ noX S4 q4 (fun b δ5 H5 G5 S5 T5 q5 => ?_) (fun _ _ _ _ _ _ _ _ _ z => z.elim)
      cases b with
      | false =>
        rw [if_neg (by decide)] at q5 ⊢
        have T25 := T4.trans T5
        obtain ⟨S6, T6⟩ := turn_end S5 T25 B2.wp ew'
        obtain ⟨a1, a2, a3⟩ := keep T6
        exact ⟨acc, ads, _, G5, ⟨S6, B2.T.trans T6, wp_wipe, a2, a3⟩, a1, racc.mono T6.gs, by omega, q5⟩
      | true =>
        rw [if_pos rfl] at q5 ⊢
        refine hk σ4 δ5 H5 G5 _ _ noX S5 q5 (fun yk pk δ6 H6 G6 S6 T6 r6 q6 => ?_) (fun _ _ _ _ _ _ _ _ _ z => z.elim)
        refine he σ4 δ6 H6 G6 _ _ noX S6 q6 (fun y py δ7 H7 G7 S7 T7 r7 q7 => ?_) (fun _ _ _ _ _ _ _ _ _ z => z.elim)
        obtain ⟨key, hkey, q7⟩ := q7
        obtain ⟨e, δ8, G8, S8, T8, r8, q8⟩ := stoP S7 r7 q7
        have T28 := ((T4.trans T5).trans T6).trans (T8.2 σ4 δ6 G6 T7)
        obtain ⟨S9, T9⟩ := turn_end S8 T28 B2.wp ew'
        obtain ⟨a1, a2, a3⟩ := keep T9
        have hpl : (putD ads key e).length ≤ ads.length + 1 := by
          unfold putD; split
          · rw [List.length_map]; omega
          · simp
        refine ⟨acc, key, kp_kV (r6.stp T7) hkey, a1, by rw [racc.length]; exact sz_lt (by omega), putK acc key y, putD ads key e, _, G8, ⟨S9.tmpMut a1 (fun _ z => by cases z) (fun _ z => by cases z) (fun _ z => by cases z) a2 a3 fA, (B2.T.trans T9).tmpMut nA (fun _ z => by cases z), wp_wipe, a2, a3⟩, upd_same, (racc.mono T9.gs).put key r8, by omega, q8⟩
    · have en : n = ds.length := by omega
      subst en
      obtain ⟨S5, T5⟩ := block_end L1 B2.S B2.T B2.wp
      obtain ⟨S6, T6⟩ := unlkR S1 lk S5 T5
      refine .inl ⟨st, k _ (.tm (.dct ads)) _ H2 G2 S6 (T1.trans T6) ⟨A, rfl, T1.nn nA, fA, B2.g, fun z => ?_, acc, hacc, racc⟩ (hd ads δ2 hal B2.wp i2)⟩
      -- nobody owns it
      have z1 := unlk_ow z
      obtain ⟨j, s, h1, h2, h3⟩ := z1
      by_cases hj : j ∈ ns
      · have hl : (lockS o δ1).length = δ2.length := by rw [← L1.len, ← B2.S.len, wipe_length]
        rw [restS_in hl hj] at h1
        obtain ⟨u, hu, _⟩ := L1.own_some ⟨j, s, h1, h2, h3⟩
        rw [hA] at hu; cases hu
      · rw [restS_ne hj] at h1
        exact B2.nO ⟨j, s, h1, h2, by rw [wipe_ne hj]; exact h3⟩) kx
end
end WK
/-! Defs by data. -/
namespace WK
open PySem L2 PySem.Spec PyProof.Rows
open LamX (Tabs)
def ArgR (K : PySem.W.Frag) (H G : Hp) (v : V) : Sl → Prop
  | .fz d => Rp K G v d
  | .io d => ∃ a, v = .ref a ∧ G a = none ∧ OwnR K H G a d
  | _ => False
/-- what may be changed -/
def ioA : List V → List Sl → List Addr
  | .ref a :: vs, .io _ :: ss => a :: ioA vs ss
  | _ :: vs, _ :: ss => ioA vs ss
  | _, _ => []
structure ArgsR (K : PySem.W.Frag) (T : List (Addr × Str)) (H G : Hp) (vs : List V) (ss : List Sl) : Prop where
  sub : Ex G H
  nt : ∀ a o, G a = some o → NT o
  tab : Tabs T H
  len : vs.length = ss.length
  al : ∀ (i : Nat) s v, ss[i]? = some s → vs[i]? = some v → ArgR K H G v s
  dj : ∀ (i j : Nat) a d e, ss[i]? = some (.io d) → ss[j]? = some (.io e) → vs[i]? = some (.ref a) → vs[j]? = some (.ref a) → i = j
structure Post (K : PySem.W.Frag) (T : List (Addr × Str)) (vs : List V) (ss : List Sl) (H G H' G' : Hp) (ss' : List Sl) : Prop where
  gs : Ex G G'
  sub : Ex G' H'
  nt : ∀ a o, G' a = some o → NT o
  tab : Tabs T H'
  fr : ∀ b o, H b = some o → NT o → b ∉ ioA vs ss → H' b = some o
  gk : ∀ b o, H b = some o → NT o → NTu o → G' b = G b
  io : ∀ (i : Nat) d a, ss[i]? = some (.io d) → vs[i]? = some (.ref a) → ∃ d', ss'[i]? = some (.io d') ∧ OwnR K H' G' a d'
def ResR (K : PySem.W.Frag) (H H' G' : Hp) (v : V) : Pv → Prop
  | .fz d => Rp K G' v d
  | .tm d => ∃ a, v = .ref a ∧ Nn H a ∧ G' a = none ∧ OwnR K H' G' a d
  | .at _ => False
abbrev UP := List Sl → (Pv → List Sl → Prop) → (Xn → List Sl → Prop) → Prop
def SpU (K : PySem.W.Frag) (T : List (Addr × Str)) (U : UP) : Sp := fun vs H Q E => ∃ (G : Hp) (ss : List Sl) (Q1 : Pv → List Sl → Prop) (X1 : Xn → List Sl → Prop), ArgsR K T H G vs ss ∧ U ss Q1 X1 ∧
  (∀ r ss' v H' G', Q1 r ss' → Post K T vs ss H G H' G' ss' → ResR K H H' G' v r → Q v H') ∧ (∀ x ss' cls d H' G', X1 x ss' → Post K T vs ss H G H' G' ss' → XR K H' G' x cls d → E cls d H')
/-- the slots at the entry -/
def startU (N : List Str) (ss : List Sl) : List Sl := ss ++ List.replicate (N.length - ss.length) .un
/-- what is handed back -/
def retK (Q : Pv → List Sl → Prop) (n : Nat) : Pv → List Sl → Prop := fun p δ => match p with
  | .fz d => Q (.fz d) (δ.take n)
  | .tm d => Q (.tm d) (δ.take n)
  | .at i => match δ[i]? with
    | some (.ow d) => Q (.tm d) (δ.take n)
    | some (.fz d) => Q (.fz d) (δ.take n)
    | _ => False
def endsU (Q : Pv → List Sl → Prop) (X : Xn → List Sl → Prop) (n : Nat) : UEnds := { nx := fun δ => Q (.fz .non) (δ.take n), rt := retK Q n, ex := fun x δ => X x (δ.take n) }
theorem mem_ioA {a : Addr} : ∀ {vs : List V} {ss : List Sl}, a ∈ ioA vs ss ↔ ∃ (i : Nat) (d : D), vs[i]? = some (.ref a) ∧ ss[i]? = some (.io d) := by
  intro vs
  induction vs with
  | nil => intro ss; unfold ioA; simp
  | cons v vs ih =>
    intro ss
    cases ss with
    | nil => unfold ioA; simp
    | cons s ss =>
      have tail : (∃ (i : Nat) (d : D), vs[i]? = some (.ref a) ∧ ss[i]? = some (.io d)) → ∃ (i : Nat) (d : D), (v :: vs)[i]? = some (.ref a) ∧ (s :: ss)[i]? = some (.io d) := fun ⟨i, d, h1, h2⟩ => ⟨i + 1, d, by simpa using h1, by simpa using h2⟩
      have back : (∃ (i : Nat) (d : D), (v :: vs)[i]? = some (.ref a) ∧ (s :: ss)[i]? = some (.io d)) → (v = .ref a ∧ ∃ d, s = .io d) ∨ ∃ (i : Nat) (d : D), vs[i]? = some (.ref a) ∧ ss[i]? = some (.io d) := fun ⟨i, d, h1, h2⟩ => by
        cases i with
        | zero => simp at h1 h2; exact .inl ⟨h1, d, h2⟩
        | succ i => exact .inr ⟨i, d, by simpa using h1, by simpa using h2⟩
      by_cases hv : (∃ b, v = .ref b) ∧ ∃ d, s = .io d
      · obtain ⟨⟨b, rfl⟩, d, rfl⟩ := hv
        unfold ioA
        rw [List.mem_cons, ih]
        constructor
        · rintro (rfl | h)
          · exact ⟨0, d, rfl, rfl⟩
          · exact tail h
        · intro h
          rcases back h with ⟨e, _⟩ | h
          · cases e; exact .inl rfl
          · exact .inr h
      · have e : ioA (v :: vs) (s :: ss) = ioA vs ss := by
          cases v <;> cases s <;> first | rfl | exact absurd ⟨⟨_, rfl⟩, _, rfl⟩ hv
        rw [e, ih]
        constructor
        · exact tail
        · intro h
          rcases back h with ⟨e, f⟩ | h
          · exact absurd ⟨⟨a, e⟩, f⟩ hv
          · exact h
section
variable {K : PySem.W.Frag} {T : List (Addr × Str)} {H G H' G' : Hp} {vs : List V} {ss : List Sl} {N : List Str} {U : UP} {C : Ctx}
theorem start_len (h : vs.length ≤ N.length) : (L2.start N vs).length = N.length := by unfold L2.start; simp; omega
theorem startU_len (h : ss.length ≤ N.length) : (startU N ss).length = N.length := by unfold startU; simp; omega
theorem startU_get {i : Nat} {s : Sl} (h : (startU N ss)[i]? = some s) : s = .un ∨ ss[i]? = some s := by
  unfold startU at h
  by_cases hi : i < ss.length
  · rw [List.getElem?_append_left hi] at h; exact .inr h
  · rw [List.getElem?_append_right (by omega)] at h
    have := List.mem_of_getElem? h
    rw [List.mem_replicate] at this
    exact .inl this.2
theorem start_get {i : Nat} (hi : i < vs.length) : (L2.start N vs)[i]? = some vs[i]? := by
  unfold L2.start
  rw [List.getElem?_append_left (by simpa using hi), List.getElem?_map, List.getElem?_eq_getElem hi]
  rfl
theorem args_SR (A : ArgsR K T H G vs ss) (hn : vs.length ≤ N.length) : SR ⟨K, T, H, G, ioA vs ss⟩ (L2.start N vs) (startU N ss) H G := by
  have got : ∀ (i : Nat) s, ss[i]? = some s → ∃ v, vs[i]? = some v ∧ (L2.start N vs)[i]? = some (some v) ∧ ArgR K H G v s := fun i s h => by
    have hi : i < vs.length := by rw [A.len]; exact (List.getElem?_eq_some_iff.mp h).1
    have hv : vs[i]? = some vs[i] := List.getElem?_eq_getElem hi
    exact ⟨vs[i], hv, by rw [start_get hi, hv], A.al i s _ h hv⟩
  refine ⟨A.sub, A.nt, fun _ _ _ _ _ => rfl, fun _ _ h _ _ => h, fun a ha => ?_, A.tab, by rw [start_len hn, startU_len (by rw [← A.len]; exact hn)], fun i s h => ?_, fun i j a s t hi hj hs ht e1 e2 => ?_⟩
  · obtain ⟨i, d, h1, h2⟩ := mem_ioA.mp ha
    obtain ⟨b, e, _, r⟩ := A.al i _ _ h2 h1
    cases e
    obtain ⟨o, ho, n, _⟩ := r.some
    exact ⟨o, ho, n, r.ntu ho⟩
  · rcases startU_get h with rfl | h
    · trivial
    · obtain ⟨v, hv, e, r⟩ := got i s h
      rw [e]
      cases s with
      | fz d => exact ⟨v, rfl, r⟩
      | io d =>
        obtain ⟨a, rfl, g, r⟩ := r
        exact ⟨a, rfl, mem_ioA.mpr ⟨i, d, hv, h⟩, g, r⟩
      | _ => exact r.elim
  · rcases startU_get hi with rfl | hi
    · cases hs
    · rcases startU_get hj with rfl | hj
      · cases ht
      · obtain ⟨v, hv, e, r⟩ := got i s hi
        obtain ⟨w, hw, e', r'⟩ := got j t hj
        rw [e] at e1; rw [e'] at e2
        cases e1; cases e2
        cases s with
        | io d =>
          cases t with
          | io d' => exact A.dj i j a d d' hi hj hv hw
          | fz d' => cases ht
          | _ => exact r'.elim
        | fz d => cases hs
        | _ => exact r.elim
theorem post_of {σ' : L2.St} {δ' : List Sl} (A : ArgsR K T H G vs ss) (hn : vs.length ≤ N.length) (S' : SR ⟨K, T, H, G, ioA vs ss⟩ σ' δ' H' G') (St : Stp (L2.start N vs) (startU N ss) H G σ' δ' H' G') : Post K T vs ss H G H' G' (δ'.take ss.length) := by
  refine ⟨St.gs, S'.sub, S'.nt, S'.tab, fun b o h n m => S'.fr b o h n m, fun b o h n q => S'.gq b o h n q, fun i d a hi ha => ?_⟩
  have hl : i < ss.length := (List.getElem?_eq_some_iff.mp hi).1
  have h0 : (startU N ss)[i]? = some (.io d) := by unfold startU; rw [List.getElem?_append_left hl]; exact hi
  obtain ⟨e1, s', h1, k⟩ := St.kp i _ h0 rfl
  rw [start_get (by rw [A.len]; exact hl), ha] at e1
  cases s' with
  | io d' =>
    obtain ⟨b, e, _, _, r⟩ := S'.sl i _ h1
    rw [e1] at e; cases e
    exact ⟨d', by rw [List.getElem?_take_of_lt hl]; exact h1, r⟩
  | _ => exact (show False from k).elim
/-- THE RULE: a def keeps its promise if its reading does -/
theorem spu_body {Q : VK} {E : XK} {t : TS} {u : US} (hn : ∀ ss Q X, U ss Q X → ss.length ≤ N.length) (hu : ∀ ss Q X, U ss Q X → u (endsU Q X ss.length) (startU N ss))
    (tr : ∀ H0 G0 P0, TrS ⟨K, T, H0, G0, P0⟩ (fun cls d _ H => E cls d H) t u) (h : SpU K T U vs H Q E) : t { nx := fun _ H' => Q .non H', rt := Q } (L2.start N vs) H := by
  obtain ⟨G, ss, Q1, X1, A, hU, kq, kx⟩ := h
  have hl : vs.length ≤ N.length := by rw [A.len]; exact hn _ _ _ hU
  have S := args_SR (N := N) A hl
  refine tr H G (ioA vs ss) (L2.start N vs) (startU N ss) H G _ (endsU Q1 X1 ss.length) S ⟨fun σ' δ' H' G' S' St q => kq _ _ .non H' G' q (post_of A hl S' St) .non, fun v p σ' δ' H' G' S' St r q => ?_, fun _ _ _ _ _ _ q => q.elim, fun _ _ _ _ _ _ q => q.elim, fun x cls d σ' δ' H' G' S' St r q => kx x _ cls d H' G' q (post_of A hl S' St) r⟩ (hu ss Q1 X1 hU)
  have P := post_of A hl S' St
  cases p with
  | fz d => exact kq (.fz d) _ v H' G' q P r
  | tm d =>
    obtain ⟨a, e, h1, h2, h3, h4, h5⟩ := r
    exact kq (.tm d) _ v H' G' q P ⟨a, e, h1, h3, h5⟩
  | «at» i =>
    have q' : retK Q1 ss.length (.at i) δ' := q
    unfold retK at q'
    cases hi : δ'[i]? with
    | none => simp only [hi] at q'
    | some s =>
      have r' : σ'[i]? = some (some v) := r
      have hs := S'.sl i s hi
      rw [r'] at hs
      cases s with
      | ow d =>
        simp only [hi] at q'
        obtain ⟨a, e, f, g, o⟩ := hs
        cases e
        exact kq (.tm d) _ _ H' G' q' P ⟨a, rfl, f, g, o⟩
      | fz d =>
        simp only [hi] at q'
        obtain ⟨w, e, r⟩ := hs
        cases e
        exact kq (.fz d) _ _ H' G' q' P r
      | _ => simp only [hi] at q'
theorem spu_len {n : Nat} {Q : VK} {E : XK} (hn : ∀ ss Q X, U ss Q X → ss.length = n) (h : SpU K T U vs H Q E) : vs.length = n := by
  obtain ⟨G, ss, Q1, X1, A, hU, _⟩ := h
  rw [A.len]; exact hn _ _ _ hU
end
/-! ### the caller's side -/
def passS (δ : List Sl) : Pv → Option Sl
  | .fz d => some (.fz d)
  | .tm _ => none
  | .at i => match δ[i]? with
    | some (.ow d) => some (.io d)
    | some (.io d) => some (.io d)
    | some (.fz d) => some (.fz d)
    | _ => none
def passLs (δ : List Sl) : List Pv → Option (List Sl)
  | [] => some []
  | p :: ps => match passS δ p, passLs δ ps with | some s, some ss => some (s :: ss) | _, _ => none
def ats : List Pv → List Nat
  | .at i :: ps => i :: ats ps
  | _ :: ps => ats ps
  | [] => []
def backS (δ : List Sl) : List Pv → List Sl → List Sl
  | .at i :: ps, .io d :: ss => pt (backS δ ps ss) i d
  | _ :: ps, _ :: ss => backS δ ps ss
  | _, _ => δ
/-- slots that are handed on twice are told -/
def nodupB : List Nat → Bool
  | [] => true
  | x :: xs => !(xs.elem x) && nodupB xs
theorem nodupB_ok : ∀ {xs : List Nat}, nodupB xs = true → xs.Nodup
  | [], _ => List.nodup_nil
  | x :: xs, h => by
    unfold nodupB at h
    rw [Bool.and_eq_true] at h
    refine List.nodup_cons.mpr ⟨fun z => ?_, nodupB_ok h.2⟩
    have := h.1
    rw [List.elem_eq_mem, decide_eq_true z] at this
    cases this
def okAts (δ : List Sl) (ps : List Pv) : Prop := nodupB ((ats ps).filter fun i => match δ[i]? with | some s => s.isM | none => false) = true
def okNd (δ : List Sl) (ps : List Pv) : Prop := ((ats ps).filter fun i => match δ[i]? with | some s => s.isM | none => false).Nodup
theorem okAts.nd {δ : List Sl} {ps : List Pv} (h : okAts δ ps) : okNd δ ps := nodupB_ok h
theorem passLs_get {δ : List Sl} : ∀ {ps : List Pv} {ss : List Sl}, passLs δ ps = some ss → ps.length = ss.length ∧ ∀ (k : Nat) p, ps[k]? = some p → ∃ s, ss[k]? = some s ∧ passS δ p = some s
  | [], ss, h => by cases h; exact ⟨rfl, fun k p e => by simp at e⟩
  | p :: ps, ss, h => by
    unfold passLs at h
    split at h
    · rename_i s ss' h1 h2
      cases h
      obtain ⟨l, r⟩ := passLs_get h2
      refine ⟨by simp [l], fun k q e => ?_⟩
      cases k with
      | zero => simp at e; subst e; exact ⟨s, rfl, h1⟩
      | succ k =>
        obtain ⟨t, a, b⟩ := r k q (by simpa using e)
        exact ⟨t, by simpa using a, b⟩
    · cases h
theorem ats_mem {i : Nat} : ∀ {ps : List Pv}, i ∈ ats ps ↔ ∃ k : Nat, ps[k]? = some (.at i)
  | [] => by simp [ats]
  | p :: ps => by
    have st : (∃ k : Nat, (p :: ps)[k]? = some (Pv.at i)) ↔ p = .at i ∨ ∃ k : Nat, ps[k]? = some (.at i) := by
      constructor
      · rintro ⟨k, h⟩
        cases k with
        | zero => simp at h; exact .inl h
        | succ k => exact .inr ⟨k, by simpa using h⟩
      · rintro (h | ⟨k, h⟩)
        · exact ⟨0, by simp [h]⟩
        · exact ⟨k + 1, by simpa using h⟩
    rw [st]
    cases p with
    | «at» j => simp only [ats, List.mem_cons, ats_mem]; constructor <;> (rintro (h | h) <;> first | exact .inr h | (left; first | (cases h; rfl) | (rw [h])))
    | fz d => simp only [ats, ats_mem]; simp
    | tm d => simp only [ats, ats_mem]; simp
theorem okNd_inj {δ : List Sl} {i : Nat} {s : Sl} (hs : δ[i]? = some s) (hm : s.isM = true) : ∀ {ps : List Pv}, okNd δ ps → ∀ (k l : Nat), ps[k]? = some (.at i) → ps[l]? = some (.at i) → k = l
  | [], _, k, l, h, _ => by simp at h
  | p :: ps, ok, k, l, h1, h2 => by
    have ok' : okNd δ ps := by
      unfold okNd at ok ⊢
      cases p with
      | «at» j => exact List.Nodup.sublist (List.Sublist.filter _ (List.sublist_cons_self _ _)) ok
      | fz d => exact ok
      | tm d => exact ok
    have no : p = .at i → ∀ m : Nat, ps[m]? ≠ some (.at i) := fun e m z => by
      subst e
      unfold okNd at ok
      simp only [ats] at ok
      rw [List.filter_cons_of_pos (by simp only [hs]; exact hm)] at ok
      refine (List.nodup_cons.mp ok).1 (List.mem_filter.mpr ⟨ats_mem.mpr ⟨m, z⟩, by simp only [hs]; exact hm⟩)
    cases k with
    | zero =>
      cases l with
      | zero => rfl
      | succ l => exact absurd (by simpa using h2) (no (by simpa using h1) l)
    | succ k =>
      cases l with
      | zero => exact absurd (by simpa using h1) (no (by simpa using h2) k)
      | succ l => rw [okNd_inj hs hm ok' k l (by simpa using h1) (by simpa using h2)]
theorem pt_get {δ : List Sl} {i j : Nat} {d : D} {s2 : Sl} (h : (pt δ i d)[j]? = some s2) : ∃ s1, δ[j]? = some s1 ∧ ((j ≠ i ∧ s2 = s1) ∨ (j = i ∧ s2 = s1.put d)) := by
  unfold pt at h
  cases hi : δ[i]? with
  | none =>
    simp only [hi] at h
    refine ⟨s2, h, .inl ⟨(fun e => by subst e; rw [hi] at h; cases h), rfl⟩⟩
  | some s =>
    simp only [hi] at h
    by_cases e : i = j
    · subst e
      rw [List.getElem?_set_self (List.getElem?_eq_some_iff.mp hi).1] at h
      cases h
      exact ⟨s, hi, .inr ⟨rfl, rfl⟩⟩
    · rw [List.getElem?_set_ne e] at h
      exact ⟨s2, h, .inl ⟨Ne.symm e, rfl⟩⟩
theorem Sl.put_put (s : Sl) (d e : D) : (s.put d).put e = s.put e := by cases s <;> rfl
theorem back_get {δ : List Sl} {j : Nat} {s2 : Sl} : ∀ {ps : List Pv} {ss : List Sl}, (backS δ ps ss)[j]? = some s2 → ∃ s1, δ[j]? = some s1 ∧ ((s2 = s1 ∧ ∀ (k : Nat) d, ps[k]? = some (.at j) → ss[k]? = some (.io d) → False) ∨ ∃ (k : Nat) (d : D), ps[k]? = some (.at j) ∧ ss[k]? = some (.io d) ∧ s2 = s1.put d)
  | [], ss, h => by
    have h' : δ[j]? = some s2 := by unfold backS at h; exact h
    exact ⟨s2, h', .inl ⟨rfl, fun k d e => by simp at e⟩⟩
  | p :: ps, [], h => by
    have h' : δ[j]? = some s2 := by
      cases p <;> (unfold backS at h; exact h)
    exact ⟨s2, h', .inl ⟨rfl, fun k d _ e => by simp at e⟩⟩
  | p :: ps, s :: ss, h => by
    by_cases hp : ∃ i d, p = .at i ∧ s = .io d
    · obtain ⟨i, d, rfl, rfl⟩ := hp
      have h' : (pt (backS δ ps ss) i d)[j]? = some s2 := by unfold backS at h; exact h
      obtain ⟨s1, h1, c⟩ := pt_get h'
      obtain ⟨s0, h0, c0⟩ := back_get h1
      rcases c with ⟨ne, rfl⟩ | ⟨rfl, rfl⟩
      · rcases c0 with ⟨rfl, no⟩ | ⟨k, e, a1, a2, a3⟩
        · refine ⟨s2, h0, .inl ⟨rfl, fun k e b1 b2 => ?_⟩⟩
          cases k with
          | zero => simp at b1; exact ne b1.symm
          | succ k => exact no k e (by simpa using b1) (by simpa using b2)
        · exact ⟨s0, h0, .inr ⟨k + 1, e, by simpa using a1, by simpa using a2, a3⟩⟩
      · refine ⟨s0, h0, .inr ⟨0, d, rfl, rfl, ?_⟩⟩
        rcases c0 with ⟨rfl, _⟩ | ⟨k, e, _, _, rfl⟩
        · rfl
        · rw [Sl.put_put]
    · have e : backS δ (p :: ps) (s :: ss) = backS δ ps ss := by
        cases p with
        | «at» i =>
          cases s with
          | io d => exact absurd ⟨i, d, rfl, rfl⟩ hp
          | _ => rfl
        | _ => rfl
      rw [e] at h
      obtain ⟨s0, h0, c0⟩ := back_get h
      refine ⟨s0, h0, ?_⟩
      rcases c0 with ⟨rfl, no⟩ | ⟨k, e, a1, a2, a3⟩
      · refine .inl ⟨rfl, fun k e b1 b2 => ?_⟩
        cases k with
        | zero => simp at b1 b2; exact hp ⟨j, e, b1, b2⟩
        | succ k => exact no k e (by simpa using b1) (by simpa using b2)
      · exact .inr ⟨k + 1, e, by simpa using a1, by simpa using a2, a3⟩
theorem pt_len {δ : List Sl} {i : Nat} {d : D} : (pt δ i d).length = δ.length := by
  unfold pt; cases δ[i]? <;> simp
theorem back_len {δ : List Sl} : ∀ {ps : List Pv} {ss : List Sl}, (backS δ ps ss).length = δ.length
  | [], ss => by unfold backS; rfl
  | p :: ps, [] => by cases p <;> (unfold backS; rfl)
  | p :: ps, s :: ss => by
    cases p with
    | «at» i =>
      cases s with
      | io d => exact pt_len.trans back_len
      | _ => exact back_len (ps := ps) (ss := ss)
    | _ => exact back_len (ps := ps) (ss := ss)
section
variable {C : Ctx} {W : WX} {σ : L2.St} {δ : List Sl} {H G H' G' Hs : Hp} {vs : List V} {ss ss' : List Sl} {ps : List Pv} {U : UP}
theorem pas_at {σ : L2.St} : ∀ {vs : List V} {ps : List Pv} {k : Nat} {p : Pv}, PasR C.K σ G vs ps → ps[k]? = some p → ∃ v, vs[k]? = some v ∧ PaR C.K σ G v p
  | _, _, _, _, .nil, h => by simp at h
  | _, _, 0, p, .cons a t, h => by simp at h; subst h; exact ⟨_, rfl, a⟩
  | _, _, k + 1, p, .cons a t, h => by
    obtain ⟨v, h1, h2⟩ := pas_at (k := k) (p := p) t (by simpa using h)
    exact ⟨v, by simpa using h1, h2⟩
theorem args_of (S : SR C σ δ H G) (rs : PasR C.K σ G vs ps) (hp : passLs δ ps = some ss) (ok : okAts δ ps) : ArgsR C.K C.T H G vs ss := by
  obtain ⟨l, g⟩ := passLs_get hp
  -- each argument
  have each : ∀ (k : Nat) s, ss[k]? = some s → ∃ p v, ps[k]? = some p ∧ vs[k]? = some v ∧ PaR C.K σ G v p ∧ passS δ p = some s := fun k s h => by
    have hk : k < ps.length := by rw [l]; exact (List.getElem?_eq_some_iff.mp h).1
    have hpk : ps[k]? = some ps[k] := List.getElem?_eq_getElem hk
    obtain ⟨s', h1, h2⟩ := g k _ hpk
    rw [h] at h1; cases h1
    obtain ⟨v, hv, r⟩ := pas_at rs hpk
    exact ⟨_, v, hpk, hv, r, h2⟩
  have one : ∀ {p v s}, PaR C.K σ G v p → passS δ p = some s → (∃ d, s = .fz d ∧ Rp C.K G v d) ∨ ∃ i t d a, p = .at i ∧ δ[i]? = some t ∧ t.isM = true ∧ s = .io d ∧ v = .ref a ∧ σ[i]? = some (some (.ref a)) ∧ G a = none ∧ OwnR C.K H G a d := fun {p v s} r h => by
    cases p with
    | fz d => cases h; exact .inl ⟨d, rfl, r⟩
    | tm d => cases h
    | «at» i =>
      have r' : σ[i]? = some (some v) := r
      unfold passS at h
      cases hi : δ[i]? with
      | none => simp only [hi] at h; cases h
      | some t =>
        have hs := S.sl i t hi
        rw [r'] at hs
        cases t with
        | ow d => simp only [hi] at h; cases h; obtain ⟨a, e, _, gn, o⟩ := hs; cases e; exact .inr ⟨i, _, d, a, rfl, hi, rfl, rfl, rfl, r', gn, o⟩
        | io d => simp only [hi] at h; cases h; obtain ⟨a, e, _, gn, o⟩ := hs; cases e; exact .inr ⟨i, _, d, a, rfl, hi, rfl, rfl, rfl, r', gn, o⟩
        | fz d => simp only [hi] at h; cases h; obtain ⟨w, e, o⟩ := hs; cases e; exact .inl ⟨d, rfl, o⟩
        | _ => simp only [hi] at h; cases h
  refine ⟨S.sub, S.nt, S.tab, by rw [rs.length, l], fun k s v h hv => ?_, fun k m a d e h1 h2 h3 h4 => ?_⟩
  · obtain ⟨p, v', hpk, hv', r, hs⟩ := each k s h
    rw [hv] at hv'; cases hv'
    rcases one r hs with ⟨d, rfl, r⟩ | ⟨i, t, d, a, _, _, _, rfl, rfl, _, gn, o⟩
    · exact r
    · exact ⟨a, rfl, gn, o⟩
  · obtain ⟨p, v, hpk, hv, r, hs⟩ := each k _ h1
    obtain ⟨p', v', hpk', hv', r', hs'⟩ := each m _ h2
    rw [h3] at hv; cases hv
    rw [h4] at hv'; cases hv'
    rcases one r hs with ⟨d, e, _⟩ | ⟨i, t, d, b, rfl, hi, hm, e, eb, hσ, _⟩
    · cases e
    · rcases one r' hs' with ⟨d, e, _⟩ | ⟨i', t', d', b', rfl, hi', hm', e', eb', hσ', _⟩
      · cases e
      · cases eb; cases eb'
        have := S.dj i i' a t t' hi hi' (t.isO_of hm) (t'.isO_of hm') hσ hσ'
        subst this
        exact okNd_inj hi hm ok.nd k m hpk hpk'
theorem back_ok (S : SR C σ δ H G) (rs : PasR C.K σ G vs ps) (hp : passLs δ ps = some ss) (ok : okAts δ ps) (P : Post C.K C.T vs ss H G H' G' ss') : SR C σ (backS δ ps ss') H' G' ∧ Stp σ δ H G σ (backS δ ps ss') H' G' := by
  obtain ⟨l, g⟩ := passLs_get hp
  -- what is handed on to be changed is a slot that may turn
  have bor : ∀ a, a ∈ ioA vs ss → ∃ (k i : Nat) (t : Sl) (d : D), ps[k]? = some (.at i) ∧ ss[k]? = some (.io d) ∧ δ[i]? = some t ∧ t.isM = true ∧ σ[i]? = some (some (.ref a)) ∧ vs[k]? = some (.ref a) := fun a ha => by
    obtain ⟨k, d, h1, h2⟩ := mem_ioA.mp ha
    have hk : k < ps.length := by rw [l]; exact (List.getElem?_eq_some_iff.mp h2).1
    have hpk : ps[k]? = some ps[k] := List.getElem?_eq_getElem hk
    obtain ⟨s', g1, g2⟩ := g k _ hpk
    rw [h2] at g1; cases g1
    obtain ⟨v, hv, r⟩ := pas_at rs hpk
    rw [h1] at hv; cases hv
    generalize ps[k] = p at hpk g2 r
    cases p with
    | fz d => cases g2
    | tm d => cases g2
    | «at» i =>
      unfold passS at g2
      cases hi : δ[i]? with
      | none => simp only [hi] at g2; cases g2
      | some t =>
        cases t with
        | ow d' => exact ⟨k, i, _, d, hpk, h2, hi, rfl, r, h1⟩
        | io d' => exact ⟨k, i, _, d, hpk, h2, hi, rfl, r, h1⟩
        | fz d' => simp only [hi] at g2; cases g2
        | _ => simp only [hi] at g2; cases g2
  have borMu : ∀ a, a ∈ ioA vs ss → Mu σ δ a := fun a ha => by
    obtain ⟨k, i, t, d, _, _, hi, hm, hσ, _⟩ := bor a ha
    exact ⟨i, t, hi, hm, hσ⟩
  -- a slot behind the call
  have slot : ∀ (j : Nat) s2, (backS δ ps ss')[j]? = some s2 → ∃ s1, δ[j]? = some s1 ∧ s2.isO = s1.isO ∧ s2.isM = s1.isM ∧ KeepS s1 s2 ∧ SlR C H' G' σ[j]? s2 := fun j s2 h => by
    obtain ⟨s1, h1, c⟩ := back_get h
    have h1s := S.sl j s1 h1
    have same : (∀ b, s1.isO = true → σ[j]? = some (some (.ref b)) → b ∉ ioA vs ss) → SlR C H' G' σ[j]? s1 := fun hb => h1s.keep P.gs fun b hO hx => by
      obtain ⟨u, hu, n, _⟩ := S.own_some ⟨j, s1, h1, hO, hx⟩
      exact ⟨fun w hw => by rw [hu] at hw; cases hw; exact P.fr b u hu n (hb b hO hx), fun gg => (P.gk b u hu n (S.own_ntu ⟨j, s1, h1, hO, hx⟩ hu)).trans gg⟩
    have put : ∀ {k : Nat} {d' : D}, ps[k]? = some (.at j) → ss'[k]? = some (.io d') → s2 = s1.put d' → ∃ s1, δ[j]? = some s1 ∧ s2.isO = s1.isO ∧ s2.isM = s1.isM ∧ KeepS s1 s2 ∧ SlR C H' G' σ[j]? s2 := fun {k d'} hk hd e => by
      subst e
      obtain ⟨s', g1, g2⟩ := g k _ hk
      obtain ⟨v, hv, r⟩ := pas_at rs hk
      have r' : σ[j]? = some (some v) := r
      have own : ∀ {d}, ss[k]? = some (.io d) → ∃ a, v = .ref a ∧ OwnR C.K H' G' a d' ∧ (G a = none → G' a = none) := fun {d} hss => by
        have A := args_of S rs hp ok
        obtain ⟨a, e, gn, o⟩ := A.al k _ v hss hv
        subst e
        obtain ⟨d2, e2, o2⟩ := P.io k d a hss hv
        rw [hd] at e2; cases e2
        obtain ⟨u, hu, n, _⟩ := o.some
        exact ⟨a, rfl, o2, fun z => (P.gk a u hu n (o.ntu hu)).trans z⟩
      unfold passS at g2
      cases s1 with
      | ow d =>
        simp only [h1] at g2; cases g2
        obtain ⟨a, rfl, o, gk⟩ := own g1
        rw [r'] at h1s ⊢
        obtain ⟨b, e, f, gn, _⟩ := h1s
        cases e
        exact ⟨_, h1, rfl, rfl, trivial, a, rfl, f, gk gn, o⟩
      | io d =>
        simp only [h1] at g2; cases g2
        obtain ⟨a, rfl, o, gk⟩ := own g1
        rw [r'] at h1s ⊢
        obtain ⟨b, e, f, gn, _⟩ := h1s
        cases e
        exact ⟨_, h1, rfl, rfl, trivial, a, rfl, f, gk gn, o⟩
      | fz d => exact ⟨_, h1, rfl, rfl, trivial, same fun b hO => by cases hO⟩
      | un => exact ⟨_, h1, rfl, rfl, trivial, trivial⟩
      | lk b d => simp only [h1] at g2; cases g2
    rcases c with ⟨rfl, no⟩ | ⟨k, d', hk, hd, e⟩
    · refine ⟨s2, h1, rfl, rfl, KeepS.refl _, same fun b hO hx hb => ?_⟩
      obtain ⟨k, i, t, d, b1, b2, b3, b4, b5, b6⟩ := bor b hb
      have := S.dj j i b s2 t h1 b3 hO (t.isO_of b4) hx b5
      subst this
      obtain ⟨d2, e2, _⟩ := P.io k d b b2 b6
      exact no k d2 b1 e2
    · exact put hk hd e
  refine ⟨⟨P.sub, P.nt, fun a o h n q => ?_, fun a o h n m => ?_, fun a m => ?_, P.tab, by rw [back_len]; exact S.len, fun j s h => ?_, fun i j a s t hi hj hs ht e1 e2 => ?_⟩, P.gs, fun b o h n m => P.fr b o h n fun z => m (borMu b z), fun b o h n q m => P.gk b o h n q, ?_, ?_, fun j s h k => ?_, fun b o h n => ?_⟩
  · by_cases m : a ∈ C.P
    · obtain ⟨u, hu, n'⟩ := S.pl a m
      rw [P.gk a u hu n'.1 n'.2]; exact S.gq a o h n q
    · rw [P.gk a o (S.fr a o h n m) n q]; exact S.gq a o h n q
  · refine P.fr a o (S.fr a o h n m) n fun z => ?_
    obtain ⟨k, i, t, d, _, _, hi, hm, hσ, _⟩ := bor a z
    have hs := S.sl i t hi
    rw [hσ] at hs
    cases t with
    | ow d => obtain ⟨b, e, f, _⟩ := hs; cases e; exact f o h n
    | io d => obtain ⟨b, e, f, _⟩ := hs; cases e; exact m f
    | _ => cases hm
  · obtain ⟨u, hu, n⟩ := S.pl a m
    by_cases z : a ∈ ioA vs ss
    · obtain ⟨k, d, z1, z2⟩ := mem_ioA.mp z
      obtain ⟨d', _, o⟩ := P.io k d a z2 z1
      obtain ⟨w, hw, nw, _⟩ := o.some
      exact ⟨w, hw, nw, o.ntu hw⟩
    · exact ⟨u, P.fr a u hu n.1 z, n⟩
  · obtain ⟨_, _, _, _, _, r⟩ := slot j s h; exact r
  · obtain ⟨s1, a1, a2, _⟩ := slot i s hi
    obtain ⟨t1, b1, b2, _⟩ := slot j t hj
    exact S.dj i j a s1 t1 a1 b1 (a2 ▸ hs) (b2 ▸ ht) e1 e2
  · rintro b o h n ⟨j, s, hj, hs, hx⟩
    obtain ⟨s1, a1, _, a2, _⟩ := slot j s hj
    exact ⟨j, s1, a1, a2 ▸ hs, hx⟩
  · rintro b o h n ⟨j, s, hj, hs, hx⟩
    obtain ⟨s1, a1, a2, _⟩ := slot j s hj
    exact ⟨j, s1, a1, a2 ▸ hs, hx⟩
  · refine ⟨rfl, ?_⟩
    have hl : j < (backS δ ps ss').length := by rw [back_len]; exact (List.getElem?_eq_some_iff.mp h).1
    obtain ⟨s1, a1, _, _, a3, _⟩ := slot j _ (List.getElem?_eq_getElem hl)
    rw [h] at a1; cases a1
    exact ⟨_, List.getElem?_eq_getElem hl, a3⟩
  · by_cases z : b ∈ ioA vs ss
    · obtain ⟨k, d, z1, z2⟩ := mem_ioA.mp z
      obtain ⟨d', _, o⟩ := P.io k d b z2 z1
      obtain ⟨w, hw, nw, _⟩ := o.some
      exact ⟨w, hw, nw⟩
    · exact ⟨o, P.fr b o h n z, n⟩
end
end WK
/-! Calls, new instances, raise by data. -/
namespace WK
open PySem L2 PySem.Spec PyProof.Rows
open LamX (Tabs)
section
variable {C : Ctx} {W : WX} {σ : L2.St} {δ δ' : List Sl} {H G H' G' Hs : Hp} {vs dvs : List V} {ss ss' : List Sl} {ps : List Pv} {U : UP} {E : XK} {ts : TA} {us : UA} {te : TE} {ue : UE} {dds : List D} {v : V} {p : Pv}
theorem PasR.app {ws : List V} {qs : List Pv} : ∀ {vs : List V} {ps : List Pv}, PasR C.K σ G vs ps → PasR C.K σ G ws qs → PasR C.K σ G (vs ++ ws) (ps ++ qs)
  | _, _, .nil, h => h
  | _, _, .cons a t, h => .cons a (PasR.app t h)
theorem Sl.put_isO (s : Sl) (d : D) : (s.put d).isO = s.isO := by cases s <;> rfl
theorem back_ow {a : Addr} (h : Ow σ (backS δ ps ss') a) : Ow σ δ a := by
  obtain ⟨j, s, h1, h2, h3⟩ := h
  obtain ⟨s1, e1, c⟩ := back_get h1
  rcases c with ⟨rfl, _⟩ | ⟨k, d, _, _, rfl⟩
  · exact ⟨j, s, e1, h2, h3⟩
  · exact ⟨j, s1, e1, by rw [Sl.put_isO] at h2; exact h2, h3⟩
theorem SR.fr0n (S : SR C σ δ H G) {a : Addr} (h : Nn H a) : Fr0 C a := fun o ho n => by
  by_cases m : a ∈ C.P
  · obtain ⟨u, hu, nu⟩ := S.pl a m
    exact h u hu nu.1
  · exact h o (S.fr a o ho n m) n
/-- what a call hands back -/
theorem res_pv {r : Pv} (S : SR C σ δ H G) (hs : ∀ a, Nn H a → Nn Hs a) (h : ResR C.K H H' G' v r) : PvR C σ (backS δ ps ss') Hs H' G' v r := by
  cases r with
  | fz d => exact h
  | tm d =>
    obtain ⟨a, e, n, g, o⟩ := h
    refine ⟨a, e, hs a n, S.fr0n n, g, fun z => ?_, o⟩
    obtain ⟨u, hu, nu, _⟩ := S.own_some (back_ow z)
    exact n u hu nu
  | «at» i => exact h.elim
def uCallP (U : UP) (ps : List Pv) (δ : List Sl) (Q : UK) (X : UX) : Prop := ∃ ss, passLs δ ps = some ss ∧ okAts δ ps ∧ U ss (fun r ss' => Q r (backS δ ps ss')) (fun x ss' => X x (backS δ ps ss'))
def uCall (U : UP) (dds : List D) (us : UA) : UE := fun δ Q X => us δ (fun ps δ1 => uCallP U (ps ++ dds.map Pv.fz) δ1 Q X) X
theorem call_go {Q : VK} {Q' : UK} {X' : UX} (hE : ∀ cls d H, W cls d σ H → E cls d H) (S : SR C σ δ H G) (hs : ∀ a, Nn H a → Nn Hs a) (rs : PasR C.K σ G vs ps) (h : uCallP U ps δ Q' X') (k : KC C σ δ Hs H G Q Q') (kx : XC C W σ δ H G X') : SpU C.K C.T U vs H Q E := by
  obtain ⟨ss, hp, ok, hU⟩ := h
  refine ⟨G, ss, _, _, args_of S rs hp ok, hU, fun r ss' v H' G' q P R => ?_, fun x ss' cls d H' G' q P R => ?_⟩
  · obtain ⟨S', T'⟩ := back_ok S rs hp ok P
    exact k v r _ H' G' S' T' (res_pv S hs R) q
  · obtain ⟨S', T'⟩ := back_ok S rs hp ok P
    exact hE cls d H' (kx x _ H' G' cls d S' T' R q)
def uMeth (c m : Str) (U : UP) (dds : List D) (u : UE) (us : UA) : UE := fun δ Q X => u δ (fun p δ1 => (∃ fds, ctP δ1 p = some (.obj c fds) ∧ fds.lookup m = none) ∧ us δ1 (fun ps δ2 => uCallP U (p.fzn :: (ps ++ dds.map Pv.fz)) δ2 Q X) X) X
/-! ### C(..) -/
def uMakeP (c : Str) (U : UP) (ps : List Pv) (δ : List Sl) (Q : UK) (X : UX) : Prop := ∃ ss, passLs δ ps = some ss ∧ okAts δ ps ∧
  U (.io (.obj c []) :: ss) (fun r ss' => ∃ fds rest, r = .fz .non ∧ ss' = .io (.obj c fds) :: rest ∧ Q (.tm (.obj c fds)) (backS δ ps rest)) (fun x ss' => ∃ s0 rest, ss' = s0 :: rest ∧ X x (backS δ ps rest))
def uMake (c : Str) (U : UP) (dds : List D) (us : UA) : UE := fun δ Q X => us δ (fun ps δ1 => uMakeP c U (ps ++ dds.map Pv.fz) δ1 Q X) X
/-! ### raise X(..) -/
def uRaise (c : Str) (fs : List Str) (us : UA) : US := fun E δ => us δ (fun ps δ1 => uStoL ps δ1 fun ds δ2 => ds.length = fs.length ∧ E.ex (c, (fs.zip ds).reverse) δ2) E.ex
end
/-- an own error with fields fs: what its __init__ promises -/
structure GExL (K : PySem.W.Frag) (x : Str) (fs : List Str) : Prop where
  ox : OexC K (He.ga K x)
  no : ∀ f ∈ fs, PySem.W.findIn K (.ref (He.ga K x)) f = some none
structure XCal (P : Program) (w : World) (K : PySem.W.Frag) (mg : Str → Option Value) (base : Heap) (k : Nat) (x : Str) (ps : List Str) (sp : Sp) : Prop where
  fn : ∃ fd, FnOk P w K mg base (L2.CX P w) k (He.ma K (He.ga K x) "__init__") fd ps sp ∧ Binds K fd ps []
  ox : OexC K (He.ga K x)
  ic : PySem.W.findIn K (.ref (He.ga K x)) "__init__" = some (some (.ref (He.ma K (He.ga K x) "__init__")))
  ti : PySem.W.typeIn K (.ref (He.ma K (He.ga K x) "__init__")) = some (.type "function")
  gl : mg x = some (.ref (He.ga K x))
def tRaiseO (C : Addr) (sp : Sp) (ta : TA) (W : WX) : TS := fun _ σ H => tMkO C sp [] ta σ H fun cls d H' => W cls d σ H'
theorem ps_raiseO {X : Cx} {W : WX} {k : Nat} {x : Str} {ps : List Str} {sp : Sp} {p pos pos' : Pos} {e : Expr} {es : List Expr} {ta : TA} (hc : X.calm = true) (tk : Takes X W) (C : XCal X.prog X.w X.K X.mg X.base k x ps sp) (hr : Room (k + 1) X.A) (hg : Gl X x) (ha : PA X (e :: es) ta)
    (hdb : (x == ("__debug__" : Str)) = false := by decide) (he : starEach (e :: es) X.env = (false, eval e X.env) :: starEach es X.env := by rfl) (hpl : (backTo pos (starEach es X.env)).any (·.1) = false := by rfl) :
    PS X (.Raise (some (.Call (.Name x p) (e :: es) [] pos)) none pos') (tRaiseO (He.ga X.K x) sp ta W) := by
  obtain ⟨⟨fd, F, b⟩, ox, ic, ti, gl⟩ := C
  exact ps_raise hc tk (pmk_oex ox ic ti F hr b .nil passL hg gl ha hdb he hpl)
def sp_xL (x : Str) (fs : List Str) (K : PySem.W.Frag) : Sp := fun vs H Q _ => ∃ (a : Addr) (us : List V), vs = .ref a :: us ∧ us.length = fs.length ∧ H a = some (exo a (He.ga K x) none) ∧
  ∀ dx, H dx = none → dx ≠ a → Q .non (upd (upd H dx (exd dx (fs.zip us).reverse)) a (exo a (He.ga K x) (some dx)))
def t_xL (K : PySem.W.Frag) : List Str → Nat → TS
  | [], _ => tNext
  | [f], i => tOst K f (tVar 0) (tVar i)
  | f :: g :: fs, i => tSeq (tOst K f (tVar 0) (tVar i)) (t_xL K (g :: fs) (i + 1))
theorem len_xL {x : Str} {fs : List Str} {K : PySem.W.Frag} {vs : List V} {H : Hp} {Q : VK} {E : XK} (h : sp_xL x fs K vs H Q E) : vs.length = fs.length + 1 := by obtain ⟨_, _, rfl, h, _⟩ := h; simp [h]
theorem xL_rest {x : Str} {K : PySem.W.Frag} {a dx : Addr} {σ : L2.St} {D : Ends} (h0 : σ[0]? = some (some (.ref a))) (ne : dx ≠ a) (ox : OexC K (He.ga K x)) : ∀ (fs : List Str) (us : List V) (i : Nat) (done : List (Str × V)) (H : Hp), us.length = fs.length → done.length + fs.length ≤ 900 → (∀ f ∈ fs, PySem.W.findIn K (.ref (He.ga K x)) f = some none) → (∀ (k : Nat) u, us[k]? = some u → σ[i + k]? = some (some u)) →
    H a = some (exo a (He.ga K x) (some dx)) → H dx = some (exd dx done) → (∀ H', (∀ b, b ≠ dx → H' b = H b) → H' dx = some (exd dx ((fs.zip us).reverse ++ done)) → D.nx σ H') → t_xL K fs i D σ H
  | [], [], i, done, H, _, _, _, _, ha, hd, k => k H (fun _ _ => rfl) (by simpa using hd)
  | [f], [u], i, done, H, _, hl, hno, hσ, ha, hd, k => by
    have hl' : done.length + 1 ≤ 900 := hl
    refine ⟨u, by simpa using hσ 0 u rfl, .ref a, h0, a, _, rfl, ox, hno f (by simp), .inr ⟨dx, done, ha, hd, by omega, k _ (fun b hb => upd_ne hb) ?_⟩⟩
    rw [upd_same]; rfl
  | f :: g :: fs, u :: us, i, done, H, hlen, hl, hno, hσ, ha, hd, k => by
    have hl' : done.length + ((g :: fs).length + 1) ≤ 900 := hl
    refine ⟨u, by simpa using hσ 0 u rfl, .ref a, h0, a, _, rfl, ox, hno f (by simp), .inr ⟨dx, done, ha, hd, by omega, ?_⟩⟩
    refine xL_rest h0 ne ox (g :: fs) us (i + 1) ((f, u) :: done) _ (by simpa using hlen) (by simp at hl' ⊢; omega) (fun f' h => hno f' (List.mem_cons_of_mem _ h)) (fun k v hv => ?_) (by rw [upd_ne (Ne.symm ne)]; exact ha) upd_same fun H' e1 e2 => ?_
    · have := hσ (k + 1) v (by simpa using hv)
      rw [show i + (k + 1) = i + 1 + k by omega] at this
      exact this
    · refine k H' (fun b hb => (e1 b hb).trans (upd_ne hb)) ?_
      rw [e2]; simp
theorem pure_xL {x : Str} {fs : List Str} {K : PySem.W.Frag} (G : GExL K x fs) (hf : fs ≠ []) (h9 : fs.length ≤ 100) {N : List Str} (hN : N.length = fs.length + 1) (vs : List V) (H : Hp) (Q : VK) (E : XK) (h : sp_xL x fs K vs H Q E) : t_xL K fs 1 { nx := fun _ H' => Q .non H', rt := Q } (L2.start N vs) H := by
  obtain ⟨a, us, rfl, hlen, ha, k⟩ := h
  have e : L2.start N (.ref a :: us) = (V.ref a :: us).map some := by unfold L2.start; rw [show N.length - (V.ref a :: us).length = 0 by simp; omega]; simp
  rw [e]
  have h0 : ((V.ref a :: us).map some)[0]? = some (some (.ref a)) := rfl
  have hσ : ∀ (j : Nat) u, us[j]? = some u → ((V.ref a :: us).map some)[1 + j]? = some (some u) := fun j u hu => by rw [Nat.add_comm, List.map_cons, List.getElem?_cons_succ, List.getElem?_map, hu]; rfl
  cases fs with
  | nil => exact absurd rfl hf
  | cons f fs =>
    cases us with
    | nil => simp at hlen
    | cons u us =>
      cases fs with
      | nil =>
        have hu : us = [] := by simpa using hlen
        subst hu
        exact ⟨u, hσ 0 u rfl, .ref a, h0, a, _, rfl, G.ox, G.no f (by simp), .inl ⟨ha, fun dx hdx ne => k dx hdx ne⟩⟩
      | cons g fs =>
        refine ⟨u, hσ 0 u rfl, .ref a, h0, a, _, rfl, G.ox, G.no f (by simp), .inl ⟨ha, fun dx hdx ne => ?_⟩⟩
        refine xL_rest h0 ne G.ox (g :: fs) us 2 [(f, u)] _ (by simpa using hlen) (by simp at h9 ⊢; omega) (fun f' h => G.no f' (List.mem_cons_of_mem _ h)) (fun k v hv => ?_) upd_same (by rw [upd_ne ne, upd_same]) fun H' e1 e2 => ?_
        · have := hσ (k + 1) v (by simpa using hv)
          rw [show 1 + (k + 1) = 2 + k by omega] at this
          exact this
        · have : H' = upd (upd H dx (exd dx ((f :: g :: fs).zip (u :: us)).reverse)) a (exo a (He.ga K x) (some dx)) := by
            funext b
            by_cases hb : b = dx
            · subst hb; rw [e2, upd_ne ne, upd_same]; simp
            · rw [e1 b hb]
              by_cases hba : b = a
              · subst hba; rw [upd_same, upd_same]
              · rw [upd_ne hba, upd_ne hb, upd_ne hba, upd_ne hb]
          rw [this]; exact k dx hdx ne
section
variable {C : Ctx} {W : WX} {σ : L2.St} {δ δ' : List Sl} {H G H' G' Hs : Hp} {ts : TA} {us : UA}
theorem rpm_zip {K : PySem.W.Frag} {G : Hp} : ∀ {fs : List Str} {vs : List V} {ds : List D}, RpL K G vs ds → RpM K G (fs.zip vs) (fs.zip ds)
  | [], _, _, _ => ⟨rfl, .nil⟩
  | _ :: _, _, _, .nil => ⟨rfl, .nil⟩
  | f :: fs, _, _, .cons a t => .cons a (rpm_zip t)
theorem RpM.rev {K : PySem.W.Frag} {G : Hp} {κ : Type} {kvs : List (κ × V)} {kds : List (κ × D)} (h : RpM K G kvs kds) : RpM K G kvs.reverse kds.reverse := by
  refine RpM.ind (P := fun kvs kds => RpM K G kvs.reverse kds.reverse) ⟨rfl, .nil⟩ (fun k v d kvs kds r _ ih => ?_) h
  rw [List.reverse_cons, List.reverse_cons]
  exact ih.app (.cons r .nil)
theorem tr_raise {c : Str} {fs : List Str} (h9 : fs.length ≤ 1000) (ht : TrA C W ts us) : TrS C W (tRaiseO (He.ga C.K c) (sp_xL c fs C.K) ts W) (uRaise c fs us) := fun σ δ H G E E' S e hu =>
  ht σ δ H G _ _ E'.ex S hu (fun vs ps δ1 H1 G1 S1 T1 rs q => by
    obtain ⟨ds, δ2, G2, S2, T2, r2, z, q2⟩ := stoL_ok (k := fun ds δ2 => ds.length = fs.length ∧ E'.ex (c, (fs.zip ds).reverse) δ2) S1 rs q
    have hv : vs.length = fs.length := by rw [r2.length]; exact z
    refine ⟨by omega, fun a ha => ⟨a, vs, by simp, hv, upd_same, fun dx hdx ne => ⟨rfl, dx, (fs.zip vs).reverse, upd_same, by rw [upd_ne ne, upd_same], ?_, ?_⟩⟩⟩
    · rw [upd_ne ne] at hdx; exact hdx
    · have hd0 : H1 dx = none := by rw [upd_ne ne] at hdx; exact hdx
      have eh : upd (L2.del (upd (upd (upd H1 a (exo a (He.ga C.K c) none)) dx (exd dx (fs.zip vs).reverse)) a (exo a (He.ga C.K c) (some dx))) a) dx (.xd (fs.zip vs).reverse) = upd H1 dx (.xd (fs.zip vs).reverse) := by
        funext b
        by_cases hb : b = dx
        · subst hb; rw [upd_same, upd_same]
        · rw [upd_ne hb, upd_ne hb]
          by_cases hba : b = a
          · subst hba; rw [del_same]; exact ha.symm
          · rw [del_ne hba, upd_ne hba, upd_ne hb, upd_ne hba]
      rw [eh]
      exact e.ex _ _ _ σ δ2 _ _ (S2.new hd0 (fun _ z => by cases z)) ((T1.trans T2).trans (.new hd0 (S2.sub.nn hd0))) ⟨rfl, dx, _, rfl, upd_same, ((rpm_zip r2).rev).mono (Ex.new (S2.sub.nn hd0))⟩ q2) e.xc
end
end WK
/-! Steps through readings by data. -/
namespace WK
open PySem L2
section
variable {δ δ' : List Sl} {Q : UK} {X : UX} {E : UEnds} {ua ub uc ue uo ui uv : UE} {c c' : UT} {t u : US} {us : UA} {p q r : Pv} {d e : D} {i j : Nat} {ps : List Pv} {f f' : Op2} {b : Bool} {R : List Pv → List Sl → Prop} {B : Bool → List Sl → Prop}
theorem h_seq (h : t { E with nx := u E } δ) : uSeq t u E δ := h
theorem h_next (h : E.nx δ) : uNext E δ := h
theorem h_drop (h : ue δ (fun _ δ1 => E.nx δ1) E.ex) : uDrop ue E δ := h
theorem h_ret (h : ue δ E.rt E.ex) : uRet ue E δ := h
theorem h_retN (h : E.rt (.fz .non) δ) : uRetN E δ := h
theorem h_ifS (h : c δ (fun b δ1 => if b = true then t E δ1 else u E δ1) E.ex) : uIfS c t u E δ := h
theorem h_asg {g : UG} (h : ue δ (fun p δ1 => g p δ1 E.nx) E.ex) : uAsg ue g E δ := h
theorem h_par {a b : Bool} (h : ua δ (fun p δ1 => ub δ1 (fun q δ2 => NA q i ∧ ugX a i p δ2 fun δ3 => ugX b j q δ3 E.nx) E.ex) E.ex) : uPar a b i j ua ub E δ := h
theorem h_na1 {P : Prop} (h : P) : NA (.fz d) i ∧ P := ⟨trivial, h⟩
theorem h_na2 {P : Prop} (h : P) : NA (.tm d) i ∧ P := ⟨trivial, h⟩
theorem h_setI (h : ue δ (fun p δ1 => uo δ1 (fun o δ2 => ui δ2 (fun k δ3 => oSet o k p δ3 E.nx) E.ex) E.ex) E.ex) : uSetI ue uo ui E δ := h
theorem h_sfld {cc ff : Str} (h : ue δ (fun p δ1 => uo δ1 (fun o δ2 => ∃ i, o = .at i ∧ uSto p δ2 fun d δ3 => ∃ fds, Mt δ3 i (.obj cc fds) ∧ fds.length < 1000 ∧ E.nx (pt δ3 i (.obj cc (putG ff d fds)))) E.ex) E.ex) : uSFld cc ff uo ue E δ := h
theorem h_for {w : UI} {g : UG} (h : w δ (fun ds o δ1 => ForU ds o g t E δ1) E.ex) : uFor w g t E δ := h
theorem h_raise {cc : Str} {fs : List Str} (h : us δ (fun ps δ1 => uStoL ps δ1 fun ds δ2 => ds.length = fs.length ∧ E.ex (cc, (fs.zip ds).reverse) δ2) E.ex) : uRaise cc fs us E δ := h
theorem h_varF (e : δ[i]? = some (.fz d)) (h : Q (.fz d) δ) : uVar i δ Q X := by unfold uVar; rw [e]; exact h
theorem h_varO (e : δ[i]? = some (.ow d)) (h : Q (.at i) δ) : uVar i δ Q X := by unfold uVar; rw [e]; exact h
theorem h_varI (e : δ[i]? = some (.io d)) (h : Q (.at i) δ) : uVar i δ Q X := by unfold uVar; rw [e]; exact h
theorem h_varL {k : Bool} (e : δ[i]? = some (.lk k d)) (h : Q (.at i) δ) : uVar i δ Q X := by unfold uVar; rw [e]; exact h
theorem h_c (h : Q (.fz d) δ) : uC d δ Q X := h
theorem h_un {f : Op1} (h : ua δ (fun p δ1 => f δ1 p Q) X) : uUn f ua δ Q X := h
theorem h_op (h : ua δ (fun p δ1 => ub δ1 (fun q δ2 => f δ2 p q Q) X) X) : uOp f ua ub δ Q X := h
theorem h_cb {f : OpA} (h : us δ (fun ps δ1 => f δ1 ps Q) X) : uCB f us δ Q X := h
theorem h_nil (h : R [] δ) : uNil δ R X := h
theorem h_cons (h : ue δ (fun p δ1 => us δ1 (fun ps δ2 => R (p.fzn :: ps) δ2) X) X) : uCons ue us δ R X := h
theorem h_B (h : ue δ (fun p δ1 => ∃ b, p = .fz (.bl b) ∧ B b δ1) X) : uB ue δ B X := h
theorem h_bl {P : Bool → Prop} (h : P b) : ∃ k, Pv.fz (.bl b) = .fz (.bl k) ∧ P k := ⟨b, rfl, h⟩
theorem h_not (h : c δ (fun b δ1 => B (!b) δ1) X) : uNot c δ B X := h
theorem h_and (h : c δ (fun b δ1 => if b = true then c' δ1 B X else B false δ1) X) : uAnd c c' δ B X := h
theorem h_or (h : c δ (fun b δ1 => if b = true then B true δ1 else c' δ1 B X) X) : uOr c c' δ B X := h
theorem h_if (h : c δ (fun k δ1 => if k = true then ua δ1 Q X else ub δ1 Q X) X) : uIf c ua ub δ Q X := h
theorem h_notV (h : ue δ (fun p δ1 => ∃ b, p = .fz (.bl b) ∧ Q (.fz (.bl (!b))) δ1) X) : uNotV ue δ Q X := h
theorem h_andV (h : ua δ (fun p δ1 => ∃ b, p = .fz (.bl b) ∧ if b = true then ub δ1 Q X else Q (.fz (.bl false)) δ1) X) : uAndV ua ub δ Q X := h
theorem h_orV (h : ua δ (fun p δ1 => ∃ b, p = .fz (.bl b) ∧ if b = true then Q (.fz (.bl true)) δ1 else ub δ1 Q X) X) : uOrV ua ub δ Q X := h
theorem h_chain (h : ua δ (fun p δ1 => ub δ1 (fun q δ2 => f δ2 p q fun z δ3 => ∃ k, z = .fz (.bl k) ∧ if k = true then uc δ3 (fun r δ4 => f' δ4 q r Q) X else Q (.fz (.bl false)) δ3) X) X) : uChain f f' ua ub uc δ Q X := h
theorem h_I0 {g : Int → Int → D} {x y : Int} (h : Q (.fz (g x y)) δ) : oI0 g δ (.fz (.int x)) (.fz (.int y)) Q := ⟨x, y, rfl, rfl, h⟩
theorem h_I {Cd : Int → Int → Prop} {g : Int → Int → D} {x y : Int} (hc : Cd x y) (h : Q (.fz (g x y)) δ) : oI Cd g δ (.fz (.int x)) (.fz (.int y)) Q := ⟨x, y, rfl, rfl, hc, h⟩
theorem h_neg {x : Int} (h : Q (.fz (.int (-x))) δ) : oNeg δ (.fz (.int x)) Q := ⟨x, rfl, h⟩
theorem h_addI {x y : Int} (h : Q (.fz (.int (x + y))) δ) : oAdd δ (.fz (.int x)) (.fz (.int y)) Q := .inl ⟨x, y, rfl, rfl, h⟩
theorem h_addS {x y : Str} (hl : x.length + y.length ≤ 10000000) (h : Q (.fz (.str (x ++ y))) δ) : oAdd δ (.fz (.str x)) (.fz (.str y)) Q := .inr (.inl ⟨x, y, rfl, rfl, hl, h⟩)
theorem h_addL {xs ys : List D} (h1 : ctP δ p = some (.lst xs)) (h2 : ctP δ q = some (.lst ys)) (hl : xs.length + ys.length ≤ 10000000) (h : Q (.tm (.lst (xs ++ ys))) δ) : oAdd δ p q Q := .inr (.inr (.inl ⟨xs, ys, h1, h2, hl, h⟩))
theorem h_addT {xs ys : List D} (h1 : ctP δ p = some (.tup xs)) (h2 : ctP δ q = some (.tup ys)) (hl : xs.length + ys.length ≤ 10000000) (h : Q (.fz (.tup (xs ++ ys))) δ) : oAdd δ p q Q := .inr (.inr (.inr ⟨xs, ys, h1, h2, hl, h⟩))
theorem h_ix (h1 : ctP δ p = some d) (h2 : ixD d q = some e) (h : Q (.fz e) δ) : oIx δ p q Q := .inl ⟨d, e, h1, h2, h⟩
theorem h_ixS {z : Str} {k : Int} {cc : Nat} (hl : z.length ≤ 10000000) (ha : atI z.cps.toList k = some cc) (h : Q (.fz (.str ⟨#[cc]⟩)) δ) : oIx δ (.fz (.str z)) (.fz (.int k)) Q := .inr ⟨z, k, cc, rfl, rfl, hl, ha, h⟩
theorem h_eqA {k : Bool} (h1 : ctP δ p = some d) (h2 : ctP δ q = some e) (h3 : eqA d e = some k) (h : Q (.fz (.bl k)) δ) : oEq δ p q Q := .inl ⟨d, e, k, h1, h2, h3, h⟩
theorem h_neA {k : Bool} (h1 : ctP δ p = some d) (h2 : ctP δ q = some e) (h3 : eqA d e = some k) (h : Q (.fz (.bl (!k))) δ) : oNe δ p q Q := .inl ⟨d, e, k, h1, h2, h3, h⟩
theorem h_eqD (h1 : ctP δ p = some d) (h2 : ctP δ q = some e) (h3 : okD d = true) (h4 : okD e = true) (h : Q (.fz (.bl (eqD d e))) δ) : oEq δ p q Q := .inr ⟨d, e, h1, h2, h3, h4, h⟩
theorem h_neD (h1 : ctP δ p = some d) (h2 : ctP δ q = some e) (h3 : okD d = true) (h4 : okD e = true) (h : Q (.fz (.bl (!eqD d e))) δ) : oNe δ p q Q := .inr ⟨d, e, h1, h2, h3, h4, h⟩
theorem h_inL {ds : List D} (h1 : ctP δ p = some d) (h2 : ctP δ q = some (.lst ds) ∨ ctP δ q = some (.tup ds)) (h3 : okD d = true) (h4 : okDs ds = true) (h : Q (.fz (.bl (ds.any fun z => eqD z d))) δ) : oIn δ p q Q := .inl (.inl ⟨d, ds, h1, h2, h3, h4, h⟩)
theorem h_notInL {ds : List D} (h1 : ctP δ p = some d) (h2 : ctP δ q = some (.lst ds) ∨ ctP δ q = some (.tup ds)) (h3 : okD d = true) (h4 : okDs ds = true) (h : Q (.fz (.bl (!ds.any fun z => eqD z d))) δ) : oInB not δ p q Q := .inl ⟨d, ds, h1, h2, h3, h4, h⟩
theorem h_inD {kds : List (Key × D)} {k : Key} (h1 : ctP δ q = some (.dct kds)) (h2 : keyP p = some k) (h : Q (.fz (.bl (valD kds k).isSome)) δ) : oIn δ p q Q := .inl (.inr ⟨kds, k, h1, h2, h⟩)
theorem h_notInD {kds : List (Key × D)} {k : Key} (h1 : ctP δ q = some (.dct kds)) (h2 : keyP p = some k) (h : Q (.fz (.bl (!(valD kds k).isSome))) δ) : oInB not δ p q Q := .inr ⟨kds, k, h1, h2, h⟩
theorem h_inS {cc : Nat} {z : Str} (h : Q (.fz (.bl (decide (cc ∈ z.cps.toList)))) δ) : oIn δ (.fz (.str ⟨#[cc]⟩)) (.fz (.str z)) Q := .inr ⟨cc, z, rfl, rfl, h⟩
theorem h_isN (h1 : ctP δ p = some d) (h : Q (.fz (.bl (isNon d))) δ) : oIsN id δ p (.fz .non) Q := ⟨d, rfl, h1, h⟩
theorem h_notN (h1 : ctP δ p = some d) (h : Q (.fz (.bl (!isNon d))) δ) : oIsN not δ p (.fz .non) Q := ⟨d, rfl, h1, h⟩
theorem h_len {n : Nat} (h1 : ctP δ p = some d) (h2 : lenD d = some n) (h : Q (.fz (.int n)) δ) : oLen δ [p] Q := .inl ⟨p, d, n, rfl, h1, h2, h⟩
theorem h_lenS {z : Str} (hl : z.length ≤ 10000000) (h : Q (.fz (.int z.length)) δ) : oLen δ [.fz (.str z)] Q := .inr ⟨z, rfl, hl, h⟩
theorem h_abs {x : Int} (h : Q (.fz (.int (if x < 0 then -x else x))) δ) : oAbs δ [.fz (.int x)] Q := ⟨x, rfl, h⟩
theorem h_mx2 {x y : Int} (h : Q (.fz (.int (if y > x then y else x))) δ) : oMx2 δ [.fz (.int x), .fz (.int y)] Q := ⟨x, y, rfl, h⟩
theorem h_mn2 {x y : Int} (h : Q (.fz (.int (if y < x then y else x))) δ) : oMn2 δ [.fz (.int x), .fz (.int y)] Q := ⟨x, y, rfl, h⟩
theorem h_int {x : Int} (h : Q (.fz (.int x)) δ) : oInt δ [.fz (.int x)] Q := .inl ⟨x, rfl, h⟩
theorem h_list {ds : List D} (h1 : ctP δ p = some d) (h2 : itD d = some ds) (h : Q (.tm (.lst ds)) δ) : oList δ [p] Q := ⟨p, d, ds, rfl, h1, h2, h⟩
theorem h_tuple {ds : List D} (h1 : ctP δ p = some (.lst ds) ∨ ctP δ p = some (.tup ds)) (h : Q (.fz (.tup ds)) δ) : oTuple δ [p] Q := ⟨p, ds, rfl, h1, h⟩
theorem h_all {bs : List Bool} (h1 : ctP δ p = some (.lst (bs.map D.bl))) (h : Q (.fz (.bl (bs.all id))) δ) : oAll δ [p] Q := ⟨p, bs, rfl, h1, h⟩
theorem h_any {bs : List Bool} (h1 : ctP δ p = some (.lst (bs.map D.bl))) (h : Q (.fz (.bl (bs.any id))) δ) : oAny δ [p] Q := ⟨p, bs, rfl, h1, h⟩
theorem h_isi {T U : String} (h1 : ctP δ p = some d) (h2 : tyD d = some T) (h3 : kitB T U = some b) (h : Q (.fz (.bl b)) δ) : oIsi δ [p, .fz (.ty U)] Q := ⟨p, d, T, U, b, rfl, h1, h2, h3, h⟩
theorem h_dictP {ds : List D} {kds : List (Key × D)} (h1 : ctP δ p = some (.lst ds)) (h2 : ds.map pairD = kds.map some) (h : Q (.tm (.dct (mergeD [] kds))) δ) : oDict δ [p] Q := .inl ⟨p, ds, kds, rfl, h1, h2, h⟩
theorem h_dictC {kds : List (Key × D)} (h1 : ctP δ p = some (.dct kds)) (h : Q (.tm (.dct kds)) δ) : oDict δ [p] Q := .inr ⟨p, kds, rfl, h1, h⟩
theorem h_tup (h : us δ (fun ps δ1 => uStoL ps δ1 fun ds δ2 => ds.length ≤ 10000000 ∧ Q (.fz (.tup ds)) δ2) X) : uTup us δ Q X := h
theorem h_lst (h : us δ (fun ps δ1 => uStoL ps δ1 fun ds δ2 => ds.length ≤ 10000000 ∧ Q (.tm (.lst ds)) δ2) X) : uLst us δ Q X := h
theorem h_sz0 {ds : List D} {P : Prop} (hl : ds.length ≤ 10000000) (h : P) : ds.length ≤ 10000000 ∧ P := ⟨hl, h⟩
theorem h_dnew (h : Q (.tm (.dct [])) δ) : uDNew δ Q X := h
theorem h_sl {ul uh : UO} (h : ue δ (fun p δ1 => ul δ1 (fun lo δ2 => uh δ2 (fun hi δ3 => oSl lo hi δ3 p Q) X) X) X) : uSl ue ul uh δ Q X := h
theorem h_noPart {R : Option Int → List Sl → Prop} (h : R none δ) : uNoPart δ R X := h
theorem h_part {R : Option Int → List Sl → Prop} (h : ue δ (fun p δ1 => ∃ i, p = .fz (.int i) ∧ R (some i) δ1) X) : uPart ue δ R X := h
theorem h_partI {x : Int} {P : Int → Prop} (h : P x) : ∃ i, Pv.fz (.int x) = .fz (.int i) ∧ P i := ⟨x, rfl, h⟩
theorem h_slL {lo hi : Option Int} {ds : List D} (h1 : ctP δ p = some (.lst ds)) (h : Q (.tm (.lst (cutD ds lo hi))) δ) : oSl lo hi δ p Q := .inl ⟨ds, h1, h⟩
theorem h_slT {lo hi : Option Int} {ds : List D} (h1 : ctP δ p = some (.tup ds)) (h : Q (.fz (.tup (cutD ds lo hi))) δ) : oSl lo hi δ p Q := .inr (.inl ⟨ds, h1, h⟩)
theorem h_slS {lo hi : Option Int} {z : Str} (hl : z.length ≤ 10000000) (h : Q (.fz (.str (cutS z lo hi))) δ) : oSl lo hi δ (.fz (.str z)) Q := .inr (.inr (.inl ⟨z, rfl, hl, h⟩))
theorem h_slX {lo hi : Option Int} {xs : List Int} (h1 : ctP δ p = some (.scr xs)) (h : Q (.tm (.lst (cutD (xs.map D.int) lo hi))) δ) : oSl lo hi δ p Q := .inr (.inr (.inr ⟨xs, h1, h⟩))
theorem h_fld {cc ff : Str} (h : ue δ (fun p δ1 => ∃ fds d, ctP δ1 p = some (.obj cc fds) ∧ fds.lookup ff = some d ∧ Q (.fz d) δ1) X) : uFld cc ff ue δ Q X := h
theorem h_fldI {cc ff : Str} {fds : List (Str × D)} {P : D → Prop} (h1 : ctP δ p = some (.obj cc fds)) (h2 : fds.lookup ff = some d) (h : P d) : ∃ fds d, ctP δ p = some (.obj cc fds) ∧ fds.lookup ff = some d ∧ P d := ⟨fds, d, h1, h2, h⟩
theorem h_bm {T : String} {f : OpM} (h : ue δ (fun p δ1 => (∃ d, ctP δ1 p = some d ∧ tyP T d) ∧ us δ1 (fun qs δ2 => f δ2 p qs Q) X) X) : uBM T f ue us δ Q X := h
theorem h_bm0 {T : String} {f : OpM} (h : ue δ (fun p δ1 => (∃ d, ctP δ1 p = some d ∧ tyP T d) ∧ f δ1 p [] Q) X) : uBM0 T f ue δ Q X := h
theorem h_ty {T : String} {P : Prop} (h1 : ctP δ p = some d) (h2 : tyP T d) (h : P) : (∃ d, ctP δ p = some d ∧ tyP T d) ∧ P := ⟨⟨d, h1, h2⟩, h⟩
theorem h_appI {ds : List D} (h1 : Mt δ i (.lst ds)) (h2 : ds.length < 10000000) (e : pt δ i (.lst (ds ++ [d])) = δ') (h : Q (.fz .non) δ') : ∃ ds, Mt δ i (.lst ds) ∧ ds.length < 10000000 ∧ Q (.fz .non) (pt δ i (.lst (ds ++ [d]))) := ⟨ds, h1, h2, by rw [e]; exact h⟩
theorem h_join {a : Str} {ys : List Str} (h1 : ctP δ q = some (.lst (ys.map D.str)) ∨ ctP δ q = some (.tup (ys.map D.str))) (h2 : (ys.map (·.length)).sum + ys.length * a.length ≤ 16777216) (h : Q (.fz (.str (Txt.join a ys))) δ) : oJoin δ (.fz (.str a)) [q] Q := ⟨a, q, ys, rfl, rfl, h1, h2, h⟩
theorem h_stoF {P : D → List Sl → Prop} (h : P d δ) : uSto (.fz d) δ P := h
theorem h_stoT {P : D → List Sl → Prop} (h : P d δ) : uSto (.tm d) δ P := h
theorem h_stoO {P : D → List Sl → Prop} (e : δ[i]? = some (.ow d)) (e' : δ.set i (.fz d) = δ') (h : P d δ') : uSto (.at i) δ P := by unfold uSto; simp only [e]; rw [e']; exact h
theorem h_stoFr {P : D → List Sl → Prop} (e : δ[i]? = some (.fz d)) (h : P d δ) : uSto (.at i) δ P := by unfold uSto; simp only [e]; exact h
theorem h_stoN {P : List D → List Sl → Prop} (h : P [] δ) : uStoL [] δ P := h
theorem h_stoC {P : List D → List Sl → Prop} (h : uSto p δ fun d δ1 => uStoL ps δ1 fun ds δ2 => P (d :: ds) δ2) : uStoL (p :: ps) δ P := h
theorem h_gF {P : List Sl → Prop} (h : uSto p δ fun d δ1 => uPut i d δ1 P) : ugF i p δ P := h
theorem h_gFI {P : List Sl → Prop} (h1 : NK δ i) (e : δ.set i (.fz d) = δ') (h : P δ') : uPut i d δ P := ⟨h1, by rw [e]; exact h⟩
theorem h_gOT {P : List Sl → Prop} (h1 : NK δ i) (h2 : i < δ.length) (e : δ.set i (.ow d) = δ') (h : P δ') : ugO i (.tm d) δ P := ⟨h1, h2, by rw [e]; exact h⟩
theorem h_gOF {P : List Sl → Prop} (h : ugF i (.fz d) δ P) : ugO i (.fz d) δ P := h
theorem h_gOA {P : List Sl → Prop} (h : ugF i (.at j) δ P) : ugO i (.at j) δ P := h
theorem h_gXT {P : List Sl → Prop} (h : ugO i p δ P) : ugX true i p δ P := h
theorem h_gXF {P : List Sl → Prop} (h : ugF i p δ P) : ugX false i p δ P := h
theorem h_gtup {n : Nat} {gs : UGs} {ds : List D} {P : List Sl → Prop} (h1 : ctP δ p = some (.tup ds)) (h2 : ds.length = n) (h : gs ds δ P) : ugTup n gs p δ P := ⟨ds, h1, h2, h⟩
theorem h_gcons {g : UG} {gs : UGs} {ds : List D} {P : List Sl → Prop} (h : g (.fz d) δ fun δ1 => gs ds δ1 P) : ugCons g gs (d :: ds) δ P := ⟨d, ds, rfl, h⟩
theorem h_gnil {P : List Sl → Prop} (h : P δ) : ugNil [] δ P := ⟨rfl, h⟩
theorem h_setL {ds : List D} {k : Int} {n : Nat} {P : List Sl → Prop} (h1 : Mt δ i (.lst ds)) (h2 : ixN ds.length k = some n) (e : pt δ i (.lst (ds.set n d)) = δ') (h : P δ') : oSet (.at i) (.fz (.int k)) (.fz d) δ P := ⟨i, rfl, .inl ⟨ds, k, n, rfl, h1, h2, by rw [e]; exact h⟩⟩
theorem h_setD {kds : List (Key × D)} {key : Key} {P : List Sl → Prop} (hk : keyP q = some key) (h1 : Mt δ i (.dct kds)) (h2 : kds.length < 10000000) (e : pt δ i (.dct (putD kds key d)) = δ') (h : P δ') : oSet (.at i) q (.fz d) δ P := ⟨i, rfl, .inr ⟨kds, key, hk, h1, h2, by rw [e]; exact h⟩⟩
theorem h_sfldJ {cc ff : Str} {fds fds' : List (Str × D)} {P : List Sl → Prop} (h1 : Mt δ i (.obj cc fds)) (h2 : fds.length < 1000) (e1 : putG ff d fds = fds') (e : pt δ i (.obj cc fds') = δ') (h : P δ') : ∃ fds, Mt δ i (.obj cc fds) ∧ fds.length < 1000 ∧ P (pt δ i (.obj cc (putG ff d fds))) := ⟨fds, h1, h2, by rw [e1, e]; exact h⟩
theorem h_iseq {R : List D → Option Nat → List Sl → Prop} (h : ue δ (fun p δ1 => ∃ d ds o, ctP δ1 p = some d ∧ itS d = some ds ∧ o = lkOf δ1 p ∧ R ds o δ1) X) : uISeq ue δ R X := h
theorem h_iseqI {R : List D → Option Nat → Prop} {ds : List D} {o : Option Nat} (h1 : ctP δ p = some d) (h2 : itS d = some ds) (e : lkOf δ p = o) (h : R ds o) : ∃ d ds o, ctP δ p = some d ∧ itS d = some ds ∧ o = lkOf δ p ∧ R ds o := ⟨d, ds, o, h1, h2, e.symm, h⟩
theorem h_irng1 {R : List D → Option Nat → List Sl → Prop} (h : us δ (fun ps δ1 => ∃ j : Int, ps = [.fz (.int j)] ∧ -(2 ^ 62) ≤ j ∧ j < 2 ^ 62 ∧ R (rngD 0 j.toNat) none δ1) X) : uIRng1 us δ R X := h
theorem h_irng1I {R : Int → Prop} {x : Int} (h1 : -(2 ^ 62) ≤ x ∧ x < 2 ^ 62) (h : R x) : ∃ j : Int, [Pv.fz (.int x)] = [.fz (.int j)] ∧ -(2 ^ 62) ≤ j ∧ j < 2 ^ 62 ∧ R j := ⟨x, rfl, h1.1, h1.2, h⟩
theorem h_irng2 {R : List D → Option Nat → List Sl → Prop} (h : us δ (fun ps δ1 => ∃ i j : Int, ps = [.fz (.int i), .fz (.int j)] ∧ (-(2 ^ 62) ≤ i ∧ i < 2 ^ 62 ∧ -(2 ^ 62) ≤ j ∧ j < 2 ^ 62) ∧ R (rngD i (j - i).toNat) none δ1) X) : uIRng2 us δ R X := h
theorem h_irng2I {R : Int → Int → Prop} {x y : Int} (h1 : -(2 ^ 62) ≤ x ∧ x < 2 ^ 62 ∧ -(2 ^ 62) ≤ y ∧ y < 2 ^ 62) (h : R x y) : ∃ i j : Int, [Pv.fz (.int x), Pv.fz (.int y)] = [.fz (.int i), .fz (.int j)] ∧ (-(2 ^ 62) ≤ i ∧ i < 2 ^ 62 ∧ -(2 ^ 62) ≤ j ∧ j < 2 ^ 62) ∧ R i j := ⟨x, y, rfl, h1, h⟩
theorem h_ienum {R : List D → Option Nat → List Sl → Prop} (h : us δ (fun ps δ1 => ∃ p ds es o, ps = [p] ∧ ((ctP δ1 p = some (.lst ds)) ∨ (∃ xs, ctP δ1 p = some (.scr xs) ∧ ds = xs.map .int)) ∧ es = enumD ds ∧ o = lkOf δ1 p ∧ R es o δ1) X) : uIEnum us δ R X := h
theorem h_ienumL {R : List D → Option Nat → Prop} {ds : List D} {o : Option Nat} (h1 : ctP δ p = some (.lst ds)) (e : lkOf δ p = o) (h : R (enumD ds) o) : ∃ p' ds es o, [p] = [p'] ∧ ((ctP δ p' = some (.lst ds)) ∨ (∃ xs, ctP δ p' = some (.scr xs) ∧ ds = xs.map .int)) ∧ es = enumD ds ∧ o = lkOf δ p' ∧ R es o := ⟨p, ds, _, o, rfl, .inl h1, rfl, e.symm, h⟩
theorem h_lc {w : UI} {g : UG} {tt : UT} {te : UE} {ns : List Nat} (h : w δ (fun ds o δ1 => ds.length ≤ 1000000 ∧ LcU ds o g tt te ns Q δ1) X) : uLc w g tt te ns δ Q X := h
theorem h_dc {w : UI} {g : UG} {tt : UT} {tk te : UE} {ns : List Nat} (h : w δ (fun ds o δ1 => ds.length ≤ 1000000 ∧ DcU ds o g tt tk te ns Q δ1) X) : uDc w g tt tk te ns δ Q X := h
def uYes : UT := fun δ Q _ => Q true δ
theorem tr_yes {C : Ctx} {W : WX} : TrT C W tYes uYes := fun σ δ H G Q Q' X' S h k _ => k true δ H G S .refl h
theorem h_yes (h : B true δ) : uYes δ B X := h
theorem h_call {U : UP} {dds : List D} (h : us δ (fun ps δ1 => uCallP U (ps ++ dds.map Pv.fz) δ1 Q X) X) : uCall U dds us δ Q X := h
theorem h_meth {cc m : Str} {U : UP} {dds : List D} (h : ue δ (fun p δ1 => (∃ fds, ctP δ1 p = some (.obj cc fds) ∧ fds.lookup m = none) ∧ us δ1 (fun ps δ2 => uCallP U (p.fzn :: (ps ++ dds.map Pv.fz)) δ2 Q X) X) X) : uMeth cc m U dds ue us δ Q X := h
theorem h_methI {cc m : Str} {fds : List (Str × D)} {P : Prop} (h1 : ctP δ p = some (.obj cc fds)) (h2 : fds.lookup m = none) (h : P) : (∃ fds, ctP δ p = some (.obj cc fds) ∧ fds.lookup m = none) ∧ P := ⟨⟨fds, h1, h2⟩, h⟩
theorem h_make {cc : Str} {U : UP} {dds : List D} (h : us δ (fun ps δ1 => uMakeP cc U (ps ++ dds.map Pv.fz) δ1 Q X) X) : uMake cc U dds us δ Q X := h
theorem h_callP {U : UP} {ss : List Sl} (h1 : passLs δ ps = some ss) (h2 : okAts δ ps) (h : U ss (fun r ss' => Q r (backS δ ps ss')) (fun x ss' => X x (backS δ ps ss'))) : uCallP U ps δ Q X := ⟨ss, h1, h2, h⟩
theorem h_makeP {cc : Str} {U : UP} {ss : List Sl} (h1 : passLs δ ps = some ss) (h2 : okAts δ ps) (h : U (.io (.obj cc []) :: ss) (fun r ss' => ∃ fds rest, r = .fz .non ∧ ss' = .io (.obj cc fds) :: rest ∧ Q (.tm (.obj cc fds)) (backS δ ps rest)) (fun x ss' => ∃ s0 rest, ss' = s0 :: rest ∧ X x (backS δ ps rest))) : uMakeP cc U ps δ Q X := ⟨ss, h1, h2, h⟩
theorem h_dget2 {ud uk ux : UE} (h : ud δ (fun p δ1 => (∃ kds, ctP δ1 p = some (.dct kds)) ∧ uk δ1 (fun q δ2 => ux δ2 (fun r δ3 => ∃ kds k, ctP δ3 p = some (.dct kds) ∧ keyP q = some k ∧ (∀ d, valD kds k = some d → Q (.fz d) δ3) ∧ (valD kds k = none → Q r δ3)) X) X) X) : uDGet2 ud uk ux δ Q X := h
theorem h_isD {kds : List (Key × D)} {P : Prop} (h1 : ctP δ p = some (.dct kds)) (h : P) : (∃ kds, ctP δ p = some (.dct kds)) ∧ P := ⟨⟨kds, h1⟩, h⟩
end
end WK
/-! Words for the steps; facts of a law's classes. -/
namespace WK
open PySem L2
abbrev oSub : Op2 := oI0 fun i j => .int (i - j)
abbrev oMul : Op2 := oI CMul fun i j => .int (i * j)
abbrev oMod : Op2 := oI (fun _ j => 0 < j) fun i j => .int (i % j)
abbrev oDiv : Op2 := oI CDiv fun i j => .int (i / j)
abbrev oDivW : Op2 := oI CDivW fun i j => .int (i / j)
abbrev oPow : Op2 := oI CPow fun i j => .int (i ^ j.toNat)
abbrev oLt : Op2 := oI0 fun i j => .bl (decide (i < j))
abbrev oLe : Op2 := oI0 fun i j => .bl (decide (i ≤ j))
abbrev oGt : Op2 := oI0 fun i j => .bl (decide (j < i))
abbrev oGe : Op2 := oI0 fun i j => .bl (decide (j ≤ i))
structure GF (K : PySem.W.Frag) (mg : Str → Option Value) (cs : List Str) (nas : List (Str × Str)) (ks : List (Str × V)) : Prop where
  g : ∀ {i : Nat} {c : Str}, cs[i]? = some c → mg c = some (.ref (He.ga K c))
  cl : ∀ {i : Nat} {c : Str}, cs[i]? = some c → Cls K (He.ga K c)
  na : ∀ {i : Nat} {c f : Str}, nas[i]? = some (c, f) → NoAttr K (He.ga K c) f
  k : ∀ {i : Nat} {x : Str} {v : V}, ks[i]? = some (x, v) → ∃ u, mg x = some u ∧ RelV v u
/-! ### slots: what a change leaves -/
inductive PtR : List Sl → Nat → D → List Sl → Prop
  | ow {x d : D} {δ : List Sl} : PtR (.ow x :: δ) 0 d (.ow d :: δ)
  | io {x d : D} {δ : List Sl} : PtR (.io x :: δ) 0 d (.io d :: δ)
  | s {s : Sl} {d : D} {i : Nat} {δ δ' : List Sl} : PtR δ i d δ' → PtR (s :: δ) (i + 1) d (s :: δ')
theorem pt_succ {s : Sl} {δ : List Sl} {i : Nat} {d : D} : pt (s :: δ) (i + 1) d = s :: pt δ i d := by
  unfold pt
  rw [List.getElem?_cons_succ]
  cases δ[i]? <;> rfl
theorem PtR.eq {δ δ' : List Sl} {i : Nat} {d : D} (h : PtR δ i d δ') : pt δ i d = δ' := by
  induction h with
  | ow => rfl
  | io => rfl
  | s _ ih => rw [pt_succ, ih]
inductive StS : List Sl → Nat → Sl → List Sl → Prop
  | z {x s : Sl} {δ : List Sl} : StS (x :: δ) 0 s (s :: δ)
  | s {x s : Sl} {i : Nat} {δ δ' : List Sl} : StS δ i s δ' → StS (x :: δ) (i + 1) s (x :: δ')
theorem StS.eq {δ δ' : List Sl} {i : Nat} {s : Sl} (h : StS δ i s δ') : δ.set i s = δ' := by
  induction h with
  | z => rfl
  | s _ ih => rw [List.set_cons_succ, ih]
theorem pt_ow {x d : D} {δ : List Sl} : pt (.ow x :: δ) 0 d = .ow d :: δ := rfl
theorem pt_io {x d : D} {δ : List Sl} : pt (.io x :: δ) 0 d = .io d :: δ := rfl
theorem fzn_fz {d : D} : (Pv.fz d).fzn = .fz d := rfl
theorem fzn_at {i : Nat} : (Pv.at i).fzn = .at i := rfl
theorem fzn_tm {d : D} : (Pv.tm d).fzn = .fz d := rfl
theorem back_nil {δ : List Sl} {ss : List Sl} : backS δ [] ss = δ := by unfold backS; rfl
theorem back_at {δ : List Sl} {i : Nat} {ps : List Pv} {d : D} {ss : List Sl} : backS δ (.at i :: ps) (.io d :: ss) = pt (backS δ ps ss) i d := rfl
theorem back_af {δ : List Sl} {i : Nat} {ps : List Pv} {d : D} {ss : List Sl} : backS δ (.at i :: ps) (.fz d :: ss) = backS δ ps ss := rfl
theorem back_ao {δ : List Sl} {i : Nat} {ps : List Pv} {d : D} {ss : List Sl} : backS δ (.at i :: ps) (.ow d :: ss) = backS δ ps ss := rfl
theorem back_fz {δ : List Sl} {e : D} {ps : List Pv} {s : Sl} {ss : List Sl} : backS δ (.fz e :: ps) (s :: ss) = backS δ ps ss := rfl
section
variable {δ δ' : List Sl} {Q : UK} {X : UX} {E : UEnds} {ue : UE} {t u : US} {us : UA} {p q r : Pv} {d e : D} {i j n : Nat} {ps : List Pv}
def uAppI (i : Nat) (Q : Pv → List Sl → Prop) (d : D) (δ1 : List Sl) : Prop := ∃ ds, Mt δ1 i (.lst ds) ∧ ds.length < 10000000 ∧ Q (.fz .non) (pt δ1 i (.lst (ds ++ [d])))
theorem hp_app {ds : List D} (h1 : Mt δ i (.lst ds)) (h2 : ds.length < 10000000) (e : PtR δ i (.lst (ds ++ [d])) δ') (h : Q (.fz .non) δ') : uAppI i Q d δ := h_appI h1 h2 e.eq h
theorem hp_app0 (h : uSto q δ fun d δ1 => uAppI i Q d δ1) : oApp δ (.at i) [q] Q := ⟨i, q, rfl, rfl, h⟩
theorem hp_popAt {ds : List D} {k : Nat} (h1 : Mt δ i (.lst ds)) (h2 : ds[k]? = some d) (h3 : ds.length < 10000000) (e : PtR δ i (.lst (ds.eraseIdx k)) δ') (h : Q (.fz d) δ') : oPopAt δ (.at i) [.fz (.int (k : Nat))] Q := ⟨i, k, ds, d, rfl, rfl, h1, h2, h3, by rw [e.eq]; exact h⟩
theorem hp_stoO {P : D → List Sl → Prop} (e : δ[i]? = some (.ow d)) (e' : StS δ i (.fz d) δ') (h : P d δ') : uSto (.at i) δ P := h_stoO e e'.eq h
theorem hp_gF {P : List Sl → Prop} (h1 : NK δ i) (e : StS δ i (.fz d) δ') (h : P δ') : uPut i d δ P := h_gFI h1 e.eq h
theorem hp_gO {P : List Sl → Prop} (h1 : NK δ i) (h2 : i < δ.length) (e : StS δ i (.ow d) δ') (h : P δ') : ugO i (.tm d) δ P := h_gOT h1 h2 e.eq h
theorem hp_setL {ds : List D} {k : Int} {m : Nat} {P : List Sl → Prop} (h1 : Mt δ i (.lst ds)) (h2 : ixN ds.length k = some m) (e : PtR δ i (.lst (ds.set m d)) δ') (h : P δ') : oSet (.at i) (.fz (.int k)) (.fz d) δ P := h_setL h1 h2 e.eq h
theorem hp_setD {kds : List (Key × D)} {key : Key} {P : List Sl → Prop} (hk : keyP q = some key) (h1 : Mt δ i (.dct kds)) (h2 : kds.length < 10000000) (e : PtR δ i (.dct (putD kds key d)) δ') (h : P δ') : oSet (.at i) q (.fz d) δ P := h_setD hk h1 h2 e.eq h
def uSfI (i : Nat) (cc ff : Str) (P : List Sl → Prop) (d : D) (δ3 : List Sl) : Prop := ∃ fds, Mt δ3 i (.obj cc fds) ∧ fds.length < 1000 ∧ P (pt δ3 i (.obj cc (putG ff d fds)))
theorem hp_sfld {cc ff : Str} {fds fds' : List (Str × D)} {P : List Sl → Prop} (h1 : Mt δ i (.obj cc fds)) (h2 : fds.length < 1000) (e1 : putG ff d fds = fds') (e : PtR δ i (.obj cc fds') δ') (h : P δ') : uSfI i cc ff P d δ := h_sfldJ h1 h2 e1 e.eq h
theorem hp_sfld0 {cc ff : Str} {P : List Sl → Prop} (h : uSto p δ fun d δ3 => uSfI i cc ff P d δ3) : ∃ k, Pv.at i = .at k ∧ uSto p δ fun d δ3 => ∃ fds, Mt δ3 k (.obj cc fds) ∧ fds.length < 1000 ∧ P (pt δ3 k (.obj cc (putG ff d fds))) := ⟨i, rfl, h⟩
theorem h_rtF {Q : Pv → List Sl → Prop} (h : Q (.fz d) (δ.take n)) : retK Q n (.fz d) δ := h
theorem h_rtT {Q : Pv → List Sl → Prop} (h : Q (.tm d) (δ.take n)) : retK Q n (.tm d) δ := h
theorem h_rtO {Q : Pv → List Sl → Prop} (e : δ[i]? = some (.ow d)) (h : Q (.tm d) (δ.take n)) : retK Q n (.at i) δ := by unfold retK; simp only [e]; exact h
theorem h_rtA {Q : Pv → List Sl → Prop} (e : δ[i]? = some (.fz d)) (h : Q (.fz d) (δ.take n)) : retK Q n (.at i) δ := by unfold retK; simp only [e]; exact h
theorem h_iseqN {R : List D → Option Nat → Prop} {ds : List D} (h1 : ctP δ p = some d) (h2 : itS d = some ds) (e : lkOf δ p = none) (h : R ds none) : ∃ d ds o, ctP δ p = some d ∧ itS d = some ds ∧ o = lkOf δ p ∧ R ds o := h_iseqI h1 h2 e h
theorem h_iseqS {R : List D → Option Nat → Prop} {ds : List D} (h1 : ctP δ p = some d) (h2 : itS d = some ds) (e : lkOf δ p = some i) (h : R ds (some i)) : ∃ d ds o, ctP δ p = some d ∧ itS d = some ds ∧ o = lkOf δ p ∧ R ds o := h_iseqI h1 h2 e h
theorem h_ienumN {R : List D → Option Nat → Prop} {ds : List D} (h1 : ctP δ p = some (.lst ds)) (e : lkOf δ p = none) (h : R (enumD ds) none) : ∃ p' ds es o, [p] = [p'] ∧ ((ctP δ p' = some (.lst ds)) ∨ (∃ xs, ctP δ p' = some (.scr xs) ∧ ds = xs.map .int)) ∧ es = enumD ds ∧ o = lkOf δ p' ∧ R es o := h_ienumL h1 e h
theorem h_ienumS {R : List D → Option Nat → Prop} {ds : List D} (h1 : ctP δ p = some (.lst ds)) (e : lkOf δ p = some i) (h : R (enumD ds) (some i)) : ∃ p' ds es o, [p] = [p'] ∧ ((ctP δ p' = some (.lst ds)) ∨ (∃ xs, ctP δ p' = some (.scr xs) ∧ ds = xs.map .int)) ∧ es = enumD ds ∧ o = lkOf δ p' ∧ R es o := h_ienumL h1 e h
/-- a slot that holds nothing, or is told -/
def so : Option D → Sl | none => .un | some d => .fz d
theorem nk_so (v : Option D) : nkO (some (so v)) := by cases v <;> trivial
theorem h_genD {ua : UE} (P : D → Prop) (h : ∀ R : UK, (∀ d, P d → R (.fz d) δ) → ua δ R X) (k : ∀ d, P d → Q (.fz d) δ) : ua δ Q X := h Q k
/-! ### loops -/
theorem for_N {ds : List D} {g : UG} {b : US} (Inv : Nat → List Sl → Prop) (h0 : Inv 0 δ) (hs : ∀ (n : Nat) d δ, ds[n]? = some d → Inv n δ → g (.fz d) δ fun δ2 => b { nx := Inv (n + 1), rt := E.rt, bk := E.nx, ct := Inv (n + 1), ex := E.ex } δ2) (hd : ∀ δ, Inv ds.length δ → E.nx δ) : ForU ds none g b E δ := ⟨Inv, h0, hs, hd⟩
theorem for_rng {m : Nat} {g : UG} {b : US} (Inv : Nat → List Sl → Prop) (h0 : Inv 0 δ) (hs : ∀ (n : Nat) δ, n < m → Inv n δ → g (.fz (.int (n : Nat))) δ fun δ2 => b { nx := Inv (n + 1), rt := E.rt, bk := E.nx, ct := Inv (n + 1), ex := E.ex } δ2) (hd : ∀ δ, Inv m δ → E.nx δ) {k : Int} (hk : k.toNat = m) : ForU (rngD 0 k.toNat) none g b E δ := by
  subst hk
  refine for_N Inv h0 (fun n d δ1 hn hi => ?_) (fun δ1 hi => hd δ1 (by simpa [rngD] using hi))
  unfold rngD at hn
  rw [List.getElem?_map] at hn
  cases hc : (List.range k.toNat)[n]? with
  | none => rw [hc] at hn; cases hn
  | some c =>
    rw [hc] at hn
    obtain ⟨hl, e⟩ := List.getElem?_eq_some_iff.mp hc
    have e' : n = c := by simpa using e
    subst e'
    cases hn
    have := hs n δ1 (by simpa using hl) hi
    rw [← Int.zero_add ((n : Nat) : Int)] at this
    exact this
theorem for_enum {xs : List D} {g : UG} {b : US} (Inv : Nat → List Sl → Prop) (h0 : Inv 0 δ) (hs : ∀ (n : Nat) d δ, xs[n]? = some d → Inv n δ → g (.fz (.tup [.int (n : Nat), d])) δ fun δ2 => b { nx := Inv (n + 1), rt := E.rt, bk := E.nx, ct := Inv (n + 1), ex := E.ex } δ2) (hd : ∀ δ, Inv xs.length δ → E.nx δ) : ForU (enumD xs) none g b E δ := by
  refine for_N Inv h0 (fun n d δ1 hn hi => ?_) (fun δ1 hi => hd δ1 (by simpa [enumD] using hi))
  unfold enumD at hn
  rw [List.getElem?_map, List.getElem?_zipIdx] at hn
  cases hc : xs[n]? with
  | none => rw [hc] at hn; cases hn
  | some c =>
    rw [hc] at hn
    cases hn
    show g (.fz (.tup [.int ((0 + n : Nat) : Int), c])) δ1 _
    rw [Nat.zero_add]
    exact hs n c δ1 hc hi
/-! ### comprehensions that leave the state -/
theorem take_snoc {α : Type} {ds : List α} {n : Nat} {d : α} (h : ds[n]? = some d) : ds.take (n + 1) = ds.take n ++ [d] := by rw [List.take_add_one, h]; rfl
theorem lc_N {ds : List D} {g : UG} {tt : UT} {te : UE} {ns : List Nat} (Inv : Nat → List D → List Sl → Prop) (h0 : Inv 0 [] (wipeS δ ns))
    (hs : ∀ (n : Nat) d acc δ, ds[n]? = some d → acc.length ≤ n → Wp ns δ → Inv n acc δ → g (.fz d) δ fun δ2 => tt δ2 (fun b δ3 => if b = true then te δ3 (fun p δ4 => uSto p δ4 fun e δ5 => Inv (n + 1) (acc ++ [e]) (wipeS δ5 ns)) noX else Inv (n + 1) acc (wipeS δ3 ns)) noX)
    (hd : ∀ acc δ', acc.length ≤ ds.length → Wp ns δ' → Inv ds.length acc δ' → Q (.tm (.lst acc)) (restS δ δ' ns)) : LcU ds none g tt te ns Q δ := ⟨Inv, h0, hs, hd⟩
theorem fm_yes {α β : Type} {ds : List α} {f : α → Option β} {n : Nat} {d : α} {e : β} {acc : List β} (hn : ds[n]? = some d) (ha : acc = (ds.take n).filterMap f) (he : f d = some e) : acc ++ [e] = (ds.take (n + 1)).filterMap f := by
  rw [take_snoc hn, List.filterMap_append, ha]; simp [he]
theorem fm_no {α β : Type} {ds : List α} {f : α → Option β} {n : Nat} {d : α} {acc : List β} (hn : ds[n]? = some d) (ha : acc = (ds.take n).filterMap f) (he : f d = none) : acc = (ds.take (n + 1)).filterMap f := by
  rw [take_snoc hn, List.filterMap_append, ha]; simp [he]
theorem dc_N {ds : List D} {g : UG} {tt : UT} {tk te : UE} {ns : List Nat} (Inv : Nat → List (Key × D) → List Sl → Prop) (h0 : Inv 0 [] (wipeS δ ns))
    (hs : ∀ (n : Nat) d acc δ, ds[n]? = some d → acc.length ≤ n → Wp ns δ → Inv n acc δ → g (.fz d) δ fun δ2 => tt δ2 (fun b δ3 => if b = true then tk δ3 (fun q δ4 => te δ4 (fun p δ5 => ∃ key, keyP q = some key ∧ uSto p δ5 fun e δ6 => Inv (n + 1) (putD acc key e) (wipeS δ6 ns)) noX) noX else Inv (n + 1) acc (wipeS δ3 ns)) noX)
    (hd : ∀ acc δ', acc.length ≤ ds.length → Wp ns δ' → Inv ds.length acc δ' → Q (.tm (.dct acc)) (restS δ δ' ns)) : DcU ds none g tt tk te ns Q δ := ⟨Inv, h0, hs, hd⟩
end
end WK
/-! own things: iteration by __iter__ that hands back iter(a tuple), in by it -/
namespace WK
open PySem L2 PySem.Spec PyProof.Rows
/-- what a class must have, whose instances are walked by such a def -/
structure ItCl (K : PySem.W.Frag) (C f : Addr) (fld : Str) : Prop where
  it : PySem.W.findIn K (.ref C) "__iter__" = some (some (.ref f))
  fn : PySem.W.isFn K (.ref f) = true
  cn : PySem.W.findIn K (.ref C) "__contains__" = some none
  cl : Cls K C
  no : NoAttr K C fld
section
variable {X : Cx} {pins : List (Addr × Obj)} {σ : L2.St} {H : Hp} {s : Shared}
end
end WK
/-! own things: in, len, ==, != -/
namespace WK
open PySem L2 PySem.Spec PyProof.Rows
section
variable {X : Cx} {pins : List (Addr × Obj)} {σ : L2.St} {H : Hp} {s : Shared}
/-! ### a method run at any place below the body -/
theorem run_at {k : Nat} {f : Addr} {fd : FuncData} {ps : List Str} {sp : Sp} {A : Around} (F : FnOk X.prog X.w X.K X.mg X.base (L2.CX X.prog X.w) k f fd ps sp) (hb : Binds X.K fd ps []) (hr : Room k A) (hf : A.frames = X.A.frames) (I : Inv X pins σ H s) {vs : List V} {us : List Value} (r : Vals vs us) {Q : VK} (hsp : sp vs H Q E0)
    {R : Value → Shared → Prop} {E : Value → Shared → Prop} (h : ∀ v u H' s', Inv X pins σ H' s' → RelV v u → Q v H' → R u s') : wpAny (model X.prog X.w) A (call (.ref f) us) R E s := by
  have e0 : Env0 X.prog X.w X.K X.mg X.base A X.stack s H := by
    have e := I.env0
    exact ⟨by rw [hf]; exact e.frames, e.mod, e.bs, e.bsz, e.funs, e.frf, e.hok, e.bare⟩
  have hl := F.len _ _ _ _ hsp
  refine wpAny_call (codeAny_mono (F.run A X.stack s H ⟨us, []⟩ us vs _ E0 hr e0 (by
    have := hb s us I.kIn (by rw [List.append_nil, ← r.length]; exact hl)
    simpa using this) r hsp) fun r s' hq => ?_)
  cases r with
  | error e => exact absurd hq (by
      intro z
      obtain ⟨_, _, _, _, _, _, _, _, _, _, _, _, q⟩ := z
      exact q)
  | ok fl =>
    cases fl with
    | ret u =>
      obtain ⟨v, H', I', rv, q⟩ := I.after hq
      exact h v u H' s' I' rv q
    | next => exact False.elim hq
    | brk => exact False.elim hq
    | cont => exact False.elim hq
/-- len(o) -/
def rLenOwn (K : PySem.W.Frag) (c : Str) (sp : Sp) : List V → Hp → VK → Prop := fun xs H Q => ∃ (p dx : Addr) (fs : List (Str × V)), xs = [.ref p] ∧ H p = some (.ins (He.ga K c) dx fs) ∧ sp [.ref p] H (fun v H' => ∃ n : Int, v = .int n ∧ (0 ≤ n ∧ n < 2 ^ 63) ∧ Q (.int n) H') E0
theorem cr_lenOwn {k : Nat} {c : Str} {ps : List Str} {sp : Sp} (M : MCal X.prog X.w X.K X.mg X.base k c "__len__" ps sp) (hr : Room (k + 1) X.A) : CallR X (.builtin "len") (rLenOwn X.K c sp) := by
  intro pins s σ H xs us Q I r h
  obtain ⟨p, dx, fs, rfl, hp, hs⟩ := h
  obtain ⟨u, rfl, ru⟩ := vals1 r
  cases ru
  obtain ⟨⟨fd, F, b⟩, mt⟩ := M
  obtain ⟨mA, J, _⟩ := ins_get I.hok hp
  obtain ⟨od, J, _⟩ := J.look
  obtain ⟨m, hF⟩ := I.fr
  refine PySem.W.len_K hF I.ok.mod.kin J mt.at_ mt.fn ?_
  refine run_at (A := X.A.in1) (vs := [.ref p]) F b hr.in1 rfl I (.cons rfl .nil) hs fun v u H' s' I' rv q => ?_
  obtain ⟨n, rfl, hn, q⟩ := q
  obtain ⟨t, rfl⟩ := rv
  exact ⟨hn, .int n, H', I'.tok _, ⟨_, rfl⟩, q⟩
end
end WK
namespace PySem.W
open PySem PySem.Calls PyProof.Rows Builtin
section
variable {prog : Program} {w : World} {A : Around} {E : Value → Shared → Prop} {s : Shared} {K : Frag} {x C L f : Addr} {h₀ : Heap} {m : Str → Option Value} {ox : Obj} {od : Option Obj} {name : Str} {b tb : Value}
end
end PySem.W
namespace WK
open PySem L2 PySem.Spec PyProof.Rows
section
variable {X : Cx} {pins : List (Addr × Obj)} {σ : L2.St} {H : Hp} {s : Shared}
structure NeCl (K : PySem.W.Frag) (C : Addr) : Prop where
  ne : PySem.W.findIn K (.ref C) "__ne__" = some (some (.builtin "object.__ne__"))
  ob : PySem.W.subIn K (.ref C) (.type "object") = some true
end
end WK
namespace WK
open PySem L2 PySem.Spec PyProof.Rows
/-! ### dicts compared -/
def dEq (ls ks : List (Key × V)) : Bool := ks.all fun p => match valV ls p.1 with
  | some y => eqV p.2 y
  | Option.none => false
end WK
namespace WK
open PySem L2 PySem.Spec PyProof.Rows
section
variable {X : Cx} {pins : List (Addr × Obj)} {σ : L2.St} {H : Hp} {s : Shared}
end
end WK
/-! Own things by data: in, ==, !=, +, isinstance; dicts compared. -/
namespace WK
open PySem L2 PySem.Spec PyProof.Rows
/-- what is known of class c beside the classes cs -/
structure NfC (K : PySem.W.Frag) (c : Str) (cs : List Str) : Prop where
  ty : ∀ T ∈ builtN, PySem.W.notFirst K (He.ga K c) (.type T) = true
  cl : ∀ c' ∈ cs, PySem.W.notFirst K (He.ga K c) (.ref (He.ga K c')) = true
  ity : ∀ T ∈ builtN, PySem.W.kitOne K (.type T) (.ref (He.ga K c)) = some false
  icl : ∀ c' ∈ cs, PySem.W.kitOne K (.ref (He.ga K c')) (.ref (He.ga K c)) = some (c' == c)
  ok : ∀ c' ∈ cs, ∀ (H : Hp) (a dx : Addr) (fs : List (Str × V)), H a = some (.ins (He.ga K c') dx fs) → TyOf K H (.ref a) (.ref (He.ga K c'))
section
variable {C : Ctx} {W : WX} {σ : L2.St} {δ δ' : List Sl} {H G H' G' Hs : Hp} {v w : V} {p q : Pv} {d : D} {K : PySem.W.Frag} {te ta tb : TE} {ue ua ub : UE} {U : UP} {c fld : Str} {cs : List Str}
theorem rpl_strs : ∀ {ws : List Str} {vs : List V}, RpL K G vs (ws.map D.str) → vs = ws.map V.str
  | [], _, h => by cases h; rfl
  | w :: ws, _, h => by
    cases h with
    | cons a t => cases a; rw [rpl_strs t]; rfl
end
end WK
/-! Walks over dicts by data: the dict is locked while it is walked, and free again behind it, whatever the way out. -/
namespace WK
open PySem L2 PySem.Spec PyProof.Rows
open LamX (Tabs)
section
variable {X : Cx}
end
/-! ### told data do not mind a lock -/
def Exd (G G' : Hp) : Prop := ∀ b o, G b = some o → G' b = some o ∨ (∃ od kvs, o = .dK kvs ∧ G' b = some (.frz od (.dK kvs))) ∨ (∃ od kvs, o = .frz od (.dK kvs) ∧ G' b = some (.dK kvs))
section
variable {K : PySem.W.Frag} {G G' H H' : Hp} {a b : Addr} {d : D}
theorem rd_exd {kvs : List (Key × V)} (e : Exd G G') (h : Rd G a (.dK kvs)) : Rd G' a (.dK kvs) := by
  rcases h with h | ⟨o, h⟩
  · rcases e a _ h with h | ⟨od, k, e1, h⟩ | ⟨od, k, e1, h⟩
    · exact .inl h
    · cases e1; exact .inr ⟨od, h⟩
    · cases e1
  · rcases e a _ h with h | ⟨od, k, e1, h⟩ | ⟨od, k, e1, h⟩
    · exact .inr ⟨o, h⟩
    · cases e1
    · cases e1; exact .inl h
theorem rd_exo {u : HO} (e : Exd G G') (n : ∀ kvs, u ≠ .dK kvs) (n' : ∀ o kvs, u ≠ .frz o (.dK kvs)) (h : Rd G a u) : Rd G' a u := by
  rcases h with h | ⟨o, h⟩
  · rcases e a _ h with h | ⟨od, k, e1, h⟩ | ⟨od, k, e1, h⟩
    · exact .inl h
    · exact absurd e1 (n _)
    · exact absurd e1 (n' _ _)
  · rcases e a _ h with h | ⟨od, k, e1, h⟩ | ⟨od, k, e1, h⟩
    · exact .inr ⟨o, h⟩
    · cases e1
    · cases e1; exact absurd rfl (n _)
theorem st_exd {xs : List V} (e : Exd G G') (h : SqT K G a xs) : SqT K G' a xs := by
  rcases h with h | h
  · exact .inl (rd_exo e (fun _ z => by cases z) (fun _ _ z => by cases z) h)
  · exact .inr h
theorem sl_exd {xs : List V} (e : Exd G G') (h : SqL K G a xs) : SqL K G' a xs := by
  rcases h with h | h
  · exact .inl (rd_exo e (fun _ z => by cases z) (fun _ _ z => by cases z) h)
  · exact .inr h
theorem eq_exd {u : HO} (e : Exd G G') (n : ∀ kvs, u ≠ .dK kvs) (n' : ∀ o kvs, u ≠ .frz o (.dK kvs)) (h : G a = some u) : G' a = some u := by
  rcases e a _ h with h | ⟨od, k, e1, h⟩ | ⟨od, k, e1, h⟩
  · exact h
  · exact absurd e1 (n _)
  · exact absurd e1 (n' _ _)
mutual
theorem Rp.swap (e : Exd G G') : ∀ {v : V} {d : D}, Rp K G v d → Rp K G' v d
  | _, _, .non => .non
  | _, _, .bl b => .bl b
  | _, _, .int i => .int i
  | _, _, .str x => .str x
  | _, _, .ty n => .ty n
  | _, _, .cls c => .cls c
  | _, _, .tup h t => .tup (st_exd e h) (RpL.swap e t)
  | _, _, .tpn h n t => .tpn (eq_exd e (fun _ z => by cases z) (fun _ _ z => by cases z) h) n (RpL.swap e t)
  | _, _, .scr h => .scr (sl_exd e h)
  | _, _, .lst h t => .lst (eq_exd e (fun _ z => by cases z) (fun _ _ z => by cases z) h) (RpL.swap e t)
  | _, _, .dct h k t => .dct (rd_exd e h) k (RpL.swap e t)
  | _, _, .obj h k t => .obj (eq_exd e (fun _ z => by cases z) (fun _ _ z => by cases z) h) k (RpL.swap e t)
  | _, _, .exc h k t => .exc (eq_exd e (fun _ z => by cases z) (fun _ _ z => by cases z) h) k (RpL.swap e t)
  | _, _, .err h h2 k t => .err (eq_exd e (fun _ z => by cases z) (fun _ _ z => by cases z) h) (eq_exd e (fun _ z => by cases z) (fun _ _ z => by cases z) h2) k (RpL.swap e t)
  | _, _, .adr a => .adr a
  | _, _, .dcT h k t => .dcT (rd_exo e (fun _ z => by cases z) (fun _ _ z => by cases z) h) k (RpL.swap e t)
  | _, _, .tpk h => .tpk (eq_exd e (fun _ z => by cases z) (fun _ _ z => by cases z) h)
theorem RpL.swap (e : Exd G G') : ∀ {vs : List V} {ds : List D}, RpL K G vs ds → RpL K G' vs ds
  | _, _, .nil => .nil
  | _, _, .cons h t => .cons (Rp.swap e h) (RpL.swap e t)
end
theorem RpM.swap {κ : Type} {kvs : List (κ × V)} {kds : List (κ × D)} (e : Exd G G') (h : RpM K G kvs kds) : RpM K G' kvs kds := ⟨h.1, RpL.swap e h.2⟩
theorem OwnR.swap (h : OwnR K H G a d) (e : Exd G G') (hh : ∀ o, H a = Option.some o → H' a = Option.some o) : OwnR K H' G' a d := by
  cases d with
  | lst ds => obtain ⟨vs, h, r⟩ := h; exact ⟨vs, hh _ h, r.swap e⟩
  | dct ds => obtain ⟨vs, h, r⟩ := h; exact ⟨vs, hh _ h, r.swap e⟩
  | obj c ds => obtain ⟨dx, vs, h, r⟩ := h; exact ⟨dx, vs, hh _ h, r.swap e⟩
  | dcT ds => obtain ⟨vs, h, r⟩ := h; exact ⟨vs, hh _ h, r.swap e⟩
  | _ => exact h.elim
theorem OwnL.swap (h : OwnL K H G a d) (e : Exd G G') (hh : ∀ o, H a = Option.some o → H' a = Option.some o) : OwnL K H' G' a d := by
  rcases h with h | ⟨kds, od, kvs, e1, h, r⟩
  · exact .inl (h.swap e hh)
  · exact .inr ⟨kds, od, kvs, e1, hh _ h, r.swap e⟩
end
section
variable {C : Ctx} {W : WX} {σ σ' : L2.St} {δ δ' : List Sl} {H H' G G' Hs : Hp} {v : V} {p : Pv} {d : D} {a : Addr} {kvs : List (Key × V)} {od : Obj} {i : Nat}
end
section
variable {C : Ctx} {W : WX} {σ σ' : L2.St} {δ δ' : List Sl} {H H' G G' Hs : Hp} {a : Addr} {kvs : List (Key × V)} {kds : List (Key × D)} {od : Obj} {i : Nat} {E : Ends} {E' : UEnds} {g : TG} {ug : UG} {t : TS} {u : US} {o : Option Nat} {K : PySem.W.Frag}
end
end WK
/-! try / except .. as e by data. -/
namespace WK
open PySem L2 PySem.Spec PyProof.Rows
def uTryE (yes no : List Str) (i : Nat) (us : Addr → Addr → Xn → US) (E : UEnds) : UEnds :=
  { nx := E.nx, rt := E.rt, bk := E.bk, ct := E.ct, ex := fun x δ' => (x.1 ∈ yes ∧ NK δ' i ∧ ∀ a dd, us a dd x { nx := fun δ2 => NK δ2 i ∧ E.nx (δ2.set i .un), rt := E.rt, bk := fun δ2 => NK δ2 i ∧ E.bk (δ2.set i .un), ct := fun δ2 => NK δ2 i ∧ E.ct (δ2.set i .un), ex := fun _ _ => False } (δ'.set i (.fz (.exc a dd x.1 x.2)))) ∨ (x.1 ∈ no ∧ E.ex x δ') }
section
variable {C : Ctx} {W : WX} {σ σ' : L2.St} {δ δ' : List Sl} {H H' G G' Hs : Hp} {i : Nat}
theorem SR.unset (S : SR C σ δ H G) (hi : ∀ t, δ[i]? = some t → t.isK = false) : SR C (σ.set i none) (δ.set i .un) H G ∧ Stp σ δ H G (σ.set i none) (δ.set i .un) H G := by
  obtain ⟨S1, T1⟩ := S.asgF (v := .non) (d := .non) hi .non
  have back : ∀ (j : Nat) (t : Sl), (δ.set i .un)[j]? = some t → t ≠ .un → i ≠ j ∧ δ[j]? = some t ∧ (σ.set i none)[j]? = σ[j]? := fun j t hj ht => by
    by_cases e : i = j
    · subst e
      by_cases il : i < δ.length
      · rw [List.getElem?_set_self il] at hj; cases hj; exact absurd rfl ht
      · rw [List.getElem?_eq_none (by rw [List.length_set]; omega)] at hj; cases hj
    · rw [List.getElem?_set_ne e] at hj; exact ⟨e, hj, List.getElem?_set_ne e⟩
  have nu : ∀ t : Sl, t.isO = true → t ≠ .un := fun t h e => by subst e; cases h
  refine ⟨⟨S.sub, S.nt, S.gq, S.fr, S.pl, S.tab, by simp [S.len], fun j t hj => ?_, fun j k a s t hj hk hs ht e1 e2 => ?_⟩, ⟨Ex.refl _, fun _ _ h _ _ => h, fun _ _ _ _ _ _ => rfl, fun b o h n z => ?_, fun b o h n z => ?_, fun j t hj k => ?_, fun b o h n => ⟨o, h, n⟩⟩⟩
  · by_cases ht : t = .un
    · subst ht; trivial
    · obtain ⟨_, h1, h2⟩ := back j t hj ht; rw [h2]; exact S.sl j t h1
  · obtain ⟨_, a1, a2⟩ := back j s hj (nu s hs)
    obtain ⟨_, b1, b2⟩ := back k t hk (nu t ht)
    exact S.dj j k a s t a1 b1 hs ht (a2 ▸ e1) (b2 ▸ e2)
  · obtain ⟨j, s, hj, hs, hx⟩ := z
    obtain ⟨_, a1, a2⟩ := back j s hj (nu s (s.isO_of hs)); exact ⟨j, s, a1, hs, a2 ▸ hx⟩
  · obtain ⟨j, s, hj, hs, hx⟩ := z
    obtain ⟨_, a1, a2⟩ := back j s hj (nu s hs); exact ⟨j, s, a1, hs, a2 ▸ hx⟩
  · have e : i ≠ j := fun e => by subst e; rw [hi t hj] at k; cases k
    exact ⟨List.getElem?_set_ne e, t, (List.getElem?_set_ne e).trans hj, KeepS.refl t⟩
theorem tr_callS {U : UP} {ts : TA} {us : UA} (ht : TrA C W ts us) : TrE C W (tCallS (SpU C.K C.T U) (WE W) ts) (uCall U [] us) := fun σ δ H G Q Q' X' S hu k kx =>
  ht σ δ H G _ _ X' S hu (fun vs ps δ1 H1 G1 S1 T1 rs q => call_go (fun _ _ _ z => z) S1 (fun a => T1.nn) rs (by have q' : uCallP U (ps ++ []) δ1 Q' X' := q; rw [List.append_nil] at q'; exact q') (KC.of k T1) (kx.step T1)) kx
/-- e.f -/
def uXf (x : Xn) (a dd : Addr) (c f : Str) (ue : UE) : UE := fun δ Q X => ue δ (fun p δ1 => ∃ fds d, x.1 = c ∧ p = .fz (.exc a dd c fds) ∧ fds.lookup f = some d ∧ Q (.fz d) δ1) X
theorem tr_xf {x : Xn} {a dd : Addr} {c f : Str} {te : TE} {ue : UE} (h : TrE C W te ue) : TrE C W (tXf a (.ref (He.ga C.K x.1)) (some dd) (He.ga C.K c) f te) (uXf x a dd c f ue) := fun σ δ H G Q Q' X' S hu k kx =>
  h σ δ H G _ _ X' S hu (fun v p δ1 H1 G1 S1 T1 r q => by
    obtain ⟨fds, d, e, rfl, hl, q⟩ := q
    have r' : Rp C.K G1 v (.exc a dd c fds) := r
    cases r' with
    | exc hd k1 t =>
      rename_i fs
      rcases (show RpM C.K G1 fs fds from ⟨k1, t⟩).look f with ⟨_, z⟩ | ⟨w, d', z1, z2, rw'⟩
      · rw [hl] at z; cases z
      · rw [hl] at z2; cases z2
        exact ⟨rfl, by rw [e], dd, fs, w, rfl, S1.sub dd _ hd, z1, k w (.fz d) δ1 H1 G1 S1 T1 rw' q⟩) kx
end
end WK
/-! Methods and new instances whose exceptions are wished by the slots. -/
namespace WK
open PySem L2 PySem.Spec PyProof.Rows
def tMethS (C : Addr) (m : Str) (sp : Sp) (E : L2.St → XK) (ta : TE) (t : TA) : TE := fun σ H Q => ta σ H fun x H1 => ∃ a dx fs, x = .ref a ∧ H1 a = some (.ins C dx fs) ∧ fs.lookup m = none ∧ t σ H1 fun vs H2 => sp (x :: vs) H2 Q (E σ)
section
variable {X : Cx} {CX : CXT} {k : Nat} {f C : Addr} {fd : FuncData} {ps : List Str} {sp : Sp} {E : L2.St → XK} {x m : Str} {p pos apos : Pos} {e o : Expr} {es : List Expr} {ta : TE} {t : TA}
theorem pe_methS {pl : Sem Bool} (he : PE X o ta) (c : Cls X.K C) (hm : Meth X.K C m f) (F : FnOk X.prog X.w X.K X.mg X.base CX k f fd ps sp) (hr : Room k X.A) (hb : Binds X.K fd ps []) (hx : ∀ σ, PassesAt CX X σ (E σ)) (ha : PA X (e :: es) t)
    (hst : starEach (e :: es) X.env = (false, eval e X.env) :: starEach es X.env := by rfl) (hpl : (backTo pos (starEach es X.env)).any (·.1) = false := by rfl)
    (ht : eval (.Call (.Attribute o m apos) (e :: es) [] pos) X.env = (do
      let ov ← eval o X.env
      standAt apos.atName
      let (f, first) ← holding [ov] (getMethod ov m pl)
      callWith pos f first (backTo pos (starEach (e :: es) X.env)) (backToKw pos (keywordEach [] X.env))) := by rfl) :
    PE X (.Call (.Attribute o m apos) (e :: es) [] pos) (tMethS C m sp E ta t) := by
  refine ⟨fun pins s σ H Q I h => ?_⟩
  refine PySem.W.methodCall_KW (pl := pl) (thn (he.run pins s σ H _ I h) fun u s1 ⟨x, H1, I1, rx, a, dx, fs, ex, ea, l, q⟩ => ?_) ht
  subst ex
  obtain rfl : u = Value.ref a := rx
  refine getmeth_ok I1 ea c hm l ?_
  refine PySem.W.callWith_K (first := [.ref a]) (h₀ := X.base) I.ok.mod.kin hm.kp (thn (ha.run pos pins s1 σ H1 _ I1 q) fun us s2 ⟨vs, H2, I2, r, q2⟩ => ⟨I2.kIn, ?_⟩) hst hpl
  exact run_fnS (us := .ref a :: us) (vs := .ref a :: vs) F hr hb (hx σ) I2 (.cons rfl r) q2
theorem pe_meth0S {pl : Sem Bool} (he : PE X o ta) (c : Cls X.K C) (hm : Meth X.K C m f) (F : FnOk X.prog X.w X.K X.mg X.base CX k f fd ps sp) (hr : Room k X.A) (hb : Binds X.K fd ps []) (hx : ∀ σ, PassesAt CX X σ (E σ))
    (ht : eval (.Call (.Attribute o m apos) [] [] pos) X.env = (do
      let ov ← eval o X.env
      standAt apos.atName
      let (f, first) ← holding [ov] (getMethod ov m pl)
      callWith pos f first (backTo pos (starEach [] X.env)) (backToKw pos (keywordEach [] X.env))) := by rfl) :
    PE X (.Call (.Attribute o m apos) [] [] pos) (tMethS C m sp E ta tNil) := by
  refine ⟨fun pins s σ H Q I h => ?_⟩
  refine PySem.W.methodCall_KW (pl := pl) (thn (he.run pins s σ H _ I h) fun u s1 ⟨x, H1, I1, rx, a, dx, fs, ex, ea, l, q⟩ => ?_) ht
  subst ex
  obtain rfl : u = Value.ref a := rx
  refine getmeth_ok I1 ea c hm l ?_
  exact PySem.W.callWith_K0 (first := [.ref a]) I1.kIn hm.kp (run_fnS (us := [.ref a]) (vs := [.ref a]) F hr hb (hx σ) I1 (.cons rfl .nil) q)
end
section
variable {C : Ctx} {W : WX} {U : UP} {te : TE} {ue : UE} {ts : TA} {us : UA}
theorem tr_methS {c m : Str} (h : TrE C W te ue) (ht : TrA C W ts us) : TrE C W (tMethS (He.ga C.K c) m (SpU C.K C.T U) (WE W) te ts) (uMeth c m U [] ue us) := fun σ δ H G Q Q' X' S hu k kx =>
  h σ δ H G _ _ X' S hu (fun v p δ1 H1 G1 S1 T1 r q => by
    obtain ⟨⟨fds, e, hl⟩, q⟩ := q
    obtain ⟨a, dx, fs, rfl, h1, t⟩ := vw S1 r e
    have hm : fs.lookup m = none := by
      rcases t.look m with ⟨e1, _⟩ | ⟨_, _, _, e2, _⟩
      · exact e1
      · rw [hl] at e2; cases e2
    refine ⟨a, dx, fs, rfl, h1, hm, ?_⟩
    obtain ⟨G2, S2, T2, r2⟩ := fzn_ok S1 T1 r
    exact ht σ δ1 H1 G2 _ _ X' S2 q (fun vs ps δ3 H3 G3 S3 T3 rs q3 => call_go (fun _ _ _ z => z) S3 (fun a z => T2.nn (T3.nn z)) (.cons (r2.mono T3.gs) rs) (by have q' : uCallP U (p.fzn :: (ps ++ [])) δ3 Q' X' := q3; rw [List.append_nil] at q'; exact q') (KC.of k (T2.trans T3)) (kx.step (T2.trans T3))) (kx.step T2)) kx
end
end WK
/-! Calls by slots throughout; isinstance of a caught exception; dict.clear; lists over told dicts. -/
namespace WK
open PySem L2 PySem.Spec PyProof.Rows
section
variable {X : Cx} {k : Nat} {x c m : Str} {ps : List Str} {sp : Sp} {W : WX} {p pos apos : Pos} {e o a b : Expr} {es : List Expr} {t : TA} {ta tb : TE}
theorem pe_calS (C : Cal X.prog X.w X.K X.mg X.base k x ps sp) (hr : Room k X.A) (hg : Gl X x) (tk : Takes X W)
    (ha : PA X (e :: es) t) (hdb : (x == ("__debug__" : Str)) = false := by decide) (he : starEach (e :: es) X.env = (false, eval e X.env) :: starEach es X.env := by rfl) (hpl : (backTo pos (starEach es X.env)).any (·.1) = false := by rfl) :
    PE X (.Call (.Name x p) (e :: es) [] pos) (tCallS sp (WE W) t) := by
  obtain ⟨⟨fd, F, b⟩, gl, kp⟩ := C
  exact pe_callS F hr hg gl kp b (fun σ => passAt tk σ) ha hdb he hpl
theorem pe_mcalS {pl : Sem Bool} (ho : PE X o ta) (C : MCal X.prog X.w X.K X.mg X.base k c m ps sp) (cl : Cls X.K (He.ga X.K c)) (hr : Room k X.A) (tk : Takes X W) (ha : PA X (e :: es) t)
    (hst : starEach (e :: es) X.env = (false, eval e X.env) :: starEach es X.env := by rfl) (hpl : (backTo pos (starEach es X.env)).any (·.1) = false := by rfl)
    (ht : eval (.Call (.Attribute o m apos) (e :: es) [] pos) X.env = (do
      let ov ← eval o X.env
      standAt apos.atName
      let (f, first) ← holding [ov] (getMethod ov m pl)
      callWith pos f first (backTo pos (starEach (e :: es) X.env)) (backToKw pos (keywordEach [] X.env))) := by rfl) :
    PE X (.Call (.Attribute o m apos) (e :: es) [] pos) (tMethS (He.ga X.K c) m sp (WE W) ta t) := by
  obtain ⟨⟨fd, F, b⟩, mt⟩ := C
  exact pe_methS ho cl mt F hr b (fun σ => passAt tk σ) ha hst hpl ht
theorem pe_mcal0S {pl : Sem Bool} (ho : PE X o ta) (C : MCal X.prog X.w X.K X.mg X.base k c m ps sp) (cl : Cls X.K (He.ga X.K c)) (hr : Room k X.A) (tk : Takes X W)
    (ht : eval (.Call (.Attribute o m apos) [] [] pos) X.env = (do
      let ov ← eval o X.env
      standAt apos.atName
      let (f, first) ← holding [ov] (getMethod ov m pl)
      callWith pos f first (backTo pos (starEach [] X.env)) (backToKw pos (keywordEach [] X.env))) := by rfl) :
    PE X (.Call (.Attribute o m apos) [] [] pos) (tMethS (He.ga X.K c) m sp (WE W) ta tNil) := by
  obtain ⟨⟨fd, F, b⟩, mt⟩ := C
  exact pe_meth0S ho cl mt F hr b (fun σ => passAt tk σ) ht
def tMakeS (C : Addr) (sp : Sp) (E : L2.St → XK) (t : TA) : TE := fun σ H Q => t σ H fun vs H1 => ∀ x dx, H1 x = none → H1 dx = none → dx ≠ x →
  sp (.ref x :: vs) (upd (upd H1 dx (.own x)) x (.ins C dx [])) (fun v H2 => v = .non ∧ Q (.ref x) H2) (E σ)
theorem run_makeS {C f : Addr} {fd : FuncData} {CX : CXT} {E : XK} {pins : List (Addr × Obj)} {σ : L2.St} {H : Hp} {s : Shared} {Q : VK} {us : List Value} {vs : List V} (M : Mk X.K C f) (F : FnOk X.prog X.w X.K X.mg X.base CX k f fd ps sp) (hr : Room (k + 1) X.A) (hb : Binds X.K fd ps [])
    (hx : PassesAt CX X σ E) (I : Inv X pins σ H s) (r : Vals vs us)
    (h : ∀ x dx, H x = none → H dx = none → dx ≠ x → sp (.ref x :: vs) (upd (upd H dx (.own x)) x (.ins C dx [])) (fun v H2 => v = .non ∧ Q (.ref x) H2) E) :
    wpAny (model X.prog X.w) X.A (call (.ref C) us) (EP X pins σ Q) X.xe s := by
  have hq := h (s.heap.objs.size + 1) s.heap.objs.size (I.hok.fresh (Nat.le_succ _)) (I.hok.fresh (Nat.le_refl _)) (Nat.ne_of_lt (Nat.lt_succ_self _))
  have I2 := Inv.made (C := C) I
  have r2 : Vals (V.ref (s.heap.objs.size + 1) :: vs) (Value.ref (s.heap.objs.size + 1) :: us) := .cons rfl r
  have hl : (Value.ref (s.heap.objs.size + 1) :: us).length = ps.length := by
    have e := r2.length
    rw [F.len _ _ _ _ hq] at e
    exact e.symm
  have b := hb { s with heap := _, toks := _ } (Value.ref (s.heap.objs.size + 1) :: us) I2.kIn (by rw [List.append_nil]; exact hl)
  rw [List.append_nil] at b
  refine wpAny_call (make_map (f := f) I.kIn M.makes M.init (beq_iff_eq.mp M.fn) (codeAny_mono (F.run _ X.stack _ _ ⟨Value.ref (s.heap.objs.size + 1) :: us, []⟩ (Value.ref (s.heap.objs.size + 1) :: us) _ _ E (hr.make C us [])
    (I2.env0.make C us []) b r2 hq) fun r s' hq' => ?_))
  cases r with
  | error e => exact hx pins _ _ e s' I2 hq'
  | ok fl =>
    cases fl with
    | ret u =>
      obtain ⟨v, H', I3, rv, ev, q3⟩ := I2.after hq'
      subst ev
      exact ⟨rv, ⟨V.ref (s.heap.objs.size + 1), H', I3, rfl, q3⟩⟩
    | next => exact False.elim hq'
    | brk => exact False.elim hq'
    | cont => exact False.elim hq'
theorem pe_makS (C : ICal X.prog X.w X.K X.mg X.base k c ps sp) (hr : Room (k + 1) X.A) (hg : Gl X c) (tk : Takes X W)
    (ha : PA X (e :: es) t) (hdb : (c == ("__debug__" : Str)) = false := by decide) (he : starEach (e :: es) X.env = (false, eval e X.env) :: starEach es X.env := by rfl) (hpl : (backTo pos (starEach es X.env)).any (·.1) = false := by rfl) :
    PE X (.Call (.Name c p) (e :: es) [] pos) (tMakeS (He.ga X.K c) sp (WE W) t) := by
  obtain ⟨⟨fd, F, b⟩, mk, gl⟩ := C
  refine ⟨fun pins s σ H Q I h => ?_⟩
  refine wpAny_Call_Name_kw (ld_glob I hg gl ?_ hdb)
  refine PySem.W.callWith_K (h₀ := X.base) I.ok.mod.kin mk.kp (thn (ha.run pos pins s σ H _ I h) fun us s1 ⟨vs, H1, I1, r, q⟩ => ⟨I1.kIn, ?_⟩) he hpl
  exact run_makeS mk F hr b (passAt tk σ) I1 r q
end
section
variable {C : Ctx} {W : WX} {σ : L2.St} {δ δ' : List Sl} {H G H' G' Hs : Hp} {vs : List V} {ss ss' : List Sl} {ps : List Pv} {U : UP} {E : XK} {ts : TA} {us : UA} {te ta tb : TE} {ue ua ub : UE} {v : V} {p : Pv} {c : Str}
theorem make_go {Q : VK} {Q' : UK} {X' : UX} (hE : ∀ cls d H, W cls d σ H → E cls d H) (S1 : SR C σ δ H G) (hs : ∀ a, Nn H a → Nn Hs a) (rs : PasR C.K σ G vs ps) (q' : uMakeP c U ps δ Q' X') (k : KC C σ δ Hs H G Q Q') (kx : XC C W σ δ H G X') :
    ∀ x dx, H x = none → H dx = none → dx ≠ x → SpU C.K C.T U (.ref x :: vs) (upd (upd H dx (.own x)) x (.ins (He.ga C.K c) dx [])) (fun v H2 => v = .non ∧ Q (.ref x) H2) E := by
  intro x dx hx hdx ne
  obtain ⟨ss, hp, ok, hU⟩ := q'
  have A := args_of S1 rs hp ok
  have hx2 : upd H dx (.own x) x = none := by rw [upd_ne (Ne.symm ne)]; exact hx
  have e12 : Ex H (upd (upd H dx (.own x)) x (.ins (He.ga C.K c) dx [])) := (Ex.new hdx).trans (Ex.new hx2)
  have gx : G x = none := S1.sub.nn hx
  have A2 : ArgsR C.K C.T (upd (upd H dx (.own x)) x (.ins (He.ga C.K c) dx [])) G (.ref x :: vs) (.io (.obj c []) :: ss) := by
    have lv : ∀ (i : Nat) d a, ss[i]? = some (.io d) → vs[i]? = some (.ref a) → a ≠ x := fun i d a h1 h2 e => by
      subst e
      obtain ⟨b, eb, _, o⟩ := A.al i _ _ h1 h2
      cases eb
      obtain ⟨u, hu, _⟩ := o.some
      rw [hx] at hu; cases hu
    refine ⟨A.sub.trans e12, A.nt, A.tab.ext e12, by simp [A.len], fun i s v h1 h2 => ?_, fun i j a d e h1 h2 h3 h4 => ?_⟩
    · cases i with
      | zero => simp at h1 h2; subst h1 h2; exact ⟨x, rfl, gx, dx, [], upd_same, .nil⟩
      | succ i =>
        have := A.al i s v (by simpa using h1) (by simpa using h2)
        cases s with
        | fz d => exact this
        | io d => obtain ⟨a, e, g, o⟩ := this; exact ⟨a, e, g, o.keep (Ex.refl _) fun u hu => e12 _ _ hu⟩
        | _ => exact this.elim
    · cases i with
      | zero =>
        cases j with
        | zero => rfl
        | succ j => simp at h3; subst h3; exact absurd rfl (lv j e _ (by simpa using h2) (by simpa using h4))
      | succ i =>
        cases j with
        | zero => simp at h4; subst h4; exact absurd rfl (lv i d _ (by simpa using h1) (by simpa using h3))
        | succ j => rw [A.dj i j a d e (by simpa using h1) (by simpa using h2) (by simpa using h3) (by simpa using h4)]
  have tail : ∀ {s0 rest H' G'}, Post C.K C.T (.ref x :: vs) (.io (.obj c []) :: ss) (upd (upd H dx (.own x)) x (.ins (He.ga C.K c) dx [])) G H' G' (s0 :: rest) → Post C.K C.T vs ss H G H' G' rest := fun {s0 rest H' G'} P => by
    refine ⟨P.gs, P.sub, P.nt, P.tab, fun b o h n m => P.fr b o (e12 _ _ h) n fun z => ?_, fun b o h n q => P.gk b o (e12 _ _ h) n q, fun i d a h1 h2 => ?_⟩
    · have z' : b ∈ x :: ioA vs ss := z
      rcases List.mem_cons.mp z' with e | e
      · subst e; rw [hx] at h; cases h
      · exact m e
    · obtain ⟨d', e1, o⟩ := P.io (i + 1) d a (by simpa using h1) (by simpa using h2)
      exact ⟨d', by simpa using e1, o⟩
  refine ⟨G, .io (.obj c []) :: ss, _, _, A2, hU, ?_, ?_⟩
  · rintro r ss' v H' G' ⟨fds, rest, rfl, rfl, q2⟩ P R
    have R' : Rp C.K G' v .non := R
    cases R'
    refine ⟨rfl, ?_⟩
    obtain ⟨S', T'⟩ := back_ok S1 rs hp ok (tail P)
    obtain ⟨d', e1, o⟩ := P.io 0 (.obj c []) x rfl rfl
    cases e1
    have nx : Nn H x := .of hx
    refine k _ (.tm (.obj c fds)) _ H' G' S' T' ⟨x, rfl, hs x nx, S1.fr0 hx, ?_, fun z => ?_, o⟩ q2
    · rw [P.gk x _ upd_same (fun _ z => by cases z) (fun _ z => by cases z)]; exact gx
    · obtain ⟨u, hu, nu, _⟩ := S1.own_some (back_ow z)
      exact nx u hu nu
  · rintro y ss' cls d H' G' ⟨s0, rest, rfl, q2⟩ P R
    obtain ⟨S', T'⟩ := back_ok S1 rs hp ok (tail P)
    exact hE cls d H' (kx y _ H' G' cls d S' T' R q2)
theorem tr_makeS (ht : TrA C W ts us) : TrE C W (tMakeS (He.ga C.K c) (SpU C.K C.T U) (WE W) ts) (uMake c U [] us) := fun σ δ H G Q Q' X' S hu k kx =>
  ht σ δ H G _ _ X' S hu (fun vs ps δ1 H1 G1 S1 T1 rs q => make_go (Hs := H) (fun _ _ _ z => z) S1 (fun a => T1.nn) rs (by have q' : uMakeP c U (ps ++ []) δ1 Q' X' := q; rw [List.append_nil] at q'; exact q') (KC.of k T1) (kx.step T1)) kx
end
end WK
/-! isinstance of caught exceptions and own things; lists over told dicts. -/
namespace WK
open PySem L2 PySem.Spec PyProof.Rows
/-! ### isinstance(e, c) -/
def kitX (c : Str) : D → Option Bool
  | .cls c' => some (c' == c || c' == ("WeirError" : Str))
  | .ty T => if T = "ValueError" then some true else none
  | _ => none
/-- what is known of the error classes cs -/
structure XKit (K : PySem.W.Frag) (cs : List Str) : Prop where
  icl : ∀ c ∈ cs, ∀ c' ∈ cs, PySem.W.kitOne K (.ref (He.ga K c)) (.ref (He.ga K c')) = some (c' == c || c' == ("WeirError" : Str))
  ive : ∀ c ∈ cs, PySem.W.kitOne K (.ref (He.ga K c)) (.type "ValueError") = some true
  ex : ∀ c ∈ cs, ExcC K (He.ga K c)
def rIsX (K : PySem.W.Frag) (cs : List Str) (a : Addr) (cls : Value) (d : Option Addr) : List V → Hp → VK → Prop := fun xs H Q => ∃ (n : Str) (c : V) (cv : Value) (b : Bool) (dd : Addr) (fs : List (Str × V)), n ∈ cs ∧ xs = [.ref a, c] ∧ ClsV c cv ∧ cls = .ref (He.ga K n) ∧ d = some dd ∧ H dd = some (.xd fs) ∧ PySem.W.kitOne K (.ref (He.ga K n)) cv = some b ∧ Q (.bl b) H
theorem call_isX {X : Cx} {cs : List Str} {a : Addr} {oe : Obj} {cls : Value} {d : Option Addr} {pn : List (Addr × Obj)} (C : XKit X.K cs) (hz : Zc cls d oe) (hf : ∃ vs, oe.data = .fields vs) : CallR (X.suite a ((a, oe) :: pn)) (.builtin "isinstance") (rIsX X.K cs a cls d) := by
  intro pins s σ H xs us Q I r h
  obtain ⟨n, c, cv, b, dd, fs, hn, rfl, hcv, rfl, rfl, hdd, e, q⟩ := h
  obtain ⟨u1, u2, rfl, r1, r2⟩ := vals2 r
  have ec := hcv.eq r2
  subst ec
  cases r1
  obtain ⟨hget, _⟩ := I.pin (a, oe) (List.mem_append.mpr (.inl List.mem_cons_self))
  obtain ⟨vs, hv⟩ := hf
  obtain ⟨mA, hns, _⟩ := (show ObjOk X.prog X.w H s.heap dd (.xd fs) from I.hok dd _ hdd)
  obtain ⟨od, ho, _⟩ := lookIn_ns hns
  have C := C.ex n hn
  have J : PySem.W.InstAt s.heap a oe (He.ga X.K n) (some od) := ⟨hget, hz.1, by unfold PySem.W.notCls; rw [hv] <;> rfl, by rw [hz.2]; exact ho⟩
  have hcl : (PySem.W.clsIn X.K (He.ga X.K n)).isSome = true := by
    obtain ⟨cd, hc, _⟩ := PySem.W.any_some C.hd
    rw [hc]; rfl
  exact PySem.W.kia_one (PySem.W.kitx_exc hcl C.hg C.hk C.hs C.ha C.hn C.ht C.hm) I.kIn J e (fun z => nomatch z) fun tk => ⟨.bl b, H, I.kept (t' := tk) fun _ _ z => z, rfl, q⟩
section
variable {C : Ctx} {W : WX} {σ : L2.St} {δ δ' : List Sl} {H G H' G' Hs : Hp} {v w : V} {p q : Pv} {d : D} {K : PySem.W.Frag} {cs : List Str}
def oIsX (cs : List Str) (x : Xn) (a dd : Addr) : OpA := fun δ ps Q => ∃ t b, ps = [.fz (.exc a dd x.1 x.2), .fz t] ∧ x.1 ∈ cs ∧ (∀ c, t = .cls c → c ∈ cs) ∧ kitX x.1 t = some b ∧ Q (.fz (.bl b)) δ
theorem tr_isX {x : Xn} {a dd : Addr} (N : XKit C.K cs) : TrCB C (rIsX C.K cs a (.ref (He.ga C.K x.1)) (some dd)) (oIsX cs x a dd) := fun σ δ H G Hs vs ps Q Q' S hs r h k => by
  obtain ⟨t, b, rfl, hc, hc', hk, h⟩ := h
  obtain ⟨v, w, rfl, r1, r2⟩ := pas2 r
  have r1' : Rp C.K G v (.exc a dd x.1 x.2) := r1
  have r2' : Rp C.K G w t := r2
  cases r1' with
  | exc hd k1 t1 =>
    rename_i fs
    cases r2' with
    | cls c' =>
      have e : (c' == x.1 || c' == ("WeirError" : Str)) = b := by simpa [kitX] using hk
      exact ⟨x.1, _, _, b, dd, fs, hc, rfl, .own _, rfl, rfl, S.sub dd _ hd, by rw [N.icl x.1 hc c' (hc' c' rfl), e], k.here S (.bl _) h⟩
    | ty T =>
      have e : T = "ValueError" ∧ b = true := by
        unfold kitX at hk
        by_cases z : T = "ValueError"
        · simp [z] at hk; exact ⟨z, hk⟩
        · simp [z] at hk
      obtain ⟨rfl, rfl⟩ := e
      exact ⟨x.1, _, _, true, dd, fs, hc, rfl, .ty _, rfl, rfl, S.sub dd _ hd, N.ive x.1 hc, k.here S (.bl _) h⟩
    | _ => simp [kitX] at hk
/-! ### isinstance(o, T), o an own thing perhaps -/
structure NtC (K : PySem.W.Frag) (cs : List Str) : Prop where
  it : ∀ c ∈ cs, ∀ T ∈ builtN, PySem.W.kitOne K (.ref (He.ga K c)) (.type T) = some false
  ok : ∀ c ∈ cs, ∀ (H : Hp) (a dx : Addr) (fs : List (Str × V)), H a = some (.ins (He.ga K c) dx fs) → TyOf K H (.ref a) (.ref (He.ga K c))
end
end WK
namespace WK
open PySem L2
/-! ### rivers, plainly -/
abbrev LET : Str := "abcdefghijklmnopqrstuvwxyz"
def isName (z : Str) : Bool := decide (1 ≤ z.length) && decide (z.length ≤ 8) && z.cps.toList.all fun c => decide (c ∈ LET.cps.toList)
abbrev Rows := List (Str × Str)
def wrs (rows : Rows) : List Str := rows.map (·.1)
def low (rows : Rows) (w : Str) : Str := ((rows.find? fun r => decide (r.1 = w)).map (·.2)).getD "sea"
def crs (rows : Rows) : Nat → Str → List Str
  | 0, _ => []
  | n + 1, w => if w = "sea" then [] else w :: crs rows n (low rows w)
structure Good (rows : Rows) : Prop where
  pos : 1 ≤ rows.length
  le : rows.length ≤ 40
  nm : ∀ r ∈ rows, isName r.1 = true ∧ isName r.2 = true
  nosea : ∀ r ∈ rows, r.1 ≠ "sea"
  nd : (wrs rows).Nodup
  dn : ∀ r ∈ rows, r.2 = "sea" ∨ r.2 ∈ wrs rows
  rank : ∃ rk : Str → Nat, ∀ r ∈ rows, rk r.1 < rows.length ∧ (r.2 ≠ "sea" → rk r.2 < rk r.1)
theorem find_some {rows : Rows} {w : Str} (h : w ∈ wrs rows) : ∃ r, rows.find? (fun r => decide (r.1 = w)) = some r ∧ r ∈ rows ∧ r.1 = w := by
  obtain ⟨r, hr, e⟩ := List.mem_map.mp h
  cases q : rows.find? fun r => decide (r.1 = w) with
  | none =>
    have := List.find?_eq_none.mp q r hr
    simp [e] at this
  | some r' =>
    refine ⟨r', rfl, List.mem_of_find?_eq_some q, ?_⟩
    have := List.find?_some q
    simpa using this
theorem find_none {rows : Rows} {w : Str} (h : w ∉ wrs rows) : rows.find? (fun r => decide (r.1 = w)) = none := by
  refine List.find?_eq_none.mpr fun r hr e => h ?_
  have : r.1 = w := by simpa using e
  exact List.mem_map.mpr ⟨r, hr, this⟩
theorem low_row {rows : Rows} {w : Str} (h : w ∈ wrs rows) : (w, low rows w) ∈ rows := by
  obtain ⟨r, e, hr, rfl⟩ := find_some h
  unfold low; rw [e]; exact hr
theorem Good.low_in {rows : Rows} (g : Good rows) {w : Str} (h : w ∈ wrs rows) : low rows w = "sea" ∨ low rows w ∈ wrs rows := g.dn _ (low_row h)
theorem Good.ne_sea {rows : Rows} (g : Good rows) {w : Str} (h : w ∈ wrs rows) : w ≠ "sea" := by
  obtain ⟨r, hr, rfl⟩ := List.mem_map.mp h
  exact g.nosea r hr
/-- down n steps, the weir then reached -/
def down (rows : Rows) : Nat → Str → Str
  | 0, w => w
  | n + 1, w => if w = "sea" then "sea" else down rows n (low rows w)
theorem down_sea (rows : Rows) : ∀ n, down rows n "sea" = "sea"
  | 0 => rfl
  | n + 1 => by unfold down; rw [if_pos rfl]
theorem crs_sea (rows : Rows) : ∀ n, crs rows n "sea" = []
  | 0 => rfl
  | n + 1 => by unfold crs; rw [if_pos rfl]
/-- the course is over within as many steps as there are rows -/
theorem Good.ends {rows : Rows} (g : Good rows) {w : Str} (h : w ∈ wrs rows) : down rows rows.length w = "sea" := by
  obtain ⟨rk, hrk⟩ := g.rank
  have key : ∀ n w, w ∈ wrs rows → rk w < n → down rows n w = "sea" := by
    intro n
    induction n with
    | zero => intro w _ h; exact absurd h (Nat.not_lt_zero _)
    | succ n ih =>
      intro w hw hn
      unfold down
      rw [if_neg (g.ne_sea hw)]
      rcases g.low_in hw with e | hl
      · rw [e]; exact down_sea rows n
      · by_cases e : low rows w = "sea"
        · rw [e]; exact down_sea rows n
        · have := (hrk _ (low_row hw)).2 e
          exact ih _ hl (Nat.lt_of_lt_of_le this (Nat.le_of_lt_succ hn))
  exact key _ w h (hrk _ (low_row h)).1
end WK
namespace WK
open PySem L2
/-! ### names, plainly -/
abbrev cl (z : Str) : List Nat := z.cps.toList
theorem cl_app (a b : Str) : cl (a ++ b) = cl a ++ cl b := by
  show (a.cps ++ b.cps).toList = _
  simp
theorem cl_len (a : Str) : a.length = (cl a).length := by
  show a.cps.size = a.cps.toList.length
  simp
theorem cl_empty : cl ("" : Str) = [] := by decide +kernel
theorem cl_one (c : Nat) : cl ⟨#[c]⟩ = [c] := rfl
theorem glue_cl (ys : List Str) : cl (Txt.join "" ys) = (ys.map cl).flatten := by
  have key : ∀ (l : List Str) (init : Array Nat), (l.foldl (fun acc p => acc ++ ("" : Str).cps ++ p.cps) init).toList = init.toList ++ (l.map cl).flatten := by
    intro l
    induction l with
    | nil => intro init; simp
    | cons y l ih =>
      intro init
      have e : (init ++ ("" : Str).cps ++ y.cps).toList = init.toList ++ cl y := by
        rw [Array.toList_append, Array.toList_append]
        have := cl_empty
        simp only [cl] at this
        rw [this]; simp
      rw [List.foldl_cons, ih, e]
      simp
  cases ys with
  | nil => rfl
  | cons y ys =>
    have := key ys y.cps
    simpa [Txt.join, Builtin.Str.glued] using this
def ltr (i : Nat) : Nat := LET.cps.toList.getD i 0
theorem ltr_is : ∀ i, i < 26 → ltr i = 97 + i := by
  have : (List.range 26).all (fun i => ltr i == 97 + i) = true := by decide +kernel
  intro i hi
  have := List.all_eq_true.mp this i (List.mem_range.mpr hi)
  simpa using this
theorem LET_len : LET.cps.toList.length = 26 := by decide +kernel
theorem LET_at {i : Nat} (h : i < 26) : LET.cps.toList[i]? = some (ltr i) := by
  have h' : i < LET.cps.toList.length := by rw [LET_len]; exact h
  rw [List.getElem?_eq_getElem h']
  unfold ltr
  rw [List.getD_eq_getElem?_getD, List.getElem?_eq_getElem h']; rfl
theorem ltr_in {i : Nat} (h : i < 26) : ltr i ∈ LET.cps.toList := List.mem_of_getElem? (LET_at h)
/-- the mark of name k -/
def mkS (st m k : Nat) : Str := (⟨#[ltr ((st + 5 * k) % 26)]⟩ : Str) ++ (if m > 26 then (⟨#[ltr (k / 26)]⟩ : Str) else "")
theorem mk_cl (st m k : Nat) : cl (mkS st m k) = ltr ((st + 5 * k) % 26) :: (if m > 26 then [ltr (k / 26)] else []) := by
  unfold mkS
  rw [cl_app, cl_one]
  by_cases h : m > 26
  · rw [if_pos h, if_pos h, cl_one]; rfl
  · rw [if_neg h, if_neg h, cl_empty]; rfl
theorem mk_len (st m k : Nat) : (cl (mkS st m k)).length = if m > 26 then 2 else 1 := by
  rw [mk_cl]; split <;> rfl
theorem isName_of {z : Str} (h1 : 1 ≤ (cl z).length) (h2 : (cl z).length ≤ 8) (h3 : ∀ c ∈ cl z, c ∈ LET.cps.toList) : isName z = true := by
  unfold isName
  rw [cl_len]
  simp only [Bool.and_eq_true, decide_eq_true_eq, List.all_eq_true]
  exact ⟨⟨h1, h2⟩, h3⟩
theorem cutS_cl (z : Str) (lo hi : Option Int) : cl (cutS z lo hi) = ((cl z).drop (HT.sIx z.length 0 lo)).take (HT.sIx z.length z.length hi - HT.sIx z.length 0 lo) := rfl
theorem cutS_in {z : Str} {lo hi : Option Int} {c : Nat} (h : c ∈ cl (cutS z lo hi)) : c ∈ cl z := List.mem_of_mem_drop (List.mem_of_mem_take h)
/-- the four shapes -/
def nmS (base mark : Str) (k : Nat) : Nat → Str
  | 0 => base ++ mark
  | 1 => mark ++ base
  | 2 => mark ++ cutS base Option.none (some ((k : Int) % ((base.length : Int) + 1)))
  | _ => cutS base Option.none (some 1) ++ mark ++ cutS base (some 1) Option.none
def preS (base : Str) : Nat → List Nat
  | 0 => cl base
  | 1 => []
  | 2 => []
  | _ => cl (cutS base Option.none (some 1))
theorem nm_cl (base mark : Str) (k r : Nat) : ∃ post, cl (nmS base mark k r) = preS base r ++ cl mark ++ post ∧ (preS base r).length + post.length ≤ (cl base).length ∧ (∀ c ∈ preS base r, c ∈ cl base) ∧ ∀ c ∈ post, c ∈ cl base := by
  match r with
  | 0 => exact ⟨[], by show cl (base ++ mark) = cl base ++ cl mark ++ []; rw [cl_app]; simp, by simp [preS], fun c h => h, fun c h => by simp at h⟩
  | 1 => exact ⟨cl base, by show cl (mark ++ base) = [] ++ cl mark ++ cl base; rw [cl_app]; simp, by simp [preS], fun c h => by simp [preS] at h, fun c h => h⟩
  | 2 => exact ⟨cl (cutS base Option.none (some ((k : Int) % ((base.length : Int) + 1)))), by show cl (mark ++ cutS base Option.none (some ((k : Int) % ((base.length : Int) + 1)))) = [] ++ cl mark ++ _; rw [cl_app]; simp, by
      have := cutS_length base Option.none (some ((k : Int) % ((base.length : Int) + 1)))
      rw [cl_len, cl_len] at this
      simp only [preS, List.length_nil, Nat.zero_add]
      exact this, fun c h => by simp [preS] at h, fun c h => cutS_in h⟩
  | r + 3 =>
    refine ⟨cl (cutS base (some 1) Option.none), by show cl (cutS base Option.none (some 1) ++ mark ++ cutS base (some 1) Option.none) = cl (cutS base Option.none (some 1)) ++ _ ++ _; rw [cl_app, cl_app], ?_, fun c h => cutS_in h, fun c h => cutS_in h⟩
    show (cl (cutS base Option.none (some 1))).length + _ ≤ _
    rw [cutS_cl, cutS_cl, HT.sIx_none, HT.sIx_none]
    rw [show (some (1 : Int)) = some ((1 : Nat) : Int) from rfl, HT.sIx_nat, HT.sIx_nat]
    simp only [List.length_take, List.length_drop]
    have := cl_len base
    omega
def finS (z : Str) : Str := if z = "sea" then "seas" else z
theorem seas_cl : cl ("seas" : Str) = cl ("sea" : Str) ++ [115] := by decide +kernel
theorem seas_name : isName ("seas" : Str) = true := by decide +kernel
theorem seas_ne : ("seas" : Str) ≠ "sea" := by decide +kernel
theorem fin_ne (z : Str) : finS z ≠ "sea" := by
  unfold finS
  by_cases h : z = "sea"
  · rw [if_pos h]; exact seas_ne
  · rw [if_neg h]; exact h
theorem fin_cl {z : Str} {a : List Nat} {post : List Nat} (h : cl z = a ++ post) : ∃ post', cl (finS z) = a ++ post' := by
  unfold finS
  by_cases e : z = "sea"
  · rw [if_pos e]
    rw [e] at h
    exact ⟨post ++ [115], by rw [seas_cl, h, List.append_assoc]⟩
  · rw [if_neg e]; exact ⟨post, h⟩
theorem fin_name {z : Str} (h : isName z = true) : isName (finS z) = true := by
  unfold finS
  by_cases e : z = "sea"
  · rw [if_pos e]; exact seas_name
  · rw [if_neg e]; exact h
structure Names (ns : List Str) : Prop where
  nm : ∀ n ∈ ns, isName n = true
  nosea : ∀ n ∈ ns, n ≠ "sea"
  pf : ∀ (i j : Nat) a b z, ns[i]? = some a → ns[j]? = some b → cl a ++ z = cl b → i = j
def nameL (base : Str) (st m r n : Nat) : List Str := (List.range n).map fun k => finS (nmS base (mkS st m k) k r)
theorem nameL_succ (base : Str) (st m r n : Nat) : nameL base st m r (n + 1) = nameL base st m r n ++ [finS (nmS base (mkS st m n) n r)] := by
  unfold nameL
  rw [List.range_succ, List.map_append]; rfl
theorem Names.nd {ns : List Str} (h : Names ns) : ns.Nodup := by
  refine List.pairwise_iff_getElem.mpr fun i j hi hj hij e => ?_
  have := h.pf i j _ _ [] (List.getElem?_eq_getElem hi) (List.getElem?_eq_getElem hj) (by rw [e]; simp)
  omega
theorem flat1 : ∀ cs : List Nat, ((cs.map fun c => (⟨#[c]⟩ : Str)).map cl).flatten = cs
  | [] => rfl
  | c :: cs => by
    have := flat1 cs
    simp only [List.map_cons, List.flatten_cons, this]
    rfl
theorem sum1 : ∀ cs : List Nat, ((cs.map fun c => (⟨#[c]⟩ : Str)).map (·.length)).sum = cs.length
  | [] => rfl
  | c :: cs => by
    have := sum1 cs
    simp only [List.map_cons, List.sum_cons, this, List.length_cons]
    show 1 + _ = _
    omega
theorem perm_map {α β : Type} (f : α → β) {ys xs : List β} (h : ys.Perm xs) : ∀ zs : List α, xs = zs.map f → ∃ zs' : List α, ys = zs'.map f ∧ zs'.Perm zs := by
  induction h with
  | nil => intro zs e; exact ⟨[], rfl, (by cases zs with | nil => exact .nil | cons _ _ => cases e)⟩
  | cons a h ih =>
    intro zs e
    cases zs with
    | nil => cases e
    | cons z zs =>
      obtain ⟨e1, e2⟩ := List.cons.inj e
      obtain ⟨zs', h1, h2⟩ := ih zs e2
      exact ⟨z :: zs', by rw [h1, e1]; rfl, h2.cons z⟩
  | swap a b l =>
    intro zs e
    cases zs with
    | nil => cases e
    | cons z zs =>
      obtain ⟨e1, e2⟩ := List.cons.inj e
      cases zs with
      | nil => cases e2
      | cons y zs =>
        obtain ⟨e3, e4⟩ := List.cons.inj e2
        exact ⟨y :: z :: zs, by rw [e1, e3, e4]; rfl, List.Perm.swap _ _ _⟩
  | trans h1 h2 ih1 ih2 =>
    intro zs e
    obtain ⟨z1, e1, p1⟩ := ih2 zs e
    obtain ⟨z2, e2, p2⟩ := ih1 z1 e1
    exact ⟨z2, e2, p2.trans p1⟩
/-- no weir's name goes on into another's -/
def PF (rows : Rows) : Prop := ∀ a ∈ wrs rows, ∀ b ∈ wrs rows, ∀ z, cl a ++ z = cl b → z = []
theorem PF.perm {r1 r2 : Rows} (h : PF r1) (p : r2.Perm r1) : PF r2 := fun a ha b hb z e => h a ((p.map _).mem_iff.mp ha) b ((p.map _).mem_iff.mp hb) z e
theorem Good.perm {r1 r2 : Rows} (g : Good r1) (p : r2.Perm r1) : Good r2 := by
  have hm : ∀ {r}, r ∈ r2 → r ∈ r1 := fun h => p.mem_iff.mp h
  have hw : ∀ {w}, w ∈ wrs r1 → w ∈ wrs r2 := fun h => (p.map _).mem_iff.mpr h
  have hl := p.length_eq
  refine ⟨by rw [hl]; exact g.pos, by rw [hl]; exact g.le, fun r h => g.nm r (hm h), fun r h => g.nosea r (hm h), ((p.map _).nodup_iff).mpr g.nd, fun r h => ?_, ?_⟩
  · rcases g.dn r (hm h) with e | e
    · exact .inl e
    · exact .inr (hw e)
  · obtain ⟨rk, h⟩ := g.rank
    exact ⟨rk, fun r hr => by rw [hl]; exact h r (hm hr)⟩
theorem sea_name : isName ("sea" : Str) = true := by decide +kernel
theorem good_of {ns : List Str} {rows : Rows} (N : Names ns) (h1 : 1 ≤ ns.length) (h2 : ns.length ≤ 40) (hw : wrs rows = ns) (hd : ∀ (j : Nat) r, rows[j]? = some r → r.2 = "sea" ∨ ∃ l, l < j ∧ ns[l]? = some r.2) : Good rows ∧ PF rows := by
  have hl : rows.length = ns.length := by rw [← hw]; simp [wrs]
  have hat : ∀ (j : Nat) r, rows[j]? = some r → ns[j]? = some r.1 := fun j r h => by rw [← hw]; simp [wrs, h]
  have nd := N.nd
  have hmem : ∀ {r}, r ∈ rows → r.1 ∈ ns := fun h => by rw [← hw]; exact List.mem_map.mpr ⟨_, h, rfl⟩
  have hdm : ∀ {r}, r ∈ rows → r.2 = "sea" ∨ r.2 ∈ ns := fun h => by
    obtain ⟨j, hj⟩ := List.mem_iff_getElem?.mp h
    rcases hd j _ hj with e | ⟨l, _, e⟩
    · exact .inl e
    · exact .inr (List.mem_of_getElem? e)
  have idx : ∀ (j : Nat) w, ns[j]? = some w → ns.findIdx (fun n => decide (n = w)) = j := by
    intro j w hj
    obtain ⟨hjl, e⟩ := List.getElem?_eq_some_iff.mp hj
    have hlt : ns.findIdx (fun n => decide (n = w)) < ns.length := List.findIdx_lt_length_of_exists ⟨w, List.mem_of_getElem? hj, by simp⟩
    have h := List.findIdx_getElem (w := hlt)
    have h' : ns[ns.findIdx (fun n => decide (n = w))] = w := by simpa using h
    exact (List.getElem_inj nd).mp (h'.trans e.symm)
  refine ⟨⟨by omega, by omega, fun r h => ⟨N.nm _ (hmem h), ?_⟩, fun r h => N.nosea _ (hmem h), by rw [hw]; exact nd, fun r h => by rw [hw]; exact hdm h, ?_⟩, ?_⟩
  · rcases hdm h with e | e
    · rw [e]; exact sea_name
    · exact N.nm _ e
  · refine ⟨fun w => ns.findIdx (fun n => decide (n = w)), fun r h => ?_⟩
    obtain ⟨j, hj⟩ := List.mem_iff_getElem?.mp h
    have hj1 := idx j r.1 (hat j r hj)
    have hjl : j < rows.length := (List.getElem?_eq_some_iff.mp hj).1
    refine ⟨by show ns.findIdx _ < _; rw [hj1]; exact hjl, fun hne => ?_⟩
    rcases hd j _ hj with e | ⟨l, hlj, e⟩
    · exact absurd e hne
    · show ns.findIdx _ < ns.findIdx _
      rw [hj1, idx l r.2 e]; exact hlj
  · intro a ha b hb z e
    rw [hw] at ha hb
    obtain ⟨i, hi⟩ := List.mem_iff_getElem?.mp ha
    obtain ⟨j, hj⟩ := List.mem_iff_getElem?.mp hb
    have hij := N.pf i j a b z hi hj e
    subst hij
    rw [hi] at hj
    cases hj
    have : (cl a ++ z).length = (cl a).length := by rw [e]
    rw [List.length_append] at this
    exact List.length_eq_zero_iff.mp (by omega)
end WK
/-! A name set to a list over a told dict; facts of a law's classes; words. -/
namespace WK
open PySem L2 PySem.Spec PyProof.Rows
/-! ### facts -/
structure GF2 (K : PySem.W.Frag) (mg : Str → Option Value) (cs : List Str) (nas : List (Str × Str)) (ks : List (Str × V)) (its : List (Str × Str)) : Prop extends GF K mg cs nas ks where
  sf : ∀ {i : Nat} {c : Str}, cs[i]? = some c → PySem.W.selfFirst K (He.ga K c) = true
  ne : ∀ {i : Nat} {c : Str}, cs[i]? = some c → NeCl K (He.ga K c)
  nf : ∀ {i : Nat} {c : Str}, cs[i]? = some c → NfC K c cs
  nt : NtC K cs
  it : ∀ {i : Nat} {c f : Str}, its[i]? = some (c, f) → ItCl K (He.ga K c) (He.ma K (He.ga K c) "__iter__") f
structure XFacts (K : PySem.W.Frag) (mg : Str → Option Value) (xs : List Str) (xfs : List (Str × Str)) : Prop where
  g : ∀ c, c ∈ xs → mg c = some (.ref (He.ga K c))
  kit : XKit K xs
  exm : ∀ c ∈ xs, ∀ c' ∈ xs, PySem.W.exmOne K (.ref (He.ga K c)) (.ref (He.ga K c')) = some (c' == c || c' == ("WeirError" : Str))
  xf : ∀ c, c ∈ xs → XfC K (He.ga K c)
  no : ∀ c f, (c, f) ∈ xfs → PySem.W.findIn K (.ref (He.ga K c)) f = some none
def yesOf (xs : List Str) (c : Str) : List Str := xs.filter fun n => c == n || c == ("WeirError" : Str)
def noOf (xs : List Str) (c : Str) : List Str := xs.filter fun n => !(c == n || c == ("WeirError" : Str))
section
variable {K : PySem.W.Frag} {mg : Str → Option Value} {xs : List Str} {xfs : List (Str × Str)} {c : Str}
theorem XFacts.yes (F : XFacts K mg xs xfs) (hc : c ∈ xs) : ∀ n ∈ yesOf xs c, PySem.W.exmOne K (.ref (He.ga K n)) (.ref (He.ga K c)) = some true := fun n hn => by
  obtain ⟨h1, h2⟩ := List.mem_filter.mp hn
  rw [F.exm n h1 c hc, h2]
theorem XFacts.not (F : XFacts K mg xs xfs) (hc : c ∈ xs) : ∀ n ∈ noOf xs c, PySem.W.exmOne K (.ref (He.ga K n)) (.ref (He.ga K c)) = some false := fun n hn => by
  obtain ⟨h1, h2⟩ := List.mem_filter.mp hn
  rw [F.exm n h1 c hc]
  simpa using h2
end
theorem iteX {b : Bool} {A B : Prop} (h1 : b = true → A) (h2 : b = false → B) : if b = true then A else B := by cases b <;> first | exact h1 rfl | exact h2 rfl
theorem h_genT {c : UT} {δ : List Sl} {B : Bool → List Sl → Prop} {X : UX} (b : Bool) (h : ∀ R : Bool → List Sl → Prop, R b δ → c δ R X) (k : B b δ) : c δ B X := h B k
/-! ### comprehensions over things that stand for a list -/
section
variable {δ δ' : List Sl} {Q : UK} {ns : List Nat} {α : Type}
theorem lc_map {xs : List α} {emb : α → D} {g : UG} {tt : UT} {te : UE} {δw : List Sl} (F : α → Option D) (ew : wipeS δ ns = δw) (er : restS δ δw ns = δ)
    (hs : ∀ x, x ∈ xs → ∀ (P : D → List Sl → Prop) (N : List Sl → Prop), (∀ e, F x = some e → P e δw) → (F x = none → N δw) → g (.fz (emb x)) δw fun δ2 => tt δ2 (fun b δ3 => if b = true then te δ3 (fun p δ4 => uSto p δ4 fun e δ5 => P e (wipeS δ5 ns)) noX else N (wipeS δ3 ns)) noX)
    (h : Q (.tm (.lst (xs.filterMap F))) δ) : LcU (xs.map emb) none g tt te ns Q δ := by
  refine lc_N (fun n acc δ => acc = (xs.take n).filterMap F ∧ δ = δw) ⟨by simp, ew⟩ (fun n d acc δ1 hn _ _ ⟨ha, hδ⟩ => ?_) (fun acc δ1 _ _ ⟨ha, hδ⟩ => ?_)
  · subst hδ
    rw [List.getElem?_map] at hn
    cases hx : xs[n]? with
    | none => rw [hx] at hn; cases hn
    | some x =>
      rw [hx] at hn; cases hn
      exact hs x (List.mem_of_getElem? hx) (fun e δ => acc ++ [e] = (xs.take (n + 1)).filterMap F ∧ δ = δ1) (fun δ => acc = (xs.take (n + 1)).filterMap F ∧ δ = δ1) (fun e he => ⟨fm_yes hx ha he, rfl⟩) (fun he => ⟨fm_no hx ha he, rfl⟩)
  · subst hδ
    rw [er, ha, List.length_map, List.take_length]; exact h
theorem put_new {κ : Type} [DecidableEq κ] {kds : List (κ × D)} {k : κ} {d : D} (h : ∀ p ∈ kds, p.1 ≠ k) : putD kds k d = kds ++ [(k, d)] := by
  unfold putD
  rw [if_neg]
  intro z
  obtain ⟨p, hp, e⟩ := List.any_eq_true.mp z
  exact h p hp (by simpa using e)
theorem dc_map {xs : List α} {emb : α → D} {g : UG} {tt : UT} {tk te : UE} {δw : List Sl} (ky : α → Key) (F : α → D) (nd : (xs.map ky).Nodup) (ew : wipeS δ ns = δw) (er : restS δ δw ns = δ)
    (hs : ∀ x, x ∈ xs → ∀ (P : Key → D → List Sl → Prop) (N : List Sl → Prop), P (ky x) (F x) δw → g (.fz (emb x)) δw fun δ2 => tt δ2 (fun b δ3 => if b = true then tk δ3 (fun q δ4 => te δ4 (fun p δ5 => ∃ key, keyP q = some key ∧ uSto p δ5 fun e δ6 => P key e (wipeS δ6 ns)) noX) noX else N (wipeS δ3 ns)) noX)
    (h : Q (.tm (.dct (xs.map fun x => (ky x, F x)))) δ) : DcU (xs.map emb) none g tt tk te ns Q δ := by
  refine dc_N (fun n acc δ => acc = (xs.take n).map (fun x => (ky x, F x)) ∧ δ = δw) ⟨by simp, ew⟩ (fun n d acc δ1 hn _ _ ⟨ha, hδ⟩ => ?_) (fun acc δ1 _ _ ⟨ha, hδ⟩ => ?_)
  · subst hδ
    rw [List.getElem?_map] at hn
    cases hx : xs[n]? with
    | none => rw [hx] at hn; cases hn
    | some x =>
      rw [hx] at hn; cases hn
      refine hs x (List.mem_of_getElem? hx) (fun key e δ => putD acc key e = (xs.take (n + 1)).map (fun x => (ky x, F x)) ∧ δ = δ1) (fun δ => acc = (xs.take (n + 1)).map (fun x => (ky x, F x)) ∧ δ = δ1) ⟨?_, rfl⟩
      rw [put_new, ha, take_snoc hx]
      · simp
      · rw [ha]
        rintro p hp e
        obtain ⟨y, hy, rfl⟩ := List.mem_map.mp hp
        have e' : ky y = ky x := e
        have hsplit : xs.map ky = (xs.take n).map ky ++ ((xs.drop n).map ky) := by rw [← List.map_append, List.take_append_drop]
        rw [hsplit, List.nodup_append] at nd
        obtain ⟨hxl, hxe⟩ := List.getElem?_eq_some_iff.mp hx
        have hd : x ∈ xs.drop n := by
          rw [List.drop_eq_getElem_cons hxl, hxe]
          exact List.mem_cons_self
        exact nd.2.2 (ky y) (List.mem_map.mpr ⟨y, hy, rfl⟩) (ky x) (List.mem_map.mpr ⟨x, hd, rfl⟩) e'
  · subst hδ
    rw [er, ha, List.length_map, List.take_length]; exact h
end
end WK
/-! Data compared, plainly. -/
namespace WK
open PySem L2 PySem.Spec PyProof.Rows
mutual
/-- no bool within -/
def nbD : D → Bool
  | .non => true
  | .int _ => true
  | .str _ => true
  | .tup ds => nbDs ds
  | .lst ds => nbDs ds
  | _ => false
def nbDs : List D → Bool
  | [] => true
  | d :: ds => nbD d && nbDs ds
end
mutual
theorem eqv_iff : ∀ (d e : D), nbD d = true → nbD e = true → (PyData.eqv (toP d) (toP e) = true ↔ d = e)
  | .non, e, _, he => by
    cases e <;> simp [nbD] at he <;> simp [toP, PyData.eqv]
  | .int i, e, _, he => by
    cases e <;> simp [nbD] at he <;> simp [toP, PyData.eqv]
  | .str i, e, _, he => by
    cases e <;> simp [nbD] at he <;> simp [toP, PyData.eqv]
  | .tup ds, e, hd, he => by
    cases e with
    | tup es =>
      rw [nbD] at hd he
      rw [toP, toP, PyData.eqv, eqvs_iff ds es hd he]
      simp
    | _ => simp [nbD] at he <;> simp [toP, PyData.eqv]
  | .lst ds, e, hd, he => by
    cases e with
    | lst es =>
      rw [nbD] at hd he
      rw [toP, toP, PyData.eqv, eqvs_iff ds es hd he]
      simp
    | _ => simp [nbD] at he <;> simp [toP, PyData.eqv]
  | .bl _, _, hd, _ => by simp [nbD] at hd
  | .tpn _, _, hd, _ => by simp [nbD] at hd
  | .ty _, _, hd, _ => by simp [nbD] at hd
  | .cls _, _, hd, _ => by simp [nbD] at hd
  | .scr _, _, hd, _ => by simp [nbD] at hd
  | .dct _, _, hd, _ => by simp [nbD] at hd
  | .obj _ _, _, hd, _ => by simp [nbD] at hd
  | .exc _ _ _ _, _, hd, _ => by simp [nbD] at hd
  | .err _ _, _, hd, _ => by simp [nbD] at hd
  | .adr _, _, hd, _ => by simp [nbD] at hd
theorem eqvs_iff : ∀ (ds es : List D), nbDs ds = true → nbDs es = true → (PyData.eqvAll (toPs ds) (toPs es) = true ↔ ds = es)
  | [], [], _, _ => by rw [toPs, PyData.eqvAll]; simp
  | [], e :: es, _, _ => by rw [toPs, toPs, PyData.eqvAll]; simp
  | d :: ds, [], _, _ => by rw [toPs, toPs, PyData.eqvAll]; simp
  | d :: ds, e :: es, hd, he => by
    rw [nbDs, Bool.and_eq_true] at hd he
    rw [toPs, toPs, PyData.eqvAll, Bool.and_eq_true, eqv_iff d e hd.1 he.1, eqvs_iff ds es hd.2 he.2]
    simp
end
theorem eqD_iff {d e : D} (hd : nbD d = true) (he : nbD e = true) : eqD d e = true ↔ d = e := eqv_iff d e hd he
theorem eqD_dec {d e : D} {P : Prop} [Decidable P] (hd : nbD d = true) (he : nbD e = true) (h : d = e ↔ P) : eqD d e = decide P := by
  rw [Bool.eq_iff_iff, eqD_iff hd he, h]; simp
mutual
theorem eqv_refl : ∀ (d : D), flD d = true → PyData.eqv (toP d) (toP d) = true
  | .non, _ => by simp [toP, PyData.eqv]
  | .bl b, _ => by simp [toP, PyData.eqv]
  | .int i, _ => by simp [toP, PyData.eqv]
  | .str i, _ => by simp [toP, PyData.eqv]
  | .tup ds, hd => by rw [flD] at hd; rw [toP, PyData.eqv]; exact eqvs_refl ds hd
  | .lst ds, hd => by rw [flD] at hd; rw [toP, PyData.eqv]; exact eqvs_refl ds hd
  | .tpn ds, hd => by rw [flD] at hd; rw [toP, PyData.eqv]; exact eqvs_refl ds hd
  | .ty _, hd => by simp [flD] at hd
  | .cls _, hd => by simp [flD] at hd
  | .scr _, hd => by simp [flD] at hd
  | .dct _, hd => by simp [flD] at hd
  | .obj _ _, hd => by simp [flD] at hd
  | .exc _ _ _ _, hd => by simp [flD] at hd
  | .err _ _, hd => by simp [flD] at hd
  | .adr _, hd => by simp [flD] at hd
theorem eqvs_refl : ∀ (ds : List D), flDs ds = true → PyData.eqvAll (toPs ds) (toPs ds) = true
  | [], _ => by rw [toPs, PyData.eqvAll]
  | d :: ds, hd => by
    rw [flDs, Bool.and_eq_true] at hd
    rw [toPs, PyData.eqvAll, eqv_refl d hd.1, eqvs_refl ds hd.2]; rfl
end
theorem eqD_refl {d : D} (h : flD d = true) : eqD d d = true := eqv_refl d h
theorem eqD_str (a b : Str) : eqD (.str a) (.str b) = decide (a = b) := eqD_dec rfl rfl (by simp)
theorem eqD_lst (as bs : List D) : eqD (.lst as) (.lst bs) = PyData.eqvAll (toPs as) (toPs bs) := by unfold eqD; rw [toP, toP, PyData.eqv]
theorem eqDs_nil : PyData.eqvAll (toPs []) (toPs []) = true := by rw [toPs, PyData.eqvAll]
theorem flDs_iff : ∀ {ds : List D}, flDs ds = true ↔ ∀ d ∈ ds, flD d = true
  | [] => by rw [flDs]; simp
  | d :: ds => by rw [flDs, Bool.and_eq_true, flDs_iff]; simp
mutual
theorem nb_fl : ∀ {d : D}, nbD d = true → flD d = true
  | .non, _ => rfl
  | .int _, _ => rfl
  | .str _, _ => rfl
  | .tup ds, h => by rw [nbD] at h; rw [flD]; exact nbs_fl h
  | .lst ds, h => by rw [nbD] at h; rw [flD]; exact nbs_fl h
  | .bl _, h => by simp [nbD] at h
  | .ty _, h => by simp [nbD] at h
  | .cls _, h => by simp [nbD] at h
  | .scr _, h => by simp [nbD] at h
  | .dct _, h => by simp [nbD] at h
  | .obj _ _, h => by simp [nbD] at h
  | .exc _ _ _ _, h => by simp [nbD] at h
  | .err _ _, h => by simp [nbD] at h
  | .adr _, h => by simp [nbD] at h
theorem nbs_fl : ∀ {ds : List D}, nbDs ds = true → flDs ds = true
  | [], _ => by rw [flDs]
  | d :: ds, h => by
    rw [nbDs, Bool.and_eq_true] at h
    rw [flDs, nb_fl h.1, nbs_fl h.2]; rfl
end
theorem any_str (ws : List Str) (w : Str) : ((ws.map D.str).any fun z => eqD z (.str w)) = decide (w ∈ ws) := by
  rw [Bool.eq_iff_iff]
  simp only [List.any_map, List.any_eq_true, Function.comp, eqD_str, decide_eq_true_eq]
  exact ⟨fun ⟨x, h, e⟩ => e ▸ h, fun h => ⟨w, h, rfl⟩⟩
def isStr : D → Bool | .str _ => true | _ => false
theorem eqD_nstr {w : Str} {d : D} (h : isStr d = false) : eqD (.str w) d = false := by
  cases d <;> first | (simp [isStr] at h; done) | (simp [eqD, toP, PyData.eqv])
theorem any_nstr (ws : List Str) {d : D} (h : isStr d = false) : ((ws.map D.str).any fun z => eqD z d) = false := by
  rw [List.any_eq_false]
  intro z hz
  obtain ⟨w, _, rfl⟩ := List.mem_map.mp hz
  rw [eqD_nstr h]; simp
/-- whether d is one of the strings -/
def inS (ws : List Str) : D → Bool | .str w => decide (w ∈ ws) | _ => false
theorem any_inS (ws : List Str) (d : D) : ((ws.map D.str).any fun z => eqD z d) = inS ws d := by
  cases d with
  | str w => exact any_str ws w
  | _ => exact any_nstr ws rfl
/-! ### shapes -/
structure Ok (n : Nat) (d : D) : Prop where
  fl : flD d = true
  cl : PyData.canLay0 (toP d) = true
  dp : PyData.depth (toP d) ≤ n
theorem canAll_iff : ∀ {ds : List D}, PyData.canLayAll0 (toPs ds) = true ↔ ∀ d ∈ ds, PyData.canLay0 (toP d) = true
  | [] => by rw [toPs, PyData.canLayAll0]; simp
  | d :: ds => by rw [toPs, PyData.canLayAll0, Bool.and_eq_true, canAll_iff]; simp
theorem depthAll_le {n : Nat} : ∀ {ds : List D}, (∀ d ∈ ds, PyData.depth (toP d) ≤ n) → PyData.depthAll (toPs ds) ≤ n
  | [], _ => by rw [toPs, PyData.depthAll]; omega
  | d :: ds, h => by
    rw [toPs, PyData.depthAll]
    have h1 := h d List.mem_cons_self
    have h2 := depthAll_le (ds := ds) fun e he => h e (List.mem_cons_of_mem _ he)
    omega
theorem Ok.non {n : Nat} : Ok n .non := ⟨rfl, by rw [toP, PyData.canLay0], by rw [toP, PyData.depth]; omega⟩
theorem Ok.bl {n : Nat} {b : Bool} : Ok n (.bl b) := ⟨rfl, by rw [toP, PyData.canLay0], by rw [toP, PyData.depth]; omega⟩
theorem Ok.int {n : Nat} {b : Int} : Ok n (.int b) := ⟨rfl, by rw [toP, PyData.canLay0], by rw [toP, PyData.depth]; omega⟩
theorem Ok.str {n : Nat} {b : Str} (h : PyData.strOk b = true) : Ok n (.str b) := ⟨rfl, by rw [toP, PyData.canLay0]; exact h, by rw [toP, PyData.depth]; omega⟩
theorem Ok.tup {n : Nat} {ds : List D} (h : ∀ d ∈ ds, Ok n d) : Ok (n + 1) (.tup ds) := ⟨by rw [flD]; exact flDs_iff.mpr fun d hd => (h d hd).fl, by rw [toP, PyData.canLay0]; exact canAll_iff.mpr fun d hd => (h d hd).cl, by rw [toP, PyData.depth]; have := depthAll_le (ds := ds) fun d hd => (h d hd).dp; omega⟩
theorem Ok.lst {n : Nat} {ds : List D} (h : ∀ d ∈ ds, Ok n d) : Ok (n + 1) (.lst ds) := ⟨by rw [flD]; exact flDs_iff.mpr fun d hd => (h d hd).fl, by rw [toP, PyData.canLay0]; exact canAll_iff.mpr fun d hd => (h d hd).cl, by rw [toP, PyData.depth]; have := depthAll_le (ds := ds) fun d hd => (h d hd).dp; omega⟩
theorem Ok.mono {n m : Nat} {d : D} (h : Ok n d) (l : n ≤ m) : Ok m d := ⟨h.fl, h.cl, Nat.le_trans h.dp l⟩
theorem Ok.ok {n : Nat} {d : D} (h : Ok n d) (l : n ≤ 64 := by decide) : okD d = true := by
  unfold okD SeqAt.shaped
  rw [h.fl, h.cl, decide_eq_true (Nat.le_trans h.dp l)]; rfl
theorem oks_of {n : Nat} {ds : List D} (h : ∀ d ∈ ds, Ok n d) : okDs ds = true := by
  unfold okDs
  rw [flDs_iff.mpr fun d hd => (h d hd).fl, canAll_iff.mpr fun d hd => (h d hd).cl]; rfl
theorem Ok.strs {n : Nat} {ws : List Str} (h : ∀ w ∈ ws, PyData.strOk w = true) : ∀ d ∈ ws.map D.str, Ok n d := fun d hd => by
  obtain ⟨w, hw, rfl⟩ := List.mem_map.mp hd; exact .str (h w hw)
theorem strOk_name {z : Str} (h : isName z = true) : PyData.strOk z = true := by
  unfold isName at h
  simp only [Bool.and_eq_true, List.all_eq_true, decide_eq_true_eq] at h
  unfold PyData.strOk
  rw [Array.all_eq_true_iff_forall_mem]
  intro c hc
  have h1 := h.2 c (Array.mem_toList_iff.mpr hc)
  have h2 : ∀ c ∈ LET.cps.toList, c < 0x110000 := by decide +kernel
  simpa using h2 c h1
end WK
namespace WK
open PySem L2
/-! ### words for lists that stand for plain ones -/
theorem iteK0 {b : Bool} {A B : Prop} (hb : b = false) (h : B) : if b = true then A else B := by rw [hb, if_neg (by decide)]; exact h
theorem iteK1 {b : Bool} {A B : Prop} (hb : b = true) (h : A) : if b = true then A else B := by rw [hb, if_pos rfl]; exact h
section
variable {δ : List Sl} {E : UEnds} {α : Type}
theorem for_M {xs : List α} {emb : α → D} {g : UG} {b : US} (Inv : Nat → List Sl → Prop) (h0 : Inv 0 δ) (hs : ∀ (n : Nat) x δ, xs[n]? = some x → Inv n δ → g (.fz (emb x)) δ fun δ2 => b { nx := Inv (n + 1), rt := E.rt, bk := E.nx, ct := Inv (n + 1), ex := E.ex } δ2) (hd : ∀ δ, Inv xs.length δ → E.nx δ) : ForU (xs.map emb) none g b E δ := by
  refine for_N Inv h0 (fun n d δ1 hn hi => ?_) (fun δ1 hi => hd δ1 (by simpa using hi))
  rw [List.getElem?_map] at hn
  cases hx : xs[n]? with
  | none => rw [hx] at hn; cases hn
  | some x => rw [hx] at hn; cases hn; exact hs n x δ1 hx hi
theorem for_enumM {xs : List α} {emb : α → D} {g : UG} {b : US} (Inv : Nat → List Sl → Prop) (h0 : Inv 0 δ) (hs : ∀ (n : Nat) x δ, xs[n]? = some x → Inv n δ → g (.fz (.tup [.int (n : Nat), emb x])) δ fun δ2 => b { nx := Inv (n + 1), rt := E.rt, bk := E.nx, ct := Inv (n + 1), ex := E.ex } δ2) (hd : ∀ δ, Inv xs.length δ → E.nx δ) : ForU (enumD (xs.map emb)) none g b E δ := by
  refine for_enum Inv h0 (fun n d δ1 hn hi => ?_) (fun δ1 hi => hd δ1 (by simpa using hi))
  rw [List.getElem?_map] at hn
  cases hx : xs[n]? with
  | none => rw [hx] at hn; cases hn
  | some x => rw [hx] at hn; cases hn; exact hs n x δ1 hx hi
end
/-- both ways to one value -/
theorem iteV {b : Bool} {δ : List Sl} {ua ub : UE} {Q : UK} {X : UX} (p : Pv) (h1 : b = true → ∀ R : UK, R p δ → ua δ R X) (h2 : b = false → ∀ R : UK, R p δ → ub δ R X) (k : Q p δ) : if b = true then ua δ Q X else ub δ Q X := by
  cases b with
  | true => exact h1 rfl Q k
  | false => exact h2 rfl Q k
theorem dc_mapE {δ : List Sl} {Q : UK} {ns : List Nat} {α : Type} {xs : List α} {emb : α → D} {g : UG} {tt : UT} {tk te : UE} {δw : List Sl} (ky : α → Key) (F : α → D) (kds : List (Key × D)) (ek : (xs.map fun x => (ky x, F x)) = kds) (nd : (xs.map ky).Nodup) (ew : wipeS δ ns = δw) (er : restS δ δw ns = δ)
    (hs : ∀ x, x ∈ xs → ∀ (P : Key → D → List Sl → Prop) (N : List Sl → Prop), P (ky x) (F x) δw → g (.fz (emb x)) δw fun δ2 => tt δ2 (fun b δ3 => if b = true then tk δ3 (fun q δ4 => te δ4 (fun p δ5 => ∃ key, keyP q = some key ∧ uSto p δ5 fun e δ6 => P key e (wipeS δ6 ns)) noX) noX else N (wipeS δ3 ns)) noX)
    (h : Q (.tm (.dct kds)) δ) : DcU (xs.map emb) none g tt tk te ns Q δ := dc_map ky F nd ew er hs (by rw [ek]; exact h)
theorem lc_mapE {δ : List Sl} {Q : UK} {ns : List Nat} {α : Type} {xs : List α} {emb : α → D} {g : UG} {tt : UT} {te : UE} {δw : List Sl} (F : α → Option D) (ds : List D) (ed : xs.filterMap F = ds) (ew : wipeS δ ns = δw) (er : restS δ δw ns = δ)
    (hs : ∀ x, x ∈ xs → ∀ (P : D → List Sl → Prop) (N : List Sl → Prop), (∀ e, F x = some e → P e δw) → (F x = none → N δw) → g (.fz (emb x)) δw fun δ2 => tt δ2 (fun b δ3 => if b = true then te δ3 (fun p δ4 => uSto p δ4 fun e δ5 => P e (wipeS δ5 ns)) noX else N (wipeS δ3 ns)) noX)
    (h : Q (.tm (.lst ds)) δ) : LcU (xs.map emb) none g tt te ns Q δ := lc_map F ew er hs (by rw [ed]; exact h)
/-- every item by a function -/
theorem lc_all {δ : List Sl} {Q : UK} {ns : List Nat} {α : Type} {xs : List α} {emb : α → D} {g : UG} {tt : UT} {te : UE} {δw : List Sl} (F : α → D) (ew : wipeS δ ns = δw) (er : restS δ δw ns = δ)
    (hs : ∀ x, x ∈ xs → ∀ (P : D → List Sl → Prop) (N : List Sl → Prop), P (F x) δw → g (.fz (emb x)) δw fun δ2 => tt δ2 (fun b δ3 => if b = true then te δ3 (fun p δ4 => uSto p δ4 fun e δ5 => P e (wipeS δ5 ns)) noX else N (wipeS δ3 ns)) noX)
    (h : Q (.tm (.lst (xs.map F))) δ) : LcU (xs.map emb) none g tt te ns Q δ :=
  lc_mapE (fun x => some (F x)) (xs.map F) (by rw [List.filterMap_eq_map']) ew er (fun x hx P N hP _ => hs x hx P N (hP _ rfl)) h
end WK
/-! Calls with keywords and defaults; o[i] by an own __getitem__. -/
namespace WK
open PySem L2 PySem.Spec PyProof.Rows
/-! ### the order of the values -/
inductive Src | p (i : Nat) | k (i : Nat) | d (i : Nat)
def gA {α : Type} (arr : List Src) (us ds ws : List α) : List α := arr.flatMap fun
  | .p i => (us[i]?).toList
  | .k i => (ws[i]?).toList
  | .d i => (ds[i]?).toList
/-- what is bound: n values by place, keywords ks, defaults ds; pre: values ahead (self) -/
def KB (K : PySem.W.Frag) (fd : FuncData) (ps : List Str) (pre n : Nat) (ks : List Str) (arr : List Src) (ds : List V) : Prop :=
  ∃ mv : List Value, Vals ds mv ∧ ∀ (s : Shared) (pr us ws : List Value), K.In s.heap → pr.length = pre → us.length = n → ws.length = ks.length → BindsTo s fd ⟨pr ++ us, ks.zip ws⟩ (ps.zip (pr ++ gA arr us mv ws))
section
variable {X : Cx} {k n : Nat} {x c m : Str} {ps ks : List Str} {sp : Sp} {W : WX} {p pos apos : Pos} {e o a b : Expr} {es : List Expr} {kws : List Keyword} {t tk : TA} {ta tb : TE} {arr : List Src} {ds : List V}
/-! ### the defs -/
structure KCal (P : Program) (w : World) (K : PySem.W.Frag) (mg : Str → Option Value) (base : Heap) (k : Nat) (x : Str) (ps : List Str) (sp : Sp) (n : Nat) (ks : List Str) (arr : List Src) (ds : List V) : Prop where
  fn : ∃ fd, FnOk P w K mg base (L2.CX P w) k (He.ga K x) fd ps sp ∧ KB K fd ps 0 n ks arr ds
  gl : mg x = some (.ref (He.ga K x))
  kp : PySem.W.keepIn K (.ref (He.ga K x)) = true
structure KMCal (P : Program) (w : World) (K : PySem.W.Frag) (mg : Str → Option Value) (base : Heap) (k : Nat) (c m : Str) (ps : List Str) (sp : Sp) (n : Nat) (ks : List Str) (arr : List Src) (ds : List V) : Prop where
  fn : ∃ fd, FnOk P w K mg base (L2.CX P w) k (He.ma K (He.ga K c) m) fd ps sp ∧ KB K fd ps 1 n ks arr ds
  mt : Meth K (He.ga K c) m (He.ma K (He.ga K c) m)
structure KICal (P : Program) (w : World) (K : PySem.W.Frag) (mg : Str → Option Value) (base : Heap) (k : Nat) (c : Str) (ps : List Str) (sp : Sp) (n : Nat) (ks : List Str) (arr : List Src) (ds : List V) : Prop where
  fn : ∃ fd, FnOk P w K mg base (L2.CX P w) k (He.ma K (He.ga K c) "__init__") fd ps sp ∧ KB K fd ps 1 n ks arr ds
  mkr : Mk K (He.ga K c) (He.ma K (He.ga K c) "__init__")
  gl : mg c = some (.ref (He.ga K c))
end
section
variable {C : Ctx} {W : WX} {U : UP} {ta tb : TE} {ua ub : UE} {c : Str}
end
end WK
/-! own things walked by iter(self.fld.items()); pairs taken whole by a name -/
namespace WK
open PySem L2 PySem.Spec PyProof.Rows
open L2.DX (itemsO itemsO_ok)
section
variable {prog : Program} {w : World} {K : Type} [DecidableEq K] {knd : KeyKind prog w K} {A : Around} {E : Value → Shared → Prop} {s : Shared}
end
/-! ### iter(d.items()) -/
section
variable {X : Cx}
end
section
variable {X : Cx} {pins : List (Addr × Obj)} {σ : L2.St} {H : Hp} {s : Shared}
end
end WK
/-! Comprehensions over own things that are walked by the items of a dict. -/
namespace WK
open PySem L2 PySem.Spec PyProof.Rows
section
variable {C : Ctx} {W : WX} {σ : L2.St} {δ : List Sl} {H G : Hp} {a p dx : Addr} {c fld : Str} {fds : List (Str × D)} {fs : List (Str × V)} {kds : List (Key × D)} {kvs : List (Key × V)} {od : Obj} {i : Nat}
end
end WK
/-! Tuples without a dict: made by tuple(list), index; a dict display of one pair. -/
namespace WK
open PySem L2 PySem.Spec PyProof.Rows
section
variable {X : Cx}
def rTupN (K : PySem.W.Frag) : List V → Hp → VK → Prop := fun xs H Q => ∃ p ys, xs = [.ref p] ∧ SqL K H p ys ∧ ∀ l o, H l = none → o.dict = none → Q (.ref l) (upd H l (.frz o (.tup ys)))
theorem call_tupN : CallR X (.type "tuple") (rTupN X.K) := by
  intro pins s σ H xs us Q I r h
  obtain ⟨p, ys, rfl, hq, q⟩ := h
  obtain ⟨u, rfl, rx⟩ := vals1 r
  cases rx
  obtain ⟨its, r', pl, hz⟩ := I.list hq
  have hlen := r'.length
  refine call_tuple_list pl.isList (fun h' kp => ?_) (by simp only [List.size_toArray] <;> omega)
  have I1 : Inv X pins σ H { s with heap := h' } := I.kept (t' := s.toks) kp
  have I2 : Inv X pins σ (upd H h'.objs.size (.frz { cls := .type "tuple", data := .seq its.toArray } (.tup ys))) { s with heap := h'.push { cls := .type "tuple", data := .seq its.toArray } } :=
    I1.laid (t' := s.toks) (fun b o e => Heap.get?_push_of_some _ e) (Nat.le_refl _) (show ObjOk X.prog X.w _ _ _ (.frz _ (.tup ys)) from ⟨Heap.get?_push_size _ rfl, hz, its, r', IsTup.new _ _⟩)
  exact ⟨.ref h'.objs.size, _, I2, rfl, q _ _ (I1.hok.fresh (Nat.le_refl _)) rfl⟩
def rTIdx (K : PySem.W.Frag) : V → List V → Hp → VK → Prop := fun x xs H Q => ∃ p, ∃ ys : List Str, ∃ z j, x = .ref p ∧ xs = [.str z] ∧ SqT K H p (ys.map V.str) ∧ ys[j]? = some z ∧ (∀ m, m < j → ys[m]? ≠ some z) ∧ Q (.int (j : Nat)) H
def tTIdx (K : PySem.W.Frag) (to : TE) (t : TA) : TE := fun σ H Q => to σ H fun x H1 => (∃ (p : Addr) (ob : Obj) (vs : List V), x = .ref p ∧ H1 p = some (.frz ob (.tup vs)) ∧ ob.dict = none) ∧ t σ H1 fun xs H2 => rTIdx K x xs H2 Q
theorem pe_tidx {o e : Expr} {es : List Expr} {to : TE} {t : TA} {apos cpos : Pos} (ho : PE X o to) (ha : PA X (e :: es) t)
    (hbase : attributeBase o "index" X.env (eval o X.env) = eval o X.env := by rfl)
    (hfew : ((backTo cpos (starEach (e :: es) X.env)).all (fun x => !x.1) && (backToKw cpos (keywordEach [] X.env)).all (fun x => x.1.isSome)
      && decide ((e :: es).length + ([] : List Keyword).length + (if ([] : List Keyword).isEmpty then 0 else 1) < 30)) = true := by rfl)
    (hline : (apos.endLine == cpos.line) = true := by rfl) (hs : starEach (e :: es) X.env = (false, eval e X.env) :: starEach es X.env := by rfl) (hplain : (backTo cpos (starEach es X.env)).any (·.1) = false := by rfl) :
    PE X (.Call (.Attribute o "index" apos) (e :: es) [] cpos) (tTIdx X.K to t) := by
  refine ⟨fun pins s σ H Q I h => ?_⟩
  refine wpAny_Call_method_late hbase hfew hline rfl (thn (ho.run pins s σ H _ I h) fun v s1 ⟨x, H1, I1, r1, ⟨p, ob, vs, ex, hp, hd⟩, q1⟩ => ?_)
  subst ex
  cases r1
  obtain ⟨h1, h2⟩ := I1.hok p _ hp
  obtain ⟨its, _, pl, _⟩ := I1.tuple (.inl (.inr ⟨ob, hp⟩) : SqT X.K H1 p vs)
  have hT : s1.TypeIs (.ref p) "tuple" := by
    obtain ⟨o', ho', hc, _⟩ := pl
    exact ⟨o', ho', hc⟩
  refine ⟨"tuple", "tuple.index", PySem.F.plainAttrs_tuple, PySem.F.slot_tuple_index, PySem.F.type_tuple_index, hT, fun a e => ?_, ?_⟩
  · cases e; exact ⟨ob, h1, hd⟩
  have hA := ha.run cpos pins s1 σ H1 _ I1 q1
  rw [hs] at hA ⊢
  refine Calls.callWith_builtin (by show (false || (backTo cpos (starEach es X.env)).any (·.1)) = false; rw [hplain] <;> rfl) (Calls.evalArgs_plain ?_)
  exact thn hA fun us s2 ⟨vs', H2, I2, r2, q2⟩ => mt_tup_index pins s2 σ H2 (.ref p) vs' (.ref p) us Q I2 rfl r2 q2
end
section
variable {C : Ctx} {W : WX}
def oTupN : OpA := fun δ ps Q => ∃ p ds, ps = [p] ∧ ctP δ p = some (.lst ds) ∧ Q (.fz (.tpn ds)) δ
def fgt : Pv → Pv | .fz (.tpn ds) => .fz (.tup ds) | p => p
def fgtK (p : Pv) (δ : List Sl) (Q : UK) : Prop := Q (fgt p) δ
def uFgt (u : UE) : UE := fun δ Q X => u δ (fun p δ1 => fgtK p δ1 Q) X
theorem h_fgt {u : UE} {δ : List Sl} {Q : UK} {X : UX} (h : u δ (fun p δ1 => fgtK p δ1 Q) X) : uFgt u δ Q X := h
theorem h_fgtK {p : Pv} {δ : List Sl} {Q : UK} {ds : List D} (e : p = .fz (.tpn ds)) (h : Q (.fz (.tup ds)) δ) : fgtK p δ Q := by subst e; exact h
theorem h_tupN {p : Pv} {δ : List Sl} {Q : UK} {ds : List D} (h1 : ctP δ p = some (.lst ds)) (h : Q (.fz (.tpn ds)) δ) : oTupN δ [p] Q := ⟨p, ds, rfl, h1, h⟩
theorem tr_fgt {te : TE} {ue : UE} (h : TrE C W te ue) : TrE C W te (uFgt ue) := fun σ δ H G Q Q' X' S hu k kx =>
  h σ δ H G _ _ X' S hu (fun v p δ1 H1 G1 S1 T1 r q => by
    refine k v (fgt p) δ1 H1 G1 S1 T1 ?_ q
    unfold fgt
    split
    · rename_i ds
      have r' : Rp C.K G1 v (.tpn ds) := r
      cases r' with
      | tpn h n t => exact Rp.tup (.inl (.inr ⟨_, h⟩)) t
    · exact r) kx
def uTIdx (uo : UE) (us : UA) : UE := fun δ Q X => uo δ (fun p δ1 => (∃ ds, p = .fz (.tpn ds)) ∧ us δ1 (fun qs δ2 => ∃ (ys : List Str) (z : Str) (j : Nat), p = .fz (.tpn (ys.map D.str)) ∧ qs = [.fz (.str z)] ∧ ys[j]? = some z ∧ (∀ m, m < j → ys[m]? ≠ some z) ∧ Q (.fz (.int (j : Nat))) δ2) X) X
theorem tr_tidx {to : TE} {ts : TA} {uo : UE} {us : UA} (ho : TrE C W to uo) (he : TrA C W ts us) : TrE C W (tTIdx C.K to ts) (uTIdx uo us) := fun σ δ H G Q Q' X' S hu k kx =>
  ho σ δ H G _ _ X' S hu (fun v p δ1 H1 G1 S1 T1 r q => by
    obtain ⟨⟨ds, rfl⟩, q⟩ := q
    have r' : Rp C.K G1 v (.tpn ds) := r
    cases r' with
    | tpn h n t =>
      refine ⟨⟨_, _, _, rfl, S1.sub _ _ h, n⟩, ?_⟩
      refine he σ δ1 H1 G1 _ _ X' S1 q (fun ws qs δ3 H3 G3 S3 T3 r3 q3 => ?_) (kx.step T1)
      obtain ⟨ys, z, j, e1, rfl, hj, hm, q3⟩ := q3
      cases e1
      obtain ⟨w, rfl, r4⟩ := pas1 r3
      have ev := rpl_strs t
      subst ev
      exact ⟨_, ys, z, j, rfl, by rw [pa_str r4], .inl (.inr ⟨_, S3.sub _ _ (T3.gs _ _ h)⟩), hj, hm, k _ _ δ3 H3 G3 S3 (T1.trans T3) (pvF (Rp.int _)) q3⟩) kx
theorem tr_tupN : TrCB C (rTupN C.K) oTupN := fun σ δ H G Hs vs ps Q Q' S hs r h k => by
  obtain ⟨p, ds, rfl, e, h⟩ := h
  obtain ⟨v, rfl, r1⟩ := pas1 r
  obtain ⟨a, vs, rfl, h1, t⟩ := vw (Hs := H) S r1.pv e
  exact ⟨a, vs, rfl, SqL.of h1, fun l o hl hd => k.new S hl (fun _ z => by cases z) (.tpn upd_same hd (t.mono (Ex.new (S.sub.nn hl)))) h⟩
end
end WK
/-! Dict comprehensions over a told thing's dict; text times int; min of a list. -/
namespace WK
open PySem L2 PySem.Spec PyProof.Rows
section
variable {X : Cx}
end
section
variable {C : Ctx} {W : WX}
end
section
variable {C : Ctx} {σ : L2.St} {δ : List Sl} {p : Pv}
/-- a, b, .. = a list of that length -/
def ugLst (n : Nat) (us : UGs) : UG := fun p δ Q => ∃ ds, ctP δ p = some (.lst ds) ∧ ds.length = n ∧ us ds δ Q
theorem h_glst {n : Nat} {gs : UGs} {ds : List D} {P : List Sl → Prop} (h1 : ctP δ p = some (.lst ds)) (h2 : ds.length = n) (h : gs ds δ P) : ugLst n gs p δ P := ⟨ds, h1, h2, h⟩
end
theorem x9 : Txt.mul "x" 9 = "xxxxxxxxx" := by decide +kernel
end WK
/-! len of an own thing. -/
namespace WK
open PySem L2 PySem.Spec PyProof.Rows
section
variable {C : Ctx} {W : WX}
def oLenOwn (c : Str) (U : UP) : OpA := fun δ ps Q => ∃ p fds, ps = [p] ∧ ctP δ p = some (.obj c fds) ∧ uCallP U [p] δ (fun r δ' => ∃ n : Int, r = .fz (.int n) ∧ 0 ≤ n ∧ n < 2 ^ 63 ∧ Q (.fz (.int n)) δ') (fun _ _ => False)
theorem tr_lenOwn {c : Str} {U : UP} : TrCB C (rLenOwn C.K c (SpU C.K C.T U)) (oLenOwn c U) := fun σ δ H G Hs vs ps Q Q' S hs r h k => by
  obtain ⟨p, fds, rfl, e, h⟩ := h
  obtain ⟨v, rfl, r1⟩ := pas1 r
  obtain ⟨a, dx, fs, rfl, h1, t⟩ := vw (Hs := H) S r1.pv e
  refine ⟨a, dx, fs, rfl, h1, call_go (W := fun _ _ _ _ => False) (fun _ _ _ z => z.elim) S hs (.cons r1 .nil) h (fun v' p' δ' H' G' S' T' r' q' => ?_) (fun _ _ _ _ _ _ _ _ _ q => q.elim)⟩
  obtain ⟨n, rfl, h0, h1, q⟩ := q'
  have r2 : Rp C.K G' v' (.int n) := r'
  cases r2
  exact ⟨n, rfl, ⟨h0, h1⟩, k _ _ δ' H' G' S' T' (pvF (Rp.int _)) q⟩
end
end WK
/-! Lists over a dict that may be changed. -/
namespace WK
open PySem L2 PySem.Spec PyProof.Rows
end WK
/-! What a head says of a law's classes, checked at once. -/
namespace WK
open PySem PySem.Spec PyProof.Rows L2
theorem oexB_ok {K : PySem.W.Frag} {C : Addr} (q : oexB K C = true) : ∃ nm qn N bs bm sn sub ab col dd k0 k1 k2 k3 k5, K.lookup C = some (excClassObj nm qn C N bs bm true sn sub ab col dd k0 k1 k2 k3 k5 "ValueError.__new__") ∧ PySem.HandSPX.refsVE bm = true := by
  unfold oexB at q
  split at q
  · rename_i dd cd sl ho
    split at q
    · rename_i C' bm k0 k1 k2 k3 n k5 hm hs
      simp only [Bool.and_eq_true, beq_iff_eq, Bool.not_eq_true'] at q
      obtain ⟨⟨⟨⟨rfl, rfl⟩, hdel⟩, hdct⟩, ht⟩ := q
      obtain ⟨nm, bs, mro, ns, qn, hd, sn, sub, ab, col, del⟩ := cd
      dsimp only at hm hdel hdct
      subst hm hdel hdct
      have hsl : sl = #[k0, k1, k2, k3, some (.builtin "ValueError.__new__"), k5] := by
        obtain ⟨l⟩ := sl
        simp only at hs
        rw [hs]
      subst hsl
      exact ⟨nm, qn, ns, bs, bm, sn, sub, ab, col, dd, k0, k1, k2, k3, k5, ho, ht⟩
    · cases q
  · cases q
theorem eB_ok {a b : Option (Option Value)} (h : eB a b = true) : a = b := of_decide_eq_true h
theorem allB_at {l : List Bool} (h : allB l = true) (i : Nat) {b : Bool} (e : l[i]? = some b := by rfl) : b = true := List.all_eq_true.mp h b (List.mem_of_getElem? e)
theorem all_at {α : Type} {l : List α} {f : α → Bool} (h : l.all f = true) {x : α} (hx : x ∈ l) : f x = true := List.all_eq_true.mp h x hx
section
variable {K : PySem.W.Frag} {mg : Str → Option Value} {cs xs : List Str} {nas its xfs : List (Str × Str)} {ks : List (Str × V)}
theorem gf2_of (hgl : ∀ c ∈ cs, mg c = some (.ref (He.ga K c))) (hcl : ∀ c ∈ cs, Cls K (He.ga K c)) (hna : ∀ p ∈ nas, NoAttr K (He.ga K p.1) p.2) (hk : ∀ p ∈ ks, ∃ u, mg p.1 = some u ∧ RelV p.2 u) (hg : allB (glbL K) = true) (hc : (cs.all fun c => allB (clsL K cs c)) = true)
    (hi : (its.all fun p => allB (itL K p.1)) = true) (hin : ∀ p ∈ its, p.1 ∈ cs ∧ NoAttr K (He.ga K p.1) p.2) : GF2 K mg cs nas ks its := by
  have tyo : ∀ c ∈ cs, ∀ (H : Hp) (a dx : Addr) (fs : List (Str × V)), H a = some (.ins (He.ga K c) dx fs) → TyOf K H (.ref a) (.ref (He.ga K c)) := fun c hcs H a dx fs e =>
    .ins e (hcl c hcs) (eB_ok (allB_at (all_at hc hcs) 3)) (eB_ok (allB_at hg 0)) (of_decide_eq_true (allB_at hg 1)) (of_decide_eq_true (allB_at (all_at hc hcs) 4))
  have c5 : ∀ c ∈ cs, (builtN.all fun T => PySem.W.notFirst K (He.ga K c) (.type T)) = true := fun c h => allB_at (all_at hc h) 5
  have c6 : ∀ c ∈ cs, (cs.all fun c' => PySem.W.notFirst K (He.ga K c) (.ref (He.ga K c'))) = true := fun c h => allB_at (all_at hc h) 6
  have c7 : ∀ c ∈ cs, (builtN.all fun T => decide (PySem.W.kitOne K (.type T) (.ref (He.ga K c)) = some false)) = true := fun c h => allB_at (all_at hc h) 7
  have c8 : ∀ c ∈ cs, (cs.all fun c' => decide (PySem.W.kitOne K (.ref (He.ga K c')) (.ref (He.ga K c)) = some (c' == c))) = true := fun c h => allB_at (all_at hc h) 8
  have c9 : ∀ c ∈ cs, (builtN.all fun T => decide (PySem.W.kitOne K (.ref (He.ga K c)) (.type T) = some false)) = true := fun c h => allB_at (all_at hc h) 9
  exact {
    g := fun e => hgl _ (List.mem_of_getElem? e)
    cl := fun e => hcl _ (List.mem_of_getElem? e)
    na := fun e => hna _ (List.mem_of_getElem? e)
    k := fun e => hk _ (List.mem_of_getElem? e)
    sf := fun e => allB_at (all_at hc (List.mem_of_getElem? e)) 0
    ne := fun e => ⟨eB_ok (allB_at (all_at hc (List.mem_of_getElem? e)) 1), of_decide_eq_true (allB_at (all_at hc (List.mem_of_getElem? e)) 2)⟩
    nf := fun e => ⟨fun T hT => all_at (c5 _ (List.mem_of_getElem? e)) hT, fun c' hc' => all_at (c6 _ (List.mem_of_getElem? e)) hc', fun T hT => of_decide_eq_true (all_at (c7 _ (List.mem_of_getElem? e)) hT),
      fun c' hc' => of_decide_eq_true (all_at (c8 _ (List.mem_of_getElem? e)) hc'), tyo⟩
    nt := ⟨fun c hcs T hT => of_decide_eq_true (all_at (c9 _ hcs) hT), tyo⟩
    it := fun e => ⟨eB_ok (allB_at (all_at hi (List.mem_of_getElem? e)) 0), allB_at (all_at hi (List.mem_of_getElem? e)) 1, eB_ok (allB_at (all_at hi (List.mem_of_getElem? e)) 2), hcl _ (hin _ (List.mem_of_getElem? e)).1, (hin _ (List.mem_of_getElem? e)).2⟩ }
theorem oex_of (hx : (xs.all fun c => allB (excL K xs c)) = true) {c : Str} (h : c ∈ xs) : OexC K (He.ga K c) :=
  ⟨oexB_ok (allB_at (all_at hx h) 0), eB_ok (allB_at (all_at hx h) 1), of_decide_eq_true (allB_at (all_at hx h) 2), of_decide_eq_true (allB_at (all_at hx h) 3), allB_at (all_at hx h) 4⟩
theorem xfacts_of (hgl : ∀ c ∈ xs, mg c = some (.ref (He.ga K c))) (hg : allB (glbL K) = true) (hx : (xs.all fun c => allB (excL K xs c)) = true) (hno : ∀ p ∈ xfs, NoAttr K (He.ga K p.1) p.2) : XFacts K mg xs xfs := by
  have c10 : ∀ c ∈ xs, (xs.all fun c' => decide (PySem.W.kitOne K (.ref (He.ga K c)) (.ref (He.ga K c')) = some (c' == c || c' == ("WeirError" : Str)))) = true := fun c h => allB_at (all_at hx h) 10
  have c12 : ∀ c ∈ xs, (xs.all fun c' => decide (PySem.W.exmOne K (.ref (He.ga K c)) (.ref (He.ga K c')) = some (c' == c || c' == ("WeirError" : Str)))) = true := fun c h => allB_at (all_at hx h) 12
  exact {
  g := hgl
  kit := ⟨fun c h c' h' => of_decide_eq_true (all_at (c10 _ h) h'), fun c h => of_decide_eq_true (allB_at (all_at hx h) 11),
    fun c h => ⟨eB_ok (allB_at (all_at hx h) 5), eB_ok (allB_at (all_at hx h) 6), of_decide_eq_true (allB_at (all_at hx h) 2), allB_at (all_at hx h) 7, eB_ok (allB_at (all_at hx h) 8), eB_ok (allB_at hg 0), of_decide_eq_true (allB_at hg 1), of_decide_eq_true (allB_at (all_at hx h) 9)⟩⟩
  exm := fun c h c' h' => of_decide_eq_true (all_at (c12 _ h) h')
  xf := fun c h => ⟨eB_ok (allB_at (all_at hx h) 5), eB_ok (allB_at (all_at hx h) 6), of_decide_eq_true (allB_at (all_at hx h) 2), allB_at (all_at hx h) 7⟩
  no := fun c f h => hno _ h }
end
end WK
namespace WK
open PySem L2
theorem pe_ty {X : Cx} {T : String} {pos : Pos} (hg : Gl X (T : Str)) (hm : X.mg (T : Str) = none) (hv : bootBuiltins (T : Str) = some (.type T)) (hn : (T : Str) ≠ "__name__" := by decide) (hd : ((T : Str) == ("__debug__" : Str)) = false := by decide) : PE X (.Name (T : Str) pos) (tC (.ty T)) := pe_bltn hg hm hv rfl hn hd
/-! The law's classes, errors, fields. -/
abbrev CS : List Str := ["River", "Rights"]
abbrev XS : List Str := ["WeirError", "NotRiver", "NotRights", "NotText", "NoWeir", "NoRight", "NotDown"]
abbrev XFS : List (Str × Str) := [("NotRiver", "place"), ("NotRights", "place"), ("NotText", "line"), ("NoWeir", "name"), ("NoRight", "name"), ("NotDown", "high"), ("NotDown", "low")]
end WK
/-! several clauses `except x as e`, one after the other. -/
namespace WK
open PySem L2 PySem.Spec PyProof.Rows
/-- a clause: the class, the name's slot, the suite -/
abbrev Cla : Type := Value × Nat × (Addr → Value → Option Addr → TS)
inductive ClaOk (X : L2.Cx) : List ExceptHandler → List Cla → Prop
  | nil : ClaOk X [] []
  | cons {x n : Str} {c : Value} {i : Nat} {ts : Addr → Value → Option Addr → TS} {b₀ : Stmt} {suite : List Stmt} {np pos' : Pos} {hds : List ExceptHandler} {l : List Cla} (hi : X.N[i]? = some n) (hln : X.env.kindOf n = some .local) (hc : L2.Names X x c)
      (hsu : ∀ (a : Addr) (oe : Obj) (cls : Value) (d : Option Addr) (pn : List (Addr × Obj)), Zc cls d oe → (∃ vs, oe.data = .fields vs) → PSs (X.suite a ((a, oe) :: pn)) (b₀ :: suite) (ts a cls d)) (r : ClaOk X hds l) :
      ClaOk X (.ExceptHandler (some (.Name x np)) (some n) (b₀ :: suite) pos' :: hds) ((c, i, ts) :: l)
section
variable {X : L2.Cx} {body : List Stmt} {h₀ : ExceptHandler} {hds : List ExceptHandler} {l : List Cla} {pos : Pos} {tb : WX → TS} {Wo : WX}
end
/-! ### by data -/
abbrev UCla : Type := List Str × List Str × Nat × (Addr → Addr → Xn → US)
section
variable {C : Ctx} {W : WX}
inductive ClaR (C : Ctx) : List Cla → List UCla → Prop
  | nil : ClaR C [] []
  | cons {cv : Value} {i : Nat} {ts : Addr → Value → Option Addr → TS} {us : Addr → Addr → Xn → US} {yes no : List Str} {l : List Cla} {ul : List UCla} (hs : ∀ a dd x, TrS C (fun _ _ _ _ => False) (ts a (.ref (He.ga C.K x.1)) (some dd)) (us a dd x))
      (hy : ∀ n ∈ yes, PySem.W.exmOne C.K (.ref (He.ga C.K n)) cv = some true) (hn : ∀ n ∈ no, PySem.W.exmOne C.K (.ref (He.ga C.K n)) cv = some false) (r : ClaR C l ul) : ClaR C ((cv, i, ts) :: l) ((yes, no, i, us) :: ul)
end
end WK
/-! a property read; list(d.values()). -/
namespace WK
open PySem L2 PySem.Spec PyProof.Rows
section
variable {X : L2.Cx} {W : WX} {k : Nat} {c f : Str} {sp : Sp} {e : Expr} {pos : Pos} {ta : TE}
end
section
variable {C : Ctx} {W : WX} {U : UP} {te : TE} {ue : UE} {c : Str}
end
section
variable {X : L2.Cx} {e : Expr} {te : TE} {p apos cpos pos : Pos}
end
section
variable {C : Ctx} {W : WX} {te : TE} {ue : UE}
end
end WK
/-! `for k, v in o` where o hands back iter(self.fld.items()). -/
namespace WK
open PySem L2 PySem.Spec PyProof.Rows
end WK
/-! list(o), o's __iter__ hands back iter(self.fld.items()), o has a __len__ of its own. -/
namespace WK
open PySem L2 PySem.Spec PyProof.Rows
open L2.DX (itemsO itemsO_ok)
section
variable {X : Cx} {pins : List (Addr × Obj)} {σ : L2.St} {H : Hp} {s : Shared} {A : Around}
end
/-! ### by data -/
section
variable {C : Ctx} {W : WX} {U : UP} {c fld : Str} {σ : L2.St} {δ : List Sl} {H G Hs : Hp}
end
end WK
/-! `is` between booleans. -/
namespace WK
open PySem L2 PySem.Spec PyProof.Rows
section
variable {C : Ctx} {σ : L2.St} {δ : List Sl} {H G Hs : Hp}
def oIsB (f : Bool → Bool) : Op2 := fun δ p q Q => ∃ a b, p = .fz (.bl a) ∧ q = .fz (.bl b) ∧ Q (.fz (.bl (f (decide (a = b))))) δ
theorem tr_isB : TrOp C rIsB (oIsB id) := fun σ δ H G Hs v w p q Q Q' S hs r1 r2 h k => by
  obtain ⟨a, b, rfl, rfl, h⟩ := h
  have := rp_bl r1
  subst this
  have := rp_bl r2
  subst this
  exact ⟨a, b, rfl, rfl, k _ _ δ H G S .refl (pvF (Rp.bl _)) h⟩
theorem h_isB {Q : UK} {a b : Bool} (h : Q (.fz (.bl (decide (a = b)))) δ) : oIsB id δ (.fz (.bl a)) (.fz (.bl b)) Q := ⟨a, b, rfl, rfl, h⟩
end
end WK
/-! `for k in self.fld` over a dict; int of a boolean. -/
namespace WK
open PySem L2 PySem.Spec PyProof.Rows
end WK
/-! != of two lists of dicts. -/
namespace PySem.SeqAt
open AutoSeq1 (wpAny_loadPart')
open MeetsSeq MeetsSeq2 MeetsSeq3 SeqRoads2
section
variable {prog : Program} {w : World}
end
end PySem.SeqAt
namespace WK
open PySem L2 PySem.Spec PyProof.Rows
/-- two dicts that are equal -/
def EqDD (H : Hp) (a b : Addr) : Prop := ∃ ks ls, Rd H a (.dK ks) ∧ Rd H b (.dK ls) ∧ (∀ p ∈ ks, flatV p.2 = true) ∧ (∀ k z, valV ls k = some z → flatV z = true) ∧ (ks.length == ls.length && dEq ls ks) = true
section
variable {C : Ctx} {σ : L2.St} {δ : List Sl} {H G Hs : Hp}
theorem EqDD.ex {H H' : Hp} {a b : Addr} (e : Ex H H') (h : EqDD H a b) : EqDD H' a b := by
  obtain ⟨ks, ls, h1, h2, r⟩ := h
  exact ⟨ks, ls, rd_ex e h1, rd_ex e h2, r⟩
end
end WK
/-! methods with *names. -/
namespace WK
open PySem L2 PySem.Spec PyProof.Rows
/-- n values by place, the rest as a new tuple -/
def starSp (n : Nat) (sp : Sp) : Sp := fun vs H Q E => ∃ ws rest, vs = ws ++ rest ∧ ws.length = n ∧ rest.length ≤ sizeLine ∧ ∀ p, H p = none → sp (ws ++ [V.ref p]) (upd H p (.tup rest)) Q E
structure SCal (P : Program) (w : World) (K : PySem.W.Frag) (mg : Str → Option Value) (base : Heap) (k : Nat) (c m : Str) (n : Nat) (sp : Sp) : Prop where
  fn : FnR P w K mg base (L2.CX P w) k (He.ma K (He.ga K c) m) (starSp n sp)
  mt : Meth K (He.ga K c) m (He.ma K (He.ga K c) m)
section
variable {X : Cx} {CX : CXT} {k n : Nat} {f C : Addr} {sp : Sp} {E : L2.St → XK} {W : WX} {c m : Str} {p pos apos : Pos} {e o : Expr} {es : List Expr} {ta : TE} {t : TA}
end
section
variable {C : Ctx} {W : WX} {U : UP} {te : TE} {ue : UE} {ts : TA} {us : UA}
end
end WK
namespace WK
open PySem L2 PySem.Spec PyProof.Rows
section
variable {X : L2.Cx}
end
end WK
/-! several except clauses, with a name or without. -/
namespace WK
open PySem L2 PySem.Spec PyProof.Rows
abbrev Cla2 : Type := Value × Option Nat × (Addr → Value → Option Addr → TS)
def wMany (K : PySem.W.Frag) (W : WX) (D : Ends) : List Cla2 → WX
  | [] => W
  | (c, some i, ts) :: r => wAs K c i ts (wMany K W D r) D
  | (c, none, ts) :: r => wOnly K c ts (wMany K W D r) D
inductive ClaOk2 (X : L2.Cx) : List ExceptHandler → List Cla2 → Prop
  | nil : ClaOk2 X [] []
  | cons {x n : Str} {c : Value} {i : Nat} {ts : Addr → Value → Option Addr → TS} {b₀ : Stmt} {suite : List Stmt} {np pos' : Pos} {hds : List ExceptHandler} {l : List Cla2} (hi : X.N[i]? = some n) (hln : X.env.kindOf n = some .local) (hc : L2.Names X x c)
      (hsu : ∀ (a : Addr) (oe : Obj) (cls : Value) (d : Option Addr) (pn : List (Addr × Obj)), Zc cls d oe → (∃ vs, oe.data = .fields vs) → PSs (X.suite a ((a, oe) :: pn)) (b₀ :: suite) (ts a cls d)) (r : ClaOk2 X hds l) :
      ClaOk2 X (.ExceptHandler (some (.Name x np)) (some n) (b₀ :: suite) pos' :: hds) ((c, some i, ts) :: l)
  | bare {x : Str} {c : Value} {ts : Addr → Value → Option Addr → TS} {b₀ : Stmt} {suite : List Stmt} {np pos' : Pos} {hds : List ExceptHandler} {l : List Cla2} (hc : L2.Names X x c)
      (hsu : ∀ (a : Addr) (oe : Obj) (cls : Value) (d : Option Addr) (pn : List (Addr × Obj)), Zc cls d oe → (∃ vs, oe.data = .fields vs) → PSs (X.suite a ((a, oe) :: pn)) (b₀ :: suite) (ts a cls d)) (r : ClaOk2 X hds l) :
      ClaOk2 X (.ExceptHandler (some (.Name x np)) none (b₀ :: suite) pos' :: hds) ((c, none, ts) :: l)
section
variable {X : L2.Cx} {body : List Stmt} {h₀ : ExceptHandler} {hds : List ExceptHandler} {l : List Cla2} {pos : Pos} {tb : WX → TS} {Wo : WX}
theorem ps_try_many (st : X.stack = X.env :: X.outer) (fr : X.env.frame = some X.env.locals) (nd : X.N.Nodup) (tk : Takes X Wo)
    (bd : ∀ (W : WX) (pn : List (Addr × Obj)) (xe : Value → Shared → Prop), Takes (X.tr pn xe) W → PassesOwn (model X.prog X.w) X.A X.env xe → PSs (X.tr pn xe) body (tb W))
    (cl : ClaOk2 X (h₀ :: hds) l) : PS X (.Try body (h₀ :: hds) [] [] pos) (fun D σ H => tb (wMany X.K Wo D l) D σ H) := by
  refine ⟨fun pins s σ H D I wi => ?_⟩
  have ok0 := I.ok
  have frm : X.A.frames = some (X.env :: X.outer) := by rw [ok0.frames, st]
  refine wpAny_Try_except ?_
  have R := (bd (wMany X.K Wo D l) (X.pn ++ pins) (fun e s₁ => wpAny (model X.prog X.w) X.A (noteFrame e X.env) (fun _ s₂ => wpAny (model X.prog X.w) X.A (setFlight e none) (fun _ s₃ => wpAny (model X.prog X.w) X.A (handleBy e X.env (h₀ :: hds)) (SP X pins D) X.xe s₃) X.xe s₂) X.xe s₁)
    (fun u sx xx => ?_) PassesOwn.looking).run [] s σ H D (I.toTry _) wi
  · refine wpAny_mono R (fun f s1 hf => ?_) (fun e s1 he => he)
    cases f with
    | next => obtain ⟨σ1, H1, J, q⟩ := hf; exact wpAny_execs_nil ⟨σ1, H1, J.ofTry ok0, q⟩
    | brk => obtain ⟨σ1, H1, J, q⟩ := hf; exact ⟨σ1, H1, J.ofTry ok0, q⟩
    | cont => obtain ⟨σ1, H1, J, q⟩ := hf; exact ⟨σ1, H1, J.ofTry ok0, q⟩
    | ret u => obtain ⟨v, σ1, H1, J, r, q⟩ := hf; exact ⟨v, σ1, H1, J.ofTry ok0, r, q⟩
  · obtain ⟨a, B, sI, pt, σ1, H1, cls, d, rfl, Jt, nb, up, sky, na, os, ag, w⟩ := xx
    have J : Inv X pins σ1 H1 sI := Jt.ofTry ok0
    have sk : Sky B (X.env :: X.outer) a (Zc cls d) X.env.locals sx.heap := st ▸ sky
    show wpAny (model X.prog X.w) X.A (noteFrame (.ref a) X.env) _ _ _
    refine Sky.land Zc.steady frm fr sk fun h3 fl3 up3 => ?_
    have J3 : Inv X pins σ1 H1 { sx with heap := h3 } := J.landed nb fl3.1 (up.trans up3) os ag
    obtain ⟨o3, v3, g3, z3, d3⟩ := fl3.there
    have apart : a ∉ frs (X.env :: X.outer) := fun hm => by
      obtain ⟨_, o', e', nf⟩ := fl3.2.2.1.mem hm
      cases g3.symm.trans e'
      exact nf _ d3
    have aL : a ≠ X.env.locals := fun z => apart (List.mem_filterMap.mpr ⟨X.env, List.mem_cons_self, by rw [fr, z]⟩)
    have aF : a ∉ X.fs := fun hm => by
      obtain ⟨e, he, q⟩ := List.mem_filterMap.mp hm
      exact apart (List.mem_filterMap.mpr ⟨e, List.mem_cons_of_mem _ he, q⟩)
    have S3 := J3.suite g3 d3 na aL aF
    have tst : ∀ {x : Str} {c : Value} {np : Pos}, L2.Names X x c → ∀ {Q : Value → Shared → Prop} {E : Value → Shared → Prop}, Q c { sx with heap := h3 } → wpAny (model X.prog X.w) (X.A.mark (some (.ref a))) (eval (.Name x np) X.env) Q E { sx with heap := h3 } := fun hc Q E q => by
      rcases hc with ⟨hg, hdbg, hm | ⟨hm, hv, hnn⟩⟩
      · exact ld_glob (X := X.suite a ((a, o3) :: (X.pn ++ pins))) S3 hg hm q hdbg
      · exact ld_blt (X := X.suite a ((a, o3) :: (X.pn ++ pins))) S3 hg hm hv q hnn hdbg
    have go : ∀ {hs2 : List ExceptHandler} {l2 : List Cla2}, ClaOk2 X hs2 l2 → wMany X.K Wo D l2 cls d σ1 H1 → wpAny (model X.prog X.w) X.A (handleBy (.ref a) X.env hs2) (SP X pins D) X.xe { sx with heap := h3 } := by
      intro hs2 l2 hk
      induction hk with
      | nil =>
        intro w
        refine wpAny_handleBy_nil ?_
        have out : wpAny (model X.prog X.w) X.A (setFlight (.ref a) X.env.frame) (fun _ s4 => wpAny (model X.prog X.w) X.A (throw (.ref a) : Sem Flow) (SP X pins D) X.xe s4) X.xe { sx with heap := h3 } := by
          rw [fr]
          refine HandSPX.setFlight_upZ fl3 fun h4 hh4 up4 => wpAny_throw (tk _ _ ?_)
          exact ⟨a, B, sI, pins, σ1, H1, cls, d, rfl, J, nb, (up.trans up3).trans up4, .inr (.inr (st ▸ hh4)), na, os, ag, w⟩
        obtain ⟨_, _, _, oe, vs, T, _, _, he, _, hd, h1, _⟩ := id fl3
        unfold PySem.passOn
        refine wpAny_bind (wpAny_field he hd h1 ?_)
        rw [if_neg (show ¬ ((Value.ref T == Value.none) = true) by simp)]
        first
          | exact wpAny_bind (wpAny_pure (wpAny_bind out))
          | exact wpAny_bind out
      | @cons x n c i ts b₀ suite np pos' hs3 l3 hi hln hc hsu r ih =>
        rintro ⟨b, hb1, hy, hn⟩
        refine wpAny_handleBy_cons (codeAny_handlers_test ?_) (by intro q; cases q)
        have LM := PySem.W.exm_one (M := model X.prog X.w) J3.kIn (fun A Q E s k q => wpAny_typeOf_ref (k _ _ g3) (by rw [z3.1]; exact q) : PySem.W.Looks (model X.prog X.w) h3 (typeOf (.ref a)) cls) hb1
        refine tst hc (LM.here ?_)
        cases b with
        | false => exact ih (hn rfl)
        | true =>
          refine codeAny_handlers_suite_as ?_
          refine HandSPX.lands_againZ fl3 fun h4 fl4 up4 => ?_
          have J4 : Inv X pins σ1 H1 { sx with heap := h4 } := J.landed nb fl4.1 ((up.trans up3).trans up4) os ag
          obtain ⟨o4, v4, g4, z4, d4⟩ := fl4.there
          refine store_ok (X := X.suite a ((a, o4) :: (X.pn ++ pins))) (v := .ref a) (J4.suite g4 d4 na aL aF) nd hi (.inl hln : Loc X.env.scope n) rfl (fun s5 S5 => ?_) (.inr hln)
          refine wpAny_mono ((hsu a o4 cls d (X.pn ++ pins) z4 ⟨_, d4⟩).run [] s5 _ H1 _ S5 (hy rfl a na)) (fun f s6 hf => ?_) (fun _ _ z => False.elim z)
          have fin : ∀ {σ6 : L2.St} {H6 : Hp} {Q : Shared → Prop}, Inv (X.suite a ((a, o4) :: (X.pn ++ pins))) [] σ6 H6 s6 → (∀ s7, Inv X pins (σ6.set i none) H6 s7 → Q s7) →
              wpAny (model X.prog X.w) X.A (do bindName X.env n .none; unbindBehindTheSuite X.env n pos') (fun _ s7 => Q s7) X.xe s6 := fun S6 hq => gone_ok (S6.unsuite ok0) nd hi hln hq
          cases f with
          | next => obtain ⟨σ6, H6, S6, q6⟩ := hf; exact fin S6 fun s7 J7 => ⟨_, _, J7, q6⟩
          | brk => obtain ⟨σ6, H6, S6, q6⟩ := hf; exact fin S6 fun s7 J7 => ⟨_, _, J7, q6⟩
          | cont => obtain ⟨σ6, H6, S6, q6⟩ := hf; exact fin S6 fun s7 J7 => ⟨_, _, J7, q6⟩
          | ret u => obtain ⟨v6, σ6, H6, S6, r6, q6⟩ := hf; exact fin S6 fun s7 J7 => ⟨_, _, _, J7, r6, q6⟩
      | @bare x c ts b₀ suite np pos' hs3 l3 hc hsu r ih =>
        rintro ⟨b, hb1, hy, hn⟩
        refine wpAny_handleBy_cons (codeAny_handlers_test ?_) (by intro q; cases q)
        have LM := PySem.W.exm_one (M := model X.prog X.w) J3.kIn (fun A Q E s k q => wpAny_typeOf_ref (k _ _ g3) (by rw [z3.1]; exact q) : PySem.W.Looks (model X.prog X.w) h3 (typeOf (.ref a)) cls) hb1
        refine tst hc (LM.here ?_)
        cases b with
        | false => exact ih (hn rfl)
        | true =>
          refine codeAny_handlers_suite ?_
          refine HandSPX.lands_againZ fl3 fun h4 fl4 up4 => ?_
          have J4 : Inv X pins σ1 H1 { sx with heap := h4 } := J.landed nb fl4.1 ((up.trans up3).trans up4) os ag
          obtain ⟨o4, v4, g4, z4, d4⟩ := fl4.there
          refine wpAny_mono ((hsu a o4 cls d (X.pn ++ pins) z4 ⟨_, d4⟩).run [] _ _ H1 _ (J4.suite g4 d4 na aL aF) (hy rfl a na)) (fun f s6 hf => ?_) (fun _ _ z => False.elim z)
          cases f with
          | next => obtain ⟨σ6, H6, S6, q6⟩ := hf; exact ⟨_, _, S6.unsuite ok0, q6⟩
          | brk => obtain ⟨σ6, H6, S6, q6⟩ := hf; exact ⟨_, _, S6.unsuite ok0, q6⟩
          | cont => obtain ⟨σ6, H6, S6, q6⟩ := hf; exact ⟨_, _, S6.unsuite ok0, q6⟩
          | ret u => obtain ⟨v6, σ6, H6, S6, r6, q6⟩ := hf; exact ⟨_, _, _, S6.unsuite ok0, r6, q6⟩
    exact go cl w
end
/-! ### by data -/
abbrev UCla2 : Type := List Str × List Str × Option Nat × (Addr → Addr → Xn → US)
def uManyX (E : UEnds) : List UCla2 → Xn → List Sl → Prop
  | [], x, δ => E.ex x δ
  | (yes, no, some i, us) :: r, x, δ => (uTryE yes no i us { E with ex := uManyX E r }).ex x δ
  | (yes, no, none, us) :: r, x, δ => (x.1 ∈ yes ∧ ∀ a dd, us a dd x { nx := E.nx, rt := E.rt, bk := E.bk, ct := E.ct, ex := fun _ _ => False } δ) ∨ (x.1 ∈ no ∧ uManyX E r x δ)
section
variable {C : Ctx} {W : WX}
inductive ClaR2 (C : Ctx) : List Cla2 → List UCla2 → Prop
  | nil : ClaR2 C [] []
  | cons {cv : Value} {i : Nat} {ts : Addr → Value → Option Addr → TS} {us : Addr → Addr → Xn → US} {yes no : List Str} {l : List Cla2} {ul : List UCla2} (hs : ∀ a dd x, TrS C (fun _ _ _ _ => False) (ts a (.ref (He.ga C.K x.1)) (some dd)) (us a dd x))
      (hy : ∀ n ∈ yes, PySem.W.exmOne C.K (.ref (He.ga C.K n)) cv = some true) (hn : ∀ n ∈ no, PySem.W.exmOne C.K (.ref (He.ga C.K n)) cv = some false) (r : ClaR2 C l ul) : ClaR2 C ((cv, some i, ts) :: l) ((yes, no, some i, us) :: ul)
  | bare {cv : Value} {ts : Addr → Value → Option Addr → TS} {us : Addr → Addr → Xn → US} {yes no : List Str} {l : List Cla2} {ul : List UCla2} (hs : ∀ a dd x, TrS C (fun _ _ _ _ => False) (ts a (.ref (He.ga C.K x.1)) (some dd)) (us a dd x))
      (hy : ∀ n ∈ yes, PySem.W.exmOne C.K (.ref (He.ga C.K n)) cv = some true) (hn : ∀ n ∈ no, PySem.W.exmOne C.K (.ref (He.ga C.K n)) cv = some false) (r : ClaR2 C l ul) : ClaR2 C ((cv, none, ts) :: l) ((yes, no, none, us) :: ul)
/-- an exception in a state, handed to the clauses -/
theorem many_ok {l : List Cla2} {ul : List UCla2} (h : ClaR2 C l ul) {E : Ends} {E' : UEnds} {σ : L2.St} {δ : List Sl} {H G : Hp} (e : EndsR C W σ δ H G E E') :
    ∀ x cls d σ1 δ1 H1 G1, SR C σ1 δ1 H1 G1 → Stp σ δ H G σ1 δ1 H1 G1 → XR C.K H1 G1 x cls d → uManyX E' ul x δ1 → wMany C.K W E l cls d σ1 H1 := by
  induction h with
  | nil => exact e.ex
  | @cons cv i ts us yes no l2 ul2 hs hy hn r ih =>
    intro x cls d σ1 δ1 H1 G1 S1 T1 rx q
    have rx0 := rx
    obtain ⟨rfl, dd, fs, rfl, hd, rm⟩ := id rx
    rcases q with ⟨m, nk, q⟩ | ⟨m, q⟩
    · refine ⟨true, hy _ m, fun _ a ha => ?_, fun z => by cases z⟩
      obtain ⟨S2, T2⟩ := S1.asgF (v := .ref a) (d := .exc a dd x.1 x.2) nk.no (.exc hd rm.1 rm.2)
      have T12 := T1.trans T2
      refine hs a dd x _ _ H1 G1 _ _ S2 ⟨fun σ3 δ3 H3 G3 S3 T3 q3 => ?_, fun v p σ3 δ3 H3 G3 S3 T3 r3 q3 => ?_, fun σ3 δ3 H3 G3 S3 T3 q3 => ?_, fun σ3 δ3 H3 G3 S3 T3 q3 => ?_, fun _ _ _ _ _ _ _ _ _ _ z => z⟩ (q a dd)
      · obtain ⟨S4, T4⟩ := S3.unset q3.1.no; exact e.nx _ _ _ _ S4 ((T12.trans T3).trans T4) q3.2
      · exact e.rt v p σ3 δ3 H3 G3 S3 (T12.trans T3) (r3.start fun a => T12.nn) q3
      · obtain ⟨S4, T4⟩ := S3.unset q3.1.no; exact e.bk _ _ _ _ S4 ((T12.trans T3).trans T4) q3.2
      · obtain ⟨S4, T4⟩ := S3.unset q3.1.no; exact e.ct _ _ _ _ S4 ((T12.trans T3).trans T4) q3.2
    · exact ⟨false, hn _ m, (fun z => by cases z), fun _ => ih x _ _ σ1 δ1 H1 G1 S1 T1 rx0 q⟩
  | @bare cv ts us yes no l2 ul2 hs hy hn r ih =>
    intro x cls d σ1 δ1 H1 G1 S1 T1 rx q
    have rx0 := rx
    obtain ⟨rfl, dd, fs, rfl, hd, rm⟩ := id rx
    rcases q with ⟨m, q⟩ | ⟨m, q⟩
    · refine ⟨true, hy _ m, fun _ a ha => ?_, fun z => by cases z⟩
      refine hs a dd x _ _ H1 G1 _ _ S1 ⟨fun σ3 δ3 H3 G3 S3 T3 q3 => ?_, fun v p σ3 δ3 H3 G3 S3 T3 r3 q3 => ?_, fun σ3 δ3 H3 G3 S3 T3 q3 => ?_, fun σ3 δ3 H3 G3 S3 T3 q3 => ?_, fun _ _ _ _ _ _ _ _ _ _ z => z⟩ (q a dd)
      · exact e.nx _ _ _ _ S3 (T1.trans T3) q3
      · exact e.rt v p σ3 δ3 H3 G3 S3 (T1.trans T3) (r3.start fun a => T1.nn) q3
      · exact e.bk _ _ _ _ S3 (T1.trans T3) q3
      · exact e.ct _ _ _ _ S3 (T1.trans T3) q3
    · exact ⟨false, hn _ m, (fun z => by cases z), fun _ => ih x _ _ σ1 δ1 H1 G1 S1 T1 rx0 q⟩
end
end WK
/-! a lambda without parameters handed to a def that calls it in a try. -/
namespace WK
open PySem L2 PySem.Spec PyProof.Rows
open LamX (CodeO TabS Tabs ExtN TabB LamS lamEnv lamCx lam_make2 run_ofS)
section
variable {X : Cx} {pins : List (Addr × Obj)} {σ : L2.St} {H : Hp} {s : Shared}
/-- a name of the frame is read, the state stays -/
theorem ld_var {i : Nat} {x : Str} {pos : Pos} {v : V} (I : Inv X pins σ H s) (hN : X.N[i]? = some x) (hv : Vis X.env.scope x) (hs : σ[i]? = some (some v)) {R : Value → Shared → Prop} {E : Value → Shared → Prop} (h : ∀ u, RelV v u → R u s)
    (hd : (x == ("__debug__" : Str)) = false := by decide) (hcd : (x == ("__classdict__" : Str)) = false := by decide) : wpAny (model X.prog X.w) X.A (eval (.Name x pos) X.env) R E s := by
  obtain ⟨m, hn, hl⟩ := I.loc
  obtain ⟨u, r, l⟩ := hl i x v hN hs hv
  rcases l with ⟨hk, hm⟩ | ⟨hk, c, hc, hcell⟩
  · exact wpAny_Name (wpAny_loadName_local I.ok.kind hk hn hm (h u r)) hd
  · rcases hk with hk | hk
    · exact wpAny_Name (wpAny_loadName_cell I.ok.kind hk hc hcell (h u r)) hd
    · exact wpAny_Name (wpAny_loadName_free I.ok.kind hk hc hcell (h u r) hcd) hd
end
section
variable {X : Cx} {pins : List (Addr × Obj)} {σ : L2.St} {H : Hp} {s : Shared}
/-- the lambda is called in the def that got it; what is wished of its exception may speak of that def's names at the call -/
theorem pe_actS {CXg : CXT} {Eg : XK} {Ng : List Str} {qg : Str} {sg : Scope} {g f c' : Addr} {cdg pm ctv : Value} {params : Arguments} {body : Expr} {scope : Scope} {k i : Nat} {a : Str} {pn : List (Addr × Obj)} {xe : Value → Shared → Prop} {W : WX} {E : L2.St → XK} {tb : XK → TE} {p1 p2 : Pos}
    (I : Inv X pins σ H s) (L : LamS X.env.scope scope) (hf : s.heap.get? f = some (PySem.W.kla_obj "<lambda>" (X.env.qual ++ "<lambda>") params body scope (cloFrom X.env.cells scope.names []) pm c' ctv)) (hfn : H f = none) (hfr : f ∉ frs X.stack)
    (hbind : bindArgs (PySem.W.kla_fn "<lambda>" (X.env.qual ++ "<lambda>") params body scope (cloFrom X.env.cells scope.names []) pm (.ref c') ctv) ⟨[], []⟩ = pure [])
    (tk : Takes ((cxOf CXg X.prog X.w X.K X.mg X.base Ng qg sg g cdg X.A X.stack s H Eg).tr pn xe) W) (hW : ∀ σ' cls d H', E σ' cls d H' → W cls d σ' H') (hr : Room (k + 1) (X.A.deeper (envOfC qg sg s.heap.objs.size g cdg)))
    (hbody : ∀ (A : Around) (outer : List Env) (s : Shared) (H : Hp) (E : XK), Room k (A.deeper (lamEnv X scope s.heap.objs.size f c')) → PE (lamCx X A outer s H E scope f c') body (tb E))
    (hN : Ng[i]? = some a) (hv : Vis sg a) (hd : (a == ("__debug__" : Str)) = false) (hcd : (a == ("__classdict__" : Str)) = false) :
    PE ((cxOf CXg X.prog X.w X.K X.mg X.base Ng qg sg g cdg X.A X.stack s H Eg).tr pn xe) (.Call (.Name a p1) [] [] p2)
      (fun σZ HZ Q => σZ[i]? = some (some (.ref f)) ∧ HZ c' = some (CodeO c' (X.env.qual ++ "<lambda>")) ∧ tb (E σZ) σ HZ Q) := by
  refine ⟨fun pz sz σz Hz Q IZ ⟨hs, hc, ht⟩ => ?_⟩
  refine wpAny_Call_Name_kw (ld_var IZ hN hv hs (fun u ru => ?_) hd hcd)
  obtain rfl : u = Value.ref f := ru
  have fobj := IZ.base.keep f _ hf hfn hfr (fun z => nomatch (show f ∈ ([] : List Addr) from z))
  refine PySem.W.callWith_F0 ⟨_, _, _, _, fobj⟩ (wpAny_call ?_)
  obtain ⟨⟨oc, vs, t, hoc, hdc, hvc⟩, _, _⟩ := IZ.hok c' _ hc
  have run : codeAny (model X.prog X.w) (X.A.deeper (envOfC qg sg s.heap.objs.size g cdg)) (.call (.ref f) ⟨[], []⟩) (CR (L2.CX X.prog X.w) (envOfC qg sg s.heap.objs.size g cdg :: X.stack) X.prog X.w Hz sz Q (E σz)) sz := by
    refine PySem.W.kla_callFunE hr.depth fobj rfl L.co L.gen rfl ⟨c', oc, vs, t, rfl, hoc, hdc, hvc⟩ ?_
    rw [hbind]
    refine wpAny_pure (wpAny_newFunctionEnv (fun y hy => (L.own y hy).2) (fun y hy => absurd hy (by simp)) (fun h₁ hns hsb => ⟨IZ.nolimit.fresh _ hsb, ?_⟩) L.kind)
    have J := LamX.lam_start2 (A := X.A.deeper (envOfC qg sg s.heap.objs.size g cdg)) (outer := envOfC qg sg s.heap.objs.size g cdg :: X.stack) (E := E σz) (f := f) (c' := c') (tk := sz.toks + ([] : List (Str × Value)).length) I L IZ.env0 hr.hd IZ.base hns
      fun b o e => hsb.extBut b o (Nat.ne_of_lt (Heap.lt_size e)) (Heap.get?_push_of_some _ e)
    show codeAny _ _ (.expr body (lamEnv X scope sz.heap.objs.size f c')) _ _
    exact PySem.W.kla_codeExpr (wpAny_mono ((hbody _ _ sz Hz (E σz) (hr.deeper _)).run [] _ _ Hz Q J ht) (fun v s' ⟨w', H', J', rv, q⟩ => ⟨w', H', J'.os, J'.bare, J'.base, J'.hok, rv, q⟩) fun _ _ hq => hq)
  refine codeAny_mono run fun r s' hq => ?_
  cases r with
  | error e => exact tk e s' (XE.of_call IZ (fun cls d H' h => hW σz cls d H' h) hq)
  | ok fl =>
    cases fl with
    | ret u => exact IZ.after hq
    | next => exact False.elim hq
    | brk => exact False.elim hq
    | cont => exact False.elim hq
end
section
variable {X : Cx}
end
/-- the ends of such a def -/
def endsA (r : D) : UEnds := { nx := fun _ => False, rt := fun p _ => p = .fz r, bk := fun _ => False, ct := fun _ => False, ex := fun _ _ => False }
/-! ### the transfer -/
section
variable {C : Ctx} {W : WX} {σ : L2.St} {δ : List Sl} {H H1 G : Hp}
theorem SR.extN (S : SR C σ δ H G) (e : ExtN H H1) (t : Tabs C.T H1) : SR C σ δ H1 G := by
  refine ⟨fun a o h => e a o (S.sub a o h) (S.nt a o h), S.nt, S.gq, fun a o h n m => e a o (S.fr a o h n m) n, fun a m => ?_, t, S.len, fun i s h => ?_, S.dj⟩
  · obtain ⟨o, ho, n⟩ := S.pl a m
    exact ⟨o, e a o ho n.1, n⟩
  · refine (S.sl i s h).keep (Ex.refl _) fun b hb hx => ?_
    obtain ⟨u, hu, n, _⟩ := S.own_some ⟨i, s, h, hb, hx⟩
    exact ⟨fun w hw => e b w hw (by rw [hu] at hw; cases hw; exact n), fun g => g⟩
theorem Stp.extN (e : ExtN H H1) : Stp σ δ H G σ δ H1 G :=
  ⟨Ex.refl _, fun b o h n _ => e b o h n, fun _ _ _ _ _ _ => rfl, fun _ _ _ _ h => h, fun _ _ _ _ h => h, fun i s h _ => ⟨rfl, s, h, KeepS.refl s⟩, fun b o h n => ⟨o, e b o h n, n⟩⟩
end
end WK
/-! exceptions that are made and held as values; list.count. -/
namespace WK
open PySem L2 PySem.Spec PyProof.Rows
/-! ### by data -/
def uMkX (c : Str) (fs : List Str) (us : UA) : UE := fun δ Q X => us δ (fun ps δ1 => uStoL ps δ1 fun ds δ2 => ds.length = fs.length ∧ Q (.fz (.err c (fs.zip ds).reverse)) δ2) X
def uErF (c f : Str) (u : UE) : UE := fun δ Q X => u δ (fun p δ1 => ∃ fds d, ctP δ1 p = some (.err c fds) ∧ fds.lookup f = some d ∧ Q (.fz d) δ1) X
section
variable {C : Ctx} {W : WX} {σ : L2.St} {δ δ' : List Sl} {H G H' G' Hs : Hp} {v w : V} {p q : Pv} {d : D} {K : PySem.W.Frag} {cs : List Str}
end
section
variable {δ : List Sl} {Q : UK} {X : UX}
theorem h_mkx {c : Str} {fs : List Str} {us : UA} (h : us δ (fun ps δ1 => uStoL ps δ1 fun ds δ2 => ds.length = fs.length ∧ Q (.fz (.err c (fs.zip ds).reverse)) δ2) X) : uMkX c fs us δ Q X := h
theorem h_erf {c f : Str} {ue : UE} (h : ue δ (fun p δ1 => ∃ fds d, ctP δ1 p = some (.err c fds) ∧ fds.lookup f = some d ∧ Q (.fz d) δ1) X) : uErF c f ue δ Q X := h
end
end WK
/-! f(g(..)): a new thing is lent to a def that changes it. -/
namespace WK
open PySem L2 PySem.Spec PyProof.Rows
open LamX (Tabs TabS CodeO)
section
variable {C : Ctx} {W : WX} {σ : L2.St} {δ δ' : List Sl} {H G H' G' Hs : Hp} {v w : V} {p q : Pv} {d : D} {K : PySem.W.Frag} {a : Addr}
end
end WK
/-! a, b, c = x, y, z. -/
namespace WK
open PySem L2 PySem.Spec PyProof.Rows
section
variable {C : Ctx} {W : WX}
end
end WK
/-! sorted(xs, key=lambda x: ..): a stable sort by keys, in plain Lean. -/
namespace WK
open PySem L2 PySem.Spec PyProof.Rows
/-! ### the sort -/
section
variable {κ α β : Type} (le : κ → κ → Bool)
end
section
variable {κ α β : Type} {le : κ → κ → Bool}
/-- the sort looks at the keys alone -/
inductive F2 (R : α → β → Prop) : List α → List β → Prop
  | nil : F2 R [] []
  | cons {a : α} {b : β} {l : List α} {m : List β} : R a b → F2 R l m → F2 R (a :: l) (b :: m)
theorem F2.length {R : α → β → Prop} : ∀ {l m}, F2 R l m → l.length = m.length
  | _, _, .nil => rfl
  | _, _, .cons _ t => by simp [F2.length t]
end
end WK
/-! sorted(xs, key=f): the model's rule. -/
namespace WK
open PySem L2 PySem.Spec PyProof.Rows
section
variable {X : Cx} {pins : List (Addr × Obj)} {σ : L2.St} {H : Hp} {s : Shared} {h' : Heap}
end
/-- code objects stay -/
def KpC (H H' : Hp) : Prop := ∀ (c : Addr) (q : Str), H c = some (LamX.CodeO c q) → H' c = some (LamX.CodeO c q)
section
variable {X : Cx} {pins : List (Addr × Obj)} {σ : L2.St} {H : Hp} {s : Shared} {A : Around} {f a : Addr} {fo : Obj} {xs : List V} {its : List Value} {kb : V → Hp → VK → Prop} {c' : Addr} {qc : Str} {Q : VK} {R : PySem.Fin → Shared → Prop} {E : Value → Shared → Prop}
end
end WK
/-! sorted(xs, key=lambda x: ..): the lambda's frame, the reading, by data. -/
namespace WK
open PySem L2 PySem.Spec PyProof.Rows
open LamX (CodeO TabS Tabs ExtN TabB lamEnv lamCx lam_make2)
/-- one parameter, no name of its own beside it: captured ones and globals -/
structure LamS1 (sc scope : Scope) (p : Str) : Prop where
  kind : scope.kind = .function
  co : scope.isCoroutine = false
  gen : scope.isGenerator = false
  par : scope.names.lookup p = some .local
  own : ∀ y ∈ scope.names, (y.2 = .local → y.1 = p) ∧ y.2 ≠ .cell
  free : ∀ y ∈ scope.names, y.2 = .free → sc.names.lookup y.1 = some .cell ∨ sc.names.lookup y.1 = some .free
theorem LamS1.has {X : Cx} {scope : Scope} {p : Str} (L : LamS1 X.env.scope scope p) (ok : X.Ok) : ∀ y ∈ scope.names, y.2 = .free → ∃ c, X.env.cells.lookup y.1 = some c := fun y hy e => by
  rcases L.free y hy e with k | k
  · exact ok.has _ (.inl k)
  · exact ok.has _ (.inr k)
section
variable {X : Cx} {pins : List (Addr × Obj)} {σ : L2.St} {H : Hp} {s : Shared}
end
end WK
/-! sorted(xs, key=lambda x: ..) by data. -/
namespace WK
open PySem L2 PySem.Spec PyProof.Rows
open LamX (CodeO TabS Tabs ExtN)
theorem push_cases {α : Type} {l : List α} {a x : α} {i : Nat} (h : (l ++ [a])[i]? = some x) : (i < l.length ∧ l[i]? = some x) ∨ (i = l.length ∧ x = a) := by
  rcases Nat.lt_or_ge i l.length with hi | hi
  · rw [List.getElem?_append_left hi] at h
    exact .inl ⟨hi, h⟩
  · have hi2 : i = l.length := by
      have := (List.getElem?_eq_some_iff.mp h).1
      simp at this
      omega
    subst hi2
    rw [List.getElem?_append_right (Nat.le_refl _), Nat.sub_self] at h
    exact .inr ⟨rfl, (Option.some.inj h).symm⟩
section
variable {C : Ctx} {W : WX} {σ : L2.St} {δ : List Sl} {H H1 G G1 : Hp} {v : V} {d : D} {a : Addr}
theorem push_slot (hl : σ.length = δ.length) {i : Nat} {s : Sl} {w : Option V} (h : (δ ++ [.fz d])[i]? = some s) (ho : s.isO = true) (hw : (σ ++ [some v])[i]? = some w) : δ[i]? = some s ∧ σ[i]? = some w := by
  rcases push_cases h with ⟨hi, h⟩ | ⟨_, rfl⟩
  · rw [List.getElem?_append_left (by omega)] at hw
    exact ⟨h, hw⟩
  · cases ho
theorem SR.push (S : SR C σ δ H G) (r : Rp C.K G v d) : SR C (σ ++ [some v]) (δ ++ [.fz d]) H G := by
  refine ⟨S.sub, S.nt, S.gq, S.fr, S.pl, S.tab, by simp [S.len], fun i s h => ?_, fun i j a s t h1 h2 o1 o2 e1 e2 => ?_⟩
  · rcases push_cases h with ⟨hi, h⟩ | ⟨rfl, rfl⟩
    · rw [List.getElem?_append_left (by rw [S.len]; exact hi)]
      exact S.sl i s h
    · refine ⟨v, ?_, r⟩
      rw [List.getElem?_append_right (by rw [S.len]; exact Nat.le_refl _), S.len, Nat.sub_self]
      rfl
  · obtain ⟨a1, a2⟩ := push_slot S.len h1 o1 e1
    obtain ⟨b1, b2⟩ := push_slot S.len h2 o2 e2
    exact S.dj i j a s t a1 b1 o1 o2 a2 b2
/-- code objects stay, whatever happens -/
theorem Stp.kpc (S : SR C σ δ H G) {σ' : L2.St} {δ' : List Sl} (T : Stp σ δ H G σ' δ' H1 G1) : KpC H H1 := fun c q h => T.fr c _ h (fun ps => LamX.codeO_ne ps) fun z => by
  obtain ⟨u, hu, _, n⟩ := S.own_some z.ow
  rw [h] at hu
  cases hu
  exact n _ rfl
/-- where the things to be sorted lie -/
def srcP (δ : List Sl) (p : Pv) (ds : List D) : Prop := p = .fz (.tpn ds) ∨ p = .fz (.tup ds) ∨ ctP δ p = some (.lst ds)
end
end WK
/-! defs that make lambdas: their code objects and tables. -/
namespace WK
open PySem L2 PySem.Spec PyProof.Rows
abbrev lamN (q : Str) : Str := (q ++ ".<locals>.") ++ "<lambda>"
section
variable {P : Program} {w : World} {K : PySem.W.Frag} {mg : Str → Option Value} {base : Heap} {x qual : Str} {params : Arguments} {body : List Stmt} {scope : Scope} {dvs : List V} {kws : List (Str × V)} {f : Addr} {fd : FuncData}
theorem FunD_okC {CX : CXT} {N ps : List Str} {k : Nat} {sp : Sp} {cl : Addr} (F : FunD K x qual params body scope dvs kws f fd) (hc : fd.code = .ref cl) (S : FnScope N ps scope) (len : ∀ vs H Q E, sp vs H Q E → vs.length = ps.length)
    (hbody : ∀ (A : Around) (outer : List Env) (s : Shared) (H : Hp) (vs : List V) (Q : VK) (E : XK), Room k (A.deeper (envOfC qual scope s.heap.objs.size f (.ref cl))) → sp vs H Q E →
      ∃ t, PSs (cxOf CX P w K mg base N qual scope f (.ref cl) A outer s H E) body t ∧ t { nx := fun _ H' => Q .non H', rt := Q } (start N vs) H) : FnOk P w K mg base CX (k + 1) f fd ps sp := by
  obtain ⟨oc, od, dV, kV, doc, pm, an, cdv, ct, osl, rfl, lk, hcd, _, _⟩ := F.ex
  obtain rfl : cdv = .ref cl := hc
  exact fn_of lk hcd S len fun A outer s H vs Q E hr hsp => hbody A outer s H vs Q E hr hsp
theorem FunD_code {p : He.Defn} (F : FunD K x qual params body scope dvs kws (He.fAd K p) fd) : fd.code = .ref (He.cT K p).1 := by
  obtain ⟨oc, od, dV, kV, doc, pm, an, cdv, ct, osl, rfl, lk, hcd, _, _⟩ := F.ex
  obtain ⟨c, rfl⟩ := He.codeIn_ref hcd
  have ec : He.codeOf K p = c := He.codeOf_eq (p := p) lk rfl
  show Value.ref c = .ref (He.codeOf K p)
  rw [ec]
end
end WK
/-! classmethods called on the class with keywords; cls(..) in them. -/
namespace WK
open PySem L2 PySem.Spec PyProof.Rows
open ClX (CRead CMet)
/-- a classmethod, called with keywords -/
structure KCMal (P : Program) (w : World) (K : PySem.W.Frag) (mg : Str → Option Value) (base : Heap) (k : Nat) (c m : Str) (ps : List Str) (sp : Sp) (n : Nat) (ks : List Str) (arr : List Src) (ds : List V) : Prop where
  fn : ∃ (g p : Addr) (mc : Value) (fd : FuncData), FnOk P w K mg base (L2.CX P w) k g fd ps sp ∧ KB K fd ps 1 n ks arr ds ∧ CRead K (He.ga K c) mc ∧ CMet K (He.ga K c) mc m p g
  gl : mg c = some (.ref (He.ga K c))
section
variable {X : Cx} {k n : Nat} {x c m : Str} {ps ks : List Str} {sp : Sp} {W : WX} {p p1 pos apos : Pos} {es : List Expr} {kws : List Keyword} {t tk : TA} {arr : List Src} {ds : List V}
end
end WK
/-! {x: y} of two names. -/
namespace WK
open PySem L2 PySem.Spec PyProof.Rows
end WK
/-! range(i, j, -1). -/
namespace WK
open PySem L2 PySem.Spec PyProof.Rows
section
variable {C : Ctx} {W : WX} {σ : L2.St} {δ : List Sl} {H G : Hp}
end
end WK
/-! for x in o, o an own thing whose __iter__ hands back iter(o.fld), fld a tuple. -/
namespace WK
open PySem L2 PySem.Spec PyProof.Rows
end WK
/-! [x, *xs]: a starred part of a display or of a call. -/
namespace WK
open PySem L2 StX
theorem rpl_pas {K : PySem.W.Frag} {σ : L2.St} {G : Hp} : ∀ {vs : List V} {ds : List D} {ws : List V} {ps : List Pv}, RpL K G vs ds → PasR K σ G ws ps → PasR K σ G (vs ++ ws) (ds.map Pv.fz ++ ps)
  | _, _, _, _, .nil, h => h
  | _, _, _, _, .cons r t, h => .cons r (rpl_pas t h)
def uStar (ue : UE) (us : UA) : UA := fun δ Q X => ue δ (fun p δ1 => ∃ ds, srcP δ1 p ds ∧ us δ1 (fun ps δ2 => Q (ds.map Pv.fz ++ ps) δ2) X) X
theorem tr_star {C : Ctx} {W : WX} {te : TE} {ts : TA} {ue : UE} {us : UA} (h1 : TrE C W te ue) (h2 : TrA C W ts us) : TrA C W (tStar C.K te ts) (uStar ue us) := fun σ δ H G Q Q' X' S h k kx => by
  refine h1 σ δ H G _ _ X' S h (fun v p δ1 H1 G1 S1 T1 r q => ?_) kx
  obtain ⟨ds, hs, q⟩ := q
  obtain ⟨a, xs, rfl, hx, rs⟩ : ∃ a xs, v = .ref a ∧ (SqT C.K H1 a xs ∨ SqL C.K H1 a xs) ∧ RpL C.K G1 xs ds := by
    rcases hs with rfl | rfl | hs
    · have r' : Rp C.K G1 v (.tpn ds) := r
      cases r' with
      | tpn h n t => exact ⟨_, _, rfl, .inl (.inl (.inr ⟨_, S1.sub _ _ h⟩)), t⟩
    · have r' : Rp C.K G1 v (.tup ds) := r
      cases r' with
      | tup h t => exact ⟨_, _, rfl, .inl (st_ex h S1.sub), t⟩
    · obtain ⟨a, vs, rfl, h1, t⟩ := vw S1 r hs
      exact ⟨_, _, rfl, .inr (SqL.of h1), t⟩
  exact ⟨a, xs, rfl, hx, h2 σ δ1 H1 G1 _ _ X' S1 q (fun ws ps δ3 H3 G3 S3 T3 rs3 q3 => k _ _ δ3 H3 G3 S3 (T1.trans T3) (rpl_pas (rs.mono T3.gs) rs3) q3) (kx.step T1)⟩
end WK
/-! xs[::-1] of a list. -/
namespace WK
open PySem L2
theorem RpL.reverse {K : PySem.W.Frag} {G : Hp} : ∀ {vs : List V} {ds : List D}, RpL K G vs ds → RpL K G vs.reverse ds.reverse
  | _, _, .nil => .nil
  | _, _, .cons r t => by rw [List.reverse_cons, List.reverse_cons]; exact (RpL.reverse t).snoc r
def uRevL (ue : UE) : UE := fun δ Q X => ue δ (fun p δ1 => ∃ ds, ctP δ1 p = some (.lst ds) ∧ Q (.tm (.lst ds.reverse)) δ1) X
theorem h_revL {δ : List Sl} {Q : UK} {X : UX} {ue : UE} (h : ue δ (fun p δ1 => ∃ ds, ctP δ1 p = some (.lst ds) ∧ Q (.tm (.lst ds.reverse)) δ1) X) : uRevL ue δ Q X := h
end WK
/-! P75: what sleeps stays asleep: a run that is good whatever the sleeping generators would do leaves them as they are. -/
namespace WK
open PySem PyProof.Rows L2
open Sem (wp)
/-- a generator that sleeps for ever -/
def stG : GenState → GenState
  | .suspended _ l c p fs cl => .suspended (fun _ => .unsupported "asleep") l c p fs cl
  | x => x
def isS : GenState → Prop
  | .suspended .. => True
  | _ => False
theorem stG_bare (x : GenState) : (stG x).bare = x.bare := by cases x <;> rfl
structure RG (a b : Array GenState) : Prop where
  size : a.size = b.size
  at' : ∀ i : Nat, a[i]? = b[i]? ∨ ∃ S, isS S ∧ b[i]? = some S ∧ a[i]? = some (stG S)
def PhG (a : Array GenState) : Prop := ∀ (i : Nat) k l c p fs cl, a[i]? = some (.suspended k l c p fs cl) → k = (fun _ => .unsupported "asleep") ∨ splitAtGen fs = none
def KpG (a b a' b' : Array GenState) : Prop := ∀ (i : Nat) S, isS S → b[i]? = some S → a[i]? = some (stG S) → b'[i]? = some S ∧ a'[i]? = some (stG S)
theorem KpG.refl (a b : Array GenState) : KpG a b a b := fun i S _ h1 h2 => ⟨h1, h2⟩
theorem KpG.trans {a b a1 b1 a2 b2 : Array GenState} (x : KpG a b a1 b1) (y : KpG a1 b1 a2 b2) : KpG a b a2 b2 := fun i S hS h1 h2 => let ⟨q1, q2⟩ := x i S hS h1 h2; y i S hS q1 q2
theorem setG_at (a : Array GenState) (g i : Nat) (x : GenState) : (a.setIfInBounds g x)[i]? = if g = i then (if g < a.size then some x else none) else a[i]? := by
  rw [Array.getElem?_setIfInBounds]
theorem RG.set {a b : Array GenState} (h : RG a b) (g : Nat) (x : GenState) : RG (a.setIfInBounds g x) (b.setIfInBounds g x) := by
  refine ⟨by simp [h.size], fun i => ?_⟩
  rw [setG_at, setG_at, h.size]
  by_cases e : g = i
  · rw [if_pos e, if_pos e]; exact .inl rfl
  · rw [if_neg e, if_neg e]; exact h.at' i
theorem PhG.set {a : Array GenState} (h : PhG a) {g : Nat} {x : GenState} (hx : ∀ k l c p fs cl, x = .suspended k l c p fs cl → splitAtGen fs = none) : PhG (a.setIfInBounds g x) := fun i k l c p fs cl e => by
  rw [setG_at] at e
  split at e
  · split at e
    · cases e; exact .inr (hx _ _ _ _ _ _ rfl)
    · cases e
  · exact h i k l c p fs cl e
/-- a place that does not sleep may be set -/
theorem KpG.set {a b a1 b1 : Array GenState} (h : KpG a b a1 b1) {g : Nat} (x : GenState) (hg : ∀ S, isS S → b[g]? = some S → a[g]? = some (stG S) → False) : KpG a b (a1.setIfInBounds g x) (b1.setIfInBounds g x) := fun i S hS h1 h2 => by
  have e : g ≠ i := fun e => by subst e; exact hg S hS h1 h2
  rw [setG_at, setG_at, if_neg e, if_neg e]
  exact h i S hS h1 h2
theorem RG.push {a b : Array GenState} (h : RG a b) (x : GenState) : RG (a.push x) (b.push x) := by
  refine ⟨by simp [h.size], fun i => ?_⟩
  rw [Array.getElem?_push, Array.getElem?_push, h.size]
  split
  · exact .inl rfl
  · exact h.at' i
theorem PhG.push {a : Array GenState} (h : PhG a) (c : Code) : PhG (a.push (.fresh c)) := fun i k l c' p fs cl e => by
  rw [Array.getElem?_push] at e
  split at e
  · cases e
  · exact h i k l c' p fs cl e
theorem KpG.push {a b : Array GenState} (h : RG a b) (x : GenState) : KpG a b (a.push x) (b.push x) := fun i S _ h1 h2 => by
  have l1 : i < b.size := (Array.getElem?_eq_some_iff.mp h1).1
  rw [Array.getElem?_push, Array.getElem?_push, h.size, if_neg (by omega), if_neg (by omega)]
  exact ⟨h1, h2⟩
theorem RG.bare {a b : Array GenState} (R : RG a b) (h : AllBare a) : AllBare b := fun x hx => by
  obtain ⟨i, hi, e⟩ := Array.mem_iff_getElem.mp hx
  have eb : b[i]? = some x := by rw [Array.getElem?_eq_getElem hi, e]
  rcases R.at' i with e0 | ⟨S, hS, e1, e2⟩
  · rw [eb] at e0
    exact h x (Array.mem_of_getElem? e0)
  · rw [eb] at e1; cases e1
    rw [← stG_bare]; exact h _ (Array.mem_of_getElem? e2)
end WK
/-! P82: segments of a generator with any end. -/
namespace L2
open PySem PySem.Spec PyProof.Rows GenW
open Sem (wp)
/-- a segment with any end -/
def SG (M : Model) (A : Around) (Φ : End → Shared → Prop) (c : Code) (t : Sem PySem.Fin) (fs : List Frame) (s : Shared) : Prop :=
  ∀ (Γ : PySem.Ctx) (p : Pos), Γ.code = c → Γ.Woken A → ∃ e s', Runs M Γ p t fs s e s' ∧ Φ e s'
section
variable {M : Model} {A : Around} {Φ : End → Shared → Prop} {c : Code} {fs : List Frame} {s : Shared} {env : Env}
end
section
variable {prog : Program} {w : World} {A : Around} {Φ : End → Shared → Prop} {fs : List Frame} {s : Shared} {env : Env}
end
/-- a generator that goes, with any end -/
def GoS (M : Model) (A : Around) (Φ : End → Shared → Prop) (gs : GenState) (r : Resume) (s : Shared) : Prop :=
  match gs with
  | .fresh c => r = .send .none ∧ SG M A Φ c (M.den c) [] s
  | .suspended k _ c _ fs _ => SG M A Φ c (k r) fs s
  | _ => False
section
variable {M : Model} {A : Around} {Φ : End → Shared → Prop} {s : Shared}
end
section
variable {P : Program} {w : World} {A : Around} {E : Value → Shared → Prop} {s : Shared} {Φ : End → Shared → Prop}
end
end L2
/-! P71: a generator def's body: `if` and `for` whose suites hand out. -/
namespace L2
open PySem PySem.Spec PyProof.Rows GenW
section
variable {X : Cx} {tg ie te : Expr} {b1 b2 : List Stmt} {ps : Pos}
end
end L2
/-! Things of one's own that hold things of one's own. -/
namespace WK
open PySem L2 PySem.Spec PyProof.Rows
open LamX (Tabs TabS CodeO)
abbrev Nu := List (Addr × D)
/-- the inner things: new, not told, nobody's slot -/
structure NuR (C : Ctx) (σ : L2.St) (δ : List Sl) (H G : Hp) (ν : Nu) : Prop where
  nd : (ν.map (·.1)).Nodup
  at' : ∀ b d, (b, d) ∈ ν → Fr0 C b ∧ G b = none ∧ ¬ Ow σ δ b ∧ OwnR C.K H G b d
structure StpN (σ : L2.St) (δ : List Sl) (ν : Nu) (H G : Hp) (σ' : L2.St) (δ' : List Sl) (ν' : Nu) (H' G' : Hp) : Prop where
  gs : Ex G G'
  fr : ∀ b o, H b = some o → NT o → ¬ Mu σ δ b → b ∉ ν.map (·.1) → H' b = some o
  gk : ∀ b o, H b = some o → NT o → NTu o → ¬ Mu σ δ b → b ∉ ν.map (·.1) → G' b = G b
  mu : ∀ b o, H b = some o → NT o → (Mu σ' δ' b ∨ b ∈ ν'.map (·.1)) → (Mu σ δ b ∨ b ∈ ν.map (·.1))
  ow : ∀ b o, H b = some o → NT o → (Ow σ' δ' b ∨ b ∈ ν'.map (·.1)) → (Ow σ δ b ∨ b ∈ ν.map (·.1))
  kp : ∀ (i : Nat) (s : Sl), δ[i]? = some s → s.isK = true → σ'[i]? = σ[i]? ∧ ∃ s', δ'[i]? = some s' ∧ KeepS s s'
  dm : ∀ b o, H b = some o → NT o → ∃ u, H' b = some u ∧ NT u
section
variable {C : Ctx} {W : WX} {σ σ' σ'' : L2.St} {δ δ' δ'' : List Sl} {ν ν' ν'' : Nu} {H H' H'' G G' G'' Hs : Hp} {v w : V} {p q : Pv} {d d2 : D} {vs : List V} {ds : List D} {ps : List Pv} {i j : Nat} {K : PySem.W.Frag} {t s : TS} {u r : US} {te : TE} {ue : UE} {a b : Addr}
theorem NuR.mem (nu : NuR C σ δ H G ν) (h : b ∈ ν.map (·.1)) : ∃ d, (b, d) ∈ ν := by
  obtain ⟨⟨b', d⟩, h1, rfl⟩ := List.mem_map.mp h
  exact ⟨d, h1⟩
theorem NuR.some (nu : NuR C σ δ H G ν) (h : b ∈ ν.map (·.1)) : ∃ o, H b = Option.some o ∧ NT o ∧ ∀ φ, o ≠ .ext φ := by
  obtain ⟨d, h⟩ := nu.mem h
  exact (nu.at' b d h).2.2.2.some
theorem NuR.nil : NuR C σ δ H G [] := ⟨List.nodup_nil, fun _ _ h => by cases h⟩
theorem NuR.stp (nu : NuR C σ δ H G ν) (T : Stp σ δ H G σ' δ' H' G') : NuR C σ' δ' H' G' ν := ⟨nu.nd, fun b d h => by
  obtain ⟨f, g, o, r⟩ := nu.at' b d h
  obtain ⟨u, hu, n, _⟩ := r.some
  have hm : ¬ Mu σ δ b := fun z => o z.ow
  exact ⟨f, (T.gk b u hu n (r.ntu hu) hm).trans g, fun z => o (T.ow b u hu n z), r.keep T.gs fun w hw => by rw [hu] at hw; cases hw; exact T.fr b u hu n hm⟩⟩
theorem StpN.of (T : Stp σ δ H G σ' δ' H' G') : StpN σ δ ν H G σ' δ' ν H' G' :=
  ⟨T.gs, fun b o h n m _ => T.fr b o h n m, fun b o h n q m _ => T.gk b o h n q m, fun b o h n z => z.imp (T.mu b o h n) id, fun b o h n z => z.imp (T.ow b o h n) id, T.kp, T.dm⟩
theorem StpN.stp (T : StpN σ δ [] H G σ' δ' ν' H' G') : Stp σ δ H G σ' δ' H' G' :=
  ⟨T.gs, fun b o h n m => T.fr b o h n m (by simp), fun b o h n q m => T.gk b o h n q m (by simp), fun b o h n z => (T.mu b o h n (.inl z)).elim id fun z => by simp at z, fun b o h n z => (T.ow b o h n (.inl z)).elim id fun z => by simp at z, T.kp, T.dm⟩
theorem StpN.refl : StpN σ δ ν H G σ δ ν H G := .of .refl
theorem StpN.trans (s : StpN σ δ ν H G σ' δ' ν' H' G') (t : StpN σ' δ' ν' H' G' σ'' δ'' ν'' H'' G'') : StpN σ δ ν H G σ'' δ'' ν'' H'' G'' := by
  refine ⟨s.gs.trans t.gs, fun b o h n m m2 => ?_, fun b o h n q m m2 => ?_, fun b o h n z => ?_, fun b o h n z => ?_, fun i u h k => ?_, fun b o h n => ?_⟩
  · have z : ¬ (Mu σ' δ' b ∨ b ∈ ν'.map (·.1)) := fun z => (s.mu b o h n z).elim m m2
    exact t.fr b o (s.fr b o h n m m2) n (fun w => z (.inl w)) fun w => z (.inr w)
  · have z : ¬ (Mu σ' δ' b ∨ b ∈ ν'.map (·.1)) := fun z => (s.mu b o h n z).elim m m2
    exact (t.gk b o (s.fr b o h n m m2) n q (fun w => z (.inl w)) fun w => z (.inr w)).trans (s.gk b o h n q m m2)
  · by_cases m : Mu σ δ b ∨ b ∈ ν.map (·.1)
    · exact m
    · exact s.mu b o h n (t.mu b o (s.fr b o h n (fun w => m (.inl w)) fun w => m (.inr w)) n z)
  · by_cases m : Ow σ δ b ∨ b ∈ ν.map (·.1)
    · exact m
    · exact s.ow b o h n (t.ow b o (s.fr b o h n (fun w => m (.inl w.ow)) fun w => m (.inr w)) n z)
  · obtain ⟨e1, u1, h1, k1⟩ := s.kp i u h k
    obtain ⟨e2, u2, h2, k2⟩ := t.kp i u1 h1 (k1.isK k)
    exact ⟨e2.trans e1, u2, h2, k1.trans k2⟩
  · obtain ⟨u, hu, n'⟩ := s.dm b o h n
    exact t.dm b u hu n'
theorem StpN.nn (s : StpN σ δ ν H G σ' δ' ν' H' G') {a : Addr} (h : Nn H' a) : Nn H a := fun o ho n => by
  obtain ⟨u, hu, n'⟩ := s.dm a o ho n
  exact h u hu n'
end
structure UEndsN where
  nx : Nu → List Sl → Prop
  rt : Nu → Pv → List Sl → Prop
  bk : Nu → List Sl → Prop := fun _ _ => False
  ct : Nu → List Sl → Prop := fun _ _ => False
  ex : UX
abbrev UN := UEndsN → Nu → List Sl → Prop
structure EndsRN (C : Ctx) (W : WX) (σ : L2.St) (δ : List Sl) (ν : Nu) (H G : Hp) (E : Ends) (E' : UEndsN) : Prop where
  nx : ∀ σ' δ' ν' H' G', SR C σ' δ' H' G' → NuR C σ' δ' H' G' ν' → StpN σ δ ν H G σ' δ' ν' H' G' → E'.nx ν' δ' → E.nx σ' H'
  rt : ∀ v p σ' δ' ν' H' G', SR C σ' δ' H' G' → NuR C σ' δ' H' G' ν' → StpN σ δ ν H G σ' δ' ν' H' G' → PvR C σ' δ' H H' G' v p → E'.rt ν' p δ' → E.rt v H'
  bk : ∀ σ' δ' ν' H' G', SR C σ' δ' H' G' → NuR C σ' δ' H' G' ν' → StpN σ δ ν H G σ' δ' ν' H' G' → E'.bk ν' δ' → E.bk σ' H'
  ct : ∀ σ' δ' ν' H' G', SR C σ' δ' H' G' → NuR C σ' δ' H' G' ν' → StpN σ δ ν H G σ' δ' ν' H' G' → E'.ct ν' δ' → E.ct σ' H'
  ex : ∀ x cls d σ' δ' ν' H' G', SR C σ' δ' H' G' → StpN σ δ ν H G σ' δ' ν' H' G' → XR C.K H' G' x cls d → E'.ex x δ' → W cls d σ' H'
section
variable {C : Ctx} {W : WX} {σ σ' σ'' : L2.St} {δ δ' δ'' : List Sl} {ν ν' ν'' : Nu} {H H' H'' G G' G'' Hs : Hp} {v w : V} {p q : Pv} {d d2 : D} {vs : List V} {ds : List D} {ps : List Pv} {i j : Nat} {K : PySem.W.Frag} {t s : TS} {u r : US} {un rn : UN} {te : TE} {ue : UE} {a b : Addr} {E : Ends} {E' : UEndsN}
theorem EndsRN.step (e : EndsRN C W σ δ ν H G E E') (T : StpN σ δ ν H G σ' δ' ν' H' G') : EndsRN C W σ' δ' ν' H' G' E E' :=
  ⟨fun σ2 δ2 n2 H2 G2 S2 N2 T2 q => e.nx σ2 δ2 n2 H2 G2 S2 N2 (T.trans T2) q, fun v p σ2 δ2 n2 H2 G2 S2 N2 T2 r q => e.rt v p σ2 δ2 n2 H2 G2 S2 N2 (T.trans T2) (r.start fun a => T.nn) q, fun σ2 δ2 n2 H2 G2 S2 N2 T2 q => e.bk σ2 δ2 n2 H2 G2 S2 N2 (T.trans T2) q,
   fun σ2 δ2 n2 H2 G2 S2 N2 T2 q => e.ct σ2 δ2 n2 H2 G2 S2 N2 (T.trans T2) q, fun x cls d σ2 δ2 n2 H2 G2 S2 T2 r q => e.ex x cls d σ2 δ2 n2 H2 G2 S2 (T.trans T2) r q⟩
def UEndsN.lo (E : UEndsN) (ν : Nu) : UEnds := { nx := E.nx ν, rt := E.rt ν, bk := E.bk ν, ct := E.ct ν, ex := E.ex }
theorem EndsRN.lo (e : EndsRN C W σ δ ν H G E E') (nu : NuR C σ δ H G ν) : EndsR C W σ δ H G E (E'.lo ν) :=
  ⟨fun σ' δ' H' G' S' T' q => e.nx σ' δ' ν H' G' S' (nu.stp T') (.of T') q, fun v p σ' δ' H' G' S' T' r q => e.rt v p σ' δ' ν H' G' S' (nu.stp T') (.of T') r q, fun σ' δ' H' G' S' T' q => e.bk σ' δ' ν H' G' S' (nu.stp T') (.of T') q,
   fun σ' δ' H' G' S' T' q => e.ct σ' δ' ν H' G' S' (nu.stp T') (.of T') q, fun x cls d σ' δ' H' G' S' T' r q => e.ex x cls d σ' δ' ν H' G' S' (.of T') r q⟩
/-- a statement that leaves the inner things -/
def uL (u : US) : UN := fun E ν δ => u (E.lo ν) δ
/-- from here on there may be inner things -/
def uNest (u : UN) : US := fun E δ => u { nx := fun _ => E.nx, rt := fun _ => E.rt, bk := fun _ => E.bk, ct := fun _ => E.ct, ex := E.ex } [] δ
def uSeqN (t u : UN) : UN := fun E ν δ => t { E with nx := u E } ν δ
def uIfN (c : UT) (t u : UN) : UN := fun E ν δ => c δ (fun b δ1 => if b = true then t E ν δ1 else u E ν δ1) E.ex
/-! ### inner things are told: for good, or for the reading of one value -/
def Sub1 (ν : Nu) (d d2 : D) : Prop := d = d2 ∨ ∃ b, d = .adr b ∧ (b, d2) ∈ ν
def SubL (ν : Nu) : List D → List D → Prop
  | [], [] => True
  | d :: ds, e :: es => Sub1 ν d e ∧ SubL ν ds es
  | _, _ => False
def SubD (ν : Nu) : D → D → Prop
  | .lst ds, .lst es => SubL ν ds es
  | .tup ds, .tup es => SubL ν ds es
  | .dct k, .dct l => k.map (·.1) = l.map (·.1) ∧ SubL ν (k.map (·.2)) (l.map (·.2))
  | _, _ => False
theorem SubL.rp (hν : ∀ b e, (b, e) ∈ ν → Rp K G (.ref b) e) : ∀ {ds es : List D} {vs : List V}, SubL ν ds es → RpL K G vs ds → RpL K G vs es
  | [], [], _, _, r => r
  | [], _ :: _, _, h, _ => h.elim
  | _ :: _, [], _, h, _ => h.elim
  | d :: ds, e :: es, _, ⟨h1, h2⟩, .cons r1 r2 => by
    refine .cons ?_ (SubL.rp hν h2 r2)
    rcases h1 with rfl | ⟨b, rfl, h1⟩
    · exact r1
    · cases r1; exact hν _ _ h1
theorem SubD.rp (hν : ∀ b e, (b, e) ∈ ν → Rp K G (.ref b) e) {d e : D} (h : SubD ν d e) (r : Rp K G v d) : Rp K G v e := by
  cases d with
  | lst ds => cases e with
    | lst es => cases r with | lst g t => exact .lst g (SubL.rp hν h t)
    | _ => exact h.elim
  | tup ds => cases e with
    | tup es => cases r with | tup g t => exact .tup g (SubL.rp hν h t)
    | _ => exact h.elim
  | dct ds => cases e with
    | dct es => cases r with | dct g k t => exact .dct g (k.trans h.1) (SubL.rp hν h.2 t)
    | _ => exact h.elim
  | _ => exact h.elim
theorem SubD.own (hν : ∀ b e, (b, e) ∈ ν → Rp K G (.ref b) e) {d e : D} (h : SubD ν d e) (r : OwnR K H G a d) : OwnR K H G a e := by
  cases d with
  | lst ds => cases e with
    | lst es => obtain ⟨vs, g, t⟩ := r; exact ⟨vs, g, SubL.rp hν h t⟩
    | _ => exact h.elim
  | dct ds => cases e with
    | dct es => obtain ⟨vs, g, k, t⟩ := r; exact ⟨vs, g, k.trans h.1, SubL.rp hν h.2 t⟩
    | _ => exact h.elim
  | _ => first | exact h.elim | exact r.elim
def Sl.as : Sl → D → Sl | .un, _ => .un | .fz _, d => .fz d | .ow _, d => .ow d | .io _, d => .io d | .lk b _, d => .lk b d
open Classical in
/-- the told heap with the inner things -/
noncomputable def addN (H G : Hp) (ν : Nu) : Hp := fun b => if b ∈ ν.map (·.1) then H b else G b
theorem addN_in (h : b ∈ ν.map (·.1)) : addN H G ν b = H b := by unfold addN; rw [if_pos h]
theorem addN_out (h : b ∉ ν.map (·.1)) : addN H G ν b = G b := by unfold addN; rw [if_neg h]
theorem NuR.ex (nu : NuR C σ δ H G ν) : Ex G (addN H G ν) := fun b o h => by
  by_cases m : b ∈ ν.map (·.1)
  · obtain ⟨d, hd⟩ := nu.mem m
    rw [(nu.at' b d hd).2.1] at h; cases h
  · rw [addN_out m]; exact h
theorem NuR.rp (nu : NuR C σ δ H G ν) : ∀ b e, (b, e) ∈ ν → Rp C.K (addN H G ν) (.ref b) e := fun b e h => by
  have m : b ∈ ν.map (·.1) := List.mem_map.mpr ⟨_, h, rfl⟩
  obtain ⟨_, _, _, r⟩ := nu.at' b e h
  cases e with
  | lst ds => obtain ⟨vs, h1, t⟩ := r; exact .lst (by rw [addN_in m]; exact h1) (t.mono nu.ex)
  | dct ds => obtain ⟨vs, h1, k, t⟩ := r; exact .dct (.inl (by rw [addN_in m]; exact h1)) k (t.mono nu.ex)
  | obj c ds => obtain ⟨dx, vs, h1, k, t⟩ := r; exact .obj (by rw [addN_in m]; exact h1) k (t.mono nu.ex)
  | dcT ds => obtain ⟨vs, h1, k, t⟩ := r; exact .dcT (.inl (by rw [addN_in m]; exact h1)) k (t.mono nu.ex)
  | _ => exact r.elim
theorem SR.addN (S : SR C σ δ H G) (nu : NuR C σ δ H G ν) : SR C σ δ H (addN H G ν) := by
  refine ⟨fun b o h => ?_, fun b o h => ?_, fun b o h n q => ?_, S.fr, S.pl, S.tab, S.len, fun i t ht => (S.sl i t ht).keep nu.ex fun b hb hx => ⟨fun _ w => w, fun g => ?_⟩, S.dj⟩
  · by_cases m : b ∈ ν.map (·.1)
    · rw [addN_in m] at h; exact h
    · rw [addN_out m] at h; exact S.sub _ _ h
  · by_cases m : b ∈ ν.map (·.1)
    · rw [addN_in m] at h
      obtain ⟨u, hu, n, _⟩ := nu.some m
      rw [hu] at h; cases h; exact n
    · rw [addN_out m] at h; exact S.nt _ _ h
  · have m : b ∉ ν.map (·.1) := fun m => by
      obtain ⟨d, hd⟩ := nu.mem m
      exact (nu.at' b d hd).1 o h n
    rw [addN_out m]; exact S.gq b o h n q
  · have m : b ∉ ν.map (·.1) := fun m => by
      obtain ⟨d, hd⟩ := nu.mem m
      exact (nu.at' b d hd).2.2.1 ⟨i, t, ht, hb, hx⟩
    rw [addN_out m]; exact g
open Classical in
def setN (ν : Nu) (b : Addr) (d : D) : Nu := ν.map fun x => if x.1 = b then (x.1, d) else x
/-- X[e].append(x) -/
def uAppN (uo : UE) (us : UA) : UN := fun E ν δ => uo δ (fun p δ1 => ∃ b ds, p = .fz (.adr b) ∧ (b, .lst ds) ∈ ν ∧ ds.length < 10000000 ∧ us δ1 (fun qs δ2 => ∃ q, qs = [q] ∧ uSto q δ2 fun d δ3 => E.nx (setN ν b (.lst (ds ++ [d]))) δ3) E.ex) E.ex
/-! ### for: told things are walked -/
def ItN (C : Ctx) (G : Hp) (J : It) (ds : List D) : Prop := ∀ σ' δ' H' G', SR C σ' δ' H' G' → Ex G G' →
  (∀ (n : Nat) d, ds[n]? = some d → J.go n H' ∧ ∀ x H'', J.yld n H' x H'' → ∃ G'', SR C σ' δ' H'' G'' ∧ Stp σ' δ' H' G' σ' δ' H'' G'' ∧ Rp C.K G'' x d) ∧ J.stop ds.length H'
/-- a walk that leans on nothing but what is told -/
theorem ItN.of {J : It} (h : ∀ H, ItR C [] [] H G J ds) : ItN C G J ds := fun σ' δ' H' G' S' e => h H' σ' δ' H' G' S' ⟨e, fun b o hb _ _ => hb⟩
def uISeqN (u : UE) : UI := fun δ R X => u δ (fun p δ1 => ∃ d ds, (p = .fz d ∨ p = .tm d) ∧ itS d = some ds ∧ R ds none δ1) X
def UEndsN.loop (E : UEndsN) (N : Nu → List Sl → Prop) : UEndsN := { nx := N, ct := N, bk := E.nx, rt := E.rt, ex := E.ex }
def ForN (ds : List D) (g : UG) (b : UN) (E : UEndsN) (ν : Nu) (δ : List Sl) : Prop := ∃ Inv : Nat → Nu → List Sl → Prop, Inv 0 ν δ ∧ (∀ (n : Nat) d ν δ, ds[n]? = some d → Inv n ν δ → g (.fz d) δ fun δ2 => b (E.loop (Inv (n + 1))) ν δ2) ∧ ∀ ν δ, Inv ds.length ν δ → E.nx ν δ
def uForN (ui : UI) (g : UG) (b : UN) : UN := fun E ν δ => ui δ (fun ds o δ1 => ForN ds g b E ν δ1) E.ex
/-! ### append to a thing that nobody names -/
def uAppT (u : UE) (us : UA) : UE := fun δ Q X => u δ (fun p δ1 => (∃ ds, p = .tm (.lst ds) ∧ ds.length < 10000000) ∧ us δ1 (fun qs δ2 => (∃ q, qs = [q]) ∧ Q (.fz .non) δ2) X) X
end
end WK
/-! sorted(texts); steps for inner things. -/
namespace WK
open PySem L2 PySem.Spec PyProof.Rows
/-- a slot that holds nothing, or is told, or one's own -/
def soO : Option (Bool × D) → Sl | none => .un | some (false, d) => .fz d | some (true, d) => .ow d
theorem nk_soO (v : Option (Bool × D)) : nkO (some (soO v)) := by
  cases v with
  | none => trivial
  | some p => obtain ⟨b, d⟩ := p; cases b <;> trivial
section
variable {δ δ' : List Sl} {Q : UK} {X : UX} {E : UEnds} {En : UEndsN} {ν : Nu} {ue uo ua : UE} {t u : US} {tn un : UN} {us : UA} {c : UT} {ui : UI} {g : UG} {p : Pv} {d : D} {i : Nat}
theorem h_nest (h : un { nx := fun _ => E.nx, rt := fun _ => E.rt, bk := fun _ => E.bk, ct := fun _ => E.ct, ex := E.ex } [] δ) : uNest un E δ := h
theorem h_seqN (h : tn { nx := un En, rt := En.rt, bk := En.bk, ct := En.ct, ex := En.ex } ν δ) : uSeqN tn un En ν δ := h
theorem h_L (h : u { nx := En.nx ν, rt := En.rt ν, bk := En.bk ν, ct := En.ct ν, ex := En.ex } δ) : uL u En ν δ := h
theorem h_ifN (h : c δ (fun b δ1 => if b = true then tn En ν δ1 else un En ν δ1) En.ex) : uIfN c tn un En ν δ := h
theorem h_forN (h : ui δ (fun ds o δ1 => ForN ds g tn En ν δ1) En.ex) : uForN ui g tn En ν δ := h
theorem h_iseqM {R : List D → Option Nat → List Sl → Prop} (h : ue δ (fun p δ1 => ∃ d ds, (p = .fz d ∨ p = .tm d) ∧ itS d = some ds ∧ R ds none δ1) X) : uISeqN ue δ R X := h
theorem h_iseqMF {R : List D → Prop} {ds : List D} (e : itS d = some ds) (h : R ds) : ∃ d' ds, (Pv.fz d = .fz d' ∨ Pv.fz d = .tm d') ∧ itS d' = some ds ∧ R ds := ⟨d, ds, .inl rfl, e, h⟩
theorem h_iseqMT {R : List D → Prop} {ds : List D} (e : itS d = some ds) (h : R ds) : ∃ d' ds, (Pv.tm d = .fz d' ∨ Pv.tm d = .tm d') ∧ itS d' = some ds ∧ R ds := ⟨d, ds, .inr rfl, e, h⟩
theorem h_appN (h : uo δ (fun p δ1 => ∃ b ds, p = .fz (.adr b) ∧ (b, .lst ds) ∈ ν ∧ ds.length < 10000000 ∧ us δ1 (fun qs δ2 => ∃ q, qs = [q] ∧ uSto q δ2 fun d δ3 => En.nx (setN ν b (.lst (ds ++ [d]))) δ3) En.ex) En.ex) : uAppN uo us En ν δ := h
theorem h_appT (h : ue δ (fun p δ1 => (∃ ds, p = .tm (.lst ds) ∧ ds.length < 10000000) ∧ us δ1 (fun qs δ2 => (∃ q, qs = [q]) ∧ Q (.fz .non) δ2) X) X) : uAppT ue us δ Q X := h
theorem h_appTI {P : Prop} {ds : List D} (h1 : ds.length < 10000000) (h : P) : (∃ ds', Pv.tm (.lst ds) = .tm (.lst ds') ∧ ds'.length < 10000000) ∧ P := ⟨⟨ds, rfl, h1⟩, h⟩
theorem h_appTQ {P : Prop} (h : P) : (∃ q, [p] = [q]) ∧ P := ⟨⟨p, rfl⟩, h⟩
end
end WK
/-! enumerate(tuple). -/
namespace WK
open PySem L2 PySem.Spec PyProof.Rows
open Sem (wp)
/-! by data -/
def uIEnumT (us : UA) : UI := fun δ R X => us δ (fun ps δ1 => ∃ p ds, ps = [p] ∧ ctP δ1 p = some (.tup ds) ∧ R (enumD ds) none δ1) X
section
variable {C : Ctx} {W : WX} {σ : L2.St} {δ : List Sl} {H G : Hp} {us : List V} {ds : List D}
theorem h_ienumT {R : List D → Option Nat → List Sl → Prop} {X : UX} {us : UA} (h : us δ (fun ps δ1 => ∃ p ds, ps = [p] ∧ ctP δ1 p = some (.tup ds) ∧ R (enumD ds) none δ1) X) : uIEnumT us δ R X := h
theorem h_ienumTI {R : List D → Prop} {p : Pv} (e : ctP δ p = some (.tup ds)) (h : R ds) : ∃ p' ds, [p] = [p'] ∧ ctP δ p' = some (.tup ds) ∧ R ds := ⟨p, ds, rfl, e, h⟩
end
end WK
/-! Inner things that a call hands back; statements that are run while the inner things are told; a change by a second name. -/
namespace WK
open PySem L2 PySem.Spec PyProof.Rows
open LamX (Tabs TabS CodeO)
section
variable {C : Ctx} {W : WX} {σ σ' σ0 : L2.St} {δ δ' δ2 : List Sl} {ν ν' : Nu} {H H' G G' Hs : Hp} {v w : V} {p q : Pv} {d d2 : D} {vs : List V} {ds : List D} {ps : List Pv} {i j : Nat} {K : PySem.W.Frag} {t s : TS} {u r : US} {un rn : UN} {te ta tb to ti : TE} {ue ua ub uo ui : UE} {ts : TA} {us : UA} {a b : Addr} {E : Ends} {E' : UEndsN} {T : List (Addr × Str)} {ss ss' : List Sl}
/-! ### defs that hand back inner things -/
abbrev UPN := List Sl → (Nu → D → List Sl → Prop) → (Xn → List Sl → Prop) → Prop
structure NuX (K : PySem.W.Frag) (H H' G' : Hp) (ν : Nu) : Prop where
  nd : (ν.map (·.1)).Nodup
  at' : ∀ b d, (b, d) ∈ ν → Nn H b ∧ G' b = none ∧ OwnR K H' G' b d
def SpN (K : PySem.W.Frag) (T : List (Addr × Str)) (U : UPN) : Sp := fun vs H Q E => ∃ (G : Hp) (ss : List Sl) (Q1 : Nu → D → List Sl → Prop) (X1 : Xn → List Sl → Prop), ArgsR K T H G vs ss ∧ U ss Q1 X1 ∧
  (∀ ν d ss' v H' G', Q1 ν d ss' → Post K T vs ss H G H' G' ss' → NuX K H H' G' ν → Rp K G' v d → Q v H') ∧ (∀ x ss' cls e H' G', X1 x ss' → Post K T vs ss H G H' G' ss' → XR K H' G' x cls e → E cls e H')
def VwR (ν : Nu) (s s2 : Sl) : Prop := s2 = s.lock ∨ ∃ d d2, s = .fz d ∧ s2 = .fz d2 ∧ (Sub1 ν d d2 ∨ SubD ν d d2)
def VwL (ν : Nu) : List Sl → List Sl → Prop
  | [], [] => True
  | s :: δ, s2 :: δ2 => VwR ν s s2 ∧ VwL ν δ δ2
  | _, _ => False
theorem VwL.get : ∀ {δ δ2 : List Sl} {j : Nat} {s2 : Sl}, VwL ν δ δ2 → δ2[j]? = some s2 → ∃ s, δ[j]? = some s ∧ VwR ν s s2
  | [], [], j, s2, _, e => by simp at e
  | [], _ :: _, _, _, h, _ => h.elim
  | _ :: _, [], _, _, h, _ => h.elim
  | s :: δ, t :: δ2, 0, s2, ⟨h, _⟩, e => by simp at e; subst e; exact ⟨s, rfl, h⟩
  | s :: δ, t :: δ2, j + 1, s2, ⟨_, h⟩, e => by
    obtain ⟨s1, h1, h2⟩ := VwL.get h (by simpa using e : δ2[j]? = some s2)
    exact ⟨s1, by simpa using h1, h2⟩
theorem VwL.at : ∀ {δ δ2 : List Sl} {j : Nat} {s : Sl}, VwL ν δ δ2 → δ[j]? = some s → ∃ s2, δ2[j]? = some s2 ∧ VwR ν s s2
  | [], [], j, s2, _, e => by simp at e
  | [], _ :: _, _, _, h, _ => h.elim
  | _ :: _, [], _, _, h, _ => h.elim
  | s :: δ, t :: δ2, 0, s2, ⟨h, _⟩, e => by simp at e; subst e; exact ⟨t, rfl, h⟩
  | s :: δ, t :: δ2, j + 1, s2, ⟨_, h⟩, e => by
    obtain ⟨s1, h1, h2⟩ := VwL.at h (by simpa using e : δ[j]? = some s2)
    exact ⟨s1, by simpa using h1, h2⟩
theorem VwL.len : ∀ {δ δ2 : List Sl}, VwL ν δ δ2 → δ.length = δ2.length
  | [], [], _ => rfl
  | [], _ :: _, h => h.elim
  | _ :: _, [], h => h.elim
  | _ :: _, _ :: _, ⟨_, h⟩ => by simp [VwL.len h]
end
end WK
/-! A def that hands back inner things, called where these are told at once. -/
namespace WK
open PySem L2 PySem.Spec PyProof.Rows
open LamX (Tabs TabS CodeO)
def toldU (U : UPN) : UP := fun ss Q X => U ss (fun ν d ss' => ∃ d2, (Sub1 ν d d2 ∨ SubD ν d d2) ∧ Q (.fz d2) ss') X
section
variable {K : PySem.W.Frag} {T : List (Addr × Str)} {vs : List V} {ss ss' : List Sl} {H G H' G' : Hp} {ν : Nu} {U : UPN} {Q : VK} {E : XK} {b : Addr} {P : Program} {w : World} {mg : Str → Option Value} {base : Heap} {k : Nat} {x : Str} {ps : List Str}
theorem NuX.mem (nu : NuX K H H' G' ν) (h : b ∈ ν.map (·.1)) : ∃ d, (b, d) ∈ ν := by
  obtain ⟨⟨b', d⟩, h1, rfl⟩ := List.mem_map.mp h
  exact ⟨d, h1⟩
theorem NuX.some (nu : NuX K H H' G' ν) (h : b ∈ ν.map (·.1)) : ∃ o, H' b = Option.some o ∧ NT o := by
  obtain ⟨d, h⟩ := nu.mem h
  obtain ⟨o, h1, h2, _⟩ := (nu.at' b d h).2.2.some
  exact ⟨o, h1, h2⟩
theorem NuX.ex (nu : NuX K H H' G' ν) : Ex G' (addN H' G' ν) := fun b o h => by
  by_cases m : b ∈ ν.map (·.1)
  · obtain ⟨d, hd⟩ := nu.mem m
    rw [(nu.at' b d hd).2.1] at h; cases h
  · rw [addN_out m]; exact h
theorem NuX.rp (nu : NuX K H H' G' ν) : ∀ b e, (b, e) ∈ ν → Rp K (addN H' G' ν) (.ref b) e := fun b e h => by
  have m : b ∈ ν.map (·.1) := List.mem_map.mpr ⟨_, h, rfl⟩
  obtain ⟨_, _, r⟩ := nu.at' b e h
  cases e with
  | lst ds => obtain ⟨vs, h1, t⟩ := r; exact .lst (by rw [addN_in m]; exact h1) (t.mono nu.ex)
  | dct ds => obtain ⟨vs, h1, k, t⟩ := r; exact .dct (.inl (by rw [addN_in m]; exact h1)) k (t.mono nu.ex)
  | obj c ds => obtain ⟨dx, vs, h1, k, t⟩ := r; exact .obj (by rw [addN_in m]; exact h1) k (t.mono nu.ex)
  | dcT ds => obtain ⟨vs, h1, k, t⟩ := r; exact .dcT (.inl (by rw [addN_in m]; exact h1)) k (t.mono nu.ex)
  | _ => exact r.elim
theorem NuX.post (nu : NuX K H H' G' ν) (p : Post K T vs ss H G H' G' ss') : Post K T vs ss H G H' (addN H' G' ν) ss' := by
  refine ⟨p.gs.trans nu.ex, fun b o h => ?_, fun b o h => ?_, p.tab, p.fr, fun b o h n q => ?_, fun i d a h1 h2 => ?_⟩
  · by_cases m : b ∈ ν.map (·.1)
    · rw [addN_in m] at h; exact h
    · rw [addN_out m] at h; exact p.sub _ _ h
  · by_cases m : b ∈ ν.map (·.1)
    · rw [addN_in m] at h
      obtain ⟨o', h1, h2⟩ := nu.some m
      rw [h1] at h; cases h; exact h2
    · rw [addN_out m] at h; exact p.nt _ _ h
  · have m : b ∉ ν.map (·.1) := fun m => by
      obtain ⟨d, hd⟩ := nu.mem m
      exact (nu.at' b d hd).1 o h n
    rw [addN_out m]; exact p.gk b o h n q
  · obtain ⟨d', h3, h4⟩ := p.io i d a h1 h2
    exact ⟨d', h3, h4.keep nu.ex fun _ h => h⟩
theorem told_sp (h : SpU K T (toldU U) vs H Q E) : SpN K T U vs H Q E := by
  obtain ⟨G, ss, Q1, X1, A, hU, kq, kx⟩ := h
  refine ⟨G, ss, _, X1, A, hU, fun ν d ss' v H' G' q P N r => ?_, kx⟩
  obtain ⟨d2, sd, q⟩ := q
  refine kq (.fz d2) ss' v H' _ q (N.post P) ?_
  have r' := Rp.mono N.ex r
  rcases sd with sd | sd
  · rcases sd with rfl | ⟨b, rfl, hb⟩
    · exact r'
    · cases r; exact N.rp b _ hb
  · exact sd.rp N.rp r'
theorem Cal.told (c : Cal P w K mg base k x ps (SpN K T U)) : Cal P w K mg base k x ps (SpU K T (toldU U)) := by
  obtain ⟨⟨fd, F, b⟩, g, kp⟩ := c
  exact ⟨⟨fd, F.imp fun vs H Q E h => told_sp h, b⟩, g, kp⟩
end
end WK
/-! != of two pairs of a dict and an empty tuple. -/
namespace PySem.SeqAt
open AutoSeq1 (wpAny_loadPart')
open MeetsSeq MeetsSeq2 MeetsSeq3 SeqRoads2
section
variable {prog : Program} {w : World}
end
end PySem.SeqAt
namespace WK
open PySem L2 PySem.Spec PyProof.Rows
section
variable {C : Ctx} {σ : L2.St} {δ : List Sl} {H G Hs : Hp}
end
end WK
/-! Dicts whose keys are tuples, by data; list.extend, insert, reverse. -/
namespace WK
open PySem L2 PySem.Spec PyProof.Rows
def tupK (ks : List Key) : D := .tup (ks.map kD)
section
variable {C : Ctx} {W : WX} {σ : L2.St} {δ δ' : List Sl} {H H' G G' Hs : Hp} {v w : V} {p q : Pv} {d : D} {vs : List V} {ds : List D} {ps : List Pv} {i : Nat} {K : PySem.W.Frag} {X' : UX}
def oListT : OpA := fun δ ps Q => ∃ p kds, ps = [p] ∧ ctP δ p = some (.dcT kds) ∧ Q (.tm (.lst (kds.map fun kv => tupK kv.1))) δ
/-! ### keys -/
def uTupK (us : UA) : UE := fun δ Q X => us δ (fun ps δ1 => ∃ ks : List Key, ps = ks.map (fun k => Pv.fz (kD k)) ∧ ks.length ≤ 1000 ∧ Q (.fz (.tpk ks)) δ1) X
def oInT (f : Bool → Bool) : Op2 := fun δ p q Q => ∃ kds ks, p = .fz (.tpk ks) ∧ ctP δ q = some (.dcT kds) ∧ Q (.fz (.bl (f (valD kds ks).isSome))) δ
def uDNewT : UE := fun δ Q _ => Q (.tm (.dcT [])) δ
def uSetT (ue uo ui : UE) : US := fun E δ => ue δ (fun p δ1 => uo δ1 (fun o δ2 => ui δ2 (fun k δ3 => ∃ i ks, o = .at i ∧ k = .fz (.tpk ks) ∧ uSto p δ3 fun d δ4 => ∃ kds, Mt δ4 i (.dcT kds) ∧ kds.length < 10000000 ∧ E.nx (pt δ4 i (.dcT (putD kds ks d)))) E.ex) E.ex) E.ex
/-! ### extend, insert, reverse -/
def oExt : OpM := fun δ p ps Q => ∃ i ds es, p = .at i ∧ ps = [.fz (.lst es)] ∧ Mt δ i (.lst ds) ∧ ds.length + es.length ≤ 10000000 ∧ Q (.fz .non) (pt δ i (.lst (ds ++ es)))
end
end WK
/-! sorted(xs, key=lambda x: (i, j, ..)): keys that are tuples of whole numbers. -/
namespace WK
open PySem L2 PySem.Spec PyProof.Rows PySem.W
section
variable {κ : Type} {lt : κ → κ → Bool}
end
/-! ### key tuples -/
def TkI (h : Heap) (v : Value) (ns : List Int) : Prop := ∃ (a : Addr) (o : Obj) (its : Array Value) (n : Nat), v = .ref a ∧ h.get? a = some o ∧ o.cls = .type "tuple" ∧ o.data = .seq its n ∧ IntsAre its.toList ns ∧ ns ≠ []
theorem TkI.inj {h : Heap} {v : Value} {ns ms : List Int} (x : TkI h v ns) (y : TkI h v ms) : ns = ms := by
  obtain ⟨a, o, its, n, rfl, g, c, d, i, _⟩ := x
  obtain ⟨a', o', its', n', e, g', c', d', i', _⟩ := y
  cases e
  rw [g] at g'; cases g'
  rw [d] at d'; cases d'
  rw [← SrtO.iv_ints i, ← SrtO.iv_ints i']
open Classical in
section
variable {prog : Program} {w : World} {A : Around} {s : Shared} {b fin : Bool} {Q : Bool → Shared → Prop}
end
/-- the keys are tuples of whole numbers -/
def TupR (K : PySem.W.Frag) (H : Hp) (v : V) (ns : List Int) : Prop := ns ≠ [] ∧ ∃ a, v = .ref a ∧ SqT K H a (ns.map V.int)
end WK
/-! sorted(xs, key=lambda x: (i, j, ..)) by data. -/
namespace WK
open PySem L2 PySem.Spec PyProof.Rows
open LamX (CodeO TabS Tabs ExtN)
theorem TupR.mono {K : PySem.W.Frag} {G G' : Hp} {v : V} {ns : List Int} (e : Ex G G') (h : TupR K G v ns) : TupR K G' v ns := by
  obtain ⟨n, a, rfl, h⟩ := h
  exact ⟨n, a, rfl, st_ex h e⟩
section
variable {C : Ctx} {W : WX} {σ : L2.St} {δ : List Sl} {H H1 G G1 : Hp} {v : V} {d : D} {a : Addr}
end
end WK
/-! a, b, c = x, y, z, where b is a thing of one's own. -/
namespace WK
open PySem L2 PySem.Spec PyProof.Rows
section
variable {C : Ctx} {W : WX}
end
end WK
/-! a, b, c = x, y, z over captured names; f(g(..), e, ..): a new thing is lent. -/
namespace WK
open PySem L2 PySem.Spec PyProof.Rows
section
variable {C : Ctx} {W : WX}
end
section
variable {C : Ctx} {W : WX} {σ : L2.St} {δ δ' : List Sl} {H G H' G' Hs : Hp} {v w : V} {p q : Pv} {d : D} {K : PySem.W.Frag} {a : Addr}
end
end WK
/-! Steps for the readings of P61 .. P65. -/
namespace WK
open PySem L2
section
variable {δ δ' : List Sl} {Q : UK} {X : UX} {E : UEnds} {p q : Pv} {d : D} {ds es : List D} {i : Nat}
def tupKI (Q : UK) (ps : List Pv) (δ1 : List Sl) : Prop := ∃ ks : List Key, ps = ks.map (fun k => Pv.fz (kD k)) ∧ ks.length ≤ 1000 ∧ Q (.fz (.tpk ks)) δ1
theorem h_tpk {us : UA} (h : us δ (fun ps δ1 => tupKI Q ps δ1) X) : uTupK us δ Q X := h
theorem h_tpk3 {a b c : Str} (h : Q (.fz (.tpk [.inr a, .inr b, .inr c])) δ) : tupKI Q [.fz (.str a), .fz (.str b), .fz (.str c)] δ := ⟨[.inr a, .inr b, .inr c], rfl, by simp, h⟩
theorem h_tpk2 {a b : Str} (h : Q (.fz (.tpk [.inr a, .inr b])) δ) : tupKI Q [.fz (.str a), .fz (.str b)] δ := ⟨[.inr a, .inr b], rfl, by simp, h⟩
theorem h_inT {f : Bool → Bool} {ks : List Key} {kds : List (List Key × D)} (h1 : ctP δ q = some (.dcT kds)) (h : Q (.fz (.bl (f (valD kds ks).isSome))) δ) : oInT f δ (.fz (.tpk ks)) q Q := ⟨kds, ks, rfl, h1, h⟩
theorem h_dnewT (h : Q (.tm (.dcT [])) δ) : uDNewT δ Q X := h
def setTI (o k p : Pv) (δ3 : List Sl) (Q : List Sl → Prop) : Prop := ∃ i ks, o = .at i ∧ k = .fz (.tpk ks) ∧ uSto p δ3 fun d δ4 => ∃ kds, Mt δ4 i (.dcT kds) ∧ kds.length < 10000000 ∧ Q (pt δ4 i (.dcT (putD kds ks d)))
theorem h_setT {ue uo ui : UE} (h : ue δ (fun p δ1 => uo δ1 (fun o δ2 => ui δ2 (fun k δ3 => setTI o k p δ3 E.nx) E.ex) E.ex) E.ex) : uSetT ue uo ui E δ := h
theorem hp_setT {ks : List Key} {kds : List (List Key × D)} {P : List Sl → Prop} (h1 : Mt δ i (.dcT kds)) (h2 : kds.length < 10000000) (e : PtR δ i (.dcT (putD kds ks d)) δ') (h : P δ') : setTI (.at i) (.fz (.tpk ks)) (.fz d) δ P :=
  ⟨i, ks, rfl, rfl, kds, h1, h2, by rw [e.eq]; exact h⟩
theorem h_setTm {o k : Pv} {P : List Sl → Prop} (h : oSet o k (.fz d) δ P) : oSet o k (.tm d) δ P := h
theorem h_listT {kds : List (List Key × D)} (h1 : ctP δ p = some (.dcT kds)) (h : Q (.tm (.lst (kds.map fun kv => tupK kv.1))) δ) : oListT δ [p] Q := ⟨p, kds, rfl, h1, h⟩
theorem hp_ext (h1 : Mt δ i (.lst ds)) (h2 : ds.length + es.length ≤ 10000000) (e : PtR δ i (.lst (ds ++ es)) δ') (h : Q (.fz .non) δ') : oExt δ (.at i) [.fz (.lst es)] Q := ⟨i, ds, es, rfl, rfl, h1, h2, by rw [e.eq]; exact h⟩
theorem h_fgtT {ds : List D} (h : Q (.fz (.tup ds)) δ) : fgtK (.fz (.tup ds)) δ Q := h
end
section
variable {C : Ctx} {W : WX}
/-- a name's own thing is told from here on -/
def uTell (u : UE) : UE := fun δ Q X => u δ (fun p δ1 => uSto p δ1 fun d δ2 => Q (.fz d) δ2) X
theorem h_tell {u : UE} {δ : List Sl} {Q : UK} {X : UX} (h : u δ (fun p δ1 => uSto p δ1 fun d δ2 => Q (.fz d) δ2) X) : uTell u δ Q X := h
end
end WK
/-! Lists over a dict that stands in a told tuple. -/
namespace WK
open PySem L2 PySem.Spec PyProof.Rows
end WK
/-! isinstance(e, (C, D, ..)) of a caught error; e.f where the error is of one of several classes. -/
namespace WK
open PySem L2 PySem.Spec PyProof.Rows
def clsHit (n : Str) (ts : List Str) : Bool := ts.any fun c' => c' == n || c' == ("WeirError" : Str)
theorem kitAny_cls {K : PySem.W.Frag} {cs : List Str} (N : XKit K cs) {n : Str} (hn : n ∈ cs) : ∀ ts : List Str, (∀ c ∈ ts, c ∈ cs) → PySem.W.kitAny K (.ref (He.ga K n)) (ts.map fun c => Value.ref (He.ga K c)) = some (clsHit n ts)
  | [], _ => rfl
  | c :: ts, h => by
    have ih := kitAny_cls N hn ts fun c hc => h c (List.mem_cons_of_mem _ hc)
    have e := N.icl n hn c (h c List.mem_cons_self)
    rw [List.map_cons]
    unfold PySem.W.kitAny
    rw [e]
    unfold clsHit at *
    rw [List.any_cons]
    cases hb : (c == n || c == ("WeirError" : Str)) with
    | true => rfl
    | false => simp only [ih, Bool.false_or]
def rIsXT (K : PySem.W.Frag) (cs : List Str) (a : Addr) (cls : Value) (d : Option Addr) : List V → Hp → VK → Prop := fun xs H Q => ∃ (n : Str) (tp : Addr) (ts : List Str) (dd : Addr) (fs : List (Str × V)), n ∈ cs ∧ xs = [.ref a, .ref tp] ∧ SqT K H tp (ts.map fun c => V.ref (He.ga K c)) ∧ (∀ c ∈ ts, c ∈ cs) ∧ cls = .ref (He.ga K n) ∧ d = some dd ∧ H dd = some (.xd fs) ∧ Q (.bl (clsHit n ts)) H
theorem clsV_refs {K : PySem.W.Frag} : ∀ ts : List Str, Paired ClsV (ts.map fun c => V.ref (He.ga K c)) (ts.map fun c => Value.ref (He.ga K c))
  | [] => .nil
  | _ :: ts => .cons (.own _) (clsV_refs ts)
theorem call_isXT {X : Cx} {cs : List Str} {a : Addr} {oe : Obj} {cls : Value} {d : Option Addr} {pn : List (Addr × Obj)} (C : XKit X.K cs) (hz : Zc cls d oe) (hf : ∃ vs, oe.data = .fields vs) : CallR (X.suite a ((a, oe) :: pn)) (.builtin "isinstance") (rIsXT X.K cs a cls d) := by
  intro pins s σ H xs us Q I r h
  obtain ⟨n, tp, ts, dd, fs, hn, rfl, hT, hts, rfl, rfl, hdd, q⟩ := h
  obtain ⟨u1, u2, rfl, r1, r2⟩ := vals2 r
  cases (show u2 = Value.ref tp from r2)
  cases r1
  have hget := (I.pin (a, oe) (List.mem_append.mpr (.inl List.mem_cons_self))).1
  obtain ⟨vs, hv⟩ := hf
  obtain ⟨mA, hns, _⟩ := (show ObjOk X.prog X.w H s.heap dd (.xd fs) from I.hok dd _ hdd)
  obtain ⟨od, ho, _⟩ := lookIn_ns hns
  have e := kitAny_cls C hn ts hts
  have C := C.ex n hn
  have J : PySem.W.InstAt s.heap a oe (He.ga X.K n) (some od) := ⟨hget, hz.1, by unfold PySem.W.notCls; rw [hv] <;> rfl, by rw [hz.2]; exact ho⟩
  have hcl : (PySem.W.clsIn X.K (He.ga X.K n)).isSome = true := by
    obtain ⟨cd, hc, _⟩ := PySem.W.any_some C.hd
    rw [hc]; rfl
  obtain ⟨its, rv, ⟨o, h1, h2, n', h3⟩, _⟩ := I.tuple hT
  have e3 := ClsV.all (clsV_refs ts) rv
  subst e3
  obtain ⟨oc, od', dt, sl⟩ := o
  simp only at h2 h3
  subst h2 h3
  exact PySem.W.kia_tup (PySem.W.kitx_exc hcl C.hg C.hk C.hs C.ha C.hn C.ht C.hm) I.kIn J h1 e (fun z => nomatch z) fun tk => ⟨.bl _, H, I.kept (t' := tk) fun _ _ z => z, rfl, q⟩
section
variable {C : Ctx} {W : WX} {σ : L2.St} {δ δ' : List Sl} {H G H' G' Hs : Hp} {v w : V} {p q : Pv} {d : D} {K : PySem.W.Frag} {cs : List Str}
theorem rpl_cls {K : PySem.W.Frag} {G : Hp} : ∀ {ts : List Str} {vs : List V}, RpL K G vs (ts.map D.cls) → vs = ts.map fun c => V.ref (He.ga K c)
  | [], _, .nil => rfl
  | t :: ts, _, .cons h r => by
    cases h
    rw [rpl_cls r, List.map_cons]
def oIsXT (cs : List Str) (x : Xn) (a dd : Addr) : OpA := fun δ ps Q => ∃ ts : List Str, ps = [.fz (.exc a dd x.1 x.2), .fz (.tup (ts.map D.cls))] ∧ x.1 ∈ cs ∧ (∀ c ∈ ts, c ∈ cs) ∧ Q (.fz (.bl (clsHit x.1 ts))) δ
theorem tr_isXT {x : Xn} {a dd : Addr} (N : XKit C.K cs) : TrCB C (rIsXT C.K cs a (.ref (He.ga C.K x.1)) (some dd)) (oIsXT cs x a dd) := fun σ δ H G Hs vs ps Q Q' S hs r h k => by
  obtain ⟨ts, rfl, hc, hts, h⟩ := h
  obtain ⟨v, w, rfl, r1, r2⟩ := pas2 r
  have r1' : Rp C.K G v (.exc a dd x.1 x.2) := r1
  obtain ⟨tp, us, rfl, hu, t⟩ := vw (Hs := H) S r2.pv rfl
  have e := rpl_cls t
  subst e
  cases r1' with
  | exc hd k1 t1 =>
    rename_i fs
    exact ⟨x.1, tp, ts, dd, fs, hc, rfl, hu, hts, rfl, rfl, S.sub dd _ hd, k.here S (.bl _) h⟩
/-! ### e.f -/
def tXfM (K : PySem.W.Frag) (a : Addr) (cls : Value) (d : Option Addr) (ks : List Str) (f : Str) (te : TE) : TE := fun σ H Q => ∃ c ∈ ks, cls = .ref (He.ga K c) ∧ tXf a cls d (He.ga K c) f te σ H Q
theorem pe_xfM {X : Cx} {a : Addr} {oe : Obj} {cls : Value} {d : Option Addr} {pn : List (Addr × Obj)} {e : Expr} {te : TE} {pos : Pos} {n : Str} {ks : List Str} (T : ∀ c ∈ ks, XfC X.K (He.ga X.K c)) (hno : ∀ c ∈ ks, PySem.W.findIn X.K (.ref (He.ga X.K c)) n = some none)
    (hz : Zc cls d oe) (hf : ∃ vs, oe.data = .fields vs) (he : PE (X.suite a ((a, oe) :: pn)) e te) (hb : attributeBase e n X.env (eval e X.env) = eval e X.env := by rfl) :
    PE (X.suite a ((a, oe) :: pn)) (.Attribute e n pos) (tXfM X.K a cls d ks n te) :=
  ⟨fun pins s σ H Q I ⟨c, hc, _, h⟩ => (pe_xf (T c hc) (hno c hc) hz hf he hb).run pins s σ H Q I h⟩
def uXfM (x : Xn) (a dd : Addr) (ks : List Str) (f : Str) (ue : UE) : UE := fun δ Q X => x.1 ∈ ks ∧ uXf x a dd x.1 f ue δ Q X
theorem tr_xfM {x : Xn} {a dd : Addr} {ks : List Str} {f : Str} {te : TE} {ue : UE} (h : TrE C W te ue) : TrE C W (tXfM C.K a (.ref (He.ga C.K x.1)) (some dd) ks f te) (uXfM x a dd ks f ue) := fun σ δ H G Q Q' X' S hu k kx =>
  ⟨x.1, hu.1, rfl, tr_xf h σ δ H G Q Q' X' S hu.2 k kx⟩
theorem h_xfM {x : Xn} {a dd : Addr} {ks : List Str} {f : Str} {ue : UE} {δ : List Sl} {Q : UK} {X : UX} (hm : x.1 ∈ ks) (h : uXf x a dd x.1 f ue δ Q X) : uXfM x a dd ks f ue δ Q X := ⟨hm, h⟩
end
end WK
namespace WK
open PySem L2
local macro_rules | `(tactic| walk_at "kb") => `(tactic| first | exact kb_str_str | exact kb_str_int | exact kb_str_bool | exact kb_str_list | exact kb_str_tuple | exact kb_str_dict | exact kb_int_str | exact kb_int_int | exact kb_int_bool | exact kb_int_list | exact kb_int_tuple | exact kb_int_dict | exact kb_bool_str | exact kb_bool_int | exact kb_bool_bool | exact kb_bool_list | exact kb_bool_tuple | exact kb_bool_dict | exact kb_list_str | exact kb_list_int | exact kb_list_bool | exact kb_list_list | exact kb_list_tuple | exact kb_list_dict | exact kb_tuple_str | exact kb_tuple_int | exact kb_tuple_bool | exact kb_tuple_list | exact kb_tuple_tuple | exact kb_tuple_dict | exact kb_dict_str | exact kb_dict_int | exact kb_dict_bool | exact kb_dict_list | exact kb_dict_tuple | exact kb_dict_dict | exact kb_NoneType_str | exact kb_NoneType_int | exact kb_NoneType_bool | exact kb_NoneType_list | exact kb_NoneType_tuple | exact kb_NoneType_dict)
local macro_rules | `(tactic| walk_at "pt") => `(tactic| repeat (first | exact PtR.ow | exact PtR.io | apply PtR.s))
local macro_rules | `(tactic| walk_at "st") => `(tactic| repeat (first | exact StS.z | apply StS.s))
local macro_rules | `(tactic| walk_at "sz") => `(tactic| first | omega | (simp; omega) | simp)
local macro_rules | `(tactic| walk_at "side") => `(tactic| first | assumption | omega | (refine ⟨?_, ?_⟩ <;> omega) | (exact .inl ⟨by omega, by omega⟩) | (exact .inr ⟨by omega, by omega⟩) | (exact ⟨by decide, by decide, by decide⟩) | rfl)
local macro_rules | `(tactic| walk_at "h1") => `(tactic| first
  | with_reducible first
    | refine h_seq ?_ | refine h_asg ?_ | refine h_op ?_ | refine h_c ?_ | refine h_cons ?_ | refine h_nil ?_ | refine h_cb ?_ | refine h_call ?_ | refine h_ret ?_ | refine h_drop ?_ | refine h_next ?_ | refine h_retN ?_
    | refine h_ifS ?_ | refine h_if ?_ | refine h_B ?_ | refine h_bl ?_ | refine h_and ?_ | refine h_or ?_ | refine h_not ?_ | refine h_andV ?_ | refine h_orV ?_ | refine h_notV ?_
    | refine h_un ?_ | refine h_neg ?_ | refine h_I0 ?_ | refine h_addI ?_ | refine h_int ?_ | refine h_abs ?_ | refine h_mx2 ?_ | refine h_mn2 ?_ | refine h_par ?_ | refine h_na1 ?_ | refine h_na2 ?_ | refine h_chain ?_
    | refine h_for ?_ | refine h_lc ?_ | refine h_dc ?_ | refine h_iseq ?_ | refine h_irng1 ?_ | refine h_irng2 ?_ | refine h_ienum ?_ | refine h_gcons ?_ | refine h_gnil ?_ | refine h_gF ?_ | refine h_gOF ?_ | refine h_gOA ?_ | refine h_gXT ?_ | refine h_gXF ?_
    | refine h_setI ?_ | refine h_sfld ?_ | refine hp_sfld0 ?_ | refine h_raise ?_ | refine h_dnew ?_ | refine h_inS ?_ | refine h_sl ?_ | refine h_noPart ?_ | refine h_part ?_ | refine h_partI ?_ | refine h_meth ?_ | refine h_make ?_ | refine h_fld ?_
    | refine h_lst ?_ | refine h_tup ?_ | refine h_bm ?_ | refine h_bm0 ?_ | refine h_yes ?_ | refine h_stoF ?_ | refine h_stoT ?_ | refine h_stoN ?_ | refine h_stoC ?_ | refine hp_app0 ?_ | refine h_rtF ?_ | refine h_rtT ?_ | refine h_dget2 ?_ | refine iteT ?_ | refine iteF ?_ | refine iteNT ?_ | refine iteNF ?_
  | ((with_reducible refine' h_varF ?ev ?_); (case ev => rfl))
  | ((with_reducible refine' h_varO ?ev ?_); (case ev => rfl))
  | ((with_reducible refine' h_varI ?ev ?_); (case ev => rfl))
  | ((with_reducible refine' h_varL ?ev ?_); (case ev => rfl))
  | ((with_reducible refine' hp_gF ?e1 ?e2 ?_); (case e1 => first | exact trivial | exact nk_so _); (case e2 => walk_at "st"))
  | ((with_reducible refine' hp_gO ?e1 ?e0 ?e2 ?_); (case e1 => first | exact trivial | exact nk_so _); (case e0 => simp only [List.length]; decide); (case e2 => walk_at "st"))
  | ((with_reducible refine' h_I ?ec ?_); (case ec => walk_at "side"))
  | ((with_reducible refine' h_sz0 ?ec ?_); (case ec => walk_at "sz"))
  | ((with_reducible refine' h_ix ?es ?ea ?_); (case es => rfl); (case ea => first | rfl | assumption | walk_at "ix"))
  | ((with_reducible refine' h_len ?es ?ea ?_); (case es => rfl); (case ea => rfl))
  | ((with_reducible refine' h_lenS ?es ?_); (case es => walk_at "sz"))
  | ((with_reducible refine' h_list ?es ?ea ?_); (case es => rfl); (case ea => rfl))
  | ((with_reducible refine' h_tuple ?es ?_); (case es => first | exact .inl rfl | exact .inr rfl))
  | ((with_reducible refine' h_eqA ?e1 ?e2 ?e3 ?_); (case e1 => rfl); (case e2 => rfl); (case e3 => rfl))
  | ((with_reducible refine' h_neA ?e1 ?e2 ?e3 ?_); (case e1 => rfl); (case e2 => rfl); (case e3 => rfl))
  | ((with_reducible refine' h_inD ?e1 ?e2 ?_); (case e1 => rfl); (case e2 => rfl))
  | ((with_reducible refine' h_notInD ?e1 ?e2 ?_); (case e1 => rfl); (case e2 => rfl))
  | ((with_reducible refine' h_isN ?e1 ?_); (case e1 => rfl))
  | ((with_reducible refine' h_notN ?e1 ?_); (case e1 => rfl))
  | ((with_reducible refine' h_isi ?e1 ?e2 ?e3 ?_); (case e1 => rfl); (case e2 => rfl); (case e3 => walk_at "kb"))
  | ((with_reducible refine' h_addS ?e1 ?_); (case e1 => walk_at "sz"))
  | ((with_reducible refine' h_addL ?e1 ?e2 ?e3 ?_); (case e1 => rfl); (case e2 => rfl); (case e3 => walk_at "sz"))
  | ((with_reducible refine' h_addT ?e1 ?e2 ?e3 ?_); (case e1 => rfl); (case e2 => rfl); (case e3 => walk_at "sz"))
  | ((with_reducible refine' h_slL ?e1 ?_); (case e1 => rfl))
  | ((with_reducible refine' h_slT ?e1 ?_); (case e1 => rfl))
  | ((with_reducible refine' h_slS ?e1 ?_); (case e1 => walk_at "sz"))
  | ((with_reducible refine' h_slX ?e1 ?_); (case e1 => rfl))
  | ((with_reducible refine' h_dictC ?e1 ?_); (case e1 => rfl))
  | ((with_reducible refine' h_fldI ?e1 ?e2 ?_); (case e1 => rfl); (case e2 => rfl))
  | ((with_reducible refine' h_ty ?e1 ?e2 ?_); (case e1 => rfl); (case e2 => rfl))
  | ((with_reducible refine' hp_app ?e1 ?e2 ?e3 ?_); (case e1 => exact ⟨_, rfl, rfl, rfl⟩); (case e2 => walk_at "sz"); (case e3 => walk_at "pt"))
  | ((with_reducible refine' hp_stoO ?e1 ?e2 ?_); (case e1 => rfl); (case e2 => walk_at "st"))
  | ((with_reducible refine' h_stoFr ?e1 ?_); (case e1 => rfl))
  | ((with_reducible refine' h_gtup ?e1 ?e2 ?_); (case e1 => rfl); (case e2 => rfl))
  | ((with_reducible refine' hp_setL ?e1 ?e2 ?e3 ?_); (case e1 => exact ⟨_, rfl, rfl, rfl⟩); (case e2 => first | rfl | assumption); (case e3 => walk_at "pt"))
  | ((with_reducible refine' hp_setD ?e0 ?e1 ?e2 ?e3 ?_); (case e0 => rfl); (case e1 => exact ⟨_, rfl, rfl, rfl⟩); (case e2 => walk_at "sz"); (case e3 => walk_at "pt"))
  | ((with_reducible refine' hp_sfld ?e1 ?e2 ?e3 ?e4 ?_); (case e1 => exact ⟨_, rfl, rfl, rfl⟩); (case e2 => simp only [List.length]; decide); (case e3 => rfl); (case e4 => walk_at "pt"))
  | ((with_reducible refine' h_iseqN ?e1 ?e2 ?e3 ?_); (case e1 => rfl); (case e2 => rfl); (case e3 => rfl))
  | ((with_reducible refine' h_iseqS ?e1 ?e2 ?e3 ?_); (case e1 => rfl); (case e2 => rfl); (case e3 => rfl))
  | ((with_reducible refine' h_ienumN ?e1 ?e3 ?_); (case e1 => rfl); (case e3 => rfl))
  | ((with_reducible refine' h_ienumS ?e1 ?e3 ?_); (case e1 => rfl); (case e3 => rfl))
  | ((with_reducible refine' h_irng1I ?e1 ?_); (case e1 => (constructor <;> omega)))
  | ((with_reducible refine' h_irng2I ?e1 ?_); (case e1 => (refine ⟨?_, ?_, ?_, ?_⟩ <;> omega)))
  | ((with_reducible refine' h_methI ?e1 ?e2 ?_); (case e1 => rfl); (case e2 => rfl))
  | ((with_reducible refine' h_isD ?e1 ?_); (case e1 => rfl))
  | ((with_reducible refine' h_callP ?e1 ?e2 ?_); (case e1 => rfl); (case e2 => rfl))
  | ((with_reducible refine' h_makeP ?e1 ?e2 ?_); (case e1 => rfl); (case e2 => rfl))
  | ((with_reducible refine' h_rtO ?e1 ?_); (case e1 => rfl))
  | ((with_reducible refine' h_rtA ?e1 ?_); (case e1 => rfl)))
local macro_rules | `(tactic| walk_at "go") => `(tactic| repeat (walk_at "h1"))
local macro_rules | `(tactic| walk_at "bk") => `(tactic| ((try dsimp only); simp only [fzn_fz, fzn_at, fzn_tm, List.map_nil, List.append_nil, List.map_cons, List.cons_append, List.nil_append, back_at, back_af, back_ao, back_fz, back_nil, pt_ow, pt_io, pt_succ]))
local macro_rules | `(tactic| walk_at "g0") => `(tactic| skip)
section
abbrev N_l_take : List Str := ["_law_bag_here", "_law_many", "_law_digit"]
def u_l_take : US :=
  (uSeq (uIfS (uB (uOp oGt (uOp oIx (uVar 0) (uC (.int 0))) (uC (.int 0)))) (uSeq (uAsg (uOp oMod (uCB oInt (uCons (uOp oIx (uVar 0) (uC (.int 0))) uNil)) (uVar 1)) (ugF 2))
  (uSeq (uSetI (uOp oDivW (uOp oIx (uVar 0) (uC (.int 0))) (uVar 1)) (uVar 0) (uC (.int 0)))
  (uRet (uVar 2)))) uNext)
  (uSeq (uSetI (uOp oMod (uCB oInt (uCons (uOp oAdd (uOp oMul (uOp oIx (uVar 0) (uC (.int 1))) (uC (.int 38177))) (uC (.int 4001))) uNil)) (uC (.int 2147483587))) (uVar 0) (uC (.int 1)))
  (uRet (uOp oMod (uOp oDiv (uOp oMod (uCB oInt (uCons (uOp oMul (uOp oDiv (uOp oIx (uVar 0) (uC (.int 1))) (uC (.int 11))) (uC (.int 52817))) uNil)) (uC (.int 2147483629))) (uC (.int 32))) (uVar 1)))))
/-- a bag: two ints that are not negative -/
def isBag (d : D) : Prop := ∃ x y : Int, d = .lst [.int x, .int y] ∧ 0 ≤ x ∧ 0 ≤ y
def U_l_take : UP := fun ss Q _ => ∃ (b : D) (m : Int), ss = [.io b, .fz (.int m)] ∧ isBag b ∧ 0 < m ∧ m < 10000000000000000000000000000000000000000 ∧ ∀ (r : Int) (b' : D), 0 ≤ r → r < m → isBag b' → Q (.fz (.int r)) [.io b', .fz (.int m)]
theorem len_l_take {ss : List Sl} {Q : Pv → List Sl → Prop} {X : UX} (h : U_l_take ss Q X) : ss.length = 2 := by obtain ⟨_, _, rfl, _⟩ := h; rfl
theorem pure_l_take (ss : List Sl) (Q : Pv → List Sl → Prop) (X : UX) (h : U_l_take ss Q X) : u_l_take (endsU Q X ss.length) (startU N_l_take ss) := by
  obtain ⟨b, m, rfl, ⟨x, y, rfl, hx, hy⟩, hm, hm2, k⟩ := h
  show u_l_take { nx := _, rt := retK Q 2, ex := _ } [.io (.lst [.int x, .int y]), .fz (.int m), .un]
  unfold u_l_take
  walk_at "go"
  refine iteD (fun h => ?_) (fun h => ?_)
  · walk_at "go"
    refine h_I (wide_div (b := 140) hm (by omega) (by decide) (by decide)) ?_
    walk_at "go"
    exact k (x % m) _ (Int.emod_nonneg _ (by omega)) (Int.emod_lt_of_pos _ hm) ⟨_, _, rfl, Int.ediv_nonneg hx (by omega), hy⟩
  · walk_at "go"
    exact k _ _ (Int.emod_nonneg _ (by omega)) (Int.emod_lt_of_pos _ hm) ⟨_, _, rfl, hx, Int.emod_nonneg _ (by decide)⟩
end
section
theorem cut_ints {xs : List Int} {lo hi : Option Int} {n : Nat} {d : D} (h : (cutD (xs.map D.int) lo hi)[n]? = some d) : ∃ z : Int, d = .int z := by
  have hm := List.mem_of_getElem? h
  unfold cutD at hm
  have := List.mem_of_mem_drop (List.mem_of_mem_take hm)
  obtain ⟨z, _, e⟩ := List.mem_map.mp this
  exact ⟨z, e.symm⟩
abbrev N_l_bag : List Str := ["_law_script", "_law_at", "_law_salt", "_law_cell", "_law_blend", "_law_k", "_law_each"]
def u_l_bag : US :=
  (uSeq (uAsg (uIf (uB (uOp oLt (uVar 1) (uCB oLen (uCons (uVar 0) uNil)))) (uOp oIx (uVar 0) (uVar 1)) (uC (.int 0))) (ugF 3))
  (uSeq (uAsg (uOp oAdd (uVar 2) (uOp oMul (uC (.int 1009)) (uVar 1))) (ugF 4))
  (uSeq (uFor (uIEnum (uCons (uSl (uVar 0) uNoPart (uPart (uC (.int 63)))) uNil)) (ugTup 2 (ugCons (ugF 5) (ugCons (ugF 6) ugNil))) (uAsg (uOp oMod (uCB oInt (uCons (uOp oAdd (uOp oAdd (uOp oAdd (uOp oMul (uVar 4) (uC (.int 44497))) (uOp oMod (uCB oInt (uCons (uVar 6) uNil)) (uC (.int 2147483549)))) (uOp oMul (uC (.int 71)) (uVar 5))) (uC (.int 9))) uNil)) (uC (.int 2147483549))) (ugF 4)))
  (uRet (uLst (uCons (uIf (uB (uOp oGe (uCB oAbs (uCons (uVar 3) uNil)) (uOp oPow (uC (.int 10)) (uC (.int 18))))) (uCB oAbs (uCons (uVar 3) uNil)) (uC (.int 0))) (uCons (uVar 4) uNil)))))))
def U_l_bag : UP := fun ss Q _ => ∃ (xs : List Int) (at_ salt : Int), ss = [.fz (.scr xs), .fz (.int at_), .fz (.int salt)] ∧ xs.length ≤ 100000 ∧ 0 ≤ at_ ∧ at_ ≤ 1000000 ∧ 0 ≤ salt ∧ ∀ (b : D), isBag b → Q (.tm b) ss
theorem len_l_bag {ss : List Sl} {Q : Pv → List Sl → Prop} {X : UX} (h : U_l_bag ss Q X) : ss.length = 3 := by obtain ⟨_, _, _, rfl, _⟩ := h; rfl
theorem pure_l_bag (ss : List Sl) (Q : Pv → List Sl → Prop) (X : UX) (h : U_l_bag ss Q X) : u_l_bag (endsU Q X ss.length) (startU N_l_bag ss) := by
  obtain ⟨xs, at_, salt, rfl, hx, ha, ha2, hs, k⟩ := h
  show u_l_bag { nx := _, rt := retK Q 3, ex := _ } [.fz (.scr xs), .fz (.int at_), .fz (.int salt), .un, .un, .un, .un]
  unfold u_l_bag
  refine h_seq (h_asg (h_genD (fun d => ∃ c : Int, d = .int c) (fun R hR => ?_) ?_))
  · walk_at "go"
    refine iteD (fun h => ?_) (fun h => ?_)
    · have hj : at_.toNat < xs.length := by omega
      have ht : ixD (.scr xs) (.fz (.int at_)) = some (.int (xs[at_.toNat]'hj)) := by
        show (atI xs at_).map D.int = _
        have : atI xs ((at_.toNat : Nat) : Int) = some (xs[at_.toNat]'hj) := atI_nat (List.getElem?_eq_getElem hj)
        rw [show ((at_.toNat : Nat) : Int) = at_ by omega] at this
        rw [this]; rfl
      walk_at "go"
      exact hR _ ⟨_, rfl⟩
    · walk_at "go"
      exact hR _ ⟨_, rfl⟩
  · rintro _ ⟨c, rfl⟩
    walk_at "go"
    refine for_enum (fun n δ => ∃ (b : Int) (v w : Option D), 0 ≤ b ∧ δ = [.fz (.scr xs), .fz (.int at_), .fz (.int salt), .fz (.int c), .fz (.int b), so v, so w]) ⟨_, none, none, by omega, rfl⟩ ?_ ?_
    · rintro n d δ hn ⟨b, v, w, hb, rfl⟩
      obtain ⟨z, rfl⟩ := cut_ints hn
      walk_at "go"
      exact ⟨_, some _, some _, Int.emod_nonneg _ (by decide), rfl⟩
    · rintro δ ⟨b, v, w, hb, rfl⟩
      walk_at "go"
      refine iteD (fun h => ?_) (fun h => ?_)
      · walk_at "go"
        refine k _ ⟨_, _, rfl, ?_, hb⟩
        split <;> omega
      · walk_at "go"
        exact k _ ⟨_, _, rfl, by omega, hb⟩
end
section
/-! ### _law_of, _law_mixed -/
theorem ix_nat {ds : List D} {j : Nat} {d : D} (h : ds[j]? = some d) : ixD (.lst ds) (.fz (.int (j : Nat))) = some d := by
  show atI ds (j : Int) = some d
  exact atI_nat h
abbrev N_l_of : List Str := ["_law_bag_here", "_law_some"]
def u_l_of : US :=
  (uRet (uOp oIx (uVar 1) (uCall U_l_take [] (uCons (uVar 0) (uCons (uCB oLen (uCons (uVar 1) uNil)) uNil)))))
/-- s holds d, told or lent -/
def holds (s : Sl) (d : D) : Prop := s = .fz d ∨ s = .io d
def U_l_of : UP := fun ss Q _ => ∃ (b : D) (s : Sl) (ds : List D), ss = [.io b, s] ∧ holds s (.lst ds) ∧ isBag b ∧ 0 < ds.length ∧ ds.length < 1000000 ∧ ∀ (b' d : D), isBag b' → d ∈ ds → Q (.fz d) [.io b', s]
theorem len_l_of {ss : List Sl} {Q : Pv → List Sl → Prop} {X : UX} (h : U_l_of ss Q X) : ss.length = 2 := by obtain ⟨_, _, _, rfl, _⟩ := h; rfl
theorem pure_l_of (ss : List Sl) (Q : Pv → List Sl → Prop) (X : UX) (h : U_l_of ss Q X) : u_l_of (endsU Q X ss.length) (startU N_l_of ss) := by
  obtain ⟨b, s, ds, rfl, hs, hb, h0, h1, k⟩ := h
  show u_l_of { nx := _, rt := retK Q 2, ex := _ } [.io b, s]
  unfold u_l_of
  rcases hs with rfl | rfl
  all_goals
    walk_at "go"
    refine ⟨b, _, rfl, hb, by omega, by omega, fun r b' r0 r1 hb' => ?_⟩
    obtain ⟨j, rfl⟩ : ∃ j : Nat, r = (j : Int) := ⟨r.toNat, by omega⟩
    have hj : j < ds.length := by omega
    have hv : ds[j]? = some ds[j] := List.getElem?_eq_getElem hj
    have hx := ix_nat hv
    walk_at "bk"
    walk_at "go"
    exact k _ _ hb' (List.getElem_mem hj)
theorem perm_erase {α : Type} : ∀ {l : List α} {j : Nat} (h : j < l.length), ([l[j]] ++ l.eraseIdx j).Perm l
  | a :: l, 0, _ => List.Perm.refl _
  | a :: l, j + 1, h => by
    have hj : j < l.length := by simpa using h
    have ih := perm_erase (l := l) (j := j) hj
    show (l[j] :: a :: l.eraseIdx j).Perm (a :: l)
    exact (List.Perm.swap _ _ _).trans (List.Perm.cons _ ih)
abbrev N_l_mixed : List Str := ["_law_bag_here", "_law_some", "_law_rest", "_law_found", "_law_k"]
def u_l_mixed : US :=
  (uSeq (uPar true true 2 3 (uCB oList (uCons (uVar 1) uNil)) (uLst uNil))
  (uSeq (uFor (uIRng1 (uCons (uCB oLen (uCons (uVar 1) uNil)) uNil)) (ugF 4) (uDrop (uBM "list" oApp (uVar 3) (uCons (uBM "list" oPopAt (uVar 2) (uCons (uCall U_l_take [] (uCons (uVar 0) (uCons (uCB oLen (uCons (uVar 2) uNil)) uNil))) uNil)) uNil))))
  (uRet (uVar 3))))
def U_l_mixed : UP := fun ss Q _ => ∃ (b : D) (s : Sl) (ds : List D), ss = [.io b, s] ∧ holds s (.lst ds) ∧ isBag b ∧ ds.length < 1000000 ∧ ∀ (b' : D) (es : List D), isBag b' → es.Perm ds → Q (.tm (.lst es)) [.io b', s]
theorem len_l_mixed {ss : List Sl} {Q : Pv → List Sl → Prop} {X : UX} (h : U_l_mixed ss Q X) : ss.length = 2 := by obtain ⟨_, _, _, rfl, _⟩ := h; rfl
theorem pure_l_mixed (ss : List Sl) (Q : Pv → List Sl → Prop) (X : UX) (h : U_l_mixed ss Q X) : u_l_mixed (endsU Q X ss.length) (startU N_l_mixed ss) := by
  obtain ⟨b, s, ds, rfl, hs, hb, h1, k⟩ := h
  show u_l_mixed { nx := _, rt := retK Q 2, ex := _ } [.io b, s, .un, .un, .un]
  unfold u_l_mixed
  rcases hs with rfl | rfl
  all_goals
    walk_at "go"
    refine for_rng (m := ds.length) (fun n δ => ∃ (b' : D) (rest found : List D) (v : Option D), isBag b' ∧ (found ++ rest).Perm ds ∧ found.length = n ∧ δ = [.io b', _, .ow (.lst rest), .ow (.lst found), so v]) ⟨b, ds, [], none, hb, by simp, rfl, rfl⟩ ?_ ?_ (by omega)
    · rintro n δ hn ⟨b', rest, found, v, hb', pm, hf, rfl⟩
      have hl : rest.length = ds.length - n := by have := pm.length_eq; simp at this; omega
      walk_at "go"
      refine ⟨b', _, rfl, hb', by omega, by omega, fun r b2 r0 r1 hb2 => ?_⟩
      obtain ⟨j, rfl⟩ : ∃ j : Nat, r = (j : Int) := ⟨r.toNat, by omega⟩
      have hj : j < rest.length := by omega
      have hv : rest[j]? = some rest[j] := List.getElem?_eq_getElem hj
      walk_at "bk"
      walk_at "go"
      refine' hp_popAt ?e1 hv ?e2 ?e3 ?_
      case e1 => exact ⟨_, rfl, rfl, rfl⟩
      case e2 => omega
      case e3 => walk_at "pt"
      walk_at "go"
      refine ⟨b2, _, _, some _, hb2, ?_, by simp [hf], rfl⟩
      rw [List.append_assoc]
      exact ((perm_erase hj).append_left found).trans pm
    · rintro δ ⟨b', rest, found, v, hb', pm, hf, rfl⟩
      have hr : rest = [] := by
        have := pm.length_eq
        simp at this
        exact List.length_eq_zero_iff.mp (by omega)
      subst hr
      walk_at "go"
      exact k _ _ hb' (by simpa using pm)
end
end WK
namespace WK
open PySem L2
/-! ### rivers by data -/
def rowD (r : Str × Str) : D := .tup [.str r.1, .str r.2]
def lowK (rows : Rows) : List (Key × D) := rows.map fun r => (.inr r.1, .str r.2)
def crsD (rows : Rows) (w : Str) : D := .tpn ((crs rows rows.length w).map .str)
def crsK (rows : Rows) : List (Key × D) := (wrs rows).map fun w => (.inr w, crsD rows w)
def riverF (rows : Rows) : List (Str × D) := [("weirs", .tup ((wrs rows).map .str)), ("lower", .dct (lowK rows)), ("courses", .dct (crsK rows))]
def riverD (rows : Rows) : D := .obj "River" (riverF rows)
theorem lkD (f g : Str) (v : D) (r : List (Str × D)) : ((g, v) :: r).lookup f = if f = g then some v else r.lookup f := by
  by_cases h : f = g
  · subst h; rw [if_pos rfl, List.lookup_cons_self]
  · rw [if_neg h]
    show (match f == g with | true => some v | false => r.lookup f) = _
    rw [beq_eq_false_iff_ne.mpr h]
theorem valD_map {α : Type} (ky : α → Key) (F : α → D) (k : Key) : ∀ xs : List α, valD (xs.map fun x => (ky x, F x)) k = (xs.find? fun x => decide (ky x = k)).map F
  | [] => rfl
  | x :: xs => by
    have ih := valD_map ky F k xs
    unfold valD at *
    rw [List.map_cons]
    by_cases h : ky x = k
    · rw [List.find?_cons_of_pos (by simpa using h), List.find?_cons_of_pos (by simpa using h)]; rfl
    · rw [List.find?_cons_of_neg (by simpa using h), List.find?_cons_of_neg (by simpa using h)]; exact ih
theorem find_inr (rows : Rows) (w : Str) : (rows.find? fun r => decide ((Sum.inr r.1 : Key) = Sum.inr w)) = rows.find? fun r => decide (r.1 = w) := by
  congr 1
  funext r
  exact decide_eq_decide.mpr ⟨Sum.inr.inj, fun h => by rw [h]⟩
theorem valD_low {rows : Rows} {w : Str} (h : w ∈ wrs rows) : valD (lowK rows) (.inr w) = some (.str (low rows w)) := by
  unfold lowK
  rw [valD_map (fun r : Str × Str => (Sum.inr r.1 : Key)) (fun r => D.str r.2), find_inr]
  obtain ⟨r, e, _, _⟩ := find_some h
  unfold low; rw [e]; rfl
theorem valD_lowN {rows : Rows} {w : Str} (h : w ∉ wrs rows) : valD (lowK rows) (.inr w) = none := by
  unfold lowK
  rw [valD_map (fun r : Str × Str => (Sum.inr r.1 : Key)) (fun r => D.str r.2), find_inr, find_none h]; rfl
theorem find_self {ws : List Str} {w : Str} (h : w ∈ ws) : (ws.find? fun x => decide ((Sum.inr x : Key) = Sum.inr w)) = some w := by
  induction ws with
  | nil => cases h
  | cons x ws ih =>
    by_cases e : x = w
    · subst e; rw [List.find?_cons_of_pos (by simp)]
    · rw [List.find?_cons_of_neg (by simpa using e)]
      rcases List.mem_cons.mp h with z | z
      · exact absurd z.symm e
      · exact ih z
theorem valD_ws {ws : List Str} {w : Str} (F : Str → D) (h : w ∈ ws) : valD (ws.map fun w => ((Sum.inr w : Key), F w)) (.inr w) = some (F w) := by
  rw [valD_map (fun w : Str => (Sum.inr w : Key)) F, find_self h]; rfl
theorem valD_crs {rows : Rows} {w : Str} (h : w ∈ wrs rows) : valD (crsK rows) (.inr w) = some (crsD rows w) := valD_ws _ h
theorem rf_weirs (rows : Rows) : (riverF rows).lookup ("weirs" : Str) = some (.tup ((wrs rows).map .str)) := by unfold riverF; rw [lkD, if_pos rfl]
theorem rf_lower (rows : Rows) : (riverF rows).lookup ("lower" : Str) = some (.dct (lowK rows)) := by unfold riverF; rw [lkD, if_neg (by decide +kernel), lkD, if_pos rfl]
theorem rf_courses (rows : Rows) : (riverF rows).lookup ("courses" : Str) = some (.dct (crsK rows)) := by unfold riverF; rw [lkD, if_neg (by decide +kernel), lkD, if_neg (by decide +kernel), lkD, if_pos rfl]
theorem rf_no {m : Str} (rows : Rows) (h1 : ¬ m = "weirs") (h2 : ¬ m = "lower") (h3 : ¬ m = "courses") : (riverF rows).lookup m = none := by unfold riverF; rw [lkD, if_neg h1, lkD, if_neg h2, lkD, if_neg h3]; rfl
theorem wrs_ok {rows : Rows} (g : Good rows) : ∀ w ∈ wrs rows, PyData.strOk w = true := fun w hw => by
  obtain ⟨r, hr, rfl⟩ := List.mem_map.mp hw; exact strOk_name (g.nm r hr).1
theorem crs_in {rows : Rows} (g : Good rows) : ∀ (n : Nat) (w u : Str), w ∈ wrs rows ∨ w = "sea" → u ∈ crs rows n w → u ∈ wrs rows
  | 0, _, _, _, h => by simp [crs] at h
  | n + 1, w, u, hw, h => by
    unfold crs at h
    by_cases e : w = "sea"
    · rw [if_pos e] at h; cases h
    · rw [if_neg e] at h
      have hw' : w ∈ wrs rows := by rcases hw with z | z; exact z; exact absurd z e
      rcases List.mem_cons.mp h with z | z
      · rw [z]; exact hw'
      · exact crs_in g n _ u (by rcases g.low_in hw' with z | z; exact .inr z; exact .inl z) z
theorem crs_len {rows : Rows} : ∀ (n : Nat) (w : Str), (crs rows n w).length ≤ n
  | 0, _ => by simp [crs]
  | n + 1, w => by
    unfold crs
    split
    · simp
    · have := crs_len (rows := rows) n (low rows w); simp; omega
local macro_rules | `(tactic| walk_at "kb") => `(tactic| first | exact kb_str_str | exact kb_str_int | exact kb_str_bool | exact kb_str_list | exact kb_str_tuple | exact kb_str_dict | exact kb_int_str | exact kb_int_int | exact kb_int_bool | exact kb_int_list | exact kb_int_tuple | exact kb_int_dict | exact kb_bool_str | exact kb_bool_int | exact kb_bool_bool | exact kb_bool_list | exact kb_bool_tuple | exact kb_bool_dict | exact kb_list_str | exact kb_list_int | exact kb_list_bool | exact kb_list_list | exact kb_list_tuple | exact kb_list_dict | exact kb_tuple_str | exact kb_tuple_int | exact kb_tuple_bool | exact kb_tuple_list | exact kb_tuple_tuple | exact kb_tuple_dict | exact kb_dict_str | exact kb_dict_int | exact kb_dict_bool | exact kb_dict_list | exact kb_dict_tuple | exact kb_dict_dict | exact kb_NoneType_str | exact kb_NoneType_int | exact kb_NoneType_bool | exact kb_NoneType_list | exact kb_NoneType_tuple | exact kb_NoneType_dict)
local macro_rules | `(tactic| walk_at "pt") => `(tactic| repeat (first | exact PtR.ow | exact PtR.io | apply PtR.s))
local macro_rules | `(tactic| walk_at "st") => `(tactic| repeat (first | exact StS.z | apply StS.s))
local macro_rules | `(tactic| walk_at "sz") => `(tactic| first | omega | (simp; omega) | simp)
local macro_rules | `(tactic| walk_at "side") => `(tactic| first | assumption | omega | (refine ⟨?_, ?_⟩ <;> omega) | (exact .inl ⟨by omega, by omega⟩) | (exact .inr ⟨by omega, by omega⟩) | (exact ⟨by decide, by decide, by decide⟩) | rfl)
local macro_rules | `(tactic| walk_at "h1") => `(tactic| first
  | with_reducible first
    | refine h_seq ?_ | refine h_asg ?_ | refine h_op ?_ | refine h_c ?_ | refine h_cons ?_ | refine h_nil ?_ | refine h_cb ?_ | refine h_call ?_ | refine h_ret ?_ | refine h_drop ?_ | refine h_next ?_ | refine h_retN ?_
    | refine h_ifS ?_ | refine h_if ?_ | refine h_B ?_ | refine h_bl ?_ | refine h_and ?_ | refine h_or ?_ | refine h_not ?_ | refine h_andV ?_ | refine h_orV ?_ | refine h_notV ?_
    | refine h_un ?_ | refine h_neg ?_ | refine h_I0 ?_ | refine h_addI ?_ | refine h_int ?_ | refine h_abs ?_ | refine h_mx2 ?_ | refine h_mn2 ?_ | refine h_par ?_ | refine h_na1 ?_ | refine h_na2 ?_ | refine h_chain ?_
    | refine h_for ?_ | refine h_lc ?_ | refine h_dc ?_ | refine h_iseq ?_ | refine h_irng1 ?_ | refine h_irng2 ?_ | refine h_ienum ?_ | refine h_gcons ?_ | refine h_gnil ?_ | refine h_gF ?_ | refine h_gOF ?_ | refine h_gOA ?_ | refine h_gXT ?_ | refine h_gXF ?_
    | refine h_setI ?_ | refine h_sfld ?_ | refine hp_sfld0 ?_ | refine h_raise ?_ | refine h_dnew ?_ | refine h_inS ?_ | refine h_sl ?_ | refine h_noPart ?_ | refine h_part ?_ | refine h_partI ?_ | refine h_meth ?_ | refine h_make ?_ | refine h_fld ?_
    | refine h_lst ?_ | refine h_tup ?_ | refine h_bm ?_ | refine h_bm0 ?_ | refine h_yes ?_ | refine h_stoF ?_ | refine h_stoT ?_ | refine h_stoN ?_ | refine h_stoC ?_ | refine hp_app0 ?_ | refine h_rtF ?_ | refine h_rtT ?_ | refine h_dget2 ?_ | refine iteT ?_ | refine iteF ?_ | refine iteNT ?_ | refine iteNF ?_
  | ((with_reducible refine' h_varF ?ev ?_); (case ev => rfl))
  | ((with_reducible refine' h_varO ?ev ?_); (case ev => rfl))
  | ((with_reducible refine' h_varI ?ev ?_); (case ev => rfl))
  | ((with_reducible refine' h_varL ?ev ?_); (case ev => rfl))
  | ((with_reducible refine' hp_gF ?e1 ?e2 ?_); (case e1 => first | exact trivial | exact nk_so _); (case e2 => walk_at "st"))
  | ((with_reducible refine' hp_gO ?e1 ?e0 ?e2 ?_); (case e1 => first | exact trivial | exact nk_so _); (case e0 => simp only [List.length]; decide); (case e2 => walk_at "st"))
  | ((with_reducible refine' h_I ?ec ?_); (case ec => walk_at "side"))
  | ((with_reducible refine' h_sz0 ?ec ?_); (case ec => walk_at "sz"))
  | ((with_reducible refine' h_ix ?es ?ea ?_); (case es => rfl); (case ea => first | assumption | walk_at "ix" | rfl))
  | ((with_reducible refine' h_len ?es ?ea ?_); (case es => rfl); (case ea => rfl))
  | ((with_reducible refine' h_lenS ?es ?_); (case es => walk_at "sz"))
  | ((with_reducible refine' h_list ?es ?ea ?_); (case es => rfl); (case ea => rfl))
  | ((with_reducible refine' h_tuple ?es ?_); (case es => first | exact .inl rfl | exact .inr rfl))
  | ((with_reducible refine' h_eqA ?e1 ?e2 ?e3 ?_); (case e1 => rfl); (case e2 => rfl); (case e3 => rfl))
  | ((with_reducible refine' h_neA ?e1 ?e2 ?e3 ?_); (case e1 => rfl); (case e2 => rfl); (case e3 => rfl))
  | ((with_reducible refine' h_inD ?e1 ?e2 ?_); (case e1 => rfl); (case e2 => rfl))
  | ((with_reducible refine' h_notInD ?e1 ?e2 ?_); (case e1 => rfl); (case e2 => rfl))
  | ((with_reducible refine' h_isN ?e1 ?_); (case e1 => rfl))
  | ((with_reducible refine' h_notN ?e1 ?_); (case e1 => rfl))
  | ((with_reducible refine' h_isi ?e1 ?e2 ?e3 ?_); (case e1 => rfl); (case e2 => rfl); (case e3 => walk_at "kb"))
  | ((with_reducible refine' h_addS ?e1 ?_); (case e1 => walk_at "sz"))
  | ((with_reducible refine' h_addL ?e1 ?e2 ?e3 ?_); (case e1 => rfl); (case e2 => rfl); (case e3 => walk_at "sz"))
  | ((with_reducible refine' h_addT ?e1 ?e2 ?e3 ?_); (case e1 => rfl); (case e2 => rfl); (case e3 => walk_at "sz"))
  | ((with_reducible refine' h_slL ?e1 ?_); (case e1 => rfl))
  | ((with_reducible refine' h_slT ?e1 ?_); (case e1 => rfl))
  | ((with_reducible refine' h_slS ?e1 ?_); (case e1 => walk_at "sz"))
  | ((with_reducible refine' h_slX ?e1 ?_); (case e1 => rfl))
  | ((with_reducible refine' h_dictC ?e1 ?_); (case e1 => rfl))
  | ((with_reducible refine' h_fldI ?e1 ?e2 ?_); (case e1 => rfl); (case e2 => walk_at "fl"))
  | ((with_reducible refine' h_ty ?e1 ?e2 ?_); (case e1 => rfl); (case e2 => rfl))
  | ((with_reducible refine' hp_app ?e1 ?e2 ?e3 ?_); (case e1 => exact ⟨_, rfl, rfl, rfl⟩); (case e2 => walk_at "sz"); (case e3 => walk_at "pt"))
  | ((with_reducible refine' hp_stoO ?e1 ?e2 ?_); (case e1 => rfl); (case e2 => walk_at "st"))
  | ((with_reducible refine' h_stoFr ?e1 ?_); (case e1 => rfl))
  | ((with_reducible refine' h_gtup ?e1 ?e2 ?_); (case e1 => rfl); (case e2 => rfl))
  | ((with_reducible refine' hp_setL ?e1 ?e2 ?e3 ?_); (case e1 => exact ⟨_, rfl, rfl, rfl⟩); (case e2 => first | rfl | assumption); (case e3 => walk_at "pt"))
  | ((with_reducible refine' hp_setD ?e0 ?e1 ?e2 ?e3 ?_); (case e0 => rfl); (case e1 => exact ⟨_, rfl, rfl, rfl⟩); (case e2 => walk_at "sz"); (case e3 => walk_at "pt"))
  | ((with_reducible refine' hp_sfld ?e1 ?e2 ?e3 ?e4 ?_); (case e1 => exact ⟨_, rfl, rfl, rfl⟩); (case e2 => simp only [List.length]; decide); (case e3 => walk_at "pf"); (case e4 => walk_at "pt"))
  | ((with_reducible refine' h_iseqN ?e1 ?e2 ?e3 ?_); (case e1 => rfl); (case e2 => rfl); (case e3 => rfl))
  | ((with_reducible refine' h_iseqS ?e1 ?e2 ?e3 ?_); (case e1 => rfl); (case e2 => rfl); (case e3 => rfl))
  | ((with_reducible refine' h_ienumN ?e1 ?e3 ?_); (case e1 => rfl); (case e3 => rfl))
  | ((with_reducible refine' h_ienumS ?e1 ?e3 ?_); (case e1 => rfl); (case e3 => rfl))
  | ((with_reducible refine' h_irng1I ?e1 ?_); (case e1 => (constructor <;> omega)))
  | ((with_reducible refine' h_irng2I ?e1 ?_); (case e1 => (refine ⟨?_, ?_, ?_, ?_⟩ <;> omega)))
  | ((with_reducible refine' h_methI ?e1 ?e2 ?_); (case e1 => rfl); (case e2 => walk_at "fl"))
  | ((with_reducible refine' h_isD ?e1 ?_); (case e1 => rfl))
  | ((with_reducible refine' h_callP ?e1 ?e2 ?_); (case e1 => rfl); (case e2 => rfl))
  | ((with_reducible refine' h_makeP ?e1 ?e2 ?_); (case e1 => rfl); (case e2 => rfl))
  | ((with_reducible refine' h_rtO ?e1 ?_); (case e1 => rfl))
  | ((with_reducible refine' h_rtA ?e1 ?_); (case e1 => rfl))
  | ((with_reducible refine' iteK0 ?e1 ?_); (case e1 => rfl))
  | ((with_reducible refine' iteK1 ?e1 ?_); (case e1 => rfl)))
local macro_rules | `(tactic| walk_at "go") => `(tactic| repeat (walk_at "h1"))
local macro_rules | `(tactic| walk_at "bk") => `(tactic| ((try dsimp only); simp only [fzn_fz, fzn_at, fzn_tm, List.map_nil, List.append_nil, List.map_cons, List.cons_append, List.nil_append, back_at, back_af, back_ao, back_fz, back_nil, pt_ow, pt_io, pt_succ]))
local macro_rules | `(tactic| walk_at "g0") => `(tactic| skip)
local macro_rules | `(tactic| walk_at "pf") => `(tactic| rfl)
section
local macro_rules | `(tactic| walk_at "fl") => `(tactic| first | exact rf_weirs _ | exact rf_lower _ | exact rf_courses _ | exact rf_no _ (by decide +kernel) (by decide +kernel) (by decide +kernel) | rfl)
local macro_rules | `(tactic| walk_at "ix") => `(tactic| first | exact valD_low (by assumption) | exact valD_crs (by assumption))
/-! ### is_name, is_wrong_row -/
abbrev N_is_name : List Str := ["value", "letter"]
def u_is_name : US :=
  (uSeq (uIfS (uOr (uNot (uB (uCB oIsi (uCons (uVar 0) (uCons (uC (.ty "str")) uNil))))) (uNot (uB (uChain oLe oLe (uC (.int 1)) (uCB oLen (uCons (uVar 0) uNil)) (uC (.int 8)))))) (uRet (uC (.bl false))) uNext)
  (uRet (uCB oAll (uCons (uLc (uISeq (uVar 0)) (ugF 1) uYes (uOp oIn (uVar 1) (uC (.str "abcdefghijklmnopqrstuvwxyz"))) [1]) uNil))))
def lenOk : D → Bool | .str z => decide (1 ≤ (z.length : Int)) && decide ((z.length : Int) ≤ 8) | _ => false
def nameD : D → Bool | .str z => isName z | _ => false
theorem kit_str {d : D} {T : String} (h : tyD d = some T) : kitB T "str" = some (isStr d) := by
  cases d <;> simp [tyD] at h <;> subst h <;> first | exact kb_str_str | exact kb_int_str | exact kb_bool_str | exact kb_list_str | exact kb_tuple_str | exact kb_dict_str | exact kb_NoneType_str
def U_is_name : UP := fun ss Q _ => ∃ (d : D) (T : String), ss = [.fz d] ∧ tyD d = some T ∧ (∀ z, d = .str z → z.length ≤ 1000000) ∧ Q (.fz (.bl (nameD d))) ss
theorem len_is_name {ss : List Sl} {Q : Pv → List Sl → Prop} {X : UX} (h : U_is_name ss Q X) : ss.length = 1 := by obtain ⟨_, _, rfl, _⟩ := h; rfl
theorem pure_is_name (ss : List Sl) (Q : Pv → List Sl → Prop) (X : UX) (h : U_is_name ss Q X) : u_is_name (endsU Q X ss.length) (startU N_is_name ss) := by
  obtain ⟨d, T, rfl, hT, hz, k⟩ := h
  show u_is_name { nx := _, rt := retK Q 1, ex := _ } [.fz d, .un]
  unfold u_is_name
  refine h_seq (h_ifS (h_genT (!isStr d || !lenOk d) (fun R hR => ?_) ?_))
  · walk_at "go"
    refine h_isi (T := T) rfl hT (kit_str hT) ?_
    walk_at "go"
    cases d with
    | str z =>
      have hz := hz z rfl
      refine iteNT ?_
      walk_at "go"
      refine iteX (fun h => ?_) (fun h => ?_) <;> walk_at "go" <;> simpa [isStr, lenOk, h] using hR
    | _ => exact hR
  · cases d with
    | str z =>
      have hz := hz z rfl
      by_cases hl : 1 ≤ z.length ∧ z.length ≤ 8
      · rw [show (!isStr (.str z) || !lenOk (.str z)) = false by simp [isStr, lenOk]; omega]
        walk_at "go"
        refine ⟨by simp [Str.length] at hz ⊢; omega, ?_⟩
        refine lc_map (xs := z.cps.toList) (emb := fun c => D.str ⟨#[c]⟩) (fun c => some (.bl (decide (c ∈ LET.cps.toList)))) rfl rfl (fun c hc P N hP _ => ?_) ?_
        · walk_at "go"
          exact hP _ rfl
        · walk_at "go"
          refine h_all (bs := z.cps.toList.map fun c => decide (c ∈ LET.cps.toList)) (by simp [ctP, List.filterMap_eq_map', Function.comp]) ?_
          walk_at "go"
          have e : nameD (.str z) = ((z.cps.toList.map fun c => decide (c ∈ LET.cps.toList)).all id) := by
            show isName z = _
            unfold isName
            rw [decide_eq_true hl.1, decide_eq_true hl.2, List.all_map]; rfl
          rw [← e]; exact k
      · rw [show (!isStr (.str z) || !lenOk (.str z)) = true by simp [isStr, lenOk]; omega]
        walk_at "go"
        have e : nameD (.str z) = false := by
          show isName z = false
          unfold isName
          simp only [Bool.and_eq_false_iff, decide_eq_false_iff_not]
          left
          omega
        rw [← e]; exact k
    | _ =>
      rw [show (!isStr _ || _) = true from rfl]
      walk_at "go"
      exact k
end
section
open PySem L2 PySem.Spec PyProof.Rows
def DpM (K : PySem.W.Frag) (H : Hp) : List (Key × V) → List (Key × PyData) → Prop := Paired fun (p : Key × V) (q : Key × PyData) => p.1 = q.1 ∧ Dp K H p.2 q.2 ∧ SeqAt.shaped q.2 = true
theorem DpM.val {K : PySem.W.Frag} {H : Hp} {kvs : List (Key × V)} {kps : List (Key × PyData)} (h : DpM K H kvs kps) (k : Key) :
    (valV kvs k = none ∧ (kps.find? fun kv => decide (kv.1 = k)).map (·.2) = none) ∨ ∃ v d, valV kvs k = some v ∧ (kps.find? fun kv => decide (kv.1 = k)).map (·.2) = some d ∧ Dp K H v d ∧ SeqAt.shaped d = true := by
  unfold valV
  unfold DpM at h
  induction h with
  | nil => exact .inl ⟨rfl, rfl⟩
  | @cons p q ps qs a t ih =>
    obtain ⟨e, r, z⟩ := a
    rw [List.find?_cons, List.find?_cons, ← e]
    by_cases hk : p.1 = k
    · rw [decide_eq_true hk]; exact .inr ⟨_, _, rfl, rfl, r, z⟩
    · rw [decide_eq_false hk]; exact ih
section
variable {C : Ctx}
end
end
section
open PySem L2 PySem.Spec PyProof.Rows
end
section
open PySem L2 PySem.Spec PyProof.Rows
end
end WK
/-! P72: generator defs by data; list(f(..)) of one. -/
namespace WK
open PySem L2 PySem.Spec PyProof.Rows
open LamX (Tabs)
/-- what is wanted behind a generator's statement; ahead of all: the data that are out -/
structure UGEnds where
  nx : List D → List Sl → Prop
  rt : List D → Pv → List Sl → Prop := fun _ _ _ => False
  bk : List D → List Sl → Prop := fun _ _ => False
  ct : List D → List Sl → Prop := fun _ _ => False
  ex : UX := fun _ _ => False
  /-- all that will be handed out, where it is known (a walk item by item) -/
  fin : Option (List D) := none
abbrev UGn := UGEnds → List D → List Sl → Prop
def UGEnds.at (E : UGEnds) (ds : List D) : UEnds := { nx := E.nx ds, rt := E.rt ds, bk := E.bk ds, ct := E.ct ds, ex := E.ex }
structure GER (C : Ctx) (W : WX) (σ : L2.St) (δ : List Sl) (H G : Hp) (E : GEnds) (E' : UGEnds) : Prop where
  nx : ∀ ys ds σ' δ' H' G', SR C σ' δ' H' G' → Stp σ δ H G σ' δ' H' G' → RpL C.K G' ys ds → E'.nx ds δ' → E.nx ys σ' H'
  rt : ∀ ys ds v p σ' δ' H' G', SR C σ' δ' H' G' → Stp σ δ H G σ' δ' H' G' → RpL C.K G' ys ds → PvR C σ' δ' H H' G' v p → E'.rt ds p δ' → E.rt ys v H'
  bk : ∀ ys ds σ' δ' H' G', SR C σ' δ' H' G' → Stp σ δ H G σ' δ' H' G' → RpL C.K G' ys ds → E'.bk ds δ' → E.bk ys σ' H'
  ct : ∀ ys ds σ' δ' H' G', SR C σ' δ' H' G' → Stp σ δ H G σ' δ' H' G' → RpL C.K G' ys ds → E'.ct ds δ' → E.ct ys σ' H'
  ex : ∀ x cls d σ' δ' H' G', SR C σ' δ' H' G' → Stp σ δ H G σ' δ' H' G' → XR C.K H' G' x cls d → E'.ex x δ' → W cls d σ' H'
def uGP (u : US) : UGn := fun E ds δ => u (E.at ds) δ
def uGSeq (u w : UGn) : UGn := fun E ds δ => u { E with nx := fun ds' δ' => w E ds' δ' } ds δ
def uGIf (c : UT) (u w : UGn) : UGn := fun E ds δ => c δ (fun b δ1 => if b = true then u E ds δ1 else w E ds δ1) E.ex
def UGEnds.loop (E : UGEnds) (o : Option Nat) (N : List D → List Sl → Prop) : UGEnds := { nx := N, ct := N, bk := fun ds δ => E.nx ds (unlkS o δ), rt := fun ds p δ => E.rt ds p (unlkS o δ), ex := fun x δ => E.ex x (unlkS o δ), fin := E.fin }
def ForG (es : List D) (o : Option Nat) (g : UG) (b : UGn) (E : UGEnds) (ds : List D) (δ : List Sl) : Prop := ∃ Inv : Nat → List D → List Sl → Prop, Inv 0 ds (lockS o δ) ∧
  (∀ (n : Nat) e ds δ, es[n]? = some e → Inv n ds δ → g (.fz e) δ fun δ2 => b (E.loop o (Inv (n + 1))) ds δ2) ∧ ∀ ds δ, Inv es.length ds δ → E.nx ds (unlkS o δ)
def noLk (δ : List Sl) : Bool := δ.all fun s => match s with | .lk _ _ => false | _ => true
def uGFor (ui : UI) (g : UG) (b : UGn) : UGn := fun E ds δ => ui δ (fun es o δ1 => (E.fin = none ∨ (o = none ∧ noLk δ1 = true)) ∧ ForG es o g b E ds δ1) E.ex
section
variable {C : Ctx} {W : WX} {σ σ' : L2.St} {δ δ' : List Sl} {H H' G G' : Hp} {E : GEnds} {E' : UGEnds} {t s : TGn} {u w : UGn}
theorem GER.step (e : GER C W σ δ H G E E') (T : Stp σ δ H G σ' δ' H' G') : GER C W σ' δ' H' G' E E' :=
  ⟨fun ys ds σ2 δ2 H2 G2 S2 T2 r q => e.nx ys ds σ2 δ2 H2 G2 S2 (T.trans T2) r q, fun ys ds v p σ2 δ2 H2 G2 S2 T2 r rp q => e.rt ys ds v p σ2 δ2 H2 G2 S2 (T.trans T2) r (rp.start fun a => T.nn) q,
   fun ys ds σ2 δ2 H2 G2 S2 T2 r q => e.bk ys ds σ2 δ2 H2 G2 S2 (T.trans T2) r q, fun ys ds σ2 δ2 H2 G2 S2 T2 r q => e.ct ys ds σ2 δ2 H2 G2 S2 (T.trans T2) r q,
   fun x cls d σ2 δ2 H2 G2 S2 T2 r q => e.ex x cls d σ2 δ2 H2 G2 S2 (T.trans T2) r q⟩
theorem GER.xc (e : GER C W σ δ H G E E') : XC C W σ δ H G E'.ex := fun x δ' H' G' cls d S T r q => e.ex x cls d σ δ' H' G' S T r q
end
/-! ### the promise of a generator def -/
abbrev UGP := List Sl → (List D → List Sl → Prop) → Prop
section
variable {K : PySem.W.Frag} {T : List (Addr × Str)} {H G : Hp} {vs : List V} {ss : List Sl} {N : List Str} {U : UGP}
end
/-- a generator def that is called by its name -/
structure GCal (P : Program) (w : World) (K : PySem.W.Frag) (mg : Str → Option Value) (base : Heap) (k : Nat) (x : Str) (ps : List Str) (sp : SpG) : Prop where
  fn : ∃ fd, GFn P w K mg base k (He.ga K x) fd ps sp ∧ Binds K fd ps []
  gl : mg x = some (.ref (He.ga K x))
  kp : PySem.W.keepIn K (.ref (He.ga K x)) = true
structure GMCal (P : Program) (w : World) (K : PySem.W.Frag) (mg : Str → Option Value) (base : Heap) (k : Nat) (c m : Str) (ps : List Str) (sp : SpG) : Prop where
  fn : ∃ fd, GFn P w K mg base k (He.ma K (He.ga K c) m) fd ps sp ∧ Binds K fd ps []
  mt : Meth K (He.ga K c) m (He.ma K (He.ga K c) m)
section
variable {P : Program} {w : World} {K : PySem.W.Frag} {mg : Str → Option Value} {base : Heap} {k : Nat} {x qual : Str} {params : Arguments} {body : List Stmt} {scope : Scope} {dvs : List V} {kws : List (Str × V)} {f : Addr} {fd : FuncData} {N ps : List Str} {sp : SpG}
end
/-! ### list(f(..)) -/
section
variable {X : Cx} {k : Nat} {x c m nm : Str} {ps : List Str} {sp : SpG} {p q pos pos' apos : Pos} {e o : Expr} {es : List Expr} {ta : TE} {t : TA} {W : WX}
end
def uListG (U : UGP) (us : UA) : UE := fun δ Q X => us δ (fun ps δ1 => ∃ ss, passLs δ1 ps = some ss ∧ okAts δ1 ps ∧ U ss (fun ds ss' => Q (.tm (.lst ds)) (backS δ1 ps ss'))) X
section
variable {C : Ctx} {W : WX}
end
end WK
/-! P83: a generator def's body, walked one item at a time: what sleeps and what wakes. -/
namespace WK
open PySem PySem.Spec PyProof.Rows GenW L2
open LamX (Tabs)
/-! ### a heap's first objects -/
def cutH (n : Nat) (h : Heap) : Heap := ⟨h.objs.extract 0 n, h.life⟩
def cutS (n : Nat) (s : Shared) : Shared := { s with heap := cutH n s.heap }
/-! ### what is fixed through a generator's life -/
structure LP where
  P : Program
  w : World
  K : PySem.W.Frag
  mg : Str → Option Value
  base : Heap
  N : List Str
  qual : Str
  scope : Scope
  f : Addr
  cd : Value
  outer : List Env
  n0 : Nat
  pn : List (Addr × Obj)
  T : List (Addr × Str)
  tot : Nat
  Y : Nat → V → Hp → Prop
def LP.env (L : LP) : Env := envOfC L.qual L.scope L.n0 L.f L.cd
def LP.Z (L : LP) (A : Around) (z : Shared) (H0 : Hp) : Cx where
  prog := L.P
  w := L.w
  K := L.K
  mg := L.mg
  base := L.base
  A := A.deeper L.env
  N := L.N
  s_0 := z
  H_0 := H0
  env := L.env
  outer := L.outer
  stack := L.env :: L.outer
  ex := []
  calm := true
  fn := fun _ => true
  pn := L.pn
  xe := fun _ _ => False
/-- what the waking knows: what is tracked, what is told, what is the generator's own -/
structure GVw where
  H : Hp
  G : Hp
  P : Addr → Prop
def LP.X (L : LP) (A : Around) (sw : Shared) (V : GVw) : Cx := L.Z A (cutS L.n0 sw) V.H
structure LWake (L : LP) (s1 : Shared) (H1 G1 : Hp) (P1 : Addr → Prop) (s2 : Shared) (H2 : Hp) : Prop where
  os : s2.os = s1.os
  bare : AllBare s2.gens
  un : ∀ b o, L.n0 ≤ b → H1 b = none → s1.heap.get? b = some o → s2.heap.get? b = some o ∧ H2 b = none
  tr : ∀ b o, H1 b = some o → NT o → (P1 b ∨ G1 b ≠ none) → H2 b = some o
  tab : Tabs L.T H2
  hok : HOk L.P L.w H2 s2.heap
  bs : ∀ b o, L.base.get? b = some o → s2.heap.get? b = some o ∧ H2 b = none
  sz : L.n0 ≤ s2.heap.objs.size
  funs : (cutH L.n0 s2.heap).FunFrames L.base L.outer
  frf : ∀ b ∈ frs L.outer, H2 b = none
/-- what a yield shows, by the maps -/
structure SusR (T : List (Addr × Str)) (V : GVw) (H1 G1 : Hp) (P1 : Addr → Prop) : Prop where
  fr : ∀ b o, V.H b = some o → NT o → ¬ V.P b → H1 b = some o
  gk : ∀ b o, V.H b = some o → NT o → NTu o → ¬ V.P b → G1 b = V.G b
  gs : Ex V.G G1
  sub : Ex G1 H1
  nt : ∀ a o, G1 a = some o → NT o
  nw : ∀ b, P1 b → V.P b ∨ Nn V.H b
  pg : ∀ b, P1 b → G1 b = none ∧ ∃ o, H1 b = some o ∧ NT o ∧ NTu o
  tab : Tabs T H1
structure FinR (T : List (Addr × Str)) (V : GVw) (H1 : Hp) : Prop where
  fr : ∀ b o, V.H b = some o → NT o → ¬ V.P b → H1 b = some o
  tab : Tabs T H1
/-- .. by the heap -/
structure LOut (L : LP) (sw : Shared) (V : GVw) (s1 : Shared) (H1 : Hp) : Prop where
  os : s1.os = sw.os
  bare : AllBare s1.gens
  nolim : s1.heap.NoLimit
  un : Un (frs L.outer) [] V.H H1 (cutH L.n0 sw.heap) s1.heap
  hok : HOk L.P L.w H1 s1.heap
  pn : ∀ p ∈ L.pn, s1.heap.get? p.1 = some p.2 ∧ H1 p.1 = none
def LEnd (L : LP) (A : Around) : Nat → Shared → GVw → End → Shared → Prop
  | 0, sw, V, e, s1 => match e with
    | .ret r => (r = .ok (.ret .none) ∨ r = .ok .next) ∧ ∃ H1, LOut L sw V s1 H1 ∧ FinR L.T V H1
    | .susp .. => False
  | n + 1, sw, V, e, s1 => match e with
    | .ret _ => False
    | .susp v g l k c p fs => (End.susp v g l k c p fs).quiet = true ∧ ∃ x H1 G1 P1, RelV x v ∧ L.Y (L.tot - (n + 1)) x G1 ∧ LOut L sw V s1 H1 ∧ SusR L.T V H1 G1 P1 ∧
        ∀ s2 H2, LWake L s1 H1 G1 P1 s2 H2 → SG (model L.P L.w) A (LEnd L A n s2 ⟨H2, G1, P1⟩) c (k (.send .none)) fs s2
theorem LEnd.quiet {L : LP} {A : Around} {n : Nat} {sw : Shared} {V : GVw} {e : End} {s1 : Shared} (h : LEnd L A n sw V e s1) : e.quiet = true := by
  cases e with
  | ret r => rfl
  | susp v g l k c p fs =>
    cases n with
    | zero => exact (show False from h).elim
    | succ n => exact h.1
section
variable {L : LP} {A : Around} {ip : List (Addr × Obj)} {σ : L2.St} {sw s1 s2 : Shared} {V : GVw} {H1 G1 H2 : Hp} {P1 : Addr → Prop}
theorem LOut.of (I : Inv (L.X A sw V) ip σ H1 s1) : LOut L sw V s1 H1 :=
  ⟨I.os, I.bare, I.nolimit, I.base, I.hok, fun p hp => let z := I.pin p (List.mem_append_left _ hp); ⟨z.1, z.2.1⟩⟩
end
/-! ### the judgements -/
structure LEnds where
  nx : Nat → GVw → L2.St → Hp → Prop
  rt : Nat → GVw → VK
  bk : Nat → GVw → L2.St → Hp → Prop := fun _ _ _ _ => False
  ct : Nat → GVw → L2.St → Hp → Prop := fun _ _ _ _ => False
abbrev TGL := LEnds → Nat → GVw → L2.St → Hp → Prop
def LEnds.at (D : LEnds) (n : Nat) (V : GVw) : Ends := { nx := D.nx n V, rt := D.rt n V, bk := D.bk n V, ct := D.ct n V }
/-- where the generator's code stands -/
structure LCd (L : LP) (A : Around) (ip : List (Addr × Obj)) (c : Code) (fs : List Frame) (gd : Bool → Bool) : Prop where
  ip : ∀ p ∈ L.pn ++ ip, L.n0 ≤ p.1
  over : A.over c fs = A.deeper L.env
  split : splitAtGen fs = none
  guard : fs.any Frame.guarded = false
  gd : gd false = false
abbrev LSP (L : LP) (A : Around) (sw : Shared) (V : GVw) (ip : List (Addr × Obj)) (D : LEnds) (n : Nat) (f : Flow) (s : Shared) : Prop := SP (L.X A sw V) ip (D.at n V) f s
/-- what follows -/
def LK (L : LP) (A : Around) (ip : List (Addr × Obj)) (c : Code) (fs : List Frame) (K : Flow → Sem PySem.Fin) (D : LEnds) : Prop :=
  ∀ (n : Nat) (sw : Shared) (V : GVw) (s : Shared) (f : Flow), L.n0 ≤ sw.heap.objs.size → LSP L A sw V ip D n f s → SG (model L.P L.w) A (LEnd L A n sw V) c (K f) fs s
structure GLS (L : LP) (A : Around) (st : Stmt) (t : TGL) : Prop where
  run : ∀ (ip : List (Addr × Obj)) (n : Nat) (sw : Shared) (V : GVw) (c : Code) (fs : List Frame) (K : Flow → Sem PySem.Fin) (J : Value → Sem PySem.Fin) (gd : Bool → Bool) (lv : List Value → List Value) (s : Shared) (σ : L2.St) (H : Hp) (D : LEnds),
    LCd L A ip c fs gd → LK L A ip c fs K D → L.n0 ≤ sw.heap.objs.size → Inv (L.X A sw V) ip σ H s → t D n V σ H → SG (model L.P L.w) A (LEnd L A n sw V) c ((exec st L.env).wrap K J gd lv) fs s
structure GLSs (L : LP) (A : Around) (st : List Stmt) (t : TGL) : Prop where
  run : ∀ (ip : List (Addr × Obj)) (n : Nat) (sw : Shared) (V : GVw) (c : Code) (fs : List Frame) (K : Flow → Sem PySem.Fin) (J : Value → Sem PySem.Fin) (gd : Bool → Bool) (lv : List Value → List Value) (s : Shared) (σ : L2.St) (H : Hp) (D : LEnds),
    LCd L A ip c fs gd → LK L A ip c fs K D → L.n0 ≤ sw.heap.objs.size → Inv (L.X A sw V) ip σ H s → t D n V σ H → SG (model L.P L.w) A (LEnd L A n sw V) c ((execs st L.env).wrap K J gd lv) fs s
section
variable {L : LP} {A : Around} {st : Stmt} {rest : List Stmt}
end
end WK
/-! P84: a for whose suite may hand out, one item at a time; a generator def's promise. -/
namespace WK
open PySem PySem.Spec PyProof.Rows GenW L2
open LamX (Tabs)
section
variable {L : LP} {A : Around} {tg ie : Expr} {b1 : List Stmt} {ps : Pos}
end
/-! ### what a call gives -/
def LMade (P : Program) (w : World) (base : Heap) (k : Nat) (outer : List Env) (T : List (Addr × Str)) (H G : Hp) (s : Shared) (tot : Nat) (Y : Nat → V → Hp → Prop) (u : Value) (s' : Shared) : Prop :=
  ∃ (L : LP) (a : Addr) (g : Nat) (c : Code) (go : Obj), u = .ref a ∧ L.P = P ∧ L.w = w ∧ L.base = base ∧ L.outer = outer ∧ L.n0 = s.heap.objs.size ∧ L.T = T ∧ L.tot = tot ∧ L.Y = Y ∧ L.pn = [(a, go)] ∧ (∀ h : Heap, h.get? a = some go → h.IsGen a g) ∧
    s.heap.objs.size ≤ a ∧ s'.heap.get? a = some go ∧ s'.gens[g]? = some (.fresh c) ∧ s'.os = s.os ∧ AllBare s'.gens ∧ s'.heap.NoLimit ∧ (∀ b o, s.heap.get? b = some o → s'.heap.get? b = some o) ∧
    ∀ A, Room k A → A.frames = some outer → ∀ s2 H2, LWake L s' H G (fun _ => False) s2 H2 → SG (model P w) A (LEnd L A tot s2 ⟨H2, G, fun _ => False⟩) c ((model P w).den c) [] s2
/-- arguments, what is tracked, what is told, how many items, what they are -/
abbrev SpL := List V → Hp → Hp → Nat → (Nat → V → Hp → Prop) → Prop
structure LFn (P : Program) (w : World) (K : PySem.W.Frag) (mg : Str → Option Value) (base : Heap) (k : Nat) (f : Addr) (fd : FuncData) (ps : List Str) (T : List (Addr × Str)) (sp : SpL) : Prop where
  len : ∀ vs H G n Y, sp vs H G n Y → vs.length = ps.length
  run : ∀ (A : Around) (outer : List Env) (s : Shared) (H G : Hp) (args : Args) (us : List Value) (vs : List V) (n : Nat) (Y : Nat → V → Hp → Prop), Room k A → Env0 P w K mg base A outer s H → BindsTo s fd args (ps.zip us) → Vals vs us → sp vs H G n Y →
    codeAny (model P w) A (.call (.ref f) args) (fun r s' => match r with | .ok (.ret u) => LMade P w base k outer T H G s n Y u s' | _ => False) s
end WK
/-! P85: who walks a generator: what is merged while it sleeps, what is given when it wakes. -/
namespace WK
open PySem PySem.Spec PyProof.Rows GenW L2
open LamX (Tabs)
/-! ### an object that is kept as it is -/
def keepO (b : Addr) (o : Obj) : HO := .ext fun h => h.get? b = some o
/-- an object that stands -/
theorem ObjOk.obj {P : Program} {w : World} {H : Hp} {h : Heap} {a : Addr} {o : HO} (x : ObjOk P w H h a o) : ∃ ob, h.get? a = some ob := by
  cases o with
  | lst xs => obtain ⟨_, _, _, _, e⟩ := x; exact ⟨_, e⟩
  | tup xs => obtain ⟨_, _, _, o, e, _⟩ := x; exact ⟨o, e⟩
  | dK kvs => obtain ⟨_, _, _, _, o, _, _, e, _⟩ := x; exact ⟨o, e⟩
  | dT kvs => obtain ⟨_, _, _, _, o, _, _, e, _⟩ := x; exact ⟨o, e⟩
  | set S n => obtain ⟨o, _, _, _, e, _⟩ := x; exact ⟨o, e⟩
  | ins C dx fs => obtain ⟨_, _, _, e, _⟩ := x; exact ⟨_, e⟩
  | own y => exact x
  | xd fs => obtain ⟨_, ⟨o, _, _, e, _⟩, _⟩ := x; exact ⟨o, e⟩
  | rng lo hi => obtain ⟨_, _, _, e⟩ := x; exact ⟨_, e⟩
  | frz ob u => exact ⟨_, x.1⟩
  | tbl ps => exact ⟨_, (show h.get? a = some _ from x)⟩
  | met f y => exact ⟨_, (show h.get? a = some _ from x)⟩
  | ext φ => exact x.2.1
def YO (n0 : Nat) (s : Shared) (H : Hp) (b : Addr) : Prop := n0 ≤ b ∧ H b = none ∧ ∃ o, s.heap.get? b = some o
open Classical in
/-- without these -/
noncomputable def dropA (D : Addr → Prop) (H : Hp) : Hp := fun b => if D b then none else H b
/-! ### the generator sleeps while others run -/
structure Slp (L : LP) (A : Around) (a : Addr) (g : Nat) (n : Nat) (s : Shared) (Hc Gg : Hp) (Pg : Addr → Prop) : Prop where
  ex : ∃ (gs : GenState) (s1 : Shared) (H1 : Hp) (P1 : Addr → Prop), s.gens[g]? = some gs ∧ s.os = s1.os ∧
    (∀ b o, L.n0 ≤ b → H1 b = none → s1.heap.get? b = some o → Hc b = some (keepO b o)) ∧ (∀ b o, H1 b = some o → NT o → (P1 b ∨ Gg b ≠ none) → Hc b = some o) ∧
    Ex Gg H1 ∧ (∀ b o, Gg b = some o → NT o) ∧ (∀ b, P1 b → ∃ o, H1 b = some o ∧ NT o) ∧ (∀ b, Pg b ↔ (P1 b ∨ YO L.n0 s1 H1 b)) ∧
    (∃ go, s1.heap.get? a = some go ∧ H1 a = none ∧ L.n0 ≤ a ∧ ∀ h : Heap, h.get? a = some go → h.IsGen a g) ∧ (∀ p ∈ L.pn, p.1 = a) ∧
    (∃ go, L.pn = [(a, go)]) ∧
    ∀ s2 H2, LWake L s1 H1 Gg P1 s2 H2 → GoS (model L.P L.w) A (LEnd L A n s2 ⟨H2, Gg, P1⟩) gs (.send .none) s2
/-- who walks it -/
structure Own0 (L : LP) (X : Cx) : Prop where
  P : L.P = X.prog
  w : L.w = X.w
  b : L.base = X.base
  o : L.outer = X.stack
  n : X.base.objs.size ≤ L.n0
  fr : ∀ b ∈ frs X.stack, b < L.n0
/-- an item came -/
structure YldR (T : List (Addr × Str)) (P : Addr → Prop) (H G H' G' : Hp) (P' : Addr → Prop) : Prop where
  fr : ∀ b o, H b = some o → NT o → ¬ P b → H' b = some o
  gk : ∀ b o, H b = some o → NT o → NTu o → ¬ P b → G' b = G b
  gs : Ex G G'
  sub : Ex G' H'
  nt : ∀ b o, G' b = some o → NT o
  nw : ∀ b, P' b → P b ∨ Nn H b
  pg : ∀ b, P' b → G' b = none ∧ ∃ o, H' b = some o ∧ NT o ∧ NTu o
  tab : Tabs T H'
section
variable {L : LP} {A : Around} {X : Cx} {pins : List (Addr × Obj)} {σ : L2.St} {s s1 s1' : Shared} {H1 H1' Hc Gg : Hp} {P1 Pg : Addr → Prop}
end
end WK
/-! P86: for x in g(..), any body. -/
namespace WK
open PySem PySem.Spec PyProof.Rows GenW L2
open LamX (Tabs)
section
variable {X : Cx} {pins : List (Addr × Obj)} {σ : L2.St} {H : Hp} {s : Shared}
end
/-- an expression whose value is a generator that has not begun -/
abbrev TGenL := L2.St → Hp → (Hp → Hp → Nat → (Nat → V → Hp → Prop) → Prop) → Prop
structure PGenL (X : Cx) (k : Nat) (T : List (Addr × Str)) (e : Expr) (tg : TGenL) : Prop where
  run : ∀ (pins : List (Addr × Obj)) (s : Shared) (σ : L2.St) (H : Hp) (cont : Hp → Hp → Nat → (Nat → V → Hp → Prop) → Prop), Inv X pins σ H s → tg σ H cont → wpAny (model X.prog X.w) X.A (eval e X.env)
    (fun u s' => ∃ H1 G tot Y sc, Inv X pins σ H1 sc ∧ LMade X.prog X.w X.base k X.stack T H1 G sc tot Y u s' ∧ cont H1 G tot Y) X.xe s
section
variable {X : Cx} {tg iter : Expr} {body : List Stmt} {pos : Pos} {T : List (Addr × Str)} {k : Nat} {tgen : TGenL} {g : TG} {tb : TS}
end
end WK
/-! P73: list(range(n)). -/
namespace WK
open PySem L2 PySem.Spec PyProof.Rows
section
variable {C : Ctx} {W : WX}
end
end WK
/-! P74: steps through a generator's reading. -/
namespace WK
open PySem L2
section
variable {E : UGEnds} {ds : List D} {δ : List Sl} {u w : UGn} {c : UT} {ue : UE} {ui : UI} {g : UG} {us : US}
theorem h_gseq (h : u { E with nx := fun ds' δ' => w E ds' δ' } ds δ) : uGSeq u w E ds δ := h
theorem h_gP (h : us { nx := E.nx ds, rt := E.rt ds, bk := E.bk ds, ct := E.ct ds, ex := E.ex } δ) : uGP us E ds δ := h
theorem h_gIf (h : c δ (fun b δ1 => if b = true then u E ds δ1 else w E ds δ1) E.ex) : uGIf c u w E ds δ := h
theorem h_gFor (h : ui δ (fun es o δ1 => (E.fin = none ∨ (o = none ∧ noLk δ1 = true)) ∧ ForG es o g u E ds δ1) E.ex) : uGFor ui g u E ds δ := h
end
end WK
/-! P87: generator defs by data, walked one item at a time. -/
namespace WK
open PySem L2 PySem.Spec PyProof.Rows GenW
open LamX (Tabs)
/-- a waking's context by data: the generator's own things are none of the start's -/
noncomputable def CV (K : PySem.W.Frag) (T : List (Addr × Str)) (V : GVw) : Ctx := ⟨K, T, dropA V.P V.H, V.G, []⟩
section
variable {K : PySem.W.Frag} {T : List (Addr × Str)} {C : Ctx} {σ : L2.St} {δ : List Sl} {H1 H2 G1 : Hp} {P1 : Addr → Prop}
end
structure GLR (K : PySem.W.Frag) (T : List (Addr × Str)) (l : List D) (Gb : Hp) (E : LEnds) (E' : UGEnds) : Prop where
  nx : ∀ n V σw δw σ δ H G ds, n + ds.length = l.length → (∀ b, V.P b ↔ Ow σw δw b) → SR (CV K T V) σ δ H G → Stp σw δw V.H V.G σ δ H G → Ex Gb G → E'.nx ds δ → E.nx n V σ H
  rt : ∀ n V σw δw σ δ H G Hs ds v p, n + ds.length = l.length → (∀ b, V.P b ↔ Ow σw δw b) → SR (CV K T V) σ δ H G → Stp σw δw V.H V.G σ δ H G → Ex Gb G → PvR (CV K T V) σ δ Hs H G v p → E'.rt ds p δ → E.rt n V v H
  bk : ∀ n V σw δw σ δ H G ds, n + ds.length = l.length → (∀ b, V.P b ↔ Ow σw δw b) → SR (CV K T V) σ δ H G → Stp σw δw V.H V.G σ δ H G → Ex Gb G → E'.bk ds δ → E.bk n V σ H
  ct : ∀ n V σw δw σ δ H G ds, n + ds.length = l.length → (∀ b, V.P b ↔ Ow σw δw b) → SR (CV K T V) σ δ H G → Stp σw δw V.H V.G σ δ H G → Ex Gb G → E'.ct ds δ → E.ct n V σ H
theorem GLR.step {K : PySem.W.Frag} {T : List (Addr × Str)} {l : List D} {Gb Gc : Hp} {E : LEnds} {E' : UGEnds} (e : GLR K T l Gb E E') (x : Ex Gb Gc) : GLR K T l Gc E E' :=
  ⟨fun n V σw δw σ δ H G ds a b c d f g => e.nx n V σw δw σ δ H G ds a b c d (x.trans f) g, fun n V σw δw σ δ H G Hs ds v p a b c d f g h => e.rt n V σw δw σ δ H G Hs ds v p a b c d (x.trans f) g h,
   fun n V σw δw σ δ H G ds a b c d f g => e.bk n V σw δw σ δ H G ds a b c d (x.trans f) g, fun n V σw δw σ δ H G ds a b c d f g => e.ct n V σw δw σ δ H G ds a b c d (x.trans f) g⟩
section
variable {K : PySem.W.Frag} {T : List (Addr × Str)} {l : List D} {t s : TGL} {u w : UGn}
section
variable {G : Hp} {us : List V} {ds : List D} {a : Addr}
end
end
end WK
/-! P88: generator defs' promises for a walk; for x in g(..) by data. -/
namespace WK
open PySem L2 PySem.Spec PyProof.Rows GenW
open LamX (Tabs)
/-! ### rules for the printed derivations -/
section
variable {P : Program} {w : World} {K : PySem.W.Frag} {mg : Str → Option Value} {base : Heap} {N : List Str} {qual : Str} {scope : Scope} {f : Addr} {cd : Value} {A : Around} {outer : List Env} {n0 : Nat} {pn : List (Addr × Obj)} {T : List (Addr × Str)} {tot : Nat} {Y : Nat → V → Hp → Prop} {k : Nat} {st : Stmt} {sts b1 b2 : List Stmt} {e ie tg : Expr} {yp pos ps : Pos}
end
/-! ### the promise -/
abbrev UGL := List Sl → List D → Prop
section
variable {K : PySem.W.Frag} {T : List (Addr × Str)} {H G : Hp} {vs : List V} {ss : List Sl} {N : List Str} {U : UGL} {tot : Nat} {Y : Nat → V → Hp → Prop}
end
section
variable {P : Program} {w : World} {K : PySem.W.Frag} {mg : Str → Option Value} {base : Heap} {k : Nat} {x qual : Str} {params : Arguments} {body : List Stmt} {scope : Scope} {dvs : List V} {kws : List (Str × V)} {f : Addr} {fd : FuncData} {N ps : List Str} {T : List (Addr × Str)} {sp : SpL}
end
/-- a generator def that is called by its name, for a walk -/
structure LCal (P : Program) (w : World) (K : PySem.W.Frag) (mg : Str → Option Value) (base : Heap) (k : Nat) (x : Str) (ps : List Str) (T : List (Addr × Str)) (sp : SpL) : Prop where
  fn : ∃ fd, LFn P w K mg base k (He.ga K x) fd ps T sp ∧ Binds K fd ps []
  gl : mg x = some (.ref (He.ga K x))
  kp : PySem.W.keepIn K (.ref (He.ga K x)) = true
structure LMCal (P : Program) (w : World) (K : PySem.W.Frag) (mg : Str → Option Value) (base : Heap) (k : Nat) (c m : Str) (ps : List Str) (T : List (Addr × Str)) (sp : SpL) : Prop where
  fn : ∃ fd, LFn P w K mg base k (He.ma K (He.ga K c) m) fd ps T sp ∧ Binds K fd ps []
  mt : Meth K (He.ga K c) m (He.ma K (He.ga K c) m)
section
variable {X : Cx} {k : Nat} {T : List (Addr × Str)} {f : Addr} {fd : FuncData} {ps : List Str} {sp : SpL} {x c m : Str} {p pos' apos : Pos} {e o : Expr} {es : List Expr} {ta : TE} {t : TA}
end
/-! ### the transfer -/
def uIGen (U : UGL) (us : UA) : UI := fun δ R X => us δ (fun ps δ1 => ∃ ss ds, passLs δ1 ps = some ss ∧ okAts δ1 ps ∧ (∀ s ∈ ss, ∃ d, s = .fz d) ∧ U ss ds ∧ R ds none δ1) X
section
variable {C : Ctx} {W : WX} {σ σ' σ0 : L2.St} {δ δ' δ0 : List Sl} {H H' G G' Hs H0 G0 Gg Gg' : Hp} {P P' : Addr → Prop}
/-- more is tracked -/
theorem SR.grow (S : SR C σ δ H G) (e : Ex H H') : SR C σ δ H' G := by
  refine ⟨S.sub.trans e, S.nt, S.gq, fun a o h n m => e a o (S.fr a o h n m), fun a m => ?_, S.tab.ext e, S.len, fun i s h => (S.sl i s h).keep (Ex.refl _) fun b _ _ => ⟨fun w hw => e b w hw, fun g => g⟩, S.dj⟩
  obtain ⟨o, ho, n⟩ := S.pl a m
  exact ⟨o, e a o ho, n⟩
theorem Stp.grow (e : Ex H H') : Stp σ δ H G σ δ H' G :=
  ⟨Ex.refl _, fun b o h _ _ => e b o h, fun _ _ _ _ _ _ => rfl, fun _ _ _ _ h => h, fun _ _ _ _ h => h, fun i s h _ => ⟨rfl, s, h, KeepS.refl s⟩, fun b o h n => ⟨o, e b o h, n⟩⟩
/-- what is private to a sleeping generator, in the walker's eyes -/
structure PrivR (C : Ctx) (σ : L2.St) (δ : List Sl) (H0 G : Hp) (P : Addr → Prop) : Prop where
  g : ∀ b, P b → G b = none
  o : ∀ b, P b → ¬ Ow σ δ b
  p : ∀ b, P b → b ∉ C.P
  f : ∀ b, P b → Fr0 C b
  n : ∀ b, P b → Nn H0 b
/-- o.m(): the object must be told -/
def uIGenM (c m : Str) (U : UGL) (ue : UE) : UI := fun δ R X => ue δ (fun p δ1 => ∃ fds ds, p = .fz (.obj c fds) ∧ fds.lookup m = none ∧ U [.fz (.obj c fds)] ds ∧ R ds none δ1) X
end
end WK
/-! P89: f(lambda: .., y): a lambda without parameters handed to a def that calls it in a try, beside told values. -/
namespace WK
open PySem L2 PySem.Spec PyProof.Rows
open LamX (CodeO TabS Tabs ExtN TabB LamS lamEnv lamCx lam_make2 run_ofS)
/-- the def that calls what it got -/
def GivesN (X : Cx) (Ng : List Str) (x : Str) (sg : Scope) (g : Addr) (cdg : Value) (bg : List Stmt) (a : Str) (q : Str) (n : Nat) (TT : List V → (XK → Hp → VK → Prop) → Hp → VK → Prop) : Prop :=
  ∀ (f c' : Addr) (ws : List V) (s : Shared) (H : Hp) (Q : VK) (tl : XK → Hp → VK → Prop), ws.length = n → Room 1 (X.A.deeper (envOfC x sg s.heap.objs.size g cdg)) →
    (∀ (W : WX) (pn : List (Addr × Obj)) (xe : Value → Shared → Prop) (E : L2.St → XK) (p1 p2 : Pos), Takes ((cxOf C8.CX0 X.prog X.w X.K X.mg X.base Ng x sg g cdg X.A X.stack s H C8.E0).tr pn xe) W → (∀ σ' cls d H', E σ' cls d H' → W cls d σ' H') →
      PE ((cxOf C8.CX0 X.prog X.w X.K X.mg X.base Ng x sg g cdg X.A X.stack s H C8.E0).tr pn xe) (.Call (.Name a p1) [] [] p2) (fun σZ HZ Q => σZ[0]? = some (some (.ref f)) ∧ HZ c' = some (CodeO c' q) ∧ tl (E σZ) HZ Q)) →
    H c' = some (CodeO c' q) → TT ws tl H Q →
    ∃ t, PSs (cxOf C8.CX0 X.prog X.w X.K X.mg X.base Ng x sg g cdg X.A X.stack s H C8.E0).nox bg t ∧ t { nx := fun _ H' => Q .non H', rt := Q } (L2.start Ng (.ref f :: ws)) H
def tLamN (T : List (Addr × Str)) (n : Nat) (TT : List V → (XK → Hp → VK → Prop) → Hp → VK → Prop) (ta : TA) (t : XK → TE) : TE := fun σ H Q => Tabs T H ∧ ∀ H1, ExtN H H1 → Tabs T H1 → ta σ H1 fun vs H2 => vs.length = n ∧ KpC H1 H2 ∧ TT vs (fun E H' Q' => t E σ H' Q') H2 Q
section
variable {X : Cx}
/-- x(lambda: body, ..) -/
theorem pe_lamN {T : List (Addr × Str)} {n : Nat} {TT : List V → (XK → Hp → VK → Prop) → Hp → VK → Prop} {x a : Str} {ps : List Str} {g c P : Addr} {k : Nat} {pg : Arguments} {bg : List Stmt} {sg : Scope} {dvs : List V} {kws : List (Str × V)} {fd : FuncData} {Ng : List Str}
    {params : Arguments} {body : Expr} {scope : Scope} {es : List Expr} {ta : TA} {t : XK → TE} {p lpos pos : Pos} (F : FunD X.K x x pg bg sg dvs kws g fd) (hg : Gl X x) (hm : X.mg x = some (.ref g)) (hb : L2.Binds X.K fd (a :: ps) []) (hn : ps.length = n) (Sg : FnScope Ng (a :: ps) sg) (hNg : Ng[0]? = some a) (hva : Vis sg a)
    (hG : ∀ cdv, GivesN X Ng x sg g cdv bg a (X.env.qual ++ "<lambda>") n TT)
    (TB : TabB X.base X.mg c P) (hcode : X.env.code = .ref c) (hmT : (P, X.env.qual ++ "<lambda>") ∈ T) (hu : ∀ p ∈ T, p.1 = P → p.2 = X.env.qual ++ "<lambda>") (hr : Room (k + 3) X.A) (L : LamS X.env.scope scope) (hdef : defaultsOf params X.env = ([], []))
    (hbind : ∀ (q : Str) (cl : List (Str × Addr)) (pm cv ctv : Value), bindArgs (PySem.W.kla_fn "<lambda>" q params body scope cl pm cv ctv) ⟨[], []⟩ = pure [])
    (ha : PA X es ta)
    (hbody : ∀ (A : Around) (outer : List Env) (s : Shared) (H : Hp) (E : XK) (f c' : Addr), Room k (A.deeper (lamEnv X scope s.heap.objs.size f c')) → PE (lamCx X A outer s H E scope f c') body (t E))
    (hst : starEach (.Lambda params body scope lpos :: es) X.env = (false, eval (.Lambda params body scope lpos) X.env) :: starEach es X.env := by rfl) (hpl : (backTo pos (starEach es X.env)).any (·.1) = false := by rfl)
    (hdb : (x == ("__debug__" : Str)) = false := by decide) (hd : (a == ("__debug__" : Str)) = false := by decide) (hcd : (a == ("__classdict__" : Str)) = false := by decide) :
    PE X (.Call (.Name x p) (.Lambda params body scope lpos :: es) [] pos) (tLamN T n TT ta t) := by
  refine ⟨fun pins s σ H Q I h => ?_⟩
  obtain ⟨hT, h⟩ := h
  obtain ⟨oc, od, dV, kV, doc, pm, an, cdv, ct, osl, rfl, lk, hcg, _, _⟩ := F.ex
  refine wpAny_Call_Name_kw (ld_glob I hg hm ?_ hdb)
  refine PySem.W.callWith_K (h₀ := X.base) I.ok.mod.kin F.kp ?_ hst hpl
  show wpAny _ _ (spliced ((false, eval (.Lambda params body scope lpos) X.env) :: backTo pos (starEach es X.env))) _ _ s
  refine Calls.spliced_cons (lam_make2 I TB hcode hmT hu hT hdef (L.has I.ok) fun f c' pm' ctv H1 s' I1 eN T1 hf hfn hfr hco => ?_)
  -- the lambda is pinned while the other values are made
  have hfL : f ≠ X.env.locals := fun z => by
    obtain ⟨m, ⟨oL, es', ep, hoL, hdL, _⟩, _⟩ := id I1.loc
    rw [z, hoL] at hf
    have := congrArg (fun o : Option Obj => o.map (·.data)) hf
    simp only [Option.map_some, Option.some.injEq] at this
    rw [hdL] at this; cases this
  have hfF : f ∉ X.fs := fun z => hfr (by
    rcases I1.ok.stk with e | ⟨e, hf⟩
    · rw [e]; exact z
    · rw [e]; unfold frs; rw [List.filterMap_cons, hf]; exact List.mem_cons_of_mem _ z)
  have I1p := I1.pins_of (pins' := pins ++ [(f, _)]) fun q hq => by
    rcases List.mem_append.mp hq with hq | hq
    · exact I1.pin q (List.mem_append_right _ hq)
    · rw [List.mem_singleton.mp hq]
      exact ⟨hf, hfn, hfL, hfF, fun v z => by cases z⟩
  refine thn (ha.run pos _ s' σ H1 _ I1p (h H1 eN T1)) fun us s2 ⟨vs, H2, I2p, rv, hlen, kc, hTT⟩ => ?_
  have hf2 := I2p.pin (f, _) (List.mem_append_right _ (List.mem_append_right _ (List.mem_singleton.mpr rfl)))
  have I2 : Inv X pins σ H2 s2 := I2p.unpinned
  refine ⟨I2.kIn, ?_⟩
  have rc : codeAny (model X.prog X.w) X.A (.call (.ref g) ⟨.ref f :: us, []⟩) (L2.CR C8.CX0 X.stack X.prog X.w H2 s2 Q C8.E0) s2 := by
    refine run_ofS (k := k + 2) (N := Ng) (ps := a :: ps) (us := .ref f :: us) (vs := .ref f :: vs) lk hcg Sg hr I2.env0 ?_ (.cons rfl rv) (by simp [hlen, hn]) fun hr' => ?_
    · have hl2 : ((.ref f :: us) ++ ([] : List Value)).length = (a :: ps).length := by rw [List.append_nil, List.length_cons, List.length_cons, ← rv.length, hlen, hn]
      have q := hb s2 (.ref f :: us) I2.kIn hl2
      rw [List.append_nil] at q; exact q
    obtain ⟨t', ht', hq'⟩ := hG cdv f c' vs s2 H2 Q (fun E H' Q' => t E σ H' Q') hlen (hr'.mono (by omega)) (fun W pn xe E p1 p2 tk hW => pe_actS (k := k) (i := 0) I2 L hf2.1 hf2.2.1 (fun z => by
      rcases List.mem_cons.mp (I2.stkSub f z) with z | z
      · exact hfL z
      · exact hfF z) (hbind _ _ _ _ _) tk hW (hr'.mono (by omega)) (fun A outer s H E hr2 => hbody A outer s H E f c' hr2) hNg hva hd hcd) (kc c' _ hco) hTT
    exact ⟨t', ht'.nox, hq'⟩
  refine wpAny_call (codeAny_mono rc fun r s3 hq => ?_)
  cases r with
  | error e => exact (show False from hq).elim
  | ok fl =>
    cases fl with
    | ret u => exact I2.after hq
    | next => exact False.elim hq
    | brk => exact False.elim hq
    | cont => exact False.elim hq
end
/-! ### by data -/
def TTaskN (K : PySem.W.Frag) (T : List (Addr × Str)) (rn : V) (exc : List D → Xn → Option D) : List V → (XK → Hp → VK → Prop) → Hp → VK → Prop := fun ws tl H Q =>
  tl (fun cls d H' => ∃ es x G' r, Ex G' H' ∧ (∀ a o, G' a = some o → NT o) ∧ Tabs T H' ∧ XR K H' G' x cls d ∧ RpL K G' ws es ∧ exc es x = some r ∧ ∀ v H3 G3, Post K T [] [] H' G' H3 G3 [] → Rp K G3 v r → Q v H3) H (fun _ H' => Q rn H')
/-- rn: what comes back without an exception -/
def uAskN (n : Nat) (rn : D) (exc : List D → Xn → Option D) (us : UA) (ue : UE) : UE := fun δ Q X => us δ (fun ps δ1 => ∃ es, ps = es.map .fz ∧ es.length = n ∧ ue δ1 (fun _ δ2 => Q (.fz rn) δ2) (fun x δ2 => ∃ r, exc es x = some r ∧ Q (.fz r) δ2)) X
theorem gives_askN {X : Cx} {Ng : List Str} {x a q : Str} {sg : Scope} {g : Addr} {cdg : Value} {h0 : ExceptHandler} {hds : List ExceptHandler} {rest : List Stmt} {p1 p2 p3 p4 : Pos} {T : List (Addr × Str)} {l : List Cla2} {ul : List UCla2} {rn : V} {exc : List D → Xn → Option D} (n m : Nat)
    (hN : Ng.length = n + m + 1) (nd : Ng.Nodup) (cl : ∀ s H, Room 1 (X.A.deeper (envOfC x sg s.heap.objs.size g cdg)) → ClaOk2 (cxOf C8.CX0 X.prog X.w X.K X.mg X.base Ng x sg g cdg X.A X.stack s H C8.E0).nox (h0 :: hds) l)
    (cr : ∀ H0 G0 P0, ClaR2 ⟨X.K, T, H0, G0, P0⟩ l ul)
    (hrest : ∀ s H, PSs (cxOf C8.CX0 X.prog X.w X.K X.mg X.base Ng x sg g cdg X.A X.stack s H C8.E0).nox rest (tRet (tC rn)))
    (hexc : ∀ es e r, es.length = n → exc es e = some r → uManyX (endsA r) ul e (.un :: (es.map .fz ++ List.replicate m .un))) :
    GivesN X Ng x sg g cdg (.Try [.Expr (.Call (.Name a p1) [] [] p2) p3] (h0 :: hds) [] [] p4 :: rest) a q n (TTaskN X.K T rn exc) := by
  intro f c' ws s H Q tl hws hr act hc h
  have hst : (L2.start Ng (V.ref f :: ws))[0]? = some (some (V.ref f)) := by unfold L2.start; rfl
  have hsl : (L2.start Ng (V.ref f :: ws)).length = n + m + 1 := by unfold L2.start; simp; omega
  refine ⟨_, pss_cons (ps_try_many (X := (cxOf C8.CX0 X.prog X.w X.K X.mg X.base Ng x sg g cdg X.A X.stack s H C8.E0).nox) (l := l)
      (tb := fun W D σ H => ∃ Ech : L2.St → XK, (∀ σ' cls d H', Ech σ' cls d H' → W cls d σ' H') ∧ σ[0]? = some (some (.ref f)) ∧ H c' = some (CodeO c' q) ∧ tl (Ech σ) H fun _ H' => D.nx σ H')
      rfl rfl nd LamX.takes0 (fun W pn xe tk _ => ?_) (cl s H hr)) (hrest s H), ?_⟩
  · refine ⟨fun pins s' σ H' D I h' => ?_⟩
    obtain ⟨Ech, hW, h1, h2, h3⟩ := h'
    exact (pss_one (ps_expr (act W pn xe Ech _ _ tk hW))).run pins s' σ H' D I ⟨h1, h2, h3⟩
  · let P : XK := fun cls d H' => ∃ es x G' r, Ex G' H' ∧ (∀ a o, G' a = some o → NT o) ∧ Tabs T H' ∧ XR X.K H' G' x cls d ∧ RpL X.K G' ws es ∧ exc es x = some r ∧ ∀ v H3 G3, Post X.K T [] [] H' G' H3 G3 [] → Rp X.K G3 v r → Q v H3
    have key : ∃ Ech : L2.St → XK, (∀ σ' cls d H', Ech σ' cls d H' → wMany X.K (fun _ _ _ _ => False) { nx := tRet (tC rn) { nx := fun _ H' => Q .non H', rt := Q }, rt := Q } l cls d σ' H') ∧ (L2.start Ng (.ref f :: ws))[0]? = some (some (.ref f)) ∧ H c' = some (CodeO c' q) ∧ tl (Ech (L2.start Ng (.ref f :: ws))) H fun _ H' => Q rn H' := by
      refine ⟨fun σ' cls d H' => σ' = L2.start Ng (.ref f :: ws) ∧ P cls d H', ?_, hst, hc, ?_⟩
      · rintro σ' cls d H' ⟨rfl, es, x, G', r, e1, e2, e3, e4, ew, e5, e6⟩
        have hes : es.length = n := by rw [← ew.length]; exact hws
        let C : Ctx := { K := X.K, T := T, H0 := H', G0 := G', P := [] }
        have noO : ∀ (i : Nat) (t : Sl), (Sl.un :: (es.map Sl.fz ++ List.replicate m .un))[i]? = some t → t.isO = false := fun i t ht => by
          have mm := List.mem_of_getElem? ht
          rcases List.mem_cons.mp mm with e | mm
          · subst e; rfl
          · rcases List.mem_append.mp mm with mm | mm
            · obtain ⟨d, _, rfl⟩ := List.mem_map.mp mm; rfl
            · rw [List.eq_of_mem_replicate mm]; rfl
        have S : SR C (L2.start Ng (V.ref f :: ws)) (.un :: (es.map .fz ++ List.replicate m .un)) H' G' := by
          refine ⟨e1, e2, fun _ _ _ _ _ => rfl, fun _ _ h _ _ => h, fun a ha => (nomatch ha), e3, by rw [hsl]; simp [hes], fun i t ht => ?_, fun i j a t u ht hu h1 h2 => by rw [noO i t ht] at h1; cases h1⟩
          cases i with
          | zero => cases ht; exact True.intro
          | succ i =>
            have ht' : (es.map Sl.fz ++ List.replicate m .un)[i]? = some t := by simpa using ht
            by_cases hi : i < es.length
            · rw [List.getElem?_append_left (by simpa using hi), List.getElem?_map, List.getElem?_eq_getElem hi] at ht'
              cases ht'
              obtain ⟨v, hv, rv⟩ := ew.at (List.getElem?_eq_getElem hi)
              refine ⟨v, ?_, rv⟩
              unfold L2.start
              have hiw : i < ws.length := by rw [hws, ← hes]; exact hi
              rw [List.getElem?_append_left (by simp; omega)]
              simp [hv]
            · rw [List.getElem?_append_right (by simp; omega)] at ht'
              have : t = .un := List.eq_of_mem_replicate (List.mem_of_getElem? ht')
              rw [this]; exact True.intro
        have E : EndsR C (fun _ _ _ _ => False) (L2.start Ng (V.ref f :: ws)) (.un :: (es.map .fz ++ List.replicate m .un)) H' G' { nx := tRet (tC rn) { nx := fun _ H' => Q .non H', rt := Q }, rt := Q } (endsA r) := by
          refine ⟨fun _ _ _ _ _ _ z => z.elim, fun v p σ3 δ3 H3 G3 S3 T3 r3 z => ?_, fun _ _ _ _ _ _ z => z.elim, fun _ _ _ _ _ _ z => z.elim, fun _ _ _ _ _ _ _ _ _ _ z => z.elim⟩
          have : p = .fz r := z
          subst this
          refine e6 v H3 G3 ⟨T3.gs, S3.sub, S3.nt, S3.tab, fun b o h n _ => S3.fr b o h n (fun z => nomatch z), fun b o h n q => S3.gq b o h n q, fun i d a h => by cases i <;> cases h⟩ r3
        exact many_ok (cr H' G' []) E x cls d _ _ H' G' S .refl e4 (hexc es x r hes e5)
      · have e : (fun (cls : Value) (d : Option Addr) (H' : Hp) => L2.start Ng (V.ref f :: ws) = L2.start Ng (V.ref f :: ws) ∧ P cls d H') = P := funext fun cls => funext fun d => funext fun H' => propext ⟨fun h => h.2, fun h => ⟨rfl, h⟩⟩
        show tl (fun (cls : Value) (d : Option Addr) (H' : Hp) => L2.start Ng (V.ref f :: ws) = L2.start Ng (V.ref f :: ws) ∧ P cls d H') H _
        rw [e]; exact h
    exact key
/-- a def that asks a lambda: all that a caller wants to know -/
structure AskF (P : Program) (w : World) (K : PySem.W.Frag) (mg : Str → Option Value) (base : Heap) (T : List (Addr × Str)) (x : Str) (n : Nat) (rn : V) (exc : List D → Xn → Option D) : Prop where
  ex : ∃ (a : Str) (ps : List Str) (g : Addr) (pg : Arguments) (bg : List Stmt) (sg : Scope) (fd : FuncData) (Ng : List Str), FunD K x x pg bg sg [] [] g fd ∧ mg x = some (.ref g) ∧ L2.Binds K fd (a :: ps) [] ∧ ps.length = n ∧ FnScope Ng (a :: ps) sg ∧ Ng[0]? = some a ∧ Vis sg a ∧
    ((a == ("__debug__" : Str)) = false ∧ (a == ("__classdict__" : Str)) = false) ∧ ∀ (X : Cx) (cdv : Value) (q : Str), X.prog = P → X.w = w → X.K = K → X.mg = mg → X.base = base → GivesN X Ng x sg g cdv bg a q n (TTaskN K T rn exc)
theorem pe_ask {X : Cx} {T : List (Addr × Str)} {x : Str} {n : Nat} {rn : V} {exc : List D → Xn → Option D} {c P : Addr} {k : Nat} {params : Arguments} {body : Expr} {scope : Scope} {es : List Expr} {ta : TA} {t : XK → TE} {p lpos pos : Pos} (A : AskF X.prog X.w X.K X.mg X.base T x n rn exc) (hg : Gl X x)
    (TB : TabB X.base X.mg c P) (hcode : X.env.code = .ref c) (hmT : (P, X.env.qual ++ "<lambda>") ∈ T) (hu : ∀ p ∈ T, p.1 = P → p.2 = X.env.qual ++ "<lambda>") (hr : Room (k + 3) X.A) (L : LamS X.env.scope scope)
    (ha : PA X es ta)
    (hbody : ∀ (A : Around) (outer : List Env) (s : Shared) (H : Hp) (E : XK) (f c' : Addr), Room k (A.deeper (lamEnv X scope s.heap.objs.size f c')) → PE (lamCx X A outer s H E scope f c') body (t E))
    (hdef : defaultsOf params X.env = ([], []) := by rfl) (hbind : ∀ (q : Str) (cl : List (Str × Addr)) (pm cv ctv : Value), bindArgs (PySem.W.kla_fn "<lambda>" q params body scope cl pm cv ctv) ⟨[], []⟩ = pure [] := by intros; rfl)
    (hst : starEach (.Lambda params body scope lpos :: es) X.env = (false, eval (.Lambda params body scope lpos) X.env) :: starEach es X.env := by rfl) (hpl : (backTo pos (starEach es X.env)).any (·.1) = false := by rfl)
    (hdb : (x == ("__debug__" : Str)) = false := by decide) :
    PE X (.Call (.Name x p) (.Lambda params body scope lpos :: es) [] pos) (tLamN T n (TTaskN X.K T rn exc) ta t) := by
  obtain ⟨a, ps, g, pg, bg, sg, fd, Ng, F, hm, hb, hn, Sg, hNg, hva, ⟨hd, hcd⟩, hG⟩ := A.ex
  exact pe_lamN F hg hm hb hn Sg hNg hva (fun cdv => hG X cdv _ rfl rfl rfl rfl rfl) TB hcode hmT hu hr L hdef hbind ha hbody hst hpl hdb hd hcd
/-! ### the transfer -/
section
variable {C : Ctx} {W : WX}
theorem pasR_fz {K : PySem.W.Frag} {σ : L2.St} {G : Hp} : ∀ {vs : List V} {es : List D}, PasR K σ G vs (es.map .fz) → RpL K G vs es
  | [], [], _ => .nil
  | v :: vs, e :: es, h => by
    cases h with
    | cons r t => exact .cons r (pasR_fz t)
  | [], _ :: _, h => by cases h
  | _ :: _, [], h => by cases h
theorem tr_askN {n : Nat} {rn : V} {rd : D} {exc : List D → Xn → Option D} {ts : TA} {us : UA} {t : XK → TE} {ue : UE} (hrn : ∀ G, Rp C.K G rn rd) (hs : TrA C W ts us)
    (hb : ∀ EX : XK, TrE C (fun cls d _ H' => EX cls d H') (t EX) ue) : TrE C W (tLamN C.T n (TTaskN C.K C.T rn exc) ts t) (uAskN n rd exc us ue) := fun σ δ H G Q Q' X' S hu k kx => by
  refine ⟨S.tab, fun H1 e1 t1 => ?_⟩
  have S1 := S.extN e1 t1
  have T1 : Stp σ δ H G σ δ H1 G := Stp.extN e1
  refine hs σ δ H1 G _ _ X' S1 hu (fun vs ps δ2 H2 G2 S2 T2 rs ⟨es, eps, hes, hu2⟩ => ?_) (kx.step T1)
  refine ⟨by rw [rs.length, eps, List.length_map]; exact hes, T2.kpc S1, ?_⟩
  have T12 := T1.trans T2
  subst eps
  have rw' : RpL C.K G2 vs es := pasR_fz rs
  refine hb _ σ δ2 H2 G2 _ _ _ S2 hu2 (fun v p δ3 H3 G3 S3 T3 _ q => ?_) (fun x δ3 H3 G3 cls d S3 T3 rx q => ?_)
  · exact k rn (.fz rd) δ3 H3 G3 S3 (T12.trans T3) (hrn _) q
  · obtain ⟨r, e, q⟩ := q
    refine ⟨es, x, G3, r, S3.sub, S3.nt, S3.tab, rx, RpL.mono T3.gs rw', e, fun v H4 G4 P r4 => ?_⟩
    obtain ⟨S4, T4⟩ := back_ok (ps := []) (vs := []) (ss := []) S3 .nil rfl (by unfold okAts; rfl) P
    exact k v (.fz r) δ3 H4 G4 S4 ((T12.trans T3).trans T4) r4 q
theorem h_askN {n : Nat} {rn : D} {exc : List D → Xn → Option D} {us : UA} {ue : UE} {δ : List Sl} {Q : UK} {X : UX} (h : us δ (fun ps δ1 => ∃ es, ps = es.map .fz ∧ es.length = n ∧ ue δ1 (fun _ δ2 => Q (.fz rn) δ2) (fun x δ2 => ∃ r, exc es x = some r ∧ Q (.fz r) δ2)) X) : uAskN n rn exc us ue δ Q X := h
end
end WK
/-! len(set(whole numbers)); list.insert, list.reverse. -/
namespace WK
open PySem L2 PySem.Spec PyProof.Rows
section
variable {X : L2.Cx} {a : Expr} {ta : TE} {p p2 q pos : Pos}
end
section
variable {C : Ctx} {W : WX} {te : TE} {ue : UE} {δ : List Sl} {Q : UK} {X : UX}
end
section
variable {C : Ctx} {W : WX} {te : TE} {ue : UE} {δ : List Sl} {Q : UK} {X : UX} {K : PySem.W.Frag} {G : Hp}
end
end WK
/-! Dict comprehensions whose keys are tuples. -/
namespace WK
open PySem L2 PySem.Spec PyProof.Rows
section
variable {X : L2.Cx} {pins : List (Addr × Obj)} {σ : L2.St} {H : Hp} {s : Shared}
end
end WK
/-! Dict comprehensions with tuple keys, by data; told pairs that may be keys. -/
namespace WK
open PySem L2 PySem.Spec PyProof.Rows
section
variable {C : Ctx} {W : WX} {ns : List Nat} {σ : L2.St}
end
section
variable {δ : List Sl} {Q : UK} {X : UX} {ns : List Nat}
theorem valS_iff {κ : Type} [DecidableEq κ] (l : List (κ × D)) (k : κ) : (valD l k).isSome = true ↔ k ∈ l.map (·.1) := by
  unfold valD
  rw [Option.isSome_map, List.find?_isSome, List.mem_map]
  constructor
  · rintro ⟨p, hp, e⟩; exact ⟨p, hp, of_decide_eq_true e⟩
  · rintro ⟨p, hp, e⟩; exact ⟨p, hp, decide_eq_true e⟩
end
/-! ### pairs that may be keys, read as tuples -/
section
variable {C : Ctx} {W : WX} {K : PySem.W.Frag} {G : Hp} {te : TE} {ue : UE} {δ : List Sl} {Q : UK} {X : UX}
end
end WK
/-! {x: [] for x in texts}: a dict of new lists that stay one's own. -/
namespace WK
open PySem L2 PySem.Spec PyProof.Rows
section
variable {C : Ctx} {W : WX} {σ : L2.St} {δ : List Sl} {H G : Hp} {ν : Nu}
end
end WK
/-! list.remove of a text. -/
namespace WK
open PySem L2 PySem.Spec PyProof.Rows
inductive TxtAre : List Value → List Str → Prop
  | nil : TxtAre [] []
  | cons (x : Str) (t : Tok) {us : List Value} {xs : List Str} : TxtAre us xs → TxtAre (.str x t :: us) (x :: xs)
section
variable {X : L2.Cx}
end
section
variable {C : Ctx} {W : WX} {δ : List Sl} {Q : UK} {X : UX}
end
end WK
/-! A list as a test. -/
namespace WK
open PySem L2 PySem.Spec PyProof.Rows
section
variable {C : Ctx} {W : WX} {te : TE} {ue : UE} {δ : List Sl}
end
end WK
/-! P90: steps: walks over generators, thunks. -/
namespace WK
open PySem L2
section
variable {U : UGL} {us : UA} {ue : UE} {δ : List Sl} {R : List D → Option Nat → List Sl → Prop} {X : UX} {ps : List Pv} {ss : List Sl} {c m : Str}
theorem h_iGen (h : us δ (fun ps δ1 => ∃ ss ds, passLs δ1 ps = some ss ∧ okAts δ1 ps ∧ (∀ s ∈ ss, ∃ d, s = .fz d) ∧ U ss ds ∧ R ds none δ1) X) : uIGen U us δ R X := h
theorem h_iGenM (h : ue δ (fun p δ1 => ∃ fds ds, p = .fz (.obj c fds) ∧ fds.lookup m = none ∧ U [.fz (.obj c fds)] ds ∧ R ds none δ1) X) : uIGenM c m U ue δ R X := h
end
section
variable {U : UGP} {us : UA} {δ : List Sl} {Q : UK} {X : UX} {ps : List Pv} {ss : List Sl}
theorem h_listG (h : us δ (fun ps δ1 => ∃ ss, passLs δ1 ps = some ss ∧ okAts δ1 ps ∧ U ss (fun ds ss' => Q (.tm (.lst ds)) (backS δ1 ps ss'))) X) : uListG U us δ Q X := h
end
end WK
/-! P91: enumerate in a generator that is walked one item at a time. -/
namespace WK
open PySem L2
section
variable {K : PySem.W.Frag} {T : List (Addr × Str)} {G : Hp} {us : List V} {ds : List D} {a : Addr}
end
section
variable {K : PySem.W.Frag} {T : List (Addr × Str)} {ts : TA} {us : UA}
end
end WK
/-! P92: [e for x in g(..) if c], machine side. -/
namespace WK
open PySem PySem.Spec PyProof.Rows GenW L2
open LamX (Tabs)
section
variable {X : Cx}
end
end WK
/-! P93: [e for x in g(..) if c], as a value and by data. -/
namespace WK
open PySem PySem.Spec PyProof.Rows L2
open LamX (Tabs)
section
variable {X : Cx}
end
section
variable {C : Ctx} {W : WX} {ns : List Nat}
end
end WK
/-! entries that may be odd: plain data of bounded size. -/
namespace WK
open PySem L2
inductive Pl : Nat → D → Prop
  | non (n : Nat) : Pl n .non
  | bl (n : Nat) (b : Bool) : Pl n (.bl b)
  | int (n : Nat) (i : Int) : Pl n (.int i)
  | str (n : Nat) (x : Str) (h : PyData.strOk x = true) (l : x.length ≤ 20 * (n + 1)) : Pl n (.str x)
  | tup (n : Nat) (ds : List D) (h : ∀ d ∈ ds, Pl n d) (l : ds.length ≤ 20 * (n + 1)) : Pl (n + 1) (.tup ds)
  | lst (n : Nat) (ds : List D) (h : ∀ d ∈ ds, Pl n d) (l : ds.length ≤ 20 * (n + 1)) : Pl (n + 1) (.lst ds)
theorem Pl.up {n : Nat} {d : D} (h : Pl n d) : Pl (n + 1) d := by
  induction h with
  | non n => exact .non _
  | bl n b => exact .bl _ b
  | int n i => exact .int _ i
  | str n x h l => exact .str _ x h (by omega)
  | tup n ds h l ih => exact .tup _ ds ih (by omega)
  | lst n ds h l ih => exact .lst _ ds ih (by omega)
theorem Pl.mono {n m : Nat} {d : D} (h : Pl n d) (l : n ≤ m) : Pl m d := by
  induction l with
  | refl => exact h
  | step _ ih => exact ih.up
theorem Pl.ok {n : Nat} {d : D} (h : Pl n d) : Ok n d := by
  induction h with
  | non n => exact .non
  | bl n b => exact .bl
  | int n i => exact .int
  | str n x h l => exact .str h
  | tup n ds h l ih => exact .tup ih
  | lst n ds h l ih => exact .lst ih
theorem Pl.ty {n : Nat} {d : D} (h : Pl n d) : ∃ T, tyD d = some T ∧ (T = "tuple" → ∃ ds, d = .tup ds) := by
  cases h with
  | tup n ds h l => exact ⟨_, rfl, fun _ => ⟨ds, rfl⟩⟩
  | _ => exact ⟨_, rfl, fun e => absurd e (by decide)⟩
def isTup : D → Bool | .tup _ => true | _ => false
def isLst : D → Bool | .lst _ => true | _ => false
theorem kit_tup {d : D} {T : String} (h : tyD d = some T) : kitB T "tuple" = some (isTup d) := by
  cases d <;> simp [tyD] at h <;> subst h <;> first | exact kb_str_tuple | exact kb_int_tuple | exact kb_bool_tuple | exact kb_list_tuple | exact kb_tuple_tuple | exact kb_dict_tuple | exact kb_NoneType_tuple
theorem kit_lst {d : D} {T : String} (h : tyD d = some T) : kitB T "list" = some (isLst d) := by
  cases d <;> simp [tyD] at h <;> subst h <;> first | exact kb_str_list | exact kb_int_list | exact kb_bool_list | exact kb_list_list | exact kb_tuple_list | exact kb_dict_list | exact kb_NoneType_list
theorem Pl.tup_in {n : Nat} {ds : List D} (h : Pl n (.tup ds)) {d : D} (hd : d ∈ ds) : Pl n d := by
  cases h with
  | tup n ds h l => exact (h d hd).up
theorem Pl.len {n : Nat} {ds : List D} (h : Pl n (.tup ds)) : ds.length ≤ 20 * n := by
  cases h with
  | tup n ds h l => exact l
theorem Pl.zlen {n : Nat} {z : Str} (h : Pl n (.str z)) : z.length ≤ 20 * (n + 1) := by
  cases h with
  | str n x h l => exact l
theorem Pl.zok {n : Nat} {z : Str} (h : Pl n (.str z)) : PyData.strOk z = true := by
  cases h with
  | str n x h l => exact h
theorem row_inj : ∀ {a b : Rows}, a.map rowD = b.map rowD → a = b
  | [], [], _ => rfl
  | [], _ :: _, h => by cases h
  | _ :: _, [], h => by cases h
  | (x, y) :: a, (z, w) :: b, h => by
    rw [List.map_cons, List.map_cons] at h
    injection h with h1 h2
    unfold rowD at h1
    injection h1 with h1
    injection h1 with h1 h3
    injection h1 with h1
    injection h3 with h3
    injection h3 with h3
    have h1 : x = z := h1
    have h3 : y = w := h3
    rw [h1, h3, row_inj h2]
/-! ### rows of a river -/
def asRow : D → Option (Str × Str)
  | .tup [.str a, .str b] => if (isName a && isName b) = true then some (a, b) else none
  | _ => none
theorem asRow_eq {d : D} {r : Str × Str} (h : asRow d = some r) : d = rowD r ∧ isName r.1 = true ∧ isName r.2 = true := by
  unfold asRow at h
  split at h
  · split at h
    · rename_i hh
      cases h
      rw [Bool.and_eq_true] at hh
      exact ⟨rfl, hh.1, hh.2⟩
    · cases h
  · cases h
theorem asRow_row {r : Str × Str} (h1 : isName r.1 = true) (h2 : isName r.2 = true) : asRow (rowD r) = some r := by
  show (if (isName r.1 && isName r.2) = true then some (r.1, r.2) else none) = some r
  rw [h1, h2]; rfl
theorem asRow_two {x y : D} (h : (nameD x && nameD y) = false) : asRow (.tup [x, y]) = none := by
  cases x with
  | str a =>
    cases y with
    | str b =>
      show (if (isName a && isName b) = true then some (a, b) else none) = none
      rw [show (isName a && isName b) = false from h]; rfl
    | _ => rfl
  | _ => rfl
/-- rows that are let by themselves -/
structure Pre (rows : Rows) : Prop where
  nm : ∀ r ∈ rows, isName r.1 = true ∧ isName r.2 = true
  nosea : ∀ r ∈ rows, r.1 ≠ "sea"
  nd : (wrs rows).Nodup
theorem Pre.nil : Pre [] := ⟨(fun _ h => by cases h), (fun _ h => by cases h), List.nodup_nil⟩
def okE (rows : Rows) (e : D) : Bool := match asRow e with
  | some r => decide (r.1 ≠ "sea") && !decide (r.1 ∈ wrs rows)
  | none => false
theorem wrs_app (a b : Rows) : wrs (a ++ b) = wrs a ++ wrs b := by unfold wrs; rw [List.map_append]
theorem Pre.snoc {rows : Rows} (P : Pre rows) {e : D} (h : okE rows e = true) : ∃ r, e = rowD r ∧ asRow e = some r ∧ Pre (rows ++ [r]) ∧ r.1 ∉ wrs rows := by
  unfold okE at h
  split at h
  · rename_i r hr
    obtain ⟨e1, n1, n2⟩ := asRow_eq hr
    rw [Bool.and_eq_true, decide_eq_true_eq, Bool.not_eq_true', decide_eq_false_iff_not] at h
    refine ⟨r, e1, hr, ⟨fun q hq => ?_, fun q hq => ?_, ?_⟩, h.2⟩
    · rcases List.mem_append.mp hq with hq | hq
      · exact P.nm q hq
      · rw [List.mem_singleton.mp hq]; exact ⟨n1, n2⟩
    · rcases List.mem_append.mp hq with hq | hq
      · exact P.nosea q hq
      · rw [List.mem_singleton.mp hq]; exact h.1
    · rw [wrs_app, List.nodup_append]
      refine ⟨P.nd, by unfold wrs; simp, fun a ha b hb e2 => ?_⟩
      have : b = r.1 := by unfold wrs at hb; simpa using hb
      rw [e2, this] at ha
      exact h.2 ha
  · cases h
/-- the place of the first entry that is wrong by itself; else the rows -/
def scan (rows : Rows) : List D → Nat → Sum Nat Rows
  | [], _ => .inr rows
  | e :: es, i => match asRow e with
    | some r => if okE rows e = true then scan (rows ++ [r]) es (i + 1) else .inl i
    | none => .inl i
def bad2 (rows : Rows) (r : Str × Str) : Bool := decide (r.2 ≠ "sea") && !decide (r.2 ∈ wrs rows)
def bad3 (rows : Rows) (r : Str × Str) : Bool := !decide (down rows rows.length r.1 = "sea")
def rowsF (rows : Rows) : D := match rows.findIdx? (bad2 rows) with
  | some i => .int (i : Nat)
  | none => match rows.findIdx? (bad3 rows) with
    | some i => .int (i : Nat)
    | none => .non
def rvF (es : List D) : D := if es.length = 0 ∨ 40 < es.length then .int (-1) else match scan [] es 0 with
  | .inl i => .int (i : Nat)
  | .inr rows => rowsF rows
def rvD : D → D | .lst es => rvF es | _ => .int (-1)
/-- the scan step by step -/
theorem scan_go {es : List D} : ∀ (k i : Nat) (rows : Rows), es.length - i = k → i ≤ es.length → es.take i = rows.map rowD → Pre rows →
    (∃ j e, scan rows (es.drop i) i = .inl j ∧ i ≤ j ∧ es[j]? = some e ∧ ∃ r2, es.take j = r2.map rowD ∧ Pre r2 ∧ okE r2 e = false) ∨ (∃ r2, scan rows (es.drop i) i = .inr r2 ∧ es = r2.map rowD ∧ Pre r2)
  | 0, i, rows, hk, hi, ht, P => by
    have e : i = es.length := by omega
    subst e
    rw [List.take_length] at ht
    rw [List.drop_length]
    exact .inr ⟨rows, rfl, ht, P⟩
  | k + 1, i, rows, hk, hi, ht, P => by
    have hl : i < es.length := by omega
    have he : es[i]? = some es[i] := List.getElem?_eq_getElem hl
    rw [List.drop_eq_getElem_cons hl]
    cases hok : okE rows es[i] with
    | true =>
      obtain ⟨r, e1, hr, P2, _⟩ := P.snoc hok
      have hs : scan rows (es[i] :: es.drop (i + 1)) i = scan (rows ++ [r]) (es.drop (i + 1)) (i + 1) := by
        conv => lhs; unfold scan
        rw [hr]
        show (if okE rows es[i] = true then _ else _) = _
        rw [if_pos hok]
      have ht2 : es.take (i + 1) = (rows ++ [r]).map rowD := by
        rw [take_snoc he, ht, List.map_append, e1]; rfl
      rw [hs]
      rcases scan_go k (i + 1) (rows ++ [r]) (by omega) hl ht2 P2 with ⟨j, e, a, b, c⟩ | h
      · exact .inl ⟨j, e, a, by omega, c⟩
      · exact .inr h
    | false =>
      refine .inl ⟨i, es[i], ?_, Nat.le_refl _, he, rows, ht, P, hok⟩
      conv => lhs; unfold scan
      split
      · show (if okE rows es[i] = true then _ else _) = _
        rw [if_neg (by rw [hok]; decide)]
      · rfl
/-- closed rows: what lies below is a weir or the sea -/
def Cl (rows : Rows) : Prop := ∀ r ∈ rows, r.2 = "sea" ∨ r.2 ∈ wrs rows
theorem Pre.low_in {rows : Rows} (c : Cl rows) {w : Str} (hw : w ∈ wrs rows) : low rows w = "sea" ∨ low rows w ∈ wrs rows := c _ (low_row hw)
/-- the fewest steps to the sea -/
def stepsN (rows : Rows) (w : Str) : Nat := ((List.range (rows.length + 1)).find? fun n => decide (down rows n w = "sea")).getD 0
theorem st_some {rows : Rows} {w : Str} {n : Nat} (hn : n ≤ rows.length) (h : down rows n w = "sea") : down rows (stepsN rows w) w = "sea" ∧ stepsN rows w ≤ n := by
  unfold stepsN
  cases hf : (List.range (rows.length + 1)).find? fun n => decide (down rows n w = "sea") with
  | none =>
    rw [List.find?_eq_none] at hf
    exact absurd (decide_eq_true h) (hf n (List.mem_range.mpr (by omega)))
  | some m =>
    rw [List.find?_range_eq_some] at hf
    obtain ⟨h1, _, h3⟩ := hf
    refine ⟨of_decide_eq_true h1, ?_⟩
    show m ≤ n
    rcases Nat.lt_or_ge n m with c | c
    · have := h3 n c
      rw [decide_eq_true h] at this; cases this
    · exact c
theorem low_at {rows : Rows} (nd : (wrs rows).Nodup) {r : Str × Str} (hr : r ∈ rows) : low rows r.1 = r.2 := by
  have hw : r.1 ∈ wrs rows := List.mem_map.mpr ⟨r, hr, rfl⟩
  have h1 := low_row hw
  obtain ⟨i, hi⟩ := List.mem_iff_getElem?.mp h1
  obtain ⟨j, hj⟩ := List.mem_iff_getElem?.mp hr
  have e1 : (wrs rows)[i]? = some r.1 := by unfold wrs; rw [List.getElem?_map, hi]; rfl
  have e2 : (wrs rows)[j]? = some r.1 := by unfold wrs; rw [List.getElem?_map, hj]; rfl
  obtain ⟨a1, b1⟩ := List.getElem?_eq_some_iff.mp e1
  obtain ⟨a2, b2⟩ := List.getElem?_eq_some_iff.mp e2
  have : i = j := (List.getElem_inj nd).mp (b1.trans b2.symm)
  subst this
  rw [hi] at hj
  exact congrArg Prod.snd (Option.some.inj hj)
theorem rgood_of {rows : Rows} (P : Pre rows) (h1 : 1 ≤ rows.length) (h40 : rows.length ≤ 40) (h : rowsF rows = .non) : Good rows := by
  unfold rowsF at h
  split at h
  · cases h
  · rename_i h2
    split at h
    · cases h
    · rename_i h3
      rw [List.findIdx?_eq_none_iff] at h2 h3
      have dn : ∀ r ∈ rows, r.2 = "sea" ∨ r.2 ∈ wrs rows := fun r hr => by
        have := h2 r hr
        unfold bad2 at this
        by_cases c : r.2 = "sea"
        · exact .inl c
        · rw [decide_eq_true c, Bool.true_and, Bool.not_eq_false', decide_eq_true_eq] at this
          exact .inr this
      have en : ∀ r ∈ rows, down rows rows.length r.1 = "sea" := fun r hr => by
        have := h3 r hr
        unfold bad3 at this
        rw [Bool.not_eq_false', decide_eq_true_eq] at this
        exact this
      refine ⟨h1, h40, P.nm, P.nosea, P.nd, dn, fun w => stepsN rows w - 1, fun r hr => ?_⟩
      obtain ⟨s1, s2⟩ := st_some (Nat.le_refl _) (en r hr)
      have hne := P.nosea r hr
      obtain ⟨m, hm⟩ : ∃ m, stepsN rows r.1 = m + 1 := by
        cases c : stepsN rows r.1 with
        | zero => rw [c] at s1; exact absurd s1 hne
        | succ m => exact ⟨m, rfl⟩
      rw [hm] at s1
      unfold down at s1
      rw [if_neg hne, low_at P.nd hr] at s1
      obtain ⟨t1, t2⟩ := st_some (n := m) (by omega) s1
      refine ⟨by show stepsN rows r.1 - 1 < _; omega, fun ne => ?_⟩
      show stepsN rows r.2 - 1 < stepsN rows r.1 - 1
      have : stepsN rows r.2 ≠ 0 := fun z => by
        rw [z] at t1; exact ne t1
      omega
theorem good_non {rows : Rows} (g : Good rows) : rowsF rows = .non := by
  unfold rowsF
  have h2 : rows.findIdx? (bad2 rows) = none := List.findIdx?_eq_none_iff.mpr fun r hr => by
    unfold bad2
    rcases g.dn r hr with e | e
    · rw [e]; rfl
    · rw [decide_eq_true e, Bool.not_true, Bool.and_false]
  have h3 : rows.findIdx? (bad3 rows) = none := List.findIdx?_eq_none_iff.mpr fun r hr => by
    unfold bad3
    rw [decide_eq_true (g.ends (List.mem_map.mpr ⟨r, hr, rfl⟩))]; rfl
  rw [h2]
  show (match rows.findIdx? (bad3 rows) with | some i => D.int (i : Nat) | none => .non) = .non
  rw [h3]
theorem Good.pre {rows : Rows} (g : Good rows) : Pre rows := ⟨g.nm, g.nosea, g.nd⟩
theorem rvF_cases {es : List D} (h1 : 1 ≤ es.length) (h40 : es.length ≤ 40) :
    (∃ (j : Nat) (e : D) (r2 : Rows), rvF es = .int (j : Nat) ∧ es[j]? = some e ∧ es.take j = r2.map rowD ∧ Pre r2 ∧ okE r2 e = false) ∨ (∃ r2 : Rows, rvF es = rowsF r2 ∧ es = r2.map rowD ∧ Pre r2) := by
  have e0 : rvF es = (match scan [] es 0 with | .inl i => .int (i : Nat) | .inr rows => rowsF rows) := by
    unfold rvF
    rw [if_neg (by omega)]
  rcases scan_go (es := es) es.length 0 [] (by omega) (by omega) rfl .nil with ⟨j, e, h, _, hj, r2, a, b, c⟩ | ⟨r2, h, a, b⟩
  · rw [List.drop_zero] at h
    exact .inl ⟨j, e, r2, by rw [e0, h], hj, a, b, c⟩
  · rw [List.drop_zero] at h
    exact .inr ⟨r2, by rw [e0, h], a, b⟩
theorem rv_good {rows : Rows} (g : Good rows) : rvF (rows.map rowD) = .non := by
  rcases rvF_cases (es := rows.map rowD) (by rw [List.length_map]; exact g.pos) (by rw [List.length_map]; exact g.le) with ⟨j, e, r2, h, hj, ht, P, hok⟩ | ⟨r2, h, a, b⟩
  · exfalso
    rw [List.getElem?_map] at hj
    cases hr : rows[j]? with
    | none => rw [hr] at hj; cases hj
    | some r =>
      rw [hr] at hj
      cases hj
      have hm := List.mem_of_getElem? hr
      have er : r2 = rows.take j := by
        rw [← List.map_take] at ht
        exact (row_inj ht).symm
      subst er
      unfold okE at hok
      rw [asRow_row (g.nm r hm).1 (g.nm r hm).2] at hok
      have hn : r.1 ∉ wrs (rows.take j) := fun z => by
        have nd := g.nd
        have hsplit : wrs rows = wrs (rows.take j) ++ wrs (rows.drop j) := by unfold wrs; rw [← List.map_append, List.take_append_drop]
        rw [hsplit, List.nodup_append] at nd
        obtain ⟨hxl, hxe⟩ := List.getElem?_eq_some_iff.mp hr
        have hd : r ∈ rows.drop j := by rw [List.drop_eq_getElem_cons hxl, hxe]; exact List.mem_cons_self
        exact nd.2.2 r.1 z r.1 (List.mem_map.mpr ⟨r, hd, rfl⟩) rfl
      simp only [decide_eq_true (g.nosea r hm), decide_eq_false hn] at hok
      cases hok
  · rw [h, ← row_inj a]
    exact good_non g
end WK
namespace WK
open PySem L2
theorem lowK_len (rows : Rows) : (lowK rows).length = rows.length := by simp [lowK]
theorem wrs_len (rows : Rows) : (wrs rows).length = rows.length := by simp [wrs]
theorem isName_len {z : Str} (h : isName z = true) : z.length ≤ 8 := by
  unfold isName at h
  simp only [Bool.and_eq_true, decide_eq_true_eq] at h
  omega
theorem asRow_ne {ds : List D} (h : ds.length ≠ 2) : asRow (.tup ds) = none := by
  match ds, h with
  | [], _ => rfl
  | [_], _ => unfold asRow; split <;> simp_all
  | [_, _], h => exact absurd rfl h
  | _ :: _ :: _ :: _, _ => unfold asRow; split <;> simp_all
theorem two_of {ds : List D} (h : ds.length = 2) : ∃ x y, ds = [x, y] := by
  match ds, h with
  | [x, y], _ => exact ⟨x, y, rfl⟩
theorem name_str {x : D} (h : nameD x = true) : ∃ a, x = .str a ∧ isName a = true := by
  cases x with
  | str a => exact ⟨a, rfl, h⟩
  | _ => exact absurd h (by simp [nameD])
theorem low_isSome (rows : Rows) (a : Str) : (valD (lowK rows) (.inr a)).isSome = decide (a ∈ wrs rows) := by
  by_cases h : a ∈ wrs rows
  · rw [valD_low h, decide_eq_true h]; rfl
  · rw [valD_lowN h, decide_eq_false h]; rfl
theorem Pl.z9 {n : Nat} {d : D} (h : Pl n d) (hn : n ≤ 100) : ∀ z, d = .str z → z.length ≤ 1000000 := fun z e => by
  subst e
  have := h.zlen
  omega
local macro_rules | `(tactic| walk_at "kb") => `(tactic| first | exact kb_str_str | exact kb_str_int | exact kb_str_bool | exact kb_str_list | exact kb_str_tuple | exact kb_str_dict | exact kb_int_str | exact kb_int_int | exact kb_int_bool | exact kb_int_list | exact kb_int_tuple | exact kb_int_dict | exact kb_bool_str | exact kb_bool_int | exact kb_bool_bool | exact kb_bool_list | exact kb_bool_tuple | exact kb_bool_dict | exact kb_list_str | exact kb_list_int | exact kb_list_bool | exact kb_list_list | exact kb_list_tuple | exact kb_list_dict | exact kb_tuple_str | exact kb_tuple_int | exact kb_tuple_bool | exact kb_tuple_list | exact kb_tuple_tuple | exact kb_tuple_dict | exact kb_dict_str | exact kb_dict_int | exact kb_dict_bool | exact kb_dict_list | exact kb_dict_tuple | exact kb_dict_dict | exact kb_NoneType_str | exact kb_NoneType_int | exact kb_NoneType_bool | exact kb_NoneType_list | exact kb_NoneType_tuple | exact kb_NoneType_dict)
local macro_rules | `(tactic| walk_at "pt") => `(tactic| repeat (first | exact PtR.ow | exact PtR.io | apply PtR.s))
local macro_rules | `(tactic| walk_at "st") => `(tactic| repeat (first | exact StS.z | apply StS.s))
local macro_rules | `(tactic| walk_at "sz") => `(tactic| first | omega | (simp; omega) | simp)
local macro_rules | `(tactic| walk_at "side") => `(tactic| first | assumption | omega | (refine ⟨?_, ?_⟩ <;> omega) | (exact .inl ⟨by omega, by omega⟩) | (exact .inr ⟨by omega, by omega⟩) | (exact ⟨by decide, by decide, by decide⟩) | rfl)
local macro_rules | `(tactic| walk_at "h1") => `(tactic| first
  | with_reducible first
    | refine h_seq ?_ | refine h_asg ?_ | refine h_op ?_ | refine h_c ?_ | refine h_cons ?_ | refine h_nil ?_ | refine h_cb ?_ | refine h_call ?_ | refine h_ret ?_ | refine h_drop ?_ | refine h_next ?_ | refine h_retN ?_
    | refine h_ifS ?_ | refine h_if ?_ | refine h_B ?_ | refine h_bl ?_ | refine h_and ?_ | refine h_or ?_ | refine h_not ?_ | refine h_andV ?_ | refine h_orV ?_ | refine h_notV ?_
    | refine h_un ?_ | refine h_neg ?_ | refine h_I0 ?_ | refine h_addI ?_ | refine h_int ?_ | refine h_abs ?_ | refine h_mx2 ?_ | refine h_mn2 ?_ | refine h_par ?_ | refine h_na1 ?_ | refine h_na2 ?_ | refine h_chain ?_
    | refine h_gseq ?_ | refine h_gFor ?_ | refine h_gP ?_ | refine h_gIf ?_ | refine h_askN ?_ | refine h_iGen ?_ | refine h_iGenM ?_ | refine h_listG ?_ | refine h_for ?_ | refine h_lc ?_ | refine h_dc ?_ | refine h_iseq ?_ | refine h_irng1 ?_ | refine h_irng2 ?_ | refine h_ienum ?_ | refine h_gcons ?_ | refine h_gnil ?_ | refine h_gF ?_ | refine h_gOF ?_ | refine h_gOA ?_ | refine h_gXT ?_ | refine h_gXF ?_
    | refine h_setI ?_ | refine h_sfld ?_ | refine hp_sfld0 ?_ | refine h_raise ?_ | refine h_dnew ?_ | refine h_inS ?_ | refine h_sl ?_ | refine h_noPart ?_ | refine h_part ?_ | refine h_partI ?_ | refine h_meth ?_ | refine h_make ?_ | refine h_fld ?_
    | refine h_tpk ?_ | refine h_setTm ?_ | refine h_tell ?_ | refine h_tpk3 ?_ | refine h_tpk2 ?_ | refine h_dnewT ?_ | refine h_setT ?_ | refine h_fgtT ?_ | refine h_fgt ?_ | refine h_mkx ?_ | refine h_erf ?_ | refine h_lst ?_ | refine h_tup ?_ | refine h_bm ?_ | refine h_bm0 ?_ | refine h_yes ?_ | refine h_stoF ?_ | refine h_stoT ?_ | refine h_stoN ?_ | refine h_stoC ?_ | refine hp_app0 ?_ | refine h_rtF ?_ | refine h_rtT ?_ | refine h_dget2W ?_ | refine iteT ?_ | refine iteF ?_ | refine iteNT ?_ | refine iteNF ?_ | refine h_nest ?_ | refine h_seqN ?_ | refine h_L ?_ | refine h_ifN ?_ | refine h_forN ?_ | refine h_appN ?_ | refine h_iseqM ?_ | refine h_ienumT ?_ | refine h_appT ?_ | refine h_appTQ ?_ | refine h_revL ?_
  | ((with_reducible refine' h_varF ?ev ?_); (case ev => rfl))
  | ((with_reducible refine' h_varO ?ev ?_); (case ev => rfl))
  | ((with_reducible refine' h_varI ?ev ?_); (case ev => rfl))
  | ((with_reducible refine' h_varL ?ev ?_); (case ev => rfl))
  | ((with_reducible refine' hp_gF ?e1 ?e2 ?_); (case e1 => first | exact trivial | exact nk_so _ | exact nk_soO _ | exact nk_soO _); (case e2 => walk_at "st"))
  | ((with_reducible refine' hp_gO ?e1 ?e0 ?e2 ?_); (case e1 => first | exact trivial | exact nk_so _ | exact nk_soO _ | exact nk_soO _); (case e0 => simp only [List.length]; decide); (case e2 => walk_at "st"))
  | ((with_reducible refine' h_I ?ec ?_); (case ec => walk_at "side"))
  | ((with_reducible refine' h_sz0 ?ec ?_); (case ec => walk_at "sz"))
  | ((with_reducible refine' h_ix ?es ?ea ?_); (case es => rfl); (case ea => first | assumption | walk_at "ix" | rfl))
  | ((with_reducible refine' h_len ?es ?ea ?_); (case es => rfl); (case ea => rfl))
  | ((with_reducible refine' h_lenS ?es ?_); (case es => walk_at "sz"))
  | ((with_reducible refine' h_list ?es ?ea ?_); (case es => rfl); (case ea => rfl))
  | ((with_reducible refine' h_tupN ?es ?_); (case es => rfl))
  | ((with_reducible refine' h_fgtK ?es ?_); (case es => rfl))
  | ((with_reducible refine' h_tuple ?es ?_); (case es => first | exact .inl rfl | exact .inr rfl))
  | ((with_reducible refine' h_eqA ?e1 ?e2 ?e3 ?_); (case e1 => rfl); (case e2 => rfl); (case e3 => rfl))
  | ((with_reducible refine' h_neA ?e1 ?e2 ?e3 ?_); (case e1 => rfl); (case e2 => rfl); (case e3 => rfl))
  | ((with_reducible refine' h_inD ?e1 ?e2 ?_); (case e1 => rfl); (case e2 => rfl))
  | ((with_reducible refine' h_notInD ?e1 ?e2 ?_); (case e1 => rfl); (case e2 => rfl))
  | ((with_reducible refine' h_isN ?e1 ?_); (case e1 => rfl))
  | ((with_reducible refine' h_inT ?e1 ?_); (case e1 => rfl))
  | ((with_reducible refine' h_listT ?e1 ?_); (case e1 => rfl))
  | ((with_reducible refine' hp_setT ?e1 ?e2 ?e3 ?_); (case e1 => exact ⟨_, rfl, rfl, rfl⟩); (case e2 => walk_at "sz"); (case e3 => walk_at "pt"))
  | ((with_reducible refine' hp_ext ?e1 ?e2 ?e3 ?_); (case e1 => exact ⟨_, rfl, rfl, rfl⟩); (case e2 => walk_at "sz"); (case e3 => walk_at "pt"))
  | ((with_reducible refine' h_notN ?e1 ?_); (case e1 => rfl))
  | ((with_reducible refine' h_isi ?e1 ?e2 ?e3 ?_); (case e1 => rfl); (case e2 => rfl); (case e3 => walk_at "kb"))
  | ((with_reducible refine' h_addS ?e1 ?_); (case e1 => walk_at "sz"))
  | ((with_reducible refine' h_addL ?e1 ?e2 ?e3 ?_); (case e1 => rfl); (case e2 => rfl); (case e3 => walk_at "sz"))
  | ((with_reducible refine' h_addT ?e1 ?e2 ?e3 ?_); (case e1 => rfl); (case e2 => rfl); (case e3 => walk_at "sz"))
  | ((with_reducible refine' h_slL ?e1 ?_); (case e1 => rfl))
  | ((with_reducible refine' h_slT ?e1 ?_); (case e1 => rfl))
  | ((with_reducible refine' h_slS ?e1 ?_); (case e1 => walk_at "sz"))
  | ((with_reducible refine' h_slX ?e1 ?_); (case e1 => rfl))
  | ((with_reducible refine' h_dictC ?e1 ?_); (case e1 => rfl))
  | ((with_reducible refine' h_fldI ?e1 ?e2 ?_); (case e1 => rfl); (case e2 => walk_at "fl"))
  | ((with_reducible refine' h_ty ?e1 ?e2 ?_); (case e1 => rfl); (case e2 => rfl))
  | ((with_reducible refine' hp_app ?e1 ?e2 ?e3 ?_); (case e1 => exact ⟨_, rfl, rfl, rfl⟩); (case e2 => walk_at "sz"); (case e3 => walk_at "pt"))
  | ((with_reducible refine' hp_stoO ?e1 ?e2 ?_); (case e1 => rfl); (case e2 => walk_at "st"))
  | ((with_reducible refine' h_stoFr ?e1 ?_); (case e1 => rfl))
  | ((with_reducible refine' h_gtup ?e1 ?e2 ?_); (case e1 => rfl); (case e2 => rfl))
  | ((with_reducible refine' h_glst ?e1 ?e2 ?_); (case e1 => rfl); (case e2 => rfl))
  | ((with_reducible refine' hp_setL ?e1 ?e2 ?e3 ?_); (case e1 => exact ⟨_, rfl, rfl, rfl⟩); (case e2 => first | rfl | assumption); (case e3 => walk_at "pt"))
  | ((with_reducible refine' hp_setD ?e0 ?e1 ?e2 ?e3 ?_); (case e0 => rfl); (case e1 => exact ⟨_, rfl, rfl, rfl⟩); (case e2 => walk_at "sz"); (case e3 => walk_at "pt"))
  | ((with_reducible refine' hp_sfld ?e1 ?e2 ?e3 ?e4 ?_); (case e1 => exact ⟨_, rfl, rfl, rfl⟩); (case e2 => simp only [List.length]; decide); (case e3 => walk_at "pf"); (case e4 => walk_at "pt"))
  | ((with_reducible refine' h_iseqN ?e1 ?e2 ?e3 ?_); (case e1 => rfl); (case e2 => rfl); (case e3 => rfl))
  | ((with_reducible refine' h_iseqS ?e1 ?e2 ?e3 ?_); (case e1 => rfl); (case e2 => rfl); (case e3 => rfl))
  | ((with_reducible refine' h_ienumN ?e1 ?e3 ?_); (case e1 => rfl); (case e3 => rfl))
  | ((with_reducible refine' h_ienumS ?e1 ?e3 ?_); (case e1 => rfl); (case e3 => rfl))
  | ((with_reducible refine' h_irng1I ?e1 ?_); (case e1 => (constructor <;> omega)))
  | ((with_reducible refine' h_irng2I ?e1 ?_); (case e1 => (refine ⟨?_, ?_, ?_, ?_⟩ <;> omega)))
  | ((with_reducible refine' h_methI ?e1 ?e2 ?_); (case e1 => rfl); (case e2 => walk_at "fl"))
  | ((with_reducible refine' h_isD ?e1 ?_); (case e1 => rfl))
  | ((with_reducible refine' h_callP ?e1 ?e2 ?_); (case e1 => rfl); (case e2 => rfl))
  | ((with_reducible refine' h_makeP ?e1 ?e2 ?_); (case e1 => rfl); (case e2 => rfl))
  | ((with_reducible refine' h_rtO ?e1 ?_); (case e1 => rfl))
  | ((with_reducible refine' h_iseqMF ?e1 ?_); (case e1 => rfl))
  | ((with_reducible refine' h_iseqMT ?e1 ?_); (case e1 => rfl))
  | ((with_reducible refine' h_ienumTI ?e1 ?_); (case e1 => rfl))
  | ((with_reducible refine' h_appTI ?e1 ?_); (case e1 => walk_at "sz"))
  | ((with_reducible refine' h_rtA ?e1 ?_); (case e1 => rfl))
  | ((with_reducible refine' h_dgetF ?e1 ?e2 ?_); (case e1 => rfl); (case e2 => rfl))
  | ((with_reducible refine' iteK0 ?e1 ?_); (case e1 => rfl))
  | ((with_reducible refine' iteK1 ?e1 ?_); (case e1 => rfl)))
local macro_rules | `(tactic| walk_at "go") => `(tactic| repeat (walk_at "h1"))
local macro_rules | `(tactic| walk_at "bk") => `(tactic| ((try dsimp only); simp only [fzn_fz, fzn_at, fzn_tm, List.map_nil, List.append_nil, List.map_cons, List.cons_append, List.nil_append, back_at, back_af, back_ao, back_fz, back_nil, pt_ow, pt_io, pt_succ]))
local macro_rules | `(tactic| walk_at "g0") => `(tactic| skip)
local macro_rules | `(tactic| walk_at "pf") => `(tactic| rfl)
section
local macro_rules | `(tactic| walk_at "fl") => `(tactic| first | exact rf_weirs _ | exact rf_lower _ | exact rf_courses _ | exact rf_no _ (by decide +kernel) (by decide +kernel) (by decide +kernel) | rfl)
local macro_rules | `(tactic| walk_at "ix") => `(tactic| first | exact valD_low (by assumption) | exact valD_crs (by assumption))
abbrev N_is_wrong_row : List Str := ["entry", "earlier", "weir", "below"]
def u_is_wrong_row : US :=
  (uSeq (uIfS (uOr (uNot (uB (uCB oIsi (uCons (uVar 0) (uCons (uC (.ty "tuple")) uNil))))) (uB (uOp oNe (uCB oLen (uCons (uVar 0) uNil)) (uC (.int 2))))) (uRet (uC (.bl true))) uNext)
  (uSeq (uAsg (uVar 0) (ugTup 2 (ugCons (ugF 2) (ugCons (ugF 3) ugNil))))
  (uSeq (uIfS (uOr (uNot (uB (uCall U_is_name [] (uCons (uVar 2) uNil)))) (uNot (uB (uCall U_is_name [] (uCons (uVar 3) uNil))))) (uRet (uC (.bl true))) uNext)
  (uRet (uOrV (uOp oEq (uVar 2) (uC (.str "sea"))) (uOp oIn (uVar 2) (uVar 1)))))))
def U_is_wrong_row : UP := fun ss Q _ => ∃ (e : D) (rows : Rows) (n : Nat), ss = [.fz e, .io (.dct (lowK rows))] ∧ Pl n e ∧ n ≤ 100 ∧ Q (.fz (.bl (!okE rows e))) ss
theorem len_is_wrong_row {ss : List Sl} {Q : Pv → List Sl → Prop} {X : UX} (h : U_is_wrong_row ss Q X) : ss.length = 2 := by obtain ⟨_, _, _, rfl, _⟩ := h; rfl
theorem pure_is_wrong_row (ss : List Sl) (Q : Pv → List Sl → Prop) (X : UX) (h : U_is_wrong_row ss Q X) : u_is_wrong_row (endsU Q X ss.length) (startU N_is_wrong_row ss) := by
  obtain ⟨e, rows, n, rfl, hp, hn, k⟩ := h
  show u_is_wrong_row { nx := _, rt := retK Q 2, ex := _ } [.fz e, .io (.dct (lowK rows)), .un, .un]
  unfold u_is_wrong_row
  have hin := fun {ds : List D} (h : Pl n (.tup ds)) {d : D} (hd : d ∈ ds) => h.tup_in hd
  cases e with
  | tup ds =>
    walk_at "go"
    refine iteX (fun h => ?_) (fun h => ?_)
    · have hne : ds.length ≠ 2 := fun z => by simp [z] at h
      walk_at "go"
      rw [show okE rows (.tup ds) = false from by unfold okE; rw [asRow_ne hne]] at k
      exact k
    · obtain ⟨x, y, rfl⟩ := two_of (ds := ds) (Int.ofNat.inj (by simpa using h))
      have hx := hin hp (d := x) (by simp)
      have hy := hin hp (d := y) (by simp)
      obtain ⟨Tx, tx, _⟩ := hx.ty
      obtain ⟨Ty, ty, _⟩ := hy.ty
      walk_at "go"
      refine ⟨x, Tx, rfl, tx, hx.z9 hn, ?_⟩
      walk_at "bk"
      walk_at "go"
      cases c1 : nameD x with
      | false =>
        walk_at "go"
        rw [show okE rows (.tup [x, y]) = false from by unfold okE; rw [asRow_two (by rw [c1]; rfl)]] at k
        exact k
      | true =>
        walk_at "go"
        refine ⟨y, Ty, rfl, ty, hy.z9 hn, ?_⟩
        walk_at "bk"
        walk_at "go"
        cases c2 : nameD y with
        | false =>
          walk_at "go"
          rw [show okE rows (.tup [x, y]) = false from by unfold okE; rw [asRow_two (by rw [c1, c2]; rfl)]] at k
          exact k
        | true =>
          obtain ⟨a, rfl, n1⟩ := name_str c1
          obtain ⟨b, rfl, n2⟩ := name_str c2
          have eo : okE rows (.tup [.str a, .str b]) = (decide (a ≠ "sea") && !decide (a ∈ wrs rows)) := by
            unfold okE
            rw [show asRow (.tup [.str a, .str b]) = some (a, b) from asRow_row (r := (a, b)) n1 n2]
          rw [eo] at k
          walk_at "go"
          refine iteX (fun h => ?_) (fun h => ?_)
          · walk_at "go"
            have h' : a = "sea" := of_decide_eq_true h
            rw [h', decide_eq_false (by simp), Bool.false_and, Bool.not_false] at k
            rw [h']
            exact k
          · have h' : a ≠ "sea" := of_decide_eq_false h
            walk_at "go"
            rw [low_isSome]
            rw [decide_eq_true h', Bool.true_and, Bool.not_not] at k
            exact k
  | _ =>
    cases hp
    all_goals
      walk_at "go"
      exact k
abbrev N_reaches_sea : List Str := ["weir", "lower", "step"]
def u_reaches_sea : US :=
  (uSeq (uFor (uIRng1 (uCons (uCB oLen (uCons (uVar 1) uNil)) uNil)) (ugF 2) (uSeq (uIfS (uB (uOp oEq (uVar 0) (uC (.str "sea")))) (uRet (uC (.bl true))) uNext)
  (uAsg (uOp oIx (uVar 1) (uVar 0)) (ugF 0))))
  (uRet (uOp oEq (uVar 0) (uC (.str "sea")))))
def U_reaches_sea : UP := fun ss Q _ => ∃ (rows : Rows) (w : Str), ss = [.fz (.str w), .io (.dct (lowK rows))] ∧ Cl rows ∧ rows.length ≤ 40 ∧ w ∈ wrs rows ∧ ∀ s, Q (.fz (.bl (decide (down rows rows.length w = "sea")))) [s, .io (.dct (lowK rows))]
theorem len_reaches_sea {ss : List Sl} {Q : Pv → List Sl → Prop} {X : UX} (h : U_reaches_sea ss Q X) : ss.length = 2 := by obtain ⟨_, _, rfl, _⟩ := h; rfl
theorem pure_reaches_sea (ss : List Sl) (Q : Pv → List Sl → Prop) (X : UX) (h : U_reaches_sea ss Q X) : u_reaches_sea (endsU Q X ss.length) (startU N_reaches_sea ss) := by
  obtain ⟨rows, w, rfl, c, h40, hw, k⟩ := h
  show u_reaches_sea { nx := _, rt := retK Q 2, ex := _ } [.fz (.str w), .io (.dct (lowK rows)), .un]
  unfold u_reaches_sea
  have ll := lowK_len rows
  walk_at "go"
  refine for_rng (m := rows.length) (fun n δ => ∃ (u : Str) (v : Option D), (u = "sea" ∨ u ∈ wrs rows) ∧ down rows (rows.length - n) u = down rows rows.length w ∧ δ = [.fz (.str u), .io (.dct (lowK rows)), so v]) ⟨w, none, .inr hw, rfl, rfl⟩ ?_ ?_ (by omega)
  · rintro n δ hn ⟨u, v, hu, hd, rfl⟩
    walk_at "go"
    refine iteX (fun h => ?_) (fun h => ?_)
    · have h' : u = "sea" := of_decide_eq_true h
      rw [h', down_sea] at hd
      walk_at "go"
      have := k (.fz (.str u))
      rw [← hd, decide_eq_true rfl] at this
      exact this
    · have hne : u ≠ "sea" := of_decide_eq_false h
      have hu' : u ∈ wrs rows := by rcases hu with z | z; exact absurd z hne; exact z
      walk_at "go"
      refine ⟨_, some _, Pre.low_in c hu', ?_, rfl⟩
      rw [show rows.length - n = (rows.length - (n + 1)) + 1 by omega] at hd
      rw [show down rows ((rows.length - (n + 1)) + 1) u = down rows (rows.length - (n + 1)) (low rows u) from by conv => lhs; unfold down; rw [if_neg hne]] at hd
      exact hd
  · rintro δ ⟨u, v, hu, hd, rfl⟩
    rw [Nat.sub_self] at hd
    have e : u = down rows rows.length w := hd
    walk_at "go"
    rw [e]
    exact k _
abbrev N_course_of : List Str := ["weir", "lower", "found"]
def u_course_of : US :=
  (uSeq (uAsg (uLst uNil) (ugO 2))
  (uSeq (uWhile (uB (uOp oNe (uVar 0) (uC (.str "sea")))) (uSeq (uDrop (uBM "list" oApp (uVar 2) (uCons (uVar 0) uNil)))
  (uAsg (uOp oIx (uVar 1) (uVar 0)) (ugF 0))))
  (uRet (uCB oTupN (uCons (uVar 2) uNil)))))
def U_course_of : UP := fun ss Q _ => ∃ (rows : Rows) (w : Str), ss = [.fz (.str w), .fz (.dct (lowK rows))] ∧ Good rows ∧ w ∈ wrs rows ∧ ∀ s, Q (.fz (crsD rows w)) [s, .fz (.dct (lowK rows))]
theorem len_course_of {ss : List Sl} {Q : Pv → List Sl → Prop} {X : UX} (h : U_course_of ss Q X) : ss.length = 2 := by obtain ⟨_, _, rfl, _⟩ := h; rfl
theorem pure_course_of (ss : List Sl) (Q : Pv → List Sl → Prop) (X : UX) (h : U_course_of ss Q X) : u_course_of (endsU Q X ss.length) (startU N_course_of ss) := by
  obtain ⟨rows, w, rfl, g, hw, k⟩ := h
  show u_course_of { nx := _, rt := retK Q 2, ex := _ } [.fz (.str w), .fz (.dct (lowK rows)), .un]
  unfold u_course_of
  have h40 := g.le
  walk_at "go"
  refine ⟨fun m δ => ∃ (u : Str) (fs : List Str), (u = "sea" ∨ u ∈ wrs rows) ∧ down rows m u = "sea" ∧ fs ++ crs rows m u = crs rows rows.length w ∧ fs.length + m ≤ 40 ∧ δ = [.fz (.str u), .fz (.dct (lowK rows)), .ow (.lst (fs.map .str))], ⟨rows.length, w, [], .inr hw, g.ends hw, rfl, by simp; omega, rfl⟩, ?_⟩
  rintro m δ ⟨u, fs, hu, hd, hf, hl, rfl⟩
  walk_at "go"
  refine iteX (fun h => ?_) (fun h => ?_)
  · have hne : u ≠ "sea" := by simpa using h
    have hu' : u ∈ wrs rows := by rcases hu with z | z; exact absurd z hne; exact z
    cases m with
    | zero => exact absurd hd hne
    | succ m =>
      have hl' : (fs.map D.str).length < 10000000 := by simp; omega
      walk_at "go"
      unfold down at hd
      rw [if_neg hne] at hd
      have hc : crs rows (m + 1) u = u :: crs rows m (low rows u) := by rw [crs, if_neg hne]
      rw [hc] at hf
      refine ⟨m, Nat.lt_succ_self m, low rows u, fs ++ [u], g.low_in hu', hd, by rw [← hf]; simp, by simp; omega, by simp⟩
  · have he : u = "sea" := by simpa using h
    subst he
    rw [crs_sea, List.append_nil] at hf
    subst hf
    walk_at "go"
    exact k _
end
section
theorem keyNd {rows : Rows} (g : Good rows) : (rows.map fun r => (Sum.inr r.1 : Key)).Nodup := by
  have := g.nd
  unfold wrs at this
  rw [List.nodup_iff_pairwise_ne, List.pairwise_map] at this ⊢
  exact this.imp fun h e => h (Sum.inr.inj e)
theorem wsNd {rows : Rows} (g : Good rows) : ((wrs rows).map fun w => (Sum.inr w : Key)).Nodup := by
  have := g.nd
  rw [List.nodup_iff_pairwise_ne] at this ⊢
  rw [List.pairwise_map]
  exact this.imp fun h e => h (Sum.inr.inj e)
theorem pre_ok {es : List D} {r2 rows : Rows} {e : D} {i j : Nat} (ht : es.take j = r2.map rowD) (P : Pre r2) (ij : i < j) (hi : es[i]? = some e) (hr : es.take i = rows.map rowD) : okE rows e = true := by
  have hil := (List.getElem?_eq_some_iff.mp hi).1
  have e1 : r2.take i = rows := row_inj (by rw [List.map_take, ← ht, List.take_take, Nat.min_eq_left (Nat.le_of_lt ij), hr])
  have e2 : (r2.map rowD)[i]? = some e := by rw [← ht, List.getElem?_take_of_lt ij]; exact hi
  rw [List.getElem?_map] at e2
  cases h : r2[i]? with
  | none => rw [h] at e2; cases e2
  | some r =>
    rw [h] at e2
    cases e2
    have hm := List.mem_of_getElem? h
    unfold okE
    rw [asRow_row (P.nm r hm).1 (P.nm r hm).2, ← e1]
    have hn : r.1 ∉ wrs (r2.take i) := fun z => by
      have nd := P.nd
      have hsplit : wrs r2 = wrs (r2.take i) ++ wrs (r2.drop i) := by unfold wrs; rw [← List.map_append, List.take_append_drop]
      rw [hsplit, List.nodup_append] at nd
      obtain ⟨hxl, hxe⟩ := List.getElem?_eq_some_iff.mp h
      have hd : r ∈ r2.drop i := by rw [List.drop_eq_getElem_cons hxl, hxe]; exact List.mem_cons_self
      exact nd.2.2 r.1 z r.1 (List.mem_map.mpr ⟨r, hd, rfl⟩) rfl
    show (decide (r.1 ≠ "sea") && !decide (r.1 ∈ wrs (r2.take i))) = true
    rw [decide_eq_true (P.nosea r hm), decide_eq_false hn]; rfl
theorem rv_at {es : List D} {rows : Rows} {e : D} {i : Nat} (h1 : 1 ≤ es.length) (h40 : es.length ≤ 40) (hi : es[i]? = some e) (hr : es.take i = rows.map rowD) (P : Pre rows) (hok : okE rows e = false) : rvF es = .int (i : Nat) := by
  rcases rvF_cases h1 h40 with ⟨j, e2, r2, h, hj, ht, P2, ho⟩ | ⟨r2, h, a, P2⟩
  · rcases Nat.lt_trichotomy i j with c | c | c
    · have := pre_ok ht P2 c hi hr
      rw [hok] at this; cases this
    · rw [c]; exact h
    · have := pre_ok hr P c hj ht
      rw [ho] at this; cases this
  · have hil := (List.getElem?_eq_some_iff.mp hi).1
    have := pre_ok (j := es.length) (by rw [List.take_length]; exact a) P2 hil hi hr
    rw [hok] at this; cases this
theorem rv_end {es : List D} {rows : Rows} (h1 : 1 ≤ es.length) (h40 : es.length ≤ 40) (hr : es = rows.map rowD) (P : Pre rows) : rvF es = rowsF rows := by
  rcases rvF_cases h1 h40 with ⟨j, e2, r2, h, hj, ht, P2, ho⟩ | ⟨r2, h, a, P2⟩
  · have hjl := (List.getElem?_eq_some_iff.mp hj).1
    have := pre_ok (j := es.length) (by rw [List.take_length]; exact hr) P hjl hj ht
    rw [ho] at this; cases this
  · rw [h, row_inj (a.symm.trans hr)]
theorem fidx_some {α : Type} {p : α → Bool} : ∀ {l : List α} {i : Nat} {x : α}, l[i]? = some x → p x = true → (∀ y ∈ l.take i, p y = false) → l.findIdx? p = some i
  | [], i, x, h, _, _ => by simp at h
  | a :: l, 0, x, h, hp, _ => by
    simp at h
    subst h
    rw [List.findIdx?_cons, hp]; rfl
  | a :: l, i + 1, x, h, hp, hb => by
    have ha : p a = false := hb a (by simp)
    rw [List.findIdx?_cons, ha]
    have := fidx_some (l := l) (i := i) (by simpa using h) hp fun y hy => hb y (by rw [List.take_succ_cons]; exact List.mem_cons_of_mem _ hy)
    rw [this]; rfl
def ArgD (n : Nat) (d : D) : Prop := (∃ es, d = .lst es ∧ (∀ e ∈ es, Pl n e) ∧ es.length ≤ 1000) ∨ (isLst d = false ∧ ∃ T, tyD d = some T)
theorem lowK_put {rows : Rows} {r : Str × Str} (h : r.1 ∉ wrs rows) : putD (lowK rows) (.inr r.1) (.str r.2) = lowK (rows ++ [r]) := by
  rw [put_new]
  · simp [lowK]
  · intro p hp e
    obtain ⟨q, hq, rfl⟩ := List.mem_map.mp hp
    exact h (List.mem_map.mpr ⟨q, hq, Sum.inr.inj e⟩)
theorem rvD_non {d : D} (h : isLst d = false) : rvD d = .int (-1) := by cases d <;> first | rfl | cases h
theorem row_ix0 (r : Str × Str) : ixD (rowD r) (.fz (.int 0)) = some (.str r.1) := rfl
theorem row_ix1 (r : Str × Str) : ixD (rowD r) (.fz (.int 1)) = some (.str r.2) := rfl
local macro_rules | `(tactic| walk_at "fl") => `(tactic| first | exact rf_weirs _ | exact rf_lower _ | exact rf_courses _ | exact rf_no _ (by decide +kernel) (by decide +kernel) (by decide +kernel) | rfl)
local macro_rules | `(tactic| walk_at "ix") => `(tactic| first | exact row_ix0 _ | exact row_ix1 _)
abbrev N_river_fault : List Str := ["rows", "lower", "place", "entry"]
def tl_river_fault_5 : US :=
  (uRet (uC .non))
def tl_river_fault_4 : US :=
  (uSeq (uFor (uIEnum (uCons (uVar 0) uNil)) (ugTup 2 (ugCons (ugF 2) (ugCons (ugF 3) ugNil))) (uIfS (uNot (uB (uCall U_reaches_sea [] (uCons (uOp oIx (uVar 3) (uC (.int 0))) (uCons (uVar 1) uNil))))) (uRet (uVar 2)) uNext)) tl_river_fault_5)
def tl_river_fault_3 : US :=
  (uSeq (uFor (uIEnum (uCons (uVar 0) uNil)) (ugTup 2 (ugCons (ugF 2) (ugCons (ugF 3) ugNil))) (uIfS (uAnd (uB (uOp oNe (uOp oIx (uVar 3) (uC (.int 1))) (uC (.str "sea")))) (uB (uOp (oInB not) (uOp oIx (uVar 3) (uC (.int 1))) (uVar 1)))) (uRet (uVar 2)) uNext)) tl_river_fault_4)
def tl_river_fault_2 : US :=
  (uSeq (uFor (uIEnum (uCons (uVar 0) uNil)) (ugTup 2 (ugCons (ugF 2) (ugCons (ugF 3) ugNil))) (uSeq (uIfS (uB (uCall U_is_wrong_row [] (uCons (uVar 3) (uCons (uVar 1) uNil)))) (uRet (uVar 2)) uNext)
  (uSetI (uOp oIx (uVar 3) (uC (.int 1))) (uVar 1) (uOp oIx (uVar 3) (uC (.int 0)))))) tl_river_fault_3)
def tl_river_fault_1 : US :=
  (uSeq (uAsg uDNew (ugO 1)) tl_river_fault_2)
def u_river_fault : US :=
  (uSeq (uIfS (uOr (uNot (uB (uCB oIsi (uCons (uVar 0) (uCons (uC (.ty "list")) uNil))))) (uNot (uB (uChain oLe oLe (uC (.int 1)) (uCB oLen (uCons (uVar 0) uNil)) (uC (.int 40)))))) (uRet (uUn oNeg (uC (.int 1)))) uNext) tl_river_fault_1)
def U_river_fault : UP := fun ss Q _ => ∃ (d : D) (n : Nat), ss = [.fz d] ∧ ArgD n d ∧ n ≤ 100 ∧ Q (.fz (rvD d)) ss
theorem len_river_fault {ss : List Sl} {Q : Pv → List Sl → Prop} {X : UX} (h : U_river_fault ss Q X) : ss.length = 1 := by obtain ⟨_, _, rfl, _⟩ := h; rfl
theorem pure_river_fault (ss : List Sl) (Q : Pv → List Sl → Prop) (X : UX) (h : U_river_fault ss Q X) : u_river_fault (endsU Q X ss.length) (startU N_river_fault ss) := by
  obtain ⟨d, n, rfl, ha, hn, k⟩ := h
  show u_river_fault { nx := _, rt := retK Q 1, ex := _ } [.fz d, .un, .un, .un]
  unfold u_river_fault
  rcases ha with ⟨es, rfl, hp, hel⟩ | ⟨hl, T, hT⟩
  · have k' : Q (.fz (rvF es)) [.fz (.lst es)] := k
    walk_at "go"
    refine iteX (fun c1 => ?_) (fun c1 => ?_)
    · have h1 : 1 ≤ es.length := by have := of_decide_eq_true c1; omega
      walk_at "go"
      refine iteX (fun c2 => ?_) (fun c2 => ?_)
      · have h2 : 40 < es.length := by
          rw [Bool.not_eq_true', decide_eq_false_iff_not] at c2; omega
        rw [show rvF es = .int (-1) from by unfold rvF; rw [if_pos (.inr h2)]] at k'
        walk_at "go"
        exact k'
      · have h2 : es.length ≤ 40 := by
          rw [Bool.not_eq_false', decide_eq_true_eq] at c2; omega
        walk_at "go"
        unfold tl_river_fault_1
        walk_at "go"
        unfold tl_river_fault_2
        walk_at "go"
        refine for_enum (xs := es) (fun i δ => ∃ (rows : Rows) (v w : Option D), es.take i = rows.map rowD ∧ Pre rows ∧ δ = [.fz (.lst es), .ow (.dct (lowK rows)), so v, so w]) ⟨[], none, none, rfl, .nil, rfl⟩ ?_ ?_
        · rintro i e δ hi ⟨rows, v, w, ht, P, rfl⟩
          have hil := (List.getElem?_eq_some_iff.mp hi).1
          have hrl : rows.length = i := by
            have := congrArg List.length ht
            rw [List.length_take, List.length_map] at this; omega
          walk_at "go"
          refine ⟨e, rows, n, rfl, hp e (List.mem_of_getElem? hi), hn, ?_⟩
          walk_at "bk"
          walk_at "go"
          cases hok : okE rows e with
          | false =>
            walk_at "go"
            rw [rv_at h1 h2 hi ht P hok] at k'
            exact k'
          | true =>
            obtain ⟨r, rfl, hr, P2, hnr⟩ := P.snoc hok
            have hll : (lowK rows).length < 10000000 := by rw [lowK_len]; omega
            walk_at "go"
            exact ⟨rows ++ [r], some (.int (i : Nat)), some (rowD r), by rw [take_snoc hi, ht, List.map_append]; rfl, P2, by rw [lowK_put hnr]; rfl⟩
        · rintro δ ⟨rows, v, w, ht, P, rfl⟩
          rw [List.take_length] at ht
          subst ht
          rw [rv_end h1 h2 rfl P] at k'
          rw [List.length_map] at h1 h2
          unfold tl_river_fault_3
          walk_at "go"
          refine for_enumM (emb := rowD) (fun i δ => (∀ r ∈ rows.take i, bad2 rows r = false) ∧ ∃ (v w : Option D), δ = [.fz (.lst (rows.map rowD)), .ow (.dct (lowK rows)), so v, so w]) ⟨fun r h => by simp at h, v, w, rfl⟩ ?_ ?_
          · rintro i r δ hi ⟨hb, v, w, rfl⟩
            have nxt : bad2 rows r = false → ∀ y ∈ rows.take (i + 1), bad2 rows y = false := fun h y hy => by
              rw [take_snoc hi] at hy
              rcases List.mem_append.mp hy with z | z
              · exact hb y z
              · rw [List.mem_singleton.mp z]; exact h
            walk_at "go"
            refine iteX (fun h => ?_) (fun h => ?_)
            · walk_at "go"
              rw [low_isSome]
              cases hd : decide (r.2 ∈ wrs rows) with
              | true =>
                walk_at "go"
                exact ⟨nxt (by unfold bad2; rw [hd, Bool.not_true, Bool.and_false]), some _, some _, rfl⟩
              | false =>
                walk_at "go"
                have hb1 : bad2 rows r = true := by unfold bad2; rw [hd]; simpa using h
                rw [show rowsF rows = .int (i : Nat) from by unfold rowsF; rw [fidx_some hi hb1 hb]] at k'
                exact k'
            · have h' : r.2 = "sea" := by simpa using h
              walk_at "go"
              exact ⟨nxt (by unfold bad2; rw [h']; rfl), some _, some _, rfl⟩
          · rintro δ ⟨hb, v, w, rfl⟩
            rw [List.take_length] at hb
            have cl : Cl rows := fun r hr => by
              have := hb r hr
              unfold bad2 at this
              by_cases c : r.2 = "sea"
              · exact .inl c
              · rw [decide_eq_true c, Bool.true_and, Bool.not_eq_false', decide_eq_true_eq] at this
                exact .inr this
            have n2 : rows.findIdx? (bad2 rows) = none := List.findIdx?_eq_none_iff.mpr hb
            unfold tl_river_fault_4
            walk_at "go"
            refine for_enumM (emb := rowD) (fun i δ => (∀ r ∈ rows.take i, bad3 rows r = false) ∧ ∃ (v w : Option D), δ = [.fz (.lst (rows.map rowD)), .ow (.dct (lowK rows)), so v, so w]) ⟨fun r h => by simp at h, v, w, rfl⟩ ?_ ?_
            · rintro i r δ hi ⟨hb3, v, w, rfl⟩
              walk_at "go"
              refine ⟨rows, r.1, rfl, cl, h2, List.mem_map.mpr ⟨r, List.mem_of_getElem? hi, rfl⟩, fun s => ?_⟩
              walk_at "bk"
              walk_at "go"
              cases hd : decide (down rows rows.length r.1 = "sea") with
              | true =>
                walk_at "go"
                refine ⟨fun y hy => ?_, some _, some _, rfl⟩
                rw [take_snoc hi] at hy
                rcases List.mem_append.mp hy with z | z
                · exact hb3 y z
                · rw [List.mem_singleton.mp z]; unfold bad3; rw [hd]; rfl
              | false =>
                walk_at "go"
                have hb4 : bad3 rows r = true := by unfold bad3; rw [hd]; rfl
                rw [show rowsF rows = .int (i : Nat) from by
                  unfold rowsF
                  rw [n2]
                  show (match rows.findIdx? (bad3 rows) with | some i => D.int (i : Nat) | none => .non) = _
                  rw [fidx_some hi hb4 hb3]] at k'
                exact k'
            · rintro δ ⟨hb3, v, w, rfl⟩
              rw [List.take_length] at hb3
              unfold tl_river_fault_5
              walk_at "go"
              rw [show rowsF rows = .non from by
                unfold rowsF
                rw [n2]
                show (match rows.findIdx? (bad3 rows) with | some i => D.int (i : Nat) | none => .non) = _
                rw [List.findIdx?_eq_none_iff.mpr hb3]] at k'
              exact k'
    · have h1 : es.length = 0 := by have := of_decide_eq_false c1; omega
      rw [show rvF es = .int (-1) from by unfold rvF; rw [if_pos (.inl h1)]] at k'
      walk_at "go"
      exact k'
  · rw [rvD_non hl] at k
    walk_at "go"
    refine h_isi rfl hT (kit_lst hT) ?_
    rw [hl]
    walk_at "go"
    exact k
end
section
theorem pg1 (d : D) : putG "weirs" d [] = ([("weirs", d)] : List (Str × D)) := rfl
theorem putG_ne {f g : Str} {d x : D} {r : List (Str × D)} (h : g ≠ f) : putG f d ((g, x) :: r) = (g, x) :: putG f d r := by rw [putG, if_neg h]
theorem putG_nil (f : Str) (d : D) : putG f d [] = [(f, d)] := by rw [putG]
theorem pg2 (d e : D) : putG "lower" e [("weirs", d)] = ([("weirs", d), ("lower", e)] : List (Str × D)) := by rw [putG_ne (by decide +kernel), putG_nil]
theorem pg3 (d e f : D) : putG "courses" f [("weirs", d), ("lower", e)] = ([("weirs", d), ("lower", e), ("courses", f)] : List (Str × D)) := by rw [putG_ne (by decide +kernel), putG_ne (by decide +kernel), putG_nil]
theorem lk1 (d : D) (r : List (Str × D)) : (("weirs", d) :: r : List (Str × D)).lookup ("weirs" : Str) = some d := by rw [lkD, if_pos rfl]
theorem lk2 (d e : D) (r : List (Str × D)) : (("weirs", d) :: ("lower", e) :: r : List (Str × D)).lookup ("lower" : Str) = some e := by rw [lkD, if_neg (by decide +kernel), lkD, if_pos rfl]
theorem rowsF_or (rows : Rows) : (∃ i : Int, rowsF rows = .int i) ∨ rowsF rows = .non := by
  unfold rowsF
  split
  · exact .inl ⟨_, rfl⟩
  · split
    · exact .inl ⟨_, rfl⟩
    · exact .inr rfl
theorem rvD_or {n : Nat} {d : D} (ha : ArgD n d) : (∃ i : Int, rvD d = .int i) ∨ (rvD d = .non ∧ ∃ rows, d = .lst (rows.map rowD) ∧ Good rows) := by
  rcases ha with ⟨es, rfl, hp, hl⟩ | ⟨hl, _⟩
  · show (∃ i : Int, rvF es = .int i) ∨ (rvF es = .non ∧ _)
    by_cases h1 : 1 ≤ es.length
    · by_cases h40 : es.length ≤ 40
      · rcases rvF_cases h1 h40 with ⟨j, e, r2, h, _⟩ | ⟨r2, h, a, P⟩
        · exact .inl ⟨_, h⟩
        · rcases rowsF_or r2 with ⟨i, hi⟩ | hn
          · exact .inl ⟨i, h.trans hi⟩
          · subst a
            rw [List.length_map] at h1 h40
            exact .inr ⟨h.trans hn, r2, rfl, rgood_of P h1 h40 hn⟩
      · exact .inl ⟨_, by unfold rvF; rw [if_pos (.inr (by omega))]⟩
    · exact .inl ⟨_, by unfold rvF; rw [if_pos (.inl (by omega))]⟩
  · exact .inl ⟨_, rvD_non hl⟩
local macro_rules | `(tactic| walk_at "fl") => `(tactic| first | exact rf_weirs _ | exact rf_lower _ | exact rf_courses _ | exact lk1 _ _ | exact lk2 _ _ _ | exact rf_no _ (by decide +kernel) (by decide +kernel) (by decide +kernel))
local macro_rules | `(tactic| walk_at "ix") => `(tactic| first | exact valD_low (by assumption) | exact valD_crs (by assumption) | exact row_ix0 _ | exact row_ix1 _)
local macro_rules | `(tactic| walk_at "pf") => `(tactic| first | exact pg1 _ | exact pg2 _ _ | exact pg3 _ _ _)
abbrev N_River__init_ : List Str := ["self", "rows", "place", "weir", "below"]
def u_River__init_ : US :=
  (uSeq (uAsg (uCall U_river_fault [] (uCons (uVar 1) uNil)) (ugF 2))
  (uSeq (uIfS (uB (uOp (oIsN not) (uVar 2) (uC .non))) (uRaise "NotRiver" ["place"] (uCons (uVar 2) uNil)) uNext)
  (uSeq (uSFld "River" "weirs" (uVar 0) (uCB oTuple (uCons (uLc (uISeq (uVar 1)) (ugTup 2 (ugCons (ugF 3) (ugCons (ugF 4) ugNil))) uYes (uVar 3) [3, 4]) uNil)))
  (uSeq (uSFld "River" "lower" (uVar 0) (uDc (uISeq (uVar 1)) (ugTup 2 (ugCons (ugF 3) (ugCons (ugF 4) ugNil))) uYes (uVar 3) (uVar 4) [3, 4]))
  (uSFld "River" "courses" (uVar 0) (uDc (uISeq (uFld "River" "weirs" (uVar 0))) (ugF 3) uYes (uVar 3) (uCall U_course_of [] (uCons (uVar 3) (uCons (uFld "River" "lower" (uVar 0)) uNil))) [3]))))))
def U_River__init_ : UP := fun ss Q X => ∃ (d : D) (n : Nat), ss = [.io (.obj "River" []), .fz d] ∧ ArgD n d ∧ n ≤ 100 ∧ (∀ rows, d = .lst (rows.map rowD) → Good rows → Q (.fz .non) [.io (riverD rows), .fz d]) ∧ (∀ i : Int, rvD d = .int i → X ("NotRiver", [("place", .int i)]) ss)
theorem len_River__init_ {ss : List Sl} {Q : Pv → List Sl → Prop} {X : UX} (h : U_River__init_ ss Q X) : ss.length = 2 := by obtain ⟨_, _, rfl, _⟩ := h; rfl
theorem pure_River__init_ (ss : List Sl) (Q : Pv → List Sl → Prop) (X : UX) (h : U_River__init_ ss Q X) : u_River__init_ (endsU Q X ss.length) (startU N_River__init_ ss) := by
  obtain ⟨d, n, rfl, ha, hn, k, kx⟩ := h
  show u_River__init_ { nx := fun δ => Q (.fz .non) (δ.take 2), rt := retK Q 2, ex := fun x δ => X x (δ.take 2) } [.io (.obj "River" []), .fz d, .un, .un, .un]
  unfold u_River__init_
  walk_at "go"
  refine ⟨d, n, rfl, ha, hn, ?_⟩
  walk_at "bk"
  rcases rvD_or ha with ⟨i, hi⟩ | ⟨hr, rows, rfl, g⟩
  · rw [hi]
    walk_at "go"
    exact ⟨rfl, kx i hi⟩
  · rw [hr]
    have k := k rows rfl g
    have h40 := g.le
    walk_at "go"
    refine ⟨by simp; omega, ?_⟩
    refine lc_map (xs := rows) (emb := rowD) (fun r => some (.str r.1)) rfl rfl (fun r hr P N hP _ => ?_) ?_
    · walk_at "go"
      exact hP _ rfl
    · rw [show (rows.filterMap fun r => some (D.str r.1)) = (wrs rows).map .str by simp [wrs, List.filterMap_eq_map', Function.comp]]
      walk_at "go"
      refine ⟨by simp; omega, ?_⟩
      refine dc_mapE (xs := rows) (emb := rowD) (fun r => .inr r.1) (fun r => .str r.2) (lowK rows) rfl (keyNd g) rfl rfl (fun r hr P N hP => ?_) ?_
      · walk_at "go"
        exact ⟨_, rfl, hP⟩
      · walk_at "go"
        refine ⟨by simp [wrs]; omega, ?_⟩
        refine dc_mapE (xs := wrs rows) (emb := D.str) (fun w => .inr w) (fun w => crsD rows w) (crsK rows) rfl (wsNd g) rfl rfl (fun w hw P N hP => ?_) ?_
        · walk_at "go"
          refine ⟨rows, w, rfl, g, hw, fun s => ?_⟩
          exact ⟨_, rfl, hP⟩
        · walk_at "go"
          exact k
abbrev N_River_need : List Str := ["self", "weir"]
def u_River_need : US :=
  (uIfS (uB (uOp (oInB not) (uVar 1) (uFld "River" "weirs" (uVar 0)))) (uRaise "NoWeir" ["name"] (uCons (uVar 1) uNil)) uNext)
def U_River_need : UP := fun ss Q X => ∃ (rows : Rows) (d : D), ss = [.fz (riverD rows), .fz d] ∧ Good rows ∧ okD d = true ∧ (inS (wrs rows) d = true → Q (.fz .non) ss) ∧ (inS (wrs rows) d = false → X ("NoWeir", [("name", d)]) ss)
theorem len_River_need {ss : List Sl} {Q : Pv → List Sl → Prop} {X : UX} (h : U_River_need ss Q X) : ss.length = 2 := by obtain ⟨_, _, rfl, _⟩ := h; rfl
theorem pure_River_need (ss : List Sl) (Q : Pv → List Sl → Prop) (X : UX) (h : U_River_need ss Q X) : u_River_need (endsU Q X ss.length) (startU N_River_need ss) := by
  obtain ⟨rows, d, rfl, g, hd, k, kx⟩ := h
  show u_River_need { nx := fun δ => Q (.fz .non) (δ.take 2), rt := retK Q 2, ex := fun x δ => X x (δ.take 2) } [.fz (riverD rows), .fz d]
  unfold u_River_need
  walk_at "go"
  refine h_notInL rfl (.inr rfl) hd (oks_of (Ok.strs (n := 0) (wrs_ok g))) ?_
  rw [any_inS]
  walk_at "go"
  refine iteX (fun h => ?_) (fun h => ?_)
  · walk_at "go"
    exact ⟨rfl, kx (by simpa using h)⟩
  · walk_at "go"
    exact k (by simpa using h)
theorem inS_str {ws : List Str} {d : D} (h : inS ws d = true) : ∃ w, d = .str w ∧ w ∈ ws := by
  cases d with
  | str w => exact ⟨w, rfl, of_decide_eq_true h⟩
  | _ => cases h
end
end WK
namespace WK
open PySem L2
local macro_rules | `(tactic| walk_at "kb") => `(tactic| first | exact kb_str_str | exact kb_str_int | exact kb_str_bool | exact kb_str_list | exact kb_str_tuple | exact kb_str_dict | exact kb_int_str | exact kb_int_int | exact kb_int_bool | exact kb_int_list | exact kb_int_tuple | exact kb_int_dict | exact kb_bool_str | exact kb_bool_int | exact kb_bool_bool | exact kb_bool_list | exact kb_bool_tuple | exact kb_bool_dict | exact kb_list_str | exact kb_list_int | exact kb_list_bool | exact kb_list_list | exact kb_list_tuple | exact kb_list_dict | exact kb_tuple_str | exact kb_tuple_int | exact kb_tuple_bool | exact kb_tuple_list | exact kb_tuple_tuple | exact kb_tuple_dict | exact kb_dict_str | exact kb_dict_int | exact kb_dict_bool | exact kb_dict_list | exact kb_dict_tuple | exact kb_dict_dict | exact kb_NoneType_str | exact kb_NoneType_int | exact kb_NoneType_bool | exact kb_NoneType_list | exact kb_NoneType_tuple | exact kb_NoneType_dict)
local macro_rules | `(tactic| walk_at "pt") => `(tactic| repeat (first | exact PtR.ow | exact PtR.io | apply PtR.s))
local macro_rules | `(tactic| walk_at "st") => `(tactic| repeat (first | exact StS.z | apply StS.s))
local macro_rules | `(tactic| walk_at "sz") => `(tactic| first | omega | (simp; omega) | simp)
local macro_rules | `(tactic| walk_at "side") => `(tactic| first | assumption | omega | (refine ⟨?_, ?_⟩ <;> omega) | (exact .inl ⟨by omega, by omega⟩) | (exact .inr ⟨by omega, by omega⟩) | (exact ⟨by decide, by decide, by decide⟩) | rfl)
local macro_rules | `(tactic| walk_at "h1") => `(tactic| first
  | with_reducible first
    | refine h_seq ?_ | refine h_asg ?_ | refine h_op ?_ | refine h_c ?_ | refine h_cons ?_ | refine h_nil ?_ | refine h_cb ?_ | refine h_call ?_ | refine h_ret ?_ | refine h_drop ?_ | refine h_next ?_ | refine h_retN ?_
    | refine h_ifS ?_ | refine h_if ?_ | refine h_B ?_ | refine h_bl ?_ | refine h_and ?_ | refine h_or ?_ | refine h_not ?_ | refine h_andV ?_ | refine h_orV ?_ | refine h_notV ?_
    | refine h_un ?_ | refine h_neg ?_ | refine h_I0 ?_ | refine h_addI ?_ | refine h_int ?_ | refine h_abs ?_ | refine h_mx2 ?_ | refine h_mn2 ?_ | refine h_par ?_ | refine h_na1 ?_ | refine h_na2 ?_ | refine h_chain ?_
    | refine h_for ?_ | refine h_lc ?_ | refine h_dc ?_ | refine h_iseq ?_ | refine h_irng1 ?_ | refine h_irng2 ?_ | refine h_ienum ?_ | refine h_gcons ?_ | refine h_gnil ?_ | refine h_gF ?_ | refine h_gOF ?_ | refine h_gOA ?_ | refine h_gXT ?_ | refine h_gXF ?_
    | refine h_setI ?_ | refine h_sfld ?_ | refine hp_sfld0 ?_ | refine h_raise ?_ | refine h_dnew ?_ | refine h_inS ?_ | refine h_sl ?_ | refine h_noPart ?_ | refine h_part ?_ | refine h_partI ?_ | refine h_meth ?_ | refine h_make ?_ | refine h_fld ?_
    | refine h_fgt ?_ | refine h_lst ?_ | refine h_tup ?_ | refine h_bm ?_ | refine h_bm0 ?_ | refine h_yes ?_ | refine h_stoF ?_ | refine h_stoT ?_ | refine h_stoN ?_ | refine h_stoC ?_ | refine hp_app0 ?_ | refine h_rtF ?_ | refine h_rtT ?_ | refine h_dget2W ?_ | refine iteT ?_ | refine iteF ?_ | refine iteNT ?_ | refine iteNF ?_
  | ((with_reducible refine' h_varF ?ev ?_); (case ev => rfl))
  | ((with_reducible refine' h_varO ?ev ?_); (case ev => rfl))
  | ((with_reducible refine' h_varI ?ev ?_); (case ev => rfl))
  | ((with_reducible refine' h_varL ?ev ?_); (case ev => rfl))
  | ((with_reducible refine' hp_gF ?e1 ?e2 ?_); (case e1 => first | exact trivial | exact nk_so _); (case e2 => walk_at "st"))
  | ((with_reducible refine' hp_gO ?e1 ?e0 ?e2 ?_); (case e1 => first | exact trivial | exact nk_so _); (case e0 => simp only [List.length]; decide); (case e2 => walk_at "st"))
  | ((with_reducible refine' h_I ?ec ?_); (case ec => walk_at "side"))
  | ((with_reducible refine' h_sz0 ?ec ?_); (case ec => walk_at "sz"))
  | ((with_reducible refine' h_ix ?es ?ea ?_); (case es => rfl); (case ea => first | assumption | walk_at "ix" | rfl))
  | ((with_reducible refine' h_len ?es ?ea ?_); (case es => rfl); (case ea => rfl))
  | ((with_reducible refine' h_lenS ?es ?_); (case es => walk_at "sz"))
  | ((with_reducible refine' h_list ?es ?ea ?_); (case es => rfl); (case ea => rfl))
  | ((with_reducible refine' h_tupN ?es ?_); (case es => rfl))
  | ((with_reducible refine' h_fgtK ?es ?_); (case es => rfl))
  | ((with_reducible refine' h_tuple ?es ?_); (case es => first | exact .inl rfl | exact .inr rfl))
  | ((with_reducible refine' h_eqA ?e1 ?e2 ?e3 ?_); (case e1 => rfl); (case e2 => rfl); (case e3 => rfl))
  | ((with_reducible refine' h_neA ?e1 ?e2 ?e3 ?_); (case e1 => rfl); (case e2 => rfl); (case e3 => rfl))
  | ((with_reducible refine' h_inD ?e1 ?e2 ?_); (case e1 => rfl); (case e2 => rfl))
  | ((with_reducible refine' h_notInD ?e1 ?e2 ?_); (case e1 => rfl); (case e2 => rfl))
  | ((with_reducible refine' h_isN ?e1 ?_); (case e1 => rfl))
  | ((with_reducible refine' h_notN ?e1 ?_); (case e1 => rfl))
  | ((with_reducible refine' h_isi ?e1 ?e2 ?e3 ?_); (case e1 => rfl); (case e2 => rfl); (case e3 => walk_at "kb"))
  | ((with_reducible refine' h_addS ?e1 ?_); (case e1 => walk_at "sz"))
  | ((with_reducible refine' h_addL ?e1 ?e2 ?e3 ?_); (case e1 => rfl); (case e2 => rfl); (case e3 => walk_at "sz"))
  | ((with_reducible refine' h_addT ?e1 ?e2 ?e3 ?_); (case e1 => rfl); (case e2 => rfl); (case e3 => walk_at "sz"))
  | ((with_reducible refine' h_slL ?e1 ?_); (case e1 => rfl))
  | ((with_reducible refine' h_slT ?e1 ?_); (case e1 => rfl))
  | ((with_reducible refine' h_slS ?e1 ?_); (case e1 => walk_at "sz"))
  | ((with_reducible refine' h_slX ?e1 ?_); (case e1 => rfl))
  | ((with_reducible refine' h_dictC ?e1 ?_); (case e1 => rfl))
  | ((with_reducible refine' h_fldI ?e1 ?e2 ?_); (case e1 => rfl); (case e2 => walk_at "fl"))
  | ((with_reducible refine' h_ty ?e1 ?e2 ?_); (case e1 => rfl); (case e2 => rfl))
  | ((with_reducible refine' hp_app ?e1 ?e2 ?e3 ?_); (case e1 => exact ⟨_, rfl, rfl, rfl⟩); (case e2 => walk_at "sz"); (case e3 => walk_at "pt"))
  | ((with_reducible refine' hp_stoO ?e1 ?e2 ?_); (case e1 => rfl); (case e2 => walk_at "st"))
  | ((with_reducible refine' h_stoFr ?e1 ?_); (case e1 => rfl))
  | ((with_reducible refine' h_gtup ?e1 ?e2 ?_); (case e1 => rfl); (case e2 => rfl))
  | ((with_reducible refine' hp_setL ?e1 ?e2 ?e3 ?_); (case e1 => exact ⟨_, rfl, rfl, rfl⟩); (case e2 => first | rfl | assumption); (case e3 => walk_at "pt"))
  | ((with_reducible refine' hp_setD ?e0 ?e1 ?e2 ?e3 ?_); (case e0 => rfl); (case e1 => exact ⟨_, rfl, rfl, rfl⟩); (case e2 => walk_at "sz"); (case e3 => walk_at "pt"))
  | ((with_reducible refine' hp_sfld ?e1 ?e2 ?e3 ?e4 ?_); (case e1 => exact ⟨_, rfl, rfl, rfl⟩); (case e2 => simp only [List.length]; decide); (case e3 => walk_at "pf"); (case e4 => walk_at "pt"))
  | ((with_reducible refine' h_iseqN ?e1 ?e2 ?e3 ?_); (case e1 => rfl); (case e2 => rfl); (case e3 => rfl))
  | ((with_reducible refine' h_iseqS ?e1 ?e2 ?e3 ?_); (case e1 => rfl); (case e2 => rfl); (case e3 => rfl))
  | ((with_reducible refine' h_ienumN ?e1 ?e3 ?_); (case e1 => rfl); (case e3 => rfl))
  | ((with_reducible refine' h_ienumS ?e1 ?e3 ?_); (case e1 => rfl); (case e3 => rfl))
  | ((with_reducible refine' h_irng1I ?e1 ?_); (case e1 => (constructor <;> omega)))
  | ((with_reducible refine' h_irng2I ?e1 ?_); (case e1 => (refine ⟨?_, ?_, ?_, ?_⟩ <;> omega)))
  | ((with_reducible refine' h_methI ?e1 ?e2 ?_); (case e1 => rfl); (case e2 => walk_at "fl"))
  | ((with_reducible refine' h_isD ?e1 ?_); (case e1 => rfl))
  | ((with_reducible refine' h_callP ?e1 ?e2 ?_); (case e1 => rfl); (case e2 => rfl))
  | ((with_reducible refine' h_makeP ?e1 ?e2 ?_); (case e1 => rfl); (case e2 => rfl))
  | ((with_reducible refine' h_rtO ?e1 ?_); (case e1 => rfl))
  | ((with_reducible refine' h_rtA ?e1 ?_); (case e1 => rfl))
  | ((with_reducible refine' h_dgetF ?e1 ?e2 ?_); (case e1 => rfl); (case e2 => rfl))
  | ((with_reducible refine' iteK0 ?e1 ?_); (case e1 => rfl))
  | ((with_reducible refine' iteK1 ?e1 ?_); (case e1 => rfl)))
local macro_rules | `(tactic| walk_at "go") => `(tactic| repeat (walk_at "h1"))
local macro_rules | `(tactic| walk_at "bk") => `(tactic| ((try dsimp only); simp only [fzn_fz, fzn_at, fzn_tm, List.map_nil, List.append_nil, List.map_cons, List.cons_append, List.nil_append, back_at, back_af, back_ao, back_fz, back_nil, pt_ow, pt_io, pt_succ]))
local macro_rules | `(tactic| walk_at "g0") => `(tactic| skip)
local macro_rules | `(tactic| walk_at "pf") => `(tactic| rfl)
section
local macro_rules | `(tactic| walk_at "fl") => `(tactic| first | exact rf_weirs _ | exact rf_lower _ | exact rf_courses _ | exact rf_no _ (by decide +kernel) (by decide +kernel) (by decide +kernel))
local macro_rules | `(tactic| walk_at "ix") => `(tactic| first | exact valD_low (by assumption) | exact valD_crs (by assumption) | exact row_ix0 _ | exact row_ix1 _)
theorem cut_to {α : Type} (xs : List α) (k : Nat) : cutD xs none (some (k : Int)) = xs.take k := by
  unfold cutD
  rw [HT.sIx_nat, HT.sIx_none, List.drop_zero, Nat.sub_zero]
  by_cases h : k ≤ xs.length
  · rw [Nat.min_eq_left h]
  · rw [Nat.min_eq_right (by omega), List.take_length, List.take_of_length_le (by omega)]
theorem idx_min : ∀ (xs : List Str) (a : Str) (m : Nat), m < xs.idxOf a → xs[m]? ≠ some a
  | [], _, _, h => by simp at h
  | x :: xs, a, m, h => by
    rw [List.idxOf_cons] at h
    by_cases e : (x == a) = true
    · rw [e] at h; simp at h
    · have e' : (x == a) = false := by simpa using e
      rw [e'] at h
      simp only [cond_false] at h
      cases m with
      | zero => intro z; simp at z; subst z; simp at e
      | succ m => simpa using idx_min xs a m (by simpa using h)
theorem inS_mem {ws : List Str} {w : Str} (h : w ∈ ws) : inS ws (.str w) = true := decide_eq_true h
theorem inS_no {ws : List Str} {w : Str} (h : w ∈ ws) : ¬ inS ws (.str w) = false := by rw [inS_mem h]; decide
theorem wr_ok {rows : Rows} (g : Good rows) {w : Str} (h : w ∈ wrs rows) : okD (.str w) = true := (Ok.str (n := 0) (wrs_ok g w h)).ok
abbrev N_River_is_down : List Str := ["self", "high", "low"]
def u_River_is_down : US :=
  (uSeq (uDrop (uMeth "River" "need" U_River_need [] (uVar 0) (uCons (uVar 1) uNil)))
  (uSeq (uDrop (uMeth "River" "need" U_River_need [] (uVar 0) (uCons (uVar 2) uNil)))
  (uRet (uOp oIn (uVar 2) (uFgt (uOp oIx (uFld "River" "courses" (uVar 0)) (uVar 1)))))))
def U_River_is_down : UP := fun ss Q X => ∃ (rows : Rows) (h l : Str), ss = [.fz (riverD rows), .fz (.str h), .fz (.str l)] ∧ Good rows ∧ h ∈ wrs rows ∧ l ∈ wrs rows ∧ Q (.fz (.bl (decide (l ∈ crs rows rows.length h)))) ss
theorem len_River_is_down {ss : List Sl} {Q : Pv → List Sl → Prop} {X : UX} (h : U_River_is_down ss Q X) : ss.length = 3 := by obtain ⟨_, _, _, rfl, _⟩ := h; rfl
theorem pure_River_is_down (ss : List Sl) (Q : Pv → List Sl → Prop) (X : UX) (h : U_River_is_down ss Q X) : u_River_is_down (endsU Q X ss.length) (startU N_River_is_down ss) := by
  obtain ⟨rows, h, l, rfl, g, hh, hl, k⟩ := h
  show u_River_is_down { nx := _, rt := retK Q 3, ex := fun x δ => X x (δ.take 3) } [.fz (riverD rows), .fz (.str h), .fz (.str l)]
  unfold u_River_is_down
  walk_at "go"
  refine ⟨rows, _, rfl, g, wr_ok g hh, fun _ => ?_, fun z => absurd z (inS_no hh)⟩
  walk_at "bk"
  walk_at "go"
  refine ⟨rows, _, rfl, g, wr_ok g hl, fun _ => ?_, fun z => absurd z (inS_no hl)⟩
  walk_at "bk"
  walk_at "go"
  refine h_inL rfl (.inr rfl) (wr_ok g hl) (oks_of (Ok.strs (n := 0) fun x hx => wrs_ok g x (crs_in g _ _ _ (.inl hh) hx))) ?_
  rw [any_str]
  walk_at "go"
  exact k
abbrev N_River_way : List Str := ["self", "intake", "last", "course"]
def u_River_way : US :=
  (uSeq (uDrop (uMeth "River" "need" U_River_need [] (uVar 0) (uCons (uVar 1) uNil)))
  (uSeq (uAsg (uOp oIx (uFld "River" "courses" (uVar 0)) (uVar 1)) (ugF 3))
  (uSeq (uIfS (uB (uOp oEq (uVar 2) (uC (.str "sea")))) (uRet (uFgt (uVar 3))) uNext)
  (uSeq (uDrop (uMeth "River" "need" U_River_need [] (uVar 0) (uCons (uVar 2) uNil)))
  (uSeq (uIfS (uB (uOp (oInB not) (uVar 2) (uFgt (uVar 3)))) (uRaise "NotDown" ["high", "low"] (uCons (uVar 1) (uCons (uVar 2) uNil))) uNext)
  (uRet (uSl (uFgt (uVar 3)) uNoPart (uPart (uOp oAdd (uTIdx (uVar 3) (uCons (uVar 2) uNil)) (uC (.int 1)))))))))))
/-- the way from the intake to the last weir -/
def wayL (rows : Rows) (h l : Str) : List Str := if l = "sea" then crs rows rows.length h else (crs rows rows.length h).take ((crs rows rows.length h).idxOf l + 1)
def U_River_way : UP := fun ss Q X => ∃ (rows : Rows) (h l : Str), ss = [.fz (riverD rows), .fz (.str h), .fz (.str l)] ∧ Good rows ∧ h ∈ wrs rows ∧ (l = "sea" ∨ (l ∈ wrs rows ∧ l ∈ crs rows rows.length h)) ∧ Q (.fz (.tup ((wayL rows h l).map .str))) ss
theorem len_River_way {ss : List Sl} {Q : Pv → List Sl → Prop} {X : UX} (h : U_River_way ss Q X) : ss.length = 3 := by obtain ⟨_, _, _, rfl, _⟩ := h; rfl
theorem pure_River_way (ss : List Sl) (Q : Pv → List Sl → Prop) (X : UX) (h : U_River_way ss Q X) : u_River_way (endsU Q X ss.length) (startU N_River_way ss) := by
  obtain ⟨rows, h, l, rfl, g, hh, hl, k⟩ := h
  show u_River_way { nx := _, rt := retK Q 3, ex := fun x δ => X x (δ.take 3) } [.fz (riverD rows), .fz (.str h), .fz (.str l), .un]
  unfold u_River_way
  walk_at "go"
  refine ⟨rows, _, rfl, g, wr_ok g hh, fun _ => ?_, fun z => absurd z (inS_no hh)⟩
  walk_at "bk"
  walk_at "go"
  refine iteX (fun z => ?_) (fun z => ?_)
  · have e : l = "sea" := by simpa using z
    walk_at "go"
    have : wayL rows h l = crs rows rows.length h := by unfold wayL; rw [if_pos e]
    rw [this] at k
    exact k
  · have ne : l ≠ "sea" := by simpa using z
    obtain ⟨hw, hc⟩ : l ∈ wrs rows ∧ l ∈ crs rows rows.length h := by rcases hl with e | e; exact absurd e ne; exact e
    walk_at "go"
    refine ⟨rows, _, rfl, g, wr_ok g hw, fun _ => ?_, fun z => absurd z (inS_no hw)⟩
    walk_at "bk"
    walk_at "go"
    refine h_notInL rfl (.inr rfl) (wr_ok g hw) (oks_of (Ok.strs (n := 0) fun x hx => wrs_ok g x (crs_in g _ _ _ (.inl hh) hx))) ?_
    rw [any_str]
    walk_at "go"
    refine iteX (fun z => absurd z (by simp [hc])) (fun _ => ?_)
    walk_at "go"
    unfold uTIdx
    walk_at "go"
    refine ⟨⟨_, rfl⟩, ?_⟩
    walk_at "go"
    have hlt : (crs rows rows.length h).idxOf l < (crs rows rows.length h).length := List.idxOf_lt_length_of_mem hc
    refine ⟨crs rows rows.length h, l, (crs rows rows.length h).idxOf l, rfl, rfl, by rw [List.getElem?_eq_getElem hlt, List.getElem_idxOf], fun m hm => ?_, ?_⟩
    · exact idx_min _ _ m hm
    · walk_at "go"
      have e : cutD (List.map D.str (crs rows rows.length h)) none (some (((crs rows rows.length h).idxOf l : Nat) + 1 : Int)) = (wayL rows h l).map D.str := by
        have := cut_to (List.map D.str (crs rows rows.length h)) ((crs rows rows.length h).idxOf l + 1)
        rw [show (((crs rows rows.length h).idxOf l + 1 : Nat) : Int) = ((crs rows rows.length h).idxOf l : Int) + 1 from by omega] at this
        rw [this]
        unfold wayL
        rw [if_neg ne, List.map_take]
      rw [e]
      exact k
end
end WK
namespace WK
open PySem L2
/-! rights: name, intake, last -/
abbrev Rt := Str × Str × Str
def rtD (r : Rt) : D := .tup [.str r.1, .str r.2.1, .str r.2.2]
abbrev Rts := List Rt
def rnm (rs : Rts) : List Str := rs.map (·.1)
theorem rt_inj : ∀ {a b : Rts}, a.map rtD = b.map rtD → a = b
  | [], [], _ => rfl
  | [], _ :: _, h => by cases h
  | _ :: _, [], h => by cases h
  | (x, y, z) :: a, (x', y', z') :: b, h => by
    rw [List.map_cons, List.map_cons] at h
    injection h with h1 h2
    unfold rtD at h1
    injection h1 with h1
    injection h1 with h1 h3
    injection h1 with h1
    injection h3 with h3 h4
    injection h3 with h3
    injection h4 with h4
    injection h4 with h4
    have h1 : x = x' := h1
    have h3 : y = y' := h3
    have h4 : z = z' := h4
    rw [h1, h3, h4, rt_inj h2]
def isSea : D → Bool | .str z => decide (z = "sea") | _ => false
def asRt : D → Option (Str × D × D)
  | .tup [.str n, x, y] => if isName n = true then some (n, x, y) else none
  | _ => none
def okRt (ws ns : List Str) (e : D) : Bool := match asRt e with
  | some t => !decide (t.1 ∈ ns) && (inS ws t.2.1 && (isSea t.2.2 || inS ws t.2.2))
  | none => false
structure PreR (ws : List Str) (rs : Rts) : Prop where
  nm : ∀ r ∈ rs, isName r.1 = true
  nd : (rnm rs).Nodup
  inn : ∀ r ∈ rs, r.2.1 ∈ ws
  dn : ∀ r ∈ rs, r.2.2 = "sea" ∨ r.2.2 ∈ ws
theorem PreR.nil {ws : List Str} : PreR ws [] := ⟨(fun _ h => by cases h), List.nodup_nil, (fun _ h => by cases h), (fun _ h => by cases h)⟩
theorem asRt_rt {r : Rt} (h : isName r.1 = true) : asRt (rtD r) = some (r.1, .str r.2.1, .str r.2.2) := by
  show (if isName r.1 = true then some (r.1, D.str r.2.1, D.str r.2.2) else none) = _
  rw [if_pos h]
theorem sea_or {ws : List Str} {y : D} (h : (isSea y || inS ws y) = true) : ∃ l, y = .str l ∧ (l = "sea" ∨ l ∈ ws) := by
  rw [Bool.or_eq_true] at h
  rcases h with h | h
  · cases y with
    | str l => exact ⟨l, rfl, .inl (of_decide_eq_true h)⟩
    | _ => cases h
  · obtain ⟨l, e, hl⟩ := inS_str h
    exact ⟨l, e, .inr hl⟩
theorem rnm_app (a b : Rts) : rnm (a ++ b) = rnm a ++ rnm b := by unfold rnm; rw [List.map_append]
theorem PreR.snoc {ws : List Str} {rs : Rts} (P : PreR ws rs) {e : D} (h : okRt ws (rnm rs) e = true) : ∃ r, e = rtD r ∧ PreR ws (rs ++ [r]) ∧ r.1 ∉ rnm rs := by
  unfold okRt at h
  split at h
  · rename_i t ht
    obtain ⟨n, x, y⟩ := t
    unfold asRt at ht
    split at ht
    · split at ht
      · rename_i hn
        cases ht
        rw [Bool.and_eq_true, Bool.and_eq_true, Bool.not_eq_true', decide_eq_false_iff_not] at h
        obtain ⟨h1, h2, h3⟩ := h
        obtain ⟨i, hxi, hi⟩ := inS_str h2
        obtain ⟨l, hyl, hl⟩ := sea_or h3
        have hxi : x = .str i := hxi
        have hyl : y = .str l := hyl
        subst hxi hyl
        refine ⟨(n, i, l), rfl, ⟨fun q hq => ?_, ?_, fun q hq => ?_, fun q hq => ?_⟩, h1⟩
        · rcases List.mem_append.mp hq with hq | hq
          · exact P.nm q hq
          · rw [List.mem_singleton.mp hq]; exact hn
        · rw [rnm_app, List.nodup_append]
          refine ⟨P.nd, by unfold rnm; simp, fun a ha b hb e2 => ?_⟩
          have : b = n := by unfold rnm at hb; simpa using hb
          rw [e2, this] at ha
          exact h1 ha
        · rcases List.mem_append.mp hq with hq | hq
          · exact P.inn q hq
          · rw [List.mem_singleton.mp hq]; exact hi
        · rcases List.mem_append.mp hq with hq | hq
          · exact P.dn q hq
          · rw [List.mem_singleton.mp hq]; exact hl
      · cases ht
    · cases ht
  · cases h
theorem okRt_row {ws ns : List Str} {r : Rt} (h1 : isName r.1 = true) (h2 : r.1 ∉ ns) (h3 : r.2.1 ∈ ws) (h4 : r.2.2 = "sea" ∨ r.2.2 ∈ ws) : okRt ws ns (rtD r) = true := by
  unfold okRt
  rw [asRt_rt h1]
  show (!decide (r.1 ∈ ns) && (decide (r.2.1 ∈ ws) && (decide (r.2.2 = "sea") || decide (r.2.2 ∈ ws)))) = true
  rw [decide_eq_false h2, decide_eq_true h3]
  rcases h4 with h | h <;> simp [h]
def scanR (ws : List Str) (rs : Rts) : List D → Nat → Sum Nat Rts
  | [], _ => .inr rs
  | e :: es, i => if okRt ws (rnm rs) e = true then
      match e with
      | .tup [.str n, .str x, .str y] => scanR ws (rs ++ [(n, x, y)]) es (i + 1)
      | _ => .inl i
    else .inl i
def bad4 (rows : Rows) (r : Rt) : Bool := decide (r.2.2 ≠ "sea") && !decide (r.2.2 ∈ crs rows rows.length r.2.1)
def rtsF (rows : Rows) (rs : Rts) : D := match rs.findIdx? (bad4 rows) with
  | some i => .int (i : Nat)
  | none => .non
def rtF (rows : Rows) (es : List D) : D := if 40 < es.length then .int (-1) else match scanR (wrs rows) [] es 0 with
  | .inl i => .int (i : Nat)
  | .inr rs => rtsF rows rs
def rgD (rows : Rows) : D → D | .lst es => rtF rows es | _ => .int (-1)
theorem scanR_go {ws : List Str} {es : List D} : ∀ (k i : Nat) (rs : Rts), es.length - i = k → i ≤ es.length → es.take i = rs.map rtD → PreR ws rs →
    (∃ j e, scanR ws rs (es.drop i) i = .inl j ∧ i ≤ j ∧ es[j]? = some e ∧ ∃ r2, es.take j = r2.map rtD ∧ PreR ws r2 ∧ okRt ws (rnm r2) e = false) ∨ (∃ r2, scanR ws rs (es.drop i) i = .inr r2 ∧ es = r2.map rtD ∧ PreR ws r2)
  | 0, i, rs, hk, hi, ht, P => by
    have e : i = es.length := by omega
    subst e
    rw [List.take_length] at ht
    rw [List.drop_length]
    exact .inr ⟨rs, rfl, ht, P⟩
  | k + 1, i, rs, hk, hi, ht, P => by
    have hl : i < es.length := by omega
    have he : es[i]? = some es[i] := List.getElem?_eq_getElem hl
    rw [List.drop_eq_getElem_cons hl]
    cases hok : okRt ws (rnm rs) es[i] with
    | true =>
      obtain ⟨r, e1, P2, _⟩ := P.snoc hok
      have hs : scanR ws rs (es[i] :: es.drop (i + 1)) i = scanR ws (rs ++ [r]) (es.drop (i + 1)) (i + 1) := by
        conv => lhs; unfold scanR
        rw [if_pos hok, e1]; rfl
      have ht2 : es.take (i + 1) = (rs ++ [r]).map rtD := by
        rw [take_snoc he, ht, List.map_append, e1]; rfl
      rw [hs]
      rcases scanR_go k (i + 1) (rs ++ [r]) (by omega) hl ht2 P2 with ⟨j, e, a, b, c⟩ | h
      · exact .inl ⟨j, e, a, by omega, c⟩
      · exact .inr h
    | false =>
      refine .inl ⟨i, es[i], ?_, Nat.le_refl _, he, rs, ht, P, hok⟩
      conv => lhs; unfold scanR
      rw [if_neg (by rw [hok]; decide)]
theorem rtF_cases {rows : Rows} {es : List D} (h40 : es.length ≤ 40) :
    (∃ (j : Nat) (e : D) (r2 : Rts), rtF rows es = .int (j : Nat) ∧ es[j]? = some e ∧ es.take j = r2.map rtD ∧ PreR (wrs rows) r2 ∧ okRt (wrs rows) (rnm r2) e = false) ∨ (∃ r2 : Rts, rtF rows es = rtsF rows r2 ∧ es = r2.map rtD ∧ PreR (wrs rows) r2) := by
  have e0 : rtF rows es = (match scanR (wrs rows) [] es 0 with | .inl i => .int (i : Nat) | .inr rs => rtsF rows rs) := by
    unfold rtF
    rw [if_neg (by omega)]
  rcases scanR_go (ws := wrs rows) (es := es) es.length 0 [] (by omega) (by omega) rfl .nil with ⟨j, e, h, _, hj, r2, a, b, c⟩ | ⟨r2, h, a, b⟩
  · rw [List.drop_zero] at h
    exact .inl ⟨j, e, r2, by rw [e0, h], hj, a, b, c⟩
  · rw [List.drop_zero] at h
    exact .inr ⟨r2, by rw [e0, h], a, b⟩
theorem preR_ok {ws : List Str} {es : List D} {r2 rs : Rts} {e : D} {i j : Nat} (ht : es.take j = r2.map rtD) (P : PreR ws r2) (ij : i < j) (hi : es[i]? = some e) (hr : es.take i = rs.map rtD) : okRt ws (rnm rs) e = true := by
  have e1 : r2.take i = rs := rt_inj (by rw [List.map_take, ← ht, List.take_take, Nat.min_eq_left (Nat.le_of_lt ij), hr])
  have e2 : (r2.map rtD)[i]? = some e := by rw [← ht, List.getElem?_take_of_lt ij]; exact hi
  rw [List.getElem?_map] at e2
  cases h : r2[i]? with
  | none => rw [h] at e2; cases e2
  | some r =>
    rw [h] at e2
    cases e2
    have hm := List.mem_of_getElem? h
    refine okRt_row (P.nm r hm) (fun z => ?_) (P.inn r hm) (P.dn r hm)
    rw [← e1] at z
    have nd := P.nd
    have hsplit : rnm r2 = rnm (r2.take i) ++ rnm (r2.drop i) := by unfold rnm; rw [← List.map_append, List.take_append_drop]
    rw [hsplit, List.nodup_append] at nd
    obtain ⟨hxl, hxe⟩ := List.getElem?_eq_some_iff.mp h
    have hd : r ∈ r2.drop i := by rw [List.drop_eq_getElem_cons hxl, hxe]; exact List.mem_cons_self
    exact nd.2.2 r.1 z r.1 (List.mem_map.mpr ⟨r, hd, rfl⟩) rfl
theorem rt_at {rows : Rows} {es : List D} {rs : Rts} {e : D} {i : Nat} (h40 : es.length ≤ 40) (hi : es[i]? = some e) (hr : es.take i = rs.map rtD) (P : PreR (wrs rows) rs) (hok : okRt (wrs rows) (rnm rs) e = false) : rtF rows es = .int (i : Nat) := by
  rcases rtF_cases (rows := rows) h40 with ⟨j, e2, r2, h, hj, ht, P2, ho⟩ | ⟨r2, h, a, P2⟩
  · rcases Nat.lt_trichotomy i j with c | c | c
    · have := preR_ok ht P2 c hi hr
      rw [hok] at this; cases this
    · rw [c]; exact h
    · have := preR_ok hr P c hj ht
      rw [ho] at this; cases this
  · have hil := (List.getElem?_eq_some_iff.mp hi).1
    have := preR_ok (j := es.length) (by rw [List.take_length]; exact a) P2 hil hi hr
    rw [hok] at this; cases this
theorem rt_end {rows : Rows} {es : List D} {rs : Rts} (h40 : es.length ≤ 40) (hr : es = rs.map rtD) (P : PreR (wrs rows) rs) : rtF rows es = rtsF rows rs := by
  rcases rtF_cases (rows := rows) h40 with ⟨j, e2, r2, h, hj, ht, P2, ho⟩ | ⟨r2, h, a, P2⟩
  · have hjl := (List.getElem?_eq_some_iff.mp hj).1
    have := preR_ok (j := es.length) (by rw [List.take_length]; exact hr) P hjl hj ht
    rw [ho] at this; cases this
  · rw [h, rt_inj (a.symm.trans hr)]
/-- rows of rights that are let -/
structure GoodR (rows : Rows) (rs : Rts) : Prop where
  le : rs.length ≤ 40
  nm : ∀ r ∈ rs, isName r.1 = true
  nd : (rnm rs).Nodup
  inn : ∀ r ∈ rs, r.2.1 ∈ wrs rows
  dn : ∀ r ∈ rs, r.2.2 = "sea" ∨ (r.2.2 ∈ wrs rows ∧ r.2.2 ∈ crs rows rows.length r.2.1)
theorem GoodR.pre {rows : Rows} {rs : Rts} (g : GoodR rows rs) : PreR (wrs rows) rs := ⟨g.nm, g.nd, g.inn, fun r hr => (g.dn r hr).imp id And.left⟩
theorem rtsF_or (rows : Rows) (rs : Rts) : (∃ i : Int, rtsF rows rs = .int i) ∨ rtsF rows rs = .non := by
  unfold rtsF
  split
  · exact .inl ⟨_, rfl⟩
  · exact .inr rfl
theorem goodR_of {rows : Rows} {rs : Rts} (P : PreR (wrs rows) rs) (h40 : rs.length ≤ 40) (h : rtsF rows rs = .non) : GoodR rows rs := by
  unfold rtsF at h
  split at h
  · cases h
  · rename_i hn
    rw [List.findIdx?_eq_none_iff] at hn
    refine ⟨h40, P.nm, P.nd, P.inn, fun r hr => ?_⟩
    rcases P.dn r hr with e | e
    · exact .inl e
    · have := hn r hr
      unfold bad4 at this
      by_cases c : r.2.2 = "sea"
      · exact .inl c
      · rw [decide_eq_true c, Bool.true_and, Bool.not_eq_false', decide_eq_true_eq] at this
        exact .inr ⟨e, this⟩
theorem rt_good {rows : Rows} {rs : Rts} (g : GoodR rows rs) : rtF rows (rs.map rtD) = .non := by
  rw [rt_end (by rw [List.length_map]; exact g.le) rfl g.pre]
  unfold rtsF
  rw [List.findIdx?_eq_none_iff.mpr fun r hr => ?_]
  unfold bad4
  rcases g.dn r hr with e | e
  · rw [e]; rfl
  · rw [decide_eq_true e.2, Bool.not_true, Bool.and_false]
theorem rgD_or {rows : Rows} {n : Nat} {d : D} (ha : ArgD n d) : (∃ i : Int, rgD rows d = .int i) ∨ (rgD rows d = .non ∧ ∃ rs, d = .lst (rs.map rtD) ∧ GoodR rows rs) := by
  rcases ha with ⟨es, rfl, hp, hl⟩ | ⟨hl, _⟩
  · show (∃ i : Int, rtF rows es = .int i) ∨ (rtF rows es = .non ∧ _)
    by_cases h40 : es.length ≤ 40
    · rcases rtF_cases (rows := rows) h40 with ⟨j, e, r2, h, _⟩ | ⟨r2, h, a, P⟩
      · exact .inl ⟨_, h⟩
      · rcases rtsF_or rows r2 with ⟨i, hi⟩ | hn
        · exact .inl ⟨i, h.trans hi⟩
        · subst a
          rw [List.length_map] at h40
          exact .inr ⟨h.trans hn, r2, rfl, goodR_of P h40 hn⟩
    · exact .inl ⟨_, by unfold rtF; rw [if_pos (by omega)]⟩
  · exact .inl ⟨-1, by cases d <;> first | rfl | cases hl⟩
theorem three_of {ds : List D} (h : ds.length = 3) : ∃ x y z, ds = [x, y, z] := by
  match ds, h with
  | [x, y, z], _ => exact ⟨x, y, z, rfl⟩
theorem asRt_ne {ds : List D} (h : ds.length ≠ 3) : asRt (.tup ds) = none := by
  unfold asRt
  split
  · rename_i e
    cases e
    exact absurd rfl h
  · rfl
theorem asRt_no {x y z : D} (h : nameD x = false) : asRt (.tup [x, y, z]) = none := by
  cases x with
  | str a =>
    show (if isName a = true then some (a, y, z) else none) = none
    rw [show isName a = false from h]; rfl
  | _ => rfl
def earK (rs : Rts) : List (Key × D) := rs.map fun r => (.inr r.1, .bl true)
theorem ear_isSome (rs : Rts) (a : Str) : (valD (earK rs) (.inr a)).isSome = decide (a ∈ rnm rs) := by
  apply Bool.eq_iff_iff.mpr
  rw [valS_iff, decide_eq_true_eq]
  unfold earK rnm
  rw [List.map_map]
  constructor
  · intro h
    obtain ⟨r, hr, e⟩ := List.mem_map.mp h
    exact List.mem_map.mpr ⟨r, hr, Sum.inr.inj e⟩
  · intro h
    obtain ⟨r, hr, rfl⟩ := List.mem_map.mp h
    exact List.mem_map.mpr ⟨r, hr, rfl⟩
theorem earK_put {rs : Rts} {r : Rt} (h : r.1 ∉ rnm rs) : putD (earK rs) (.inr r.1) (.bl true) = earK (rs ++ [r]) := by
  rw [put_new]
  · simp [earK]
  · intro p hp e
    obtain ⟨q, hq, rfl⟩ := List.mem_map.mp hp
    exact h (List.mem_map.mpr ⟨q, hq, Sum.inr.inj e⟩)
theorem es_sea (d : D) (h : okD d = true) : eqD d (.str "sea") = isSea d := by
  cases d with
  | str z => rw [eqD_str]; rfl
  | _ => first | rfl | (show _ = false; unfold eqD; rw [toP, toP, PyData.eqv]) | (show _ = false; unfold eqD; rw [toP, toP]; rfl)
local macro_rules | `(tactic| walk_at "kb") => `(tactic| first | exact kb_str_str | exact kb_str_int | exact kb_str_bool | exact kb_str_list | exact kb_str_tuple | exact kb_str_dict | exact kb_int_str | exact kb_int_int | exact kb_int_bool | exact kb_int_list | exact kb_int_tuple | exact kb_int_dict | exact kb_bool_str | exact kb_bool_int | exact kb_bool_bool | exact kb_bool_list | exact kb_bool_tuple | exact kb_bool_dict | exact kb_list_str | exact kb_list_int | exact kb_list_bool | exact kb_list_list | exact kb_list_tuple | exact kb_list_dict | exact kb_tuple_str | exact kb_tuple_int | exact kb_tuple_bool | exact kb_tuple_list | exact kb_tuple_tuple | exact kb_tuple_dict | exact kb_dict_str | exact kb_dict_int | exact kb_dict_bool | exact kb_dict_list | exact kb_dict_tuple | exact kb_dict_dict | exact kb_NoneType_str | exact kb_NoneType_int | exact kb_NoneType_bool | exact kb_NoneType_list | exact kb_NoneType_tuple | exact kb_NoneType_dict)
local macro_rules | `(tactic| walk_at "pt") => `(tactic| repeat (first | exact PtR.ow | exact PtR.io | apply PtR.s))
local macro_rules | `(tactic| walk_at "st") => `(tactic| repeat (first | exact StS.z | apply StS.s))
local macro_rules | `(tactic| walk_at "sz") => `(tactic| first | omega | (simp; omega) | simp)
local macro_rules | `(tactic| walk_at "side") => `(tactic| first | assumption | omega | (refine ⟨?_, ?_⟩ <;> omega) | (exact .inl ⟨by omega, by omega⟩) | (exact .inr ⟨by omega, by omega⟩) | (exact ⟨by decide, by decide, by decide⟩) | rfl)
local macro_rules | `(tactic| walk_at "h1") => `(tactic| first
  | with_reducible first
    | refine h_seq ?_ | refine h_asg ?_ | refine h_op ?_ | refine h_c ?_ | refine h_cons ?_ | refine h_nil ?_ | refine h_cb ?_ | refine h_call ?_ | refine h_ret ?_ | refine h_drop ?_ | refine h_next ?_ | refine h_retN ?_
    | refine h_ifS ?_ | refine h_if ?_ | refine h_B ?_ | refine h_bl ?_ | refine h_and ?_ | refine h_or ?_ | refine h_not ?_ | refine h_andV ?_ | refine h_orV ?_ | refine h_notV ?_
    | refine h_un ?_ | refine h_neg ?_ | refine h_I0 ?_ | refine h_addI ?_ | refine h_int ?_ | refine h_abs ?_ | refine h_mx2 ?_ | refine h_mn2 ?_ | refine h_par ?_ | refine h_na1 ?_ | refine h_na2 ?_ | refine h_chain ?_
    | refine h_gseq ?_ | refine h_gFor ?_ | refine h_gP ?_ | refine h_gIf ?_ | refine h_askN ?_ | refine h_iGen ?_ | refine h_iGenM ?_ | refine h_listG ?_ | refine h_for ?_ | refine h_lc ?_ | refine h_dc ?_ | refine h_iseq ?_ | refine h_irng1 ?_ | refine h_irng2 ?_ | refine h_ienum ?_ | refine h_gcons ?_ | refine h_gnil ?_ | refine h_gF ?_ | refine h_gOF ?_ | refine h_gOA ?_ | refine h_gXT ?_ | refine h_gXF ?_
    | refine h_setI ?_ | refine h_sfld ?_ | refine hp_sfld0 ?_ | refine h_raise ?_ | refine h_dnew ?_ | refine h_inS ?_ | refine h_sl ?_ | refine h_noPart ?_ | refine h_part ?_ | refine h_partI ?_ | refine h_meth ?_ | refine h_make ?_ | refine h_fld ?_
    | refine h_tpk ?_ | refine h_setTm ?_ | refine h_tell ?_ | refine h_tpk3 ?_ | refine h_tpk2 ?_ | refine h_dnewT ?_ | refine h_setT ?_ | refine h_fgtT ?_ | refine h_fgt ?_ | refine h_mkx ?_ | refine h_erf ?_ | refine h_lst ?_ | refine h_tup ?_ | refine h_bm ?_ | refine h_bm0 ?_ | refine h_yes ?_ | refine h_stoF ?_ | refine h_stoT ?_ | refine h_stoN ?_ | refine h_stoC ?_ | refine hp_app0 ?_ | refine h_rtF ?_ | refine h_rtT ?_ | refine h_dget2W ?_ | refine iteT ?_ | refine iteF ?_ | refine iteNT ?_ | refine iteNF ?_ | refine h_nest ?_ | refine h_seqN ?_ | refine h_L ?_ | refine h_ifN ?_ | refine h_forN ?_ | refine h_appN ?_ | refine h_iseqM ?_ | refine h_ienumT ?_ | refine h_appT ?_ | refine h_appTQ ?_ | refine h_revL ?_
  | ((with_reducible refine' h_varF ?ev ?_); (case ev => rfl))
  | ((with_reducible refine' h_varO ?ev ?_); (case ev => rfl))
  | ((with_reducible refine' h_varI ?ev ?_); (case ev => rfl))
  | ((with_reducible refine' h_varL ?ev ?_); (case ev => rfl))
  | ((with_reducible refine' hp_gF ?e1 ?e2 ?_); (case e1 => first | exact trivial | exact nk_so _ | exact nk_soO _ | exact nk_soO _); (case e2 => walk_at "st"))
  | ((with_reducible refine' hp_gO ?e1 ?e0 ?e2 ?_); (case e1 => first | exact trivial | exact nk_so _ | exact nk_soO _ | exact nk_soO _); (case e0 => simp only [List.length]; decide); (case e2 => walk_at "st"))
  | ((with_reducible refine' h_I ?ec ?_); (case ec => walk_at "side"))
  | ((with_reducible refine' h_sz0 ?ec ?_); (case ec => walk_at "sz"))
  | ((with_reducible refine' h_ix ?es ?ea ?_); (case es => rfl); (case ea => first | assumption | walk_at "ix" | rfl))
  | ((with_reducible refine' h_len ?es ?ea ?_); (case es => rfl); (case ea => rfl))
  | ((with_reducible refine' h_lenS ?es ?_); (case es => walk_at "sz"))
  | ((with_reducible refine' h_list ?es ?ea ?_); (case es => rfl); (case ea => rfl))
  | ((with_reducible refine' h_tupN ?es ?_); (case es => rfl))
  | ((with_reducible refine' h_fgtK ?es ?_); (case es => rfl))
  | ((with_reducible refine' h_tuple ?es ?_); (case es => first | exact .inl rfl | exact .inr rfl))
  | ((with_reducible refine' h_eqA ?e1 ?e2 ?e3 ?_); (case e1 => rfl); (case e2 => rfl); (case e3 => rfl))
  | ((with_reducible refine' h_neA ?e1 ?e2 ?e3 ?_); (case e1 => rfl); (case e2 => rfl); (case e3 => rfl))
  | ((with_reducible refine' h_inD ?e1 ?e2 ?_); (case e1 => rfl); (case e2 => rfl))
  | ((with_reducible refine' h_notInD ?e1 ?e2 ?_); (case e1 => rfl); (case e2 => rfl))
  | ((with_reducible refine' h_isN ?e1 ?_); (case e1 => rfl))
  | ((with_reducible refine' h_inT ?e1 ?_); (case e1 => rfl))
  | ((with_reducible refine' h_listT ?e1 ?_); (case e1 => rfl))
  | ((with_reducible refine' hp_setT ?e1 ?e2 ?e3 ?_); (case e1 => exact ⟨_, rfl, rfl, rfl⟩); (case e2 => walk_at "sz"); (case e3 => walk_at "pt"))
  | ((with_reducible refine' hp_ext ?e1 ?e2 ?e3 ?_); (case e1 => exact ⟨_, rfl, rfl, rfl⟩); (case e2 => walk_at "sz"); (case e3 => walk_at "pt"))
  | ((with_reducible refine' h_notN ?e1 ?_); (case e1 => rfl))
  | ((with_reducible refine' h_isi ?e1 ?e2 ?e3 ?_); (case e1 => rfl); (case e2 => rfl); (case e3 => walk_at "kb"))
  | ((with_reducible refine' h_addS ?e1 ?_); (case e1 => walk_at "sz"))
  | ((with_reducible refine' h_addL ?e1 ?e2 ?e3 ?_); (case e1 => rfl); (case e2 => rfl); (case e3 => walk_at "sz"))
  | ((with_reducible refine' h_addT ?e1 ?e2 ?e3 ?_); (case e1 => rfl); (case e2 => rfl); (case e3 => walk_at "sz"))
  | ((with_reducible refine' h_slL ?e1 ?_); (case e1 => rfl))
  | ((with_reducible refine' h_slT ?e1 ?_); (case e1 => rfl))
  | ((with_reducible refine' h_slS ?e1 ?_); (case e1 => walk_at "sz"))
  | ((with_reducible refine' h_slX ?e1 ?_); (case e1 => rfl))
  | ((with_reducible refine' h_dictC ?e1 ?_); (case e1 => rfl))
  | ((with_reducible refine' h_fldI ?e1 ?e2 ?_); (case e1 => rfl); (case e2 => walk_at "fl"))
  | ((with_reducible refine' h_ty ?e1 ?e2 ?_); (case e1 => rfl); (case e2 => rfl))
  | ((with_reducible refine' hp_app ?e1 ?e2 ?e3 ?_); (case e1 => exact ⟨_, rfl, rfl, rfl⟩); (case e2 => walk_at "sz"); (case e3 => walk_at "pt"))
  | ((with_reducible refine' hp_stoO ?e1 ?e2 ?_); (case e1 => rfl); (case e2 => walk_at "st"))
  | ((with_reducible refine' h_stoFr ?e1 ?_); (case e1 => rfl))
  | ((with_reducible refine' h_gtup ?e1 ?e2 ?_); (case e1 => rfl); (case e2 => rfl))
  | ((with_reducible refine' h_glst ?e1 ?e2 ?_); (case e1 => rfl); (case e2 => rfl))
  | ((with_reducible refine' hp_setL ?e1 ?e2 ?e3 ?_); (case e1 => exact ⟨_, rfl, rfl, rfl⟩); (case e2 => first | rfl | assumption); (case e3 => walk_at "pt"))
  | ((with_reducible refine' hp_setD ?e0 ?e1 ?e2 ?e3 ?_); (case e0 => rfl); (case e1 => exact ⟨_, rfl, rfl, rfl⟩); (case e2 => walk_at "sz"); (case e3 => walk_at "pt"))
  | ((with_reducible refine' hp_sfld ?e1 ?e2 ?e3 ?e4 ?_); (case e1 => exact ⟨_, rfl, rfl, rfl⟩); (case e2 => simp only [List.length]; decide); (case e3 => walk_at "pf"); (case e4 => walk_at "pt"))
  | ((with_reducible refine' h_iseqN ?e1 ?e2 ?e3 ?_); (case e1 => rfl); (case e2 => rfl); (case e3 => rfl))
  | ((with_reducible refine' h_iseqS ?e1 ?e2 ?e3 ?_); (case e1 => rfl); (case e2 => rfl); (case e3 => rfl))
  | ((with_reducible refine' h_ienumN ?e1 ?e3 ?_); (case e1 => rfl); (case e3 => rfl))
  | ((with_reducible refine' h_ienumS ?e1 ?e3 ?_); (case e1 => rfl); (case e3 => rfl))
  | ((with_reducible refine' h_irng1I ?e1 ?_); (case e1 => (constructor <;> omega)))
  | ((with_reducible refine' h_irng2I ?e1 ?_); (case e1 => (refine ⟨?_, ?_, ?_, ?_⟩ <;> omega)))
  | ((with_reducible refine' h_methI ?e1 ?e2 ?_); (case e1 => rfl); (case e2 => walk_at "fl"))
  | ((with_reducible refine' h_isD ?e1 ?_); (case e1 => rfl))
  | ((with_reducible refine' h_callP ?e1 ?e2 ?_); (case e1 => rfl); (case e2 => rfl))
  | ((with_reducible refine' h_makeP ?e1 ?e2 ?_); (case e1 => rfl); (case e2 => rfl))
  | ((with_reducible refine' h_rtO ?e1 ?_); (case e1 => rfl))
  | ((with_reducible refine' h_iseqMF ?e1 ?_); (case e1 => rfl))
  | ((with_reducible refine' h_iseqMT ?e1 ?_); (case e1 => rfl))
  | ((with_reducible refine' h_ienumTI ?e1 ?_); (case e1 => rfl))
  | ((with_reducible refine' h_appTI ?e1 ?_); (case e1 => walk_at "sz"))
  | ((with_reducible refine' h_rtA ?e1 ?_); (case e1 => rfl))
  | ((with_reducible refine' h_dgetF ?e1 ?e2 ?_); (case e1 => rfl); (case e2 => rfl))
  | ((with_reducible refine' iteK0 ?e1 ?_); (case e1 => rfl))
  | ((with_reducible refine' iteK1 ?e1 ?_); (case e1 => rfl)))
local macro_rules | `(tactic| walk_at "go") => `(tactic| repeat (walk_at "h1"))
local macro_rules | `(tactic| walk_at "bk") => `(tactic| ((try dsimp only); simp only [fzn_fz, fzn_at, fzn_tm, List.map_nil, List.append_nil, List.map_cons, List.cons_append, List.nil_append, back_at, back_af, back_ao, back_fz, back_nil, pt_ow, pt_io, pt_succ]))
local macro_rules | `(tactic| walk_at "g0") => `(tactic| skip)
local macro_rules | `(tactic| walk_at "pf") => `(tactic| rfl)
section
local macro_rules | `(tactic| walk_at "fl") => `(tactic| first | exact rf_weirs _ | exact rf_lower _ | exact rf_courses _ | exact rf_no _ (by decide +kernel) (by decide +kernel) (by decide +kernel))
local macro_rules | `(tactic| walk_at "ix") => `(tactic| first | exact valD_low (by assumption) | exact valD_crs (by assumption))
abbrev N_is_wrong_right : List Str := ["river", "entry", "earlier", "name", "intake", "last"]
def u_is_wrong_right : US :=
  (uSeq (uIfS (uOr (uNot (uB (uCB oIsi (uCons (uVar 1) (uCons (uC (.ty "tuple")) uNil))))) (uB (uOp oNe (uCB oLen (uCons (uVar 1) uNil)) (uC (.int 3))))) (uRet (uC (.bl true))) uNext)
  (uSeq (uAsg (uVar 1) (ugTup 3 (ugCons (ugF 3) (ugCons (ugF 4) (ugCons (ugF 5) ugNil)))))
  (uSeq (uIfS (uOr (uNot (uB (uCall U_is_name [] (uCons (uVar 3) uNil)))) (uOr (uB (uOp oIn (uVar 3) (uVar 2))) (uB (uOp (oInB not) (uVar 4) (uFld "River" "weirs" (uVar 0)))))) (uRet (uC (.bl true))) uNext)
  (uRet (uAndV (uOp oNe (uVar 5) (uC (.str "sea"))) (uOp (oInB not) (uVar 5) (uFld "River" "weirs" (uVar 0))))))))
def U_is_wrong_right : UP := fun ss Q _ => ∃ (rows : Rows) (e : D) (rs : Rts) (n : Nat), ss = [.fz (riverD rows), .fz e, .io (.dct (earK rs))] ∧ Good rows ∧ Pl n e ∧ n ≤ 50 ∧ Q (.fz (.bl (!okRt (wrs rows) (rnm rs) e))) ss
theorem len_is_wrong_right {ss : List Sl} {Q : Pv → List Sl → Prop} {X : UX} (h : U_is_wrong_right ss Q X) : ss.length = 3 := by obtain ⟨_, _, _, _, rfl, _⟩ := h; rfl
theorem pure_is_wrong_right (ss : List Sl) (Q : Pv → List Sl → Prop) (X : UX) (h : U_is_wrong_right ss Q X) : u_is_wrong_right (endsU Q X ss.length) (startU N_is_wrong_right ss) := by
  obtain ⟨rows, e, rs, n, rfl, g, hp, hn, k⟩ := h
  show u_is_wrong_right { nx := _, rt := retK Q 3, ex := _ } [.fz (riverD rows), .fz e, .io (.dct (earK rs)), .un, .un, .un]
  unfold u_is_wrong_right
  have okw : okDs ((wrs rows).map D.str) = true := oks_of (Ok.strs (n := 0) (wrs_ok g))
  cases e with
  | tup ds =>
    walk_at "go"
    refine iteX (fun h => ?_) (fun h => ?_)
    · have hne : ds.length ≠ 3 := fun z => by simp [z] at h
      walk_at "go"
      rw [show okRt (wrs rows) (rnm rs) (.tup ds) = false from by unfold okRt; rw [asRt_ne hne]] at k
      exact k
    · obtain ⟨x, y, z, rfl⟩ := three_of (ds := ds) (Int.ofNat.inj (by simpa using h))
      have hx := hp.tup_in (d := x) (by simp)
      have hy := hp.tup_in (d := y) (by simp)
      have hz := hp.tup_in (d := z) (by simp)
      have oky := hy.ok.ok (by omega)
      have okz := hz.ok.ok (by omega)
      obtain ⟨Tx, tx, _⟩ := hx.ty
      walk_at "go"
      refine ⟨x, Tx, rfl, tx, hx.z9 (by omega), ?_⟩
      walk_at "bk"
      walk_at "go"
      cases c1 : nameD x with
      | false =>
        walk_at "go"
        rw [show okRt (wrs rows) (rnm rs) (.tup [x, y, z]) = false from by unfold okRt; rw [asRt_no c1]] at k
        exact k
      | true =>
        obtain ⟨a, rfl, n1⟩ := name_str c1
        have eo : okRt (wrs rows) (rnm rs) (.tup [.str a, y, z]) = (!decide (a ∈ rnm rs) && (inS (wrs rows) y && (isSea z || inS (wrs rows) z))) := by
          unfold okRt
          rw [show asRt (.tup [.str a, y, z]) = some (a, y, z) from by show (if isName a = true then some (a, y, z) else none) = _; rw [if_pos n1]]
        rw [eo] at k
        walk_at "go"
        rw [ear_isSome]
        cases c2 : decide (a ∈ rnm rs) with
        | true =>
          rw [c2] at k
          walk_at "go"
          exact k
        | false =>
          rw [c2] at k
          walk_at "go"
          refine h_notInL rfl (.inr rfl) oky okw ?_
          rw [any_inS]
          walk_at "go"
          cases c3 : inS (wrs rows) y with
          | false =>
            rw [c3] at k
            walk_at "go"
            exact k
          | true =>
            rw [c3] at k
            walk_at "go"
            refine h_neD rfl rfl okz (Ok.str (n := 0) (by decide +kernel)).ok ?_
            rw [es_sea _ okz]
            walk_at "go"
            cases c4 : isSea z with
            | true =>
              rw [c4] at k
              walk_at "go"
              exact k
            | false =>
              rw [c4] at k
              walk_at "go"
              refine h_notInL rfl (.inr rfl) okz okw ?_
              rw [any_inS]
              walk_at "go"
              exact k
  | _ =>
    cases hp
    all_goals
      walk_at "go"
      exact k
end
section
theorem rt_ix0 (r : Rt) : ixD (rtD r) (.fz (.int 0)) = some (.str r.1) := rfl
theorem rt_ix1 (r : Rt) : ixD (rtD r) (.fz (.int 1)) = some (.str r.2.1) := rfl
theorem rt_ix2 (r : Rt) : ixD (rtD r) (.fz (.int 2)) = some (.str r.2.2) := rfl
theorem rgD_non {rows : Rows} {d : D} (h : isLst d = false) : rgD rows d = .int (-1) := by cases d <;> first | rfl | cases h
local macro_rules | `(tactic| walk_at "fl") => `(tactic| first | exact rf_weirs _ | exact rf_lower _ | exact rf_courses _ | exact rf_no _ (by decide +kernel) (by decide +kernel) (by decide +kernel))
local macro_rules | `(tactic| walk_at "ix") => `(tactic| first | exact rt_ix0 _ | exact rt_ix1 _ | exact rt_ix2 _)
abbrev N_rights_fault : List Str := ["river", "rows", "earlier", "place", "entry"]
def tl_rights_fault_4 : US :=
  (uRet (uC .non))
def tl_rights_fault_3 : US :=
  (uSeq (uFor (uIEnum (uCons (uVar 1) uNil)) (ugTup 2 (ugCons (ugF 3) (ugCons (ugF 4) ugNil))) (uIfS (uAnd (uB (uOp oNe (uOp oIx (uVar 4) (uC (.int 2))) (uC (.str "sea")))) (uNot (uB (uMeth "River" "is_down" U_River_is_down [] (uVar 0) (uCons (uOp oIx (uVar 4) (uC (.int 1))) (uCons (uOp oIx (uVar 4) (uC (.int 2))) uNil)))))) (uRet (uVar 3)) uNext)) tl_rights_fault_4)
def tl_rights_fault_2 : US :=
  (uSeq (uFor (uIEnum (uCons (uVar 1) uNil)) (ugTup 2 (ugCons (ugF 3) (ugCons (ugF 4) ugNil))) (uSeq (uIfS (uB (uCall U_is_wrong_right [] (uCons (uVar 0) (uCons (uVar 4) (uCons (uVar 2) uNil))))) (uRet (uVar 3)) uNext)
  (uSetI (uC (.bl true)) (uVar 2) (uOp oIx (uVar 4) (uC (.int 0)))))) tl_rights_fault_3)
def tl_rights_fault_1 : US :=
  (uSeq (uAsg uDNew (ugO 2)) tl_rights_fault_2)
def u_rights_fault : US :=
  (uSeq (uIfS (uOr (uNot (uB (uCB oIsi (uCons (uVar 1) (uCons (uC (.ty "list")) uNil))))) (uB (uOp oGt (uCB oLen (uCons (uVar 1) uNil)) (uC (.int 40))))) (uRet (uUn oNeg (uC (.int 1)))) uNext) tl_rights_fault_1)
def U_rights_fault : UP := fun ss Q _ => ∃ (rows : Rows) (d : D) (n : Nat), ss = [.fz (riverD rows), .fz d] ∧ Good rows ∧ ArgD n d ∧ n ≤ 50 ∧ Q (.fz (rgD rows d)) ss
theorem len_rights_fault {ss : List Sl} {Q : Pv → List Sl → Prop} {X : UX} (h : U_rights_fault ss Q X) : ss.length = 2 := by obtain ⟨_, _, _, rfl, _⟩ := h; rfl
theorem pure_rights_fault (ss : List Sl) (Q : Pv → List Sl → Prop) (X : UX) (h : U_rights_fault ss Q X) : u_rights_fault (endsU Q X ss.length) (startU N_rights_fault ss) := by
  obtain ⟨rows, d, n, rfl, g, ha, hn, k⟩ := h
  show u_rights_fault { nx := _, rt := retK Q 2, ex := _ } [.fz (riverD rows), .fz d, .un, .un, .un]
  unfold u_rights_fault
  rcases ha with ⟨es, rfl, hp, hel⟩ | ⟨hl, T, hT⟩
  · have k' : Q (.fz (rtF rows es)) [.fz (riverD rows), .fz (.lst es)] := k
    walk_at "go"
    refine iteX (fun c1 => ?_) (fun c1 => ?_)
    · have h1 : 40 < es.length := by have := of_decide_eq_true c1; omega
      rw [show rtF rows es = .int (-1) from by unfold rtF; rw [if_pos h1]] at k'
      walk_at "go"
      exact k'
    · have h2 : es.length ≤ 40 := by have := of_decide_eq_false c1; omega
      walk_at "go"
      unfold tl_rights_fault_1
      walk_at "go"
      unfold tl_rights_fault_2
      walk_at "go"
      refine for_enum (xs := es) (fun i δ => ∃ (rs : Rts) (v w : Option D), es.take i = rs.map rtD ∧ PreR (wrs rows) rs ∧ δ = [.fz (riverD rows), .fz (.lst es), .ow (.dct (earK rs)), so v, so w]) ⟨[], none, none, rfl, .nil, rfl⟩ ?_ ?_
      · rintro i e δ hi ⟨rs, v, w, ht, P, rfl⟩
        have hil := (List.getElem?_eq_some_iff.mp hi).1
        have hrl : rs.length = i := by
          have := congrArg List.length ht
          rw [List.length_take, List.length_map] at this; omega
        walk_at "go"
        refine ⟨rows, e, rs, n, rfl, g, hp e (List.mem_of_getElem? hi), hn, ?_⟩
        walk_at "bk"
        walk_at "go"
        cases hok : okRt (wrs rows) (rnm rs) e with
        | false =>
          walk_at "go"
          rw [rt_at h2 hi ht P hok] at k'
          exact k'
        | true =>
          obtain ⟨r, rfl, P2, hnr⟩ := P.snoc hok
          have hll : (earK rs).length < 10000000 := by unfold earK; rw [List.length_map]; omega
          walk_at "go"
          exact ⟨rs ++ [r], some (.int (i : Nat)), some (rtD r), by rw [take_snoc hi, ht, List.map_append]; rfl, P2, by rw [earK_put hnr]; rfl⟩
      · rintro δ ⟨rs, v, w, ht, P, rfl⟩
        rw [List.take_length] at ht
        subst ht
        rw [rt_end h2 rfl P] at k'
        rw [List.length_map] at h2
        unfold tl_rights_fault_3
        walk_at "go"
        refine for_enumM (emb := rtD) (fun i δ => (∀ r ∈ rs.take i, bad4 rows r = false) ∧ ∃ (v w : Option D), δ = [.fz (riverD rows), .fz (.lst (rs.map rtD)), .ow (.dct (earK rs)), so v, so w]) ⟨fun r h => by simp at h, v, w, rfl⟩ ?_ ?_
        · rintro i r δ hi ⟨hb, v, w, rfl⟩
          have hr := List.mem_of_getElem? hi
          have nxt : bad4 rows r = false → ∀ y ∈ rs.take (i + 1), bad4 rows y = false := fun h y hy => by
            rw [take_snoc hi] at hy
            rcases List.mem_append.mp hy with z | z
            · exact hb y z
            · rw [List.mem_singleton.mp z]; exact h
          walk_at "go"
          refine iteX (fun h => ?_) (fun h => ?_)
          · have hw : r.2.2 ∈ wrs rows := by rcases P.dn r hr with z | z; exact absurd z (by simpa using h); exact z
            walk_at "go"
            refine ⟨rows, _, _, rfl, g, P.inn r hr, hw, ?_⟩
            walk_at "bk"
            walk_at "go"
            cases hd : decide (r.2.2 ∈ crs rows rows.length r.2.1) with
            | true =>
              walk_at "go"
              exact ⟨nxt (by unfold bad4; rw [hd, Bool.not_true, Bool.and_false]), some _, some _, rfl⟩
            | false =>
              walk_at "go"
              have hb1 : bad4 rows r = true := by unfold bad4; rw [hd]; simpa using h
              rw [show rtsF rows rs = .int (i : Nat) from by unfold rtsF; rw [fidx_some hi hb1 hb]] at k'
              exact k'
          · have h' : r.2.2 = "sea" := by simpa using h
            walk_at "go"
            exact ⟨nxt (by unfold bad4; rw [h']; rfl), some _, some _, rfl⟩
        · rintro δ ⟨hb, v, w, rfl⟩
          rw [List.take_length] at hb
          unfold tl_rights_fault_4
          walk_at "go"
          rw [show rtsF rows rs = .non from by unfold rtsF; rw [List.findIdx?_eq_none_iff.mpr hb]] at k'
          exact k'
  · rw [rgD_non hl] at k
    walk_at "go"
    refine h_isi rfl hT (kit_lst hT) ?_
    rw [hl]
    walk_at "go"
    exact k
end
end WK
namespace WK
open PySem L2
def rwayD (rows : Rows) (r : Rt) : D := .tup ((wayL rows r.2.1 r.2.2).map .str)
def rstopK (rows : Rows) (r : Rt) : List (Key × D) := (wayL rows r.2.1 r.2.2).map fun w => (.inr w, .bl true)
def entK (rs : Rts) : List (Key × D) := rs.map fun r => (.inr r.1, rtD r)
def wayK (rows : Rows) (rs : Rts) : List (Key × D) := rs.map fun r => (.inr r.1, rwayD rows r)
def stopK (rows : Rows) (rs : Rts) : List (Key × D) := rs.map fun r => (.inr r.1, .dct (rstopK rows r))
def rightsF (rows : Rows) (rs : Rts) : List (Str × D) := [("river", riverD rows), ("names", .tup ((rnm rs).map .str)), ("entries", .dct (entK rs)), ("ways", .dct (wayK rows rs)), ("stops", .dct (stopK rows rs))]
def rightsD (rows : Rows) (rs : Rts) : D := .obj "Rights" (rightsF rows rs)
theorem tf_river (rows : Rows) (rs : Rts) : (rightsF rows rs).lookup ("river" : Str) = some (riverD rows) := by unfold rightsF; rw [lkD, if_pos rfl]
theorem tf_names (rows : Rows) (rs : Rts) : (rightsF rows rs).lookup ("names" : Str) = some (.tup ((rnm rs).map .str)) := by unfold rightsF; rw [lkD, if_neg (by decide +kernel), lkD, if_pos rfl]
theorem tf_entries (rows : Rows) (rs : Rts) : (rightsF rows rs).lookup ("entries" : Str) = some (.dct (entK rs)) := by unfold rightsF; rw [lkD, if_neg (by decide +kernel), lkD, if_neg (by decide +kernel), lkD, if_pos rfl]
theorem tf_ways (rows : Rows) (rs : Rts) : (rightsF rows rs).lookup ("ways" : Str) = some (.dct (wayK rows rs)) := by unfold rightsF; rw [lkD, if_neg (by decide +kernel), lkD, if_neg (by decide +kernel), lkD, if_neg (by decide +kernel), lkD, if_pos rfl]
theorem tf_stops (rows : Rows) (rs : Rts) : (rightsF rows rs).lookup ("stops" : Str) = some (.dct (stopK rows rs)) := by unfold rightsF; rw [lkD, if_neg (by decide +kernel), lkD, if_neg (by decide +kernel), lkD, if_neg (by decide +kernel), lkD, if_neg (by decide +kernel), lkD, if_pos rfl]
theorem tf_no (rows : Rows) (rs : Rts) {f : Str} (h1 : f ≠ "river") (h2 : f ≠ "names") (h3 : f ≠ "entries") (h4 : f ≠ "ways") (h5 : f ≠ "stops") : (rightsF rows rs).lookup f = none := by
  unfold rightsF; rw [lkD, if_neg h1, lkD, if_neg h2, lkD, if_neg h3, lkD, if_neg h4, lkD, if_neg h5]; rfl
local macro_rules | `(tactic| walk_at "kb") => `(tactic| first | exact kb_str_str | exact kb_str_int | exact kb_str_bool | exact kb_str_list | exact kb_str_tuple | exact kb_str_dict | exact kb_int_str | exact kb_int_int | exact kb_int_bool | exact kb_int_list | exact kb_int_tuple | exact kb_int_dict | exact kb_bool_str | exact kb_bool_int | exact kb_bool_bool | exact kb_bool_list | exact kb_bool_tuple | exact kb_bool_dict | exact kb_list_str | exact kb_list_int | exact kb_list_bool | exact kb_list_list | exact kb_list_tuple | exact kb_list_dict | exact kb_tuple_str | exact kb_tuple_int | exact kb_tuple_bool | exact kb_tuple_list | exact kb_tuple_tuple | exact kb_tuple_dict | exact kb_dict_str | exact kb_dict_int | exact kb_dict_bool | exact kb_dict_list | exact kb_dict_tuple | exact kb_dict_dict | exact kb_NoneType_str | exact kb_NoneType_int | exact kb_NoneType_bool | exact kb_NoneType_list | exact kb_NoneType_tuple | exact kb_NoneType_dict)
local macro_rules | `(tactic| walk_at "pt") => `(tactic| repeat (first | exact PtR.ow | exact PtR.io | apply PtR.s))
local macro_rules | `(tactic| walk_at "st") => `(tactic| repeat (first | exact StS.z | apply StS.s))
local macro_rules | `(tactic| walk_at "sz") => `(tactic| first | omega | (simp; omega) | simp)
local macro_rules | `(tactic| walk_at "side") => `(tactic| first | assumption | omega | (refine ⟨?_, ?_⟩ <;> omega) | (exact .inl ⟨by omega, by omega⟩) | (exact .inr ⟨by omega, by omega⟩) | (exact ⟨by decide, by decide, by decide⟩) | rfl)
local macro_rules | `(tactic| walk_at "h1") => `(tactic| first
  | with_reducible first
    | refine h_seq ?_ | refine h_asg ?_ | refine h_op ?_ | refine h_c ?_ | refine h_cons ?_ | refine h_nil ?_ | refine h_cb ?_ | refine h_call ?_ | refine h_ret ?_ | refine h_drop ?_ | refine h_next ?_ | refine h_retN ?_
    | refine h_ifS ?_ | refine h_if ?_ | refine h_B ?_ | refine h_bl ?_ | refine h_and ?_ | refine h_or ?_ | refine h_not ?_ | refine h_andV ?_ | refine h_orV ?_ | refine h_notV ?_
    | refine h_un ?_ | refine h_neg ?_ | refine h_I0 ?_ | refine h_addI ?_ | refine h_int ?_ | refine h_abs ?_ | refine h_mx2 ?_ | refine h_mn2 ?_ | refine h_par ?_ | refine h_na1 ?_ | refine h_na2 ?_ | refine h_chain ?_
    | refine h_for ?_ | refine h_lc ?_ | refine h_dc ?_ | refine h_iseq ?_ | refine h_irng1 ?_ | refine h_irng2 ?_ | refine h_ienum ?_ | refine h_gcons ?_ | refine h_gnil ?_ | refine h_gF ?_ | refine h_gOF ?_ | refine h_gOA ?_ | refine h_gXT ?_ | refine h_gXF ?_
    | refine h_setI ?_ | refine h_sfld ?_ | refine hp_sfld0 ?_ | refine h_raise ?_ | refine h_dnew ?_ | refine h_inS ?_ | refine h_sl ?_ | refine h_noPart ?_ | refine h_part ?_ | refine h_partI ?_ | refine h_meth ?_ | refine h_make ?_ | refine h_fld ?_
    | refine h_fgt ?_ | refine h_lst ?_ | refine h_tup ?_ | refine h_bm ?_ | refine h_bm0 ?_ | refine h_yes ?_ | refine h_stoF ?_ | refine h_stoT ?_ | refine h_stoN ?_ | refine h_stoC ?_ | refine hp_app0 ?_ | refine h_rtF ?_ | refine h_rtT ?_ | refine h_dget2W ?_ | refine iteT ?_ | refine iteF ?_ | refine iteNT ?_ | refine iteNF ?_
  | ((with_reducible refine' h_varF ?ev ?_); (case ev => rfl))
  | ((with_reducible refine' h_varO ?ev ?_); (case ev => rfl))
  | ((with_reducible refine' h_varI ?ev ?_); (case ev => rfl))
  | ((with_reducible refine' h_varL ?ev ?_); (case ev => rfl))
  | ((with_reducible refine' hp_gF ?e1 ?e2 ?_); (case e1 => first | exact trivial | exact nk_so _); (case e2 => walk_at "st"))
  | ((with_reducible refine' hp_gO ?e1 ?e0 ?e2 ?_); (case e1 => first | exact trivial | exact nk_so _); (case e0 => simp only [List.length]; decide); (case e2 => walk_at "st"))
  | ((with_reducible refine' h_I ?ec ?_); (case ec => walk_at "side"))
  | ((with_reducible refine' h_sz0 ?ec ?_); (case ec => walk_at "sz"))
  | ((with_reducible refine' h_ix ?es ?ea ?_); (case es => rfl); (case ea => first | assumption | walk_at "ix" | rfl))
  | ((with_reducible refine' h_len ?es ?ea ?_); (case es => rfl); (case ea => rfl))
  | ((with_reducible refine' h_lenS ?es ?_); (case es => walk_at "sz"))
  | ((with_reducible refine' h_list ?es ?ea ?_); (case es => rfl); (case ea => rfl))
  | ((with_reducible refine' h_tupN ?es ?_); (case es => rfl))
  | ((with_reducible refine' h_fgtK ?es ?_); (case es => rfl))
  | ((with_reducible refine' h_tuple ?es ?_); (case es => first | exact .inl rfl | exact .inr rfl))
  | ((with_reducible refine' h_eqA ?e1 ?e2 ?e3 ?_); (case e1 => rfl); (case e2 => rfl); (case e3 => rfl))
  | ((with_reducible refine' h_neA ?e1 ?e2 ?e3 ?_); (case e1 => rfl); (case e2 => rfl); (case e3 => rfl))
  | ((with_reducible refine' h_inD ?e1 ?e2 ?_); (case e1 => rfl); (case e2 => rfl))
  | ((with_reducible refine' h_notInD ?e1 ?e2 ?_); (case e1 => rfl); (case e2 => rfl))
  | ((with_reducible refine' h_isN ?e1 ?_); (case e1 => rfl))
  | ((with_reducible refine' h_notN ?e1 ?_); (case e1 => rfl))
  | ((with_reducible refine' h_isi ?e1 ?e2 ?e3 ?_); (case e1 => rfl); (case e2 => rfl); (case e3 => walk_at "kb"))
  | ((with_reducible refine' h_addS ?e1 ?_); (case e1 => walk_at "sz"))
  | ((with_reducible refine' h_addL ?e1 ?e2 ?e3 ?_); (case e1 => rfl); (case e2 => rfl); (case e3 => walk_at "sz"))
  | ((with_reducible refine' h_addT ?e1 ?e2 ?e3 ?_); (case e1 => rfl); (case e2 => rfl); (case e3 => walk_at "sz"))
  | ((with_reducible refine' h_slL ?e1 ?_); (case e1 => rfl))
  | ((with_reducible refine' h_slT ?e1 ?_); (case e1 => rfl))
  | ((with_reducible refine' h_slS ?e1 ?_); (case e1 => walk_at "sz"))
  | ((with_reducible refine' h_slX ?e1 ?_); (case e1 => rfl))
  | ((with_reducible refine' h_dictC ?e1 ?_); (case e1 => rfl))
  | ((with_reducible refine' h_fldI ?e1 ?e2 ?_); (case e1 => rfl); (case e2 => walk_at "fl"))
  | ((with_reducible refine' h_ty ?e1 ?e2 ?_); (case e1 => rfl); (case e2 => rfl))
  | ((with_reducible refine' hp_app ?e1 ?e2 ?e3 ?_); (case e1 => exact ⟨_, rfl, rfl, rfl⟩); (case e2 => walk_at "sz"); (case e3 => walk_at "pt"))
  | ((with_reducible refine' hp_stoO ?e1 ?e2 ?_); (case e1 => rfl); (case e2 => walk_at "st"))
  | ((with_reducible refine' h_stoFr ?e1 ?_); (case e1 => rfl))
  | ((with_reducible refine' h_gtup ?e1 ?e2 ?_); (case e1 => rfl); (case e2 => rfl))
  | ((with_reducible refine' hp_setL ?e1 ?e2 ?e3 ?_); (case e1 => exact ⟨_, rfl, rfl, rfl⟩); (case e2 => first | rfl | assumption); (case e3 => walk_at "pt"))
  | ((with_reducible refine' hp_setD ?e0 ?e1 ?e2 ?e3 ?_); (case e0 => rfl); (case e1 => exact ⟨_, rfl, rfl, rfl⟩); (case e2 => walk_at "sz"); (case e3 => walk_at "pt"))
  | ((with_reducible refine' hp_sfld ?e1 ?e2 ?e3 ?e4 ?_); (case e1 => exact ⟨_, rfl, rfl, rfl⟩); (case e2 => simp only [List.length]; decide); (case e3 => walk_at "pf"); (case e4 => walk_at "pt"))
  | ((with_reducible refine' h_iseqN ?e1 ?e2 ?e3 ?_); (case e1 => rfl); (case e2 => rfl); (case e3 => rfl))
  | ((with_reducible refine' h_iseqS ?e1 ?e2 ?e3 ?_); (case e1 => rfl); (case e2 => rfl); (case e3 => rfl))
  | ((with_reducible refine' h_ienumN ?e1 ?e3 ?_); (case e1 => rfl); (case e3 => rfl))
  | ((with_reducible refine' h_ienumS ?e1 ?e3 ?_); (case e1 => rfl); (case e3 => rfl))
  | ((with_reducible refine' h_irng1I ?e1 ?_); (case e1 => (constructor <;> omega)))
  | ((with_reducible refine' h_irng2I ?e1 ?_); (case e1 => (refine ⟨?_, ?_, ?_, ?_⟩ <;> omega)))
  | ((with_reducible refine' h_methI ?e1 ?e2 ?_); (case e1 => rfl); (case e2 => walk_at "fl"))
  | ((with_reducible refine' h_isD ?e1 ?_); (case e1 => rfl))
  | ((with_reducible refine' h_callP ?e1 ?e2 ?_); (case e1 => rfl); (case e2 => rfl))
  | ((with_reducible refine' h_makeP ?e1 ?e2 ?_); (case e1 => rfl); (case e2 => rfl))
  | ((with_reducible refine' h_rtO ?e1 ?_); (case e1 => rfl))
  | ((with_reducible refine' h_rtA ?e1 ?_); (case e1 => rfl))
  | ((with_reducible refine' h_dgetF ?e1 ?e2 ?_); (case e1 => rfl); (case e2 => rfl))
  | ((with_reducible refine' iteK0 ?e1 ?_); (case e1 => rfl))
  | ((with_reducible refine' iteK1 ?e1 ?_); (case e1 => rfl)))
local macro_rules | `(tactic| walk_at "go") => `(tactic| repeat (walk_at "h1"))
local macro_rules | `(tactic| walk_at "bk") => `(tactic| ((try dsimp only); simp only [fzn_fz, fzn_at, fzn_tm, List.map_nil, List.append_nil, List.map_cons, List.cons_append, List.nil_append, back_at, back_af, back_ao, back_fz, back_nil, pt_ow, pt_io, pt_succ]))
local macro_rules | `(tactic| walk_at "g0") => `(tactic| skip)
local macro_rules | `(tactic| walk_at "pf") => `(tactic| rfl)
section
local macro_rules | `(tactic| walk_at "fl") => `(tactic| first | exact tf_river _ _ | exact tf_names _ _ | exact tf_entries _ _ | exact tf_ways _ _ | exact tf_stops _ _ | exact tf_no _ _ (by decide +kernel) (by decide +kernel) (by decide +kernel) (by decide +kernel) (by decide +kernel))
end
section
theorem valD_rs {rs : Rts} (F : Rt → D) (nd : (rnm rs).Nodup) {r : Rt} (h : r ∈ rs) : valD (rs.map fun r => ((Sum.inr r.1 : Key), F r)) (.inr r.1) = some (F r) := by
  induction rs with
  | nil => cases h
  | cons x xs ih =>
    have nd' : x.1 ∉ rnm xs ∧ (rnm xs).Nodup := by simpa [rnm] using nd
    unfold valD at ih ⊢
    rw [List.map_cons, List.find?_cons]
    by_cases e : x.1 = r.1
    · have : x = r := by
        rcases List.mem_cons.mp h with z | z
        · exact z.symm
        · exact absurd (List.mem_map.mpr ⟨r, z, e.symm⟩) nd'.1
      subst this
      simp
    · have hr : r ∈ xs := by
        rcases List.mem_cons.mp h with z | z
        · exact absurd (by rw [z]) e
        · exact z
      have : decide ((Sum.inr x.1 : Key) = Sum.inr r.1) = false := decide_eq_false fun z => e (Sum.inr.inj z)
      rw [this]
      exact ih nd'.2 hr
local macro_rules | `(tactic| walk_at "fl") => `(tactic| first | exact tf_river _ _ | exact tf_names _ _ | exact tf_entries _ _ | exact tf_ways _ _ | exact tf_stops _ _ | exact tf_no _ _ (by decide +kernel) (by decide +kernel) (by decide +kernel) (by decide +kernel) (by decide +kernel))
local macro_rules | `(tactic| walk_at "ix") => `(tactic| assumption)
end
section
local macro_rules | `(tactic| walk_at "fl") => `(tactic| first | exact tf_river _ _ | exact tf_names _ _ | exact tf_entries _ _ | exact tf_ways _ _ | exact tf_stops _ _ | exact tf_no _ _ (by decide +kernel) (by decide +kernel) (by decide +kernel) (by decide +kernel) (by decide +kernel))
local macro_rules | `(tactic| walk_at "ix") => `(tactic| assumption)
abbrev N_Rights_rows : List Str := ["self", "name"]
def u_Rights_rows : US :=
  (uRet (uLc (uISeq (uFld "Rights" "names" (uVar 0))) (ugF 1) uYes (uOp oIx (uFld "Rights" "entries" (uVar 0)) (uVar 1)) [1]))
def U_Rights_rows : UP := fun ss Q _ => ∃ (rows : Rows) (rs : Rts), ss = [.fz (rightsD rows rs)] ∧ GoodR rows rs ∧ Q (.tm (.lst (rs.map rtD))) ss
theorem len_Rights_rows {ss : List Sl} {Q : Pv → List Sl → Prop} {X : UX} (h : U_Rights_rows ss Q X) : ss.length = 1 := by obtain ⟨_, _, rfl, _⟩ := h; rfl
theorem pure_Rights_rows (ss : List Sl) (Q : Pv → List Sl → Prop) (X : UX) (h : U_Rights_rows ss Q X) : u_Rights_rows (endsU Q X ss.length) (startU N_Rights_rows ss) := by
  obtain ⟨rows, rs, rfl, g, k⟩ := h
  show u_Rights_rows { nx := _, rt := retK Q 1, ex := _ } [.fz (rightsD rows rs), .un]
  unfold u_Rights_rows
  have h40 := g.le
  have en : (rnm rs).map D.str = rs.map (fun r => D.str r.1) := by unfold rnm; rw [List.map_map]; rfl
  walk_at "go"
  refine ⟨by simp [rnm]; omega, ?_⟩
  rw [en]
  refine lc_map (xs := rs) (emb := fun r : Rt => D.str r.1) (fun r => some (rtD r)) rfl rfl (fun r hr P N hP _ => ?_) ?_
  · have hv : valD (entK rs) (.inr r.1) = some (rtD r) := valD_rs _ g.nd hr
    walk_at "go"
    exact hP _ rfl
  · rw [show (rs.filterMap fun r => some (rtD r)) = rs.map rtD by rw [List.filterMap_eq_map']]
    walk_at "go"
    exact k
end
end WK
namespace WK
open PySem L2
theorem crs_rank {rows : Rows} (g : Good rows) {rk : Str → Nat} (hrk : ∀ r ∈ rows, rk r.1 < rows.length ∧ (r.2 ≠ "sea" → rk r.2 < rk r.1)) : ∀ (n : Nat) (w u : Str), w ∈ wrs rows → u ∈ crs rows n w → rk u ≤ rk w
  | 0, _, _, _, h => by simp [crs] at h
  | n + 1, w, u, hw, h => by
    rw [crs, if_neg (g.ne_sea hw)] at h
    rcases List.mem_cons.mp h with z | z
    · rw [z]; exact Nat.le_refl _
    · by_cases e : low rows w = "sea"
      · rw [e, crs_sea] at z; cases z
      · have hl : low rows w ∈ wrs rows := by rcases g.low_in hw with q | q; exact absurd q e; exact q
        have := crs_rank g hrk n _ u hl z
        have := (hrk _ (low_row hw)).2 e
        have : rk (low rows w) < rk w := this
        omega
theorem crs_nd {rows : Rows} (g : Good rows) : ∀ (n : Nat) (w : Str), w ∈ wrs rows ∨ w = "sea" → (crs rows n w).Nodup := by
  obtain ⟨rk, hrk⟩ := g.rank
  intro n
  induction n with
  | zero => intro w _; simp [crs]
  | succ n ih =>
    intro w hw
    rcases hw with hw | rfl
    · rw [crs, if_neg (g.ne_sea hw), List.nodup_cons]
      refine ⟨fun z => ?_, ih _ (by rcases g.low_in hw with q | q; exact .inr q; exact .inl q)⟩
      by_cases e : low rows w = "sea"
      · rw [e, crs_sea] at z; cases z
      · have hl : low rows w ∈ wrs rows := by rcases g.low_in hw with q | q; exact absurd q e; exact q
        have h1 := crs_rank g hrk n _ w hl z
        have h2 : rk (low rows w) < rk w := (hrk _ (low_row hw)).2 e
        omega
    · rw [crs_sea]; exact List.nodup_nil
theorem wayL_nd {rows : Rows} (g : Good rows) {h l : Str} (hh : h ∈ wrs rows) : (wayL rows h l).Nodup := by
  unfold wayL
  split
  · exact crs_nd g _ _ (.inl hh)
  · exact (crs_nd g _ _ (.inl hh)).sublist (List.take_sublist _ _)
theorem wayL_le {rows : Rows} (g : Good rows) {h l : Str} : (wayL rows h l).length ≤ 40 := by
  have := crs_len (rows := rows) rows.length h
  have := g.le
  unfold wayL
  split
  · omega
  · rw [List.length_take]; omega
theorem keyS_nd {ws : List Str} (nd : ws.Nodup) : (ws.map fun w => (Sum.inr w : Key)).Nodup := by
  rw [List.nodup_iff_pairwise_ne] at nd ⊢
  rw [List.pairwise_map]
  exact nd.imp fun h e => h (Sum.inr.inj e)
theorem pr1 (d : D) : putG "river" d [] = ([("river", d)] : List (Str × D)) := rfl
theorem pr2 (a b : D) : putG "names" b [("river", a)] = ([("river", a), ("names", b)] : List (Str × D)) := by rw [putG_ne (by decide +kernel), putG_nil]
theorem pr3 (a b c : D) : putG "entries" c [("river", a), ("names", b)] = ([("river", a), ("names", b), ("entries", c)] : List (Str × D)) := by rw [putG_ne (by decide +kernel), putG_ne (by decide +kernel), putG_nil]
theorem pr4 (a b c d : D) : putG "ways" d [("river", a), ("names", b), ("entries", c)] = ([("river", a), ("names", b), ("entries", c), ("ways", d)] : List (Str × D)) := by rw [putG_ne (by decide +kernel), putG_ne (by decide +kernel), putG_ne (by decide +kernel), putG_nil]
theorem pr5 (a b c d e : D) : putG "stops" e [("river", a), ("names", b), ("entries", c), ("ways", d)] = ([("river", a), ("names", b), ("entries", c), ("ways", d), ("stops", e)] : List (Str × D)) := by rw [putG_ne (by decide +kernel), putG_ne (by decide +kernel), putG_ne (by decide +kernel), putG_ne (by decide +kernel), putG_nil]
theorem lr2 (a b c d : D) : ([("river", a), ("names", b), ("entries", c), ("ways", d)] : List (Str × D)).lookup ("names" : Str) = some b := by rw [lkD, if_neg (by decide +kernel), lkD, if_pos rfl]
theorem lr4 (a b c d : D) : ([("river", a), ("names", b), ("entries", c), ("ways", d)] : List (Str × D)).lookup ("ways" : Str) = some d := by rw [lkD, if_neg (by decide +kernel), lkD, if_neg (by decide +kernel), lkD, if_neg (by decide +kernel), lkD, if_pos rfl]
theorem rkNd {rows : Rows} {rs : Rts} (g : GoodR rows rs) : (rs.map fun r => (Sum.inr r.1 : Key)).Nodup := by
  have := g.nd
  unfold rnm at this
  rw [List.nodup_iff_pairwise_ne, List.pairwise_map] at this ⊢
  exact this.imp fun h e => h (Sum.inr.inj e)
local macro_rules | `(tactic| walk_at "kb") => `(tactic| first | exact kb_str_str | exact kb_str_int | exact kb_str_bool | exact kb_str_list | exact kb_str_tuple | exact kb_str_dict | exact kb_int_str | exact kb_int_int | exact kb_int_bool | exact kb_int_list | exact kb_int_tuple | exact kb_int_dict | exact kb_bool_str | exact kb_bool_int | exact kb_bool_bool | exact kb_bool_list | exact kb_bool_tuple | exact kb_bool_dict | exact kb_list_str | exact kb_list_int | exact kb_list_bool | exact kb_list_list | exact kb_list_tuple | exact kb_list_dict | exact kb_tuple_str | exact kb_tuple_int | exact kb_tuple_bool | exact kb_tuple_list | exact kb_tuple_tuple | exact kb_tuple_dict | exact kb_dict_str | exact kb_dict_int | exact kb_dict_bool | exact kb_dict_list | exact kb_dict_tuple | exact kb_dict_dict | exact kb_NoneType_str | exact kb_NoneType_int | exact kb_NoneType_bool | exact kb_NoneType_list | exact kb_NoneType_tuple | exact kb_NoneType_dict)
local macro_rules | `(tactic| walk_at "pt") => `(tactic| repeat (first | exact PtR.ow | exact PtR.io | apply PtR.s))
local macro_rules | `(tactic| walk_at "st") => `(tactic| repeat (first | exact StS.z | apply StS.s))
local macro_rules | `(tactic| walk_at "sz") => `(tactic| first | omega | (simp; omega) | simp)
local macro_rules | `(tactic| walk_at "side") => `(tactic| first | assumption | omega | (refine ⟨?_, ?_⟩ <;> omega) | (exact .inl ⟨by omega, by omega⟩) | (exact .inr ⟨by omega, by omega⟩) | (exact ⟨by decide, by decide, by decide⟩) | rfl)
local macro_rules | `(tactic| walk_at "h1") => `(tactic| first
  | with_reducible first
    | refine h_seq ?_ | refine h_asg ?_ | refine h_op ?_ | refine h_c ?_ | refine h_cons ?_ | refine h_nil ?_ | refine h_cb ?_ | refine h_call ?_ | refine h_ret ?_ | refine h_drop ?_ | refine h_next ?_ | refine h_retN ?_
    | refine h_ifS ?_ | refine h_if ?_ | refine h_B ?_ | refine h_bl ?_ | refine h_and ?_ | refine h_or ?_ | refine h_not ?_ | refine h_andV ?_ | refine h_orV ?_ | refine h_notV ?_
    | refine h_un ?_ | refine h_neg ?_ | refine h_I0 ?_ | refine h_addI ?_ | refine h_int ?_ | refine h_abs ?_ | refine h_mx2 ?_ | refine h_mn2 ?_ | refine h_par ?_ | refine h_na1 ?_ | refine h_na2 ?_ | refine h_chain ?_
    | refine h_gseq ?_ | refine h_gFor ?_ | refine h_gP ?_ | refine h_gIf ?_ | refine h_askN ?_ | refine h_iGen ?_ | refine h_iGenM ?_ | refine h_listG ?_ | refine h_for ?_ | refine h_lc ?_ | refine h_dc ?_ | refine h_iseq ?_ | refine h_irng1 ?_ | refine h_irng2 ?_ | refine h_ienum ?_ | refine h_gcons ?_ | refine h_gnil ?_ | refine h_gF ?_ | refine h_gOF ?_ | refine h_gOA ?_ | refine h_gXT ?_ | refine h_gXF ?_
    | refine h_setI ?_ | refine h_sfld ?_ | refine hp_sfld0 ?_ | refine h_raise ?_ | refine h_dnew ?_ | refine h_inS ?_ | refine h_sl ?_ | refine h_noPart ?_ | refine h_part ?_ | refine h_partI ?_ | refine h_meth ?_ | refine h_make ?_ | refine h_fld ?_
    | refine h_tpk ?_ | refine h_setTm ?_ | refine h_tell ?_ | refine h_tpk3 ?_ | refine h_tpk2 ?_ | refine h_dnewT ?_ | refine h_setT ?_ | refine h_fgtT ?_ | refine h_fgt ?_ | refine h_mkx ?_ | refine h_erf ?_ | refine h_lst ?_ | refine h_tup ?_ | refine h_bm ?_ | refine h_bm0 ?_ | refine h_yes ?_ | refine h_stoF ?_ | refine h_stoT ?_ | refine h_stoN ?_ | refine h_stoC ?_ | refine hp_app0 ?_ | refine h_rtF ?_ | refine h_rtT ?_ | refine h_dget2W ?_ | refine iteT ?_ | refine iteF ?_ | refine iteNT ?_ | refine iteNF ?_ | refine h_nest ?_ | refine h_seqN ?_ | refine h_L ?_ | refine h_ifN ?_ | refine h_forN ?_ | refine h_appN ?_ | refine h_iseqM ?_ | refine h_ienumT ?_ | refine h_appT ?_ | refine h_appTQ ?_ | refine h_revL ?_
  | ((with_reducible refine' h_varF ?ev ?_); (case ev => rfl))
  | ((with_reducible refine' h_varO ?ev ?_); (case ev => rfl))
  | ((with_reducible refine' h_varI ?ev ?_); (case ev => rfl))
  | ((with_reducible refine' h_varL ?ev ?_); (case ev => rfl))
  | ((with_reducible refine' hp_gF ?e1 ?e2 ?_); (case e1 => first | exact trivial | exact nk_so _ | exact nk_soO _ | exact nk_soO _); (case e2 => walk_at "st"))
  | ((with_reducible refine' hp_gO ?e1 ?e0 ?e2 ?_); (case e1 => first | exact trivial | exact nk_so _ | exact nk_soO _ | exact nk_soO _); (case e0 => simp only [List.length]; decide); (case e2 => walk_at "st"))
  | ((with_reducible refine' h_I ?ec ?_); (case ec => walk_at "side"))
  | ((with_reducible refine' h_sz0 ?ec ?_); (case ec => walk_at "sz"))
  | ((with_reducible refine' h_ix ?es ?ea ?_); (case es => rfl); (case ea => first | assumption | walk_at "ix" | rfl))
  | ((with_reducible refine' h_len ?es ?ea ?_); (case es => rfl); (case ea => rfl))
  | ((with_reducible refine' h_lenS ?es ?_); (case es => walk_at "sz"))
  | ((with_reducible refine' h_list ?es ?ea ?_); (case es => rfl); (case ea => rfl))
  | ((with_reducible refine' h_tupN ?es ?_); (case es => rfl))
  | ((with_reducible refine' h_fgtK ?es ?_); (case es => rfl))
  | ((with_reducible refine' h_tuple ?es ?_); (case es => first | exact .inl rfl | exact .inr rfl))
  | ((with_reducible refine' h_eqA ?e1 ?e2 ?e3 ?_); (case e1 => rfl); (case e2 => rfl); (case e3 => rfl))
  | ((with_reducible refine' h_neA ?e1 ?e2 ?e3 ?_); (case e1 => rfl); (case e2 => rfl); (case e3 => rfl))
  | ((with_reducible refine' h_inD ?e1 ?e2 ?_); (case e1 => rfl); (case e2 => rfl))
  | ((with_reducible refine' h_notInD ?e1 ?e2 ?_); (case e1 => rfl); (case e2 => rfl))
  | ((with_reducible refine' h_isN ?e1 ?_); (case e1 => rfl))
  | ((with_reducible refine' h_inT ?e1 ?_); (case e1 => rfl))
  | ((with_reducible refine' h_listT ?e1 ?_); (case e1 => rfl))
  | ((with_reducible refine' hp_setT ?e1 ?e2 ?e3 ?_); (case e1 => exact ⟨_, rfl, rfl, rfl⟩); (case e2 => walk_at "sz"); (case e3 => walk_at "pt"))
  | ((with_reducible refine' hp_ext ?e1 ?e2 ?e3 ?_); (case e1 => exact ⟨_, rfl, rfl, rfl⟩); (case e2 => walk_at "sz"); (case e3 => walk_at "pt"))
  | ((with_reducible refine' h_notN ?e1 ?_); (case e1 => rfl))
  | ((with_reducible refine' h_isi ?e1 ?e2 ?e3 ?_); (case e1 => rfl); (case e2 => rfl); (case e3 => walk_at "kb"))
  | ((with_reducible refine' h_addS ?e1 ?_); (case e1 => walk_at "sz"))
  | ((with_reducible refine' h_addL ?e1 ?e2 ?e3 ?_); (case e1 => rfl); (case e2 => rfl); (case e3 => walk_at "sz"))
  | ((with_reducible refine' h_addT ?e1 ?e2 ?e3 ?_); (case e1 => rfl); (case e2 => rfl); (case e3 => walk_at "sz"))
  | ((with_reducible refine' h_slL ?e1 ?_); (case e1 => rfl))
  | ((with_reducible refine' h_slT ?e1 ?_); (case e1 => rfl))
  | ((with_reducible refine' h_slS ?e1 ?_); (case e1 => walk_at "sz"))
  | ((with_reducible refine' h_slX ?e1 ?_); (case e1 => rfl))
  | ((with_reducible refine' h_dictC ?e1 ?_); (case e1 => rfl))
  | ((with_reducible refine' h_fldI ?e1 ?e2 ?_); (case e1 => rfl); (case e2 => walk_at "fl"))
  | ((with_reducible refine' h_ty ?e1 ?e2 ?_); (case e1 => rfl); (case e2 => rfl))
  | ((with_reducible refine' hp_app ?e1 ?e2 ?e3 ?_); (case e1 => exact ⟨_, rfl, rfl, rfl⟩); (case e2 => walk_at "sz"); (case e3 => walk_at "pt"))
  | ((with_reducible refine' hp_stoO ?e1 ?e2 ?_); (case e1 => rfl); (case e2 => walk_at "st"))
  | ((with_reducible refine' h_stoFr ?e1 ?_); (case e1 => rfl))
  | ((with_reducible refine' h_gtup ?e1 ?e2 ?_); (case e1 => rfl); (case e2 => rfl))
  | ((with_reducible refine' h_glst ?e1 ?e2 ?_); (case e1 => rfl); (case e2 => rfl))
  | ((with_reducible refine' hp_setL ?e1 ?e2 ?e3 ?_); (case e1 => exact ⟨_, rfl, rfl, rfl⟩); (case e2 => first | rfl | assumption); (case e3 => walk_at "pt"))
  | ((with_reducible refine' hp_setD ?e0 ?e1 ?e2 ?e3 ?_); (case e0 => rfl); (case e1 => exact ⟨_, rfl, rfl, rfl⟩); (case e2 => walk_at "sz"); (case e3 => walk_at "pt"))
  | ((with_reducible refine' hp_sfld ?e1 ?e2 ?e3 ?e4 ?_); (case e1 => exact ⟨_, rfl, rfl, rfl⟩); (case e2 => simp only [List.length]; decide); (case e3 => walk_at "pf"); (case e4 => walk_at "pt"))
  | ((with_reducible refine' h_iseqN ?e1 ?e2 ?e3 ?_); (case e1 => rfl); (case e2 => rfl); (case e3 => rfl))
  | ((with_reducible refine' h_iseqS ?e1 ?e2 ?e3 ?_); (case e1 => rfl); (case e2 => rfl); (case e3 => rfl))
  | ((with_reducible refine' h_ienumN ?e1 ?e3 ?_); (case e1 => rfl); (case e3 => rfl))
  | ((with_reducible refine' h_ienumS ?e1 ?e3 ?_); (case e1 => rfl); (case e3 => rfl))
  | ((with_reducible refine' h_irng1I ?e1 ?_); (case e1 => (constructor <;> omega)))
  | ((with_reducible refine' h_irng2I ?e1 ?_); (case e1 => (refine ⟨?_, ?_, ?_, ?_⟩ <;> omega)))
  | ((with_reducible refine' h_methI ?e1 ?e2 ?_); (case e1 => rfl); (case e2 => walk_at "fl"))
  | ((with_reducible refine' h_isD ?e1 ?_); (case e1 => rfl))
  | ((with_reducible refine' h_callP ?e1 ?e2 ?_); (case e1 => rfl); (case e2 => rfl))
  | ((with_reducible refine' h_makeP ?e1 ?e2 ?_); (case e1 => rfl); (case e2 => rfl))
  | ((with_reducible refine' h_rtO ?e1 ?_); (case e1 => rfl))
  | ((with_reducible refine' h_iseqMF ?e1 ?_); (case e1 => rfl))
  | ((with_reducible refine' h_iseqMT ?e1 ?_); (case e1 => rfl))
  | ((with_reducible refine' h_ienumTI ?e1 ?_); (case e1 => rfl))
  | ((with_reducible refine' h_appTI ?e1 ?_); (case e1 => walk_at "sz"))
  | ((with_reducible refine' h_rtA ?e1 ?_); (case e1 => rfl))
  | ((with_reducible refine' h_dgetF ?e1 ?e2 ?_); (case e1 => rfl); (case e2 => rfl))
  | ((with_reducible refine' iteK0 ?e1 ?_); (case e1 => rfl))
  | ((with_reducible refine' iteK1 ?e1 ?_); (case e1 => rfl)))
local macro_rules | `(tactic| walk_at "go") => `(tactic| repeat (walk_at "h1"))
local macro_rules | `(tactic| walk_at "bk") => `(tactic| ((try dsimp only); simp only [fzn_fz, fzn_at, fzn_tm, List.map_nil, List.append_nil, List.map_cons, List.cons_append, List.nil_append, back_at, back_af, back_ao, back_fz, back_nil, pt_ow, pt_io, pt_succ]))
local macro_rules | `(tactic| walk_at "g0") => `(tactic| skip)
local macro_rules | `(tactic| walk_at "pf") => `(tactic| rfl)
section
local macro_rules | `(tactic| walk_at "fl") => `(tactic| first | exact lr2 _ _ _ _ | exact lr4 _ _ _ _ | exact tf_names _ _ | exact tf_river _ _ | exact rf_no _ (by decide +kernel) (by decide +kernel) (by decide +kernel) | exact tf_no _ _ (by decide +kernel) (by decide +kernel) (by decide +kernel) (by decide +kernel) (by decide +kernel))
local macro_rules | `(tactic| walk_at "ix") => `(tactic| first | exact rt_ix0 _ | assumption)
local macro_rules | `(tactic| walk_at "pf") => `(tactic| first | exact pr1 _ | exact pr2 _ _ | exact pr3 _ _ _ | exact pr4 _ _ _ _ | exact pr5 _ _ _ _ _)
abbrev N_Rights__init_ : List Str := ["self", "river", "rows", "place", "name", "intake", "last", "entry", "weir"]
def u_Rights__init_ : US :=
  (uSeq (uAsg (uCall U_rights_fault [] (uCons (uVar 1) (uCons (uVar 2) uNil))) (ugF 3))
  (uSeq (uIfS (uB (uOp (oIsN not) (uVar 3) (uC .non))) (uRaise "NotRights" ["place"] (uCons (uVar 3) uNil)) uNext)
  (uSeq (uSFld "Rights" "river" (uVar 0) (uVar 1))
  (uSeq (uSFld "Rights" "names" (uVar 0) (uCB oTuple (uCons (uLc (uISeq (uVar 2)) (ugTup 3 (ugCons (ugF 4) (ugCons (ugF 5) (ugCons (ugF 6) ugNil)))) uYes (uVar 4) [4, 5, 6]) uNil)))
  (uSeq (uSFld "Rights" "entries" (uVar 0) (uDc (uISeq (uVar 2)) (ugF 7) uYes (uOp oIx (uVar 7) (uC (.int 0))) (uVar 7) [7]))
  (uSeq (uSFld "Rights" "ways" (uVar 0) (uDc (uISeq (uVar 2)) (ugTup 3 (ugCons (ugF 4) (ugCons (ugF 5) (ugCons (ugF 6) ugNil)))) uYes (uVar 4) (uMeth "River" "way" U_River_way [] (uVar 1) (uCons (uVar 5) (uCons (uVar 6) uNil))) [4, 5, 6]))
  (uSFld "Rights" "stops" (uVar 0) (uDc (uISeq (uFld "Rights" "names" (uVar 0))) (ugF 4) uYes (uVar 4) (uDc (uISeq (uOp oIx (uFld "Rights" "ways" (uVar 0)) (uVar 4))) (ugF 8) uYes (uVar 8) (uC (.bl true)) [8]) [4]))))))))
def U_Rights__init_ : UP := fun ss Q X => ∃ (rows : Rows) (d : D) (n : Nat), ss = [.io (.obj "Rights" []), .fz (riverD rows), .fz d] ∧ Good rows ∧ ArgD n d ∧ n ≤ 50 ∧ (∀ rs, d = .lst (rs.map rtD) → GoodR rows rs → Q (.fz .non) [.io (rightsD rows rs), .fz (riverD rows), .fz d]) ∧ (∀ i : Int, rgD rows d = .int i → X ("NotRights", [("place", .int i)]) ss)
theorem len_Rights__init_ {ss : List Sl} {Q : Pv → List Sl → Prop} {X : UX} (h : U_Rights__init_ ss Q X) : ss.length = 3 := by obtain ⟨_, _, _, rfl, _⟩ := h; rfl
theorem pure_Rights__init_ (ss : List Sl) (Q : Pv → List Sl → Prop) (X : UX) (h : U_Rights__init_ ss Q X) : u_Rights__init_ (endsU Q X ss.length) (startU N_Rights__init_ ss) := by
  obtain ⟨rows, d, n, rfl, g, ha, hn, k, kx⟩ := h
  show u_Rights__init_ { nx := fun δ => Q (.fz .non) (δ.take 3), rt := retK Q 3, ex := fun x δ => X x (δ.take 3) } [.io (.obj "Rights" []), .fz (riverD rows), .fz d, .un, .un, .un, .un, .un, .un]
  unfold u_Rights__init_
  walk_at "go"
  refine ⟨rows, d, n, rfl, g, ha, hn, ?_⟩
  walk_at "bk"
  rcases rgD_or (rows := rows) ha with ⟨i, hi⟩ | ⟨hr, rs, rfl, gr⟩
  · rw [hi]
    walk_at "go"
    exact ⟨rfl, kx i hi⟩
  · rw [hr]
    have k := k rs rfl gr
    have h40 := gr.le
    walk_at "go"
    refine ⟨by simp; omega, ?_⟩
    refine lc_map (xs := rs) (emb := rtD) (fun r => some (.str r.1)) rfl rfl (fun r hr P N hP _ => ?_) ?_
    · walk_at "go"
      exact hP _ rfl
    · rw [show (rs.filterMap fun r => some (D.str r.1)) = (rnm rs).map .str by simp [rnm, List.filterMap_eq_map', Function.comp]]
      walk_at "go"
      refine ⟨by simp; omega, ?_⟩
      refine dc_mapE (xs := rs) (emb := rtD) (fun r => .inr r.1) (fun r => rtD r) (entK rs) rfl (rkNd gr) rfl rfl (fun r hr P N hP => ?_) ?_
      · walk_at "go"
        exact ⟨_, rfl, hP⟩
      · walk_at "go"
        refine ⟨by simp; omega, ?_⟩
        refine dc_mapE (xs := rs) (emb := rtD) (fun r => .inr r.1) (fun r => rwayD rows r) (wayK rows rs) rfl (rkNd gr) rfl rfl (fun r hr P N hP => ?_) ?_
        · walk_at "go"
          refine ⟨rows, _, _, rfl, g, gr.inn r hr, gr.dn r hr, ?_⟩
          walk_at "bk"
          exact ⟨_, rfl, hP⟩
        · walk_at "go"
          refine ⟨by simp [rnm]; omega, ?_⟩
          rw [show (rnm rs).map D.str = rs.map (fun r => D.str r.1) by unfold rnm; rw [List.map_map]; rfl]
          refine dc_mapE (xs := rs) (emb := fun r : Rt => D.str r.1) (fun r => .inr r.1) (fun r => .dct (rstopK rows r)) (stopK rows rs) rfl (rkNd gr) rfl rfl (fun r hr P N hP => ?_) ?_
          · have hv : valD (wayK rows rs) (.inr r.1) = some (rwayD rows r) := valD_rs _ gr.nd hr
            walk_at "go"
            refine ⟨by have := wayL_le (l := r.2.2) (h := r.2.1) g; simp [rwayD]; omega, ?_⟩
            refine dc_mapE (xs := wayL rows r.2.1 r.2.2) (emb := D.str) (fun w => .inr w) (fun _ => .bl true) (rstopK rows r) rfl (keyS_nd (wayL_nd g (gr.inn r hr))) rfl rfl (fun w hw P N hP => ?_) ?_
            · walk_at "go"
              exact ⟨_, rfl, hP⟩
            · walk_at "go"
              exact ⟨_, rfl, hP⟩
          · walk_at "go"
            rw [show rs.map (fun r => D.str r.1) = (rnm rs).map D.str by unfold rnm; rw [List.map_map]; rfl]
            exact k
abbrev N_Rights__len_ : List Str := ["self"]
def u_Rights__len_ : US :=
  (uRet (uCB oLen (uCons (uFld "Rights" "names" (uVar 0)) uNil)))
def U_Rights__len_ : UP := fun ss Q _ => ∃ (rows : Rows) (rs : Rts), ss = [.fz (rightsD rows rs)] ∧ Q (.fz (.int (rs.length : Nat))) ss
theorem len_Rights__len_ {ss : List Sl} {Q : Pv → List Sl → Prop} {X : UX} (h : U_Rights__len_ ss Q X) : ss.length = 1 := by obtain ⟨_, _, rfl, _⟩ := h; rfl
theorem pure_Rights__len_ (ss : List Sl) (Q : Pv → List Sl → Prop) (X : UX) (h : U_Rights__len_ ss Q X) : u_Rights__len_ (endsU Q X ss.length) (startU N_Rights__len_ ss) := by
  obtain ⟨rows, rs, rfl, k⟩ := h
  show u_Rights__len_ { nx := _, rt := retK Q 1, ex := _ } [.fz (rightsD rows rs)]
  unfold u_Rights__len_
  walk_at "go"
  rw [show ((rnm rs).map D.str).length = rs.length from by unfold rnm; rw [List.length_map, List.length_map]]
  exact k
abbrev N_Rights_joined : List Str := ["self", "row"]
def u_Rights_joined : US :=
  (uRet (uMake "Rights" U_Rights__init_ [] (uCons (uFld "Rights" "river" (uVar 0)) (uCons (uLst (uStar (uMeth "Rights" "rows" U_Rights_rows [] (uVar 0) uNil) (uCons (uVar 1) uNil))) uNil))))
def U_Rights_joined : UP := fun ss Q X => ∃ (rows : Rows) (rs : Rts) (e : D) (n : Nat), ss = [.fz (rightsD rows rs), .fz e] ∧ Good rows ∧ GoodR rows rs ∧ Pl n e ∧ 2 ≤ n ∧ n ≤ 50 ∧ (rtF rows (rs.map rtD ++ [e]) = .non → ∀ p, Q p ss) ∧ (∀ i : Int, rtF rows (rs.map rtD ++ [e]) = .int i → X ("NotRights", [("place", .int i)]) ss)
theorem len_Rights_joined {ss : List Sl} {Q : Pv → List Sl → Prop} {X : UX} (h : U_Rights_joined ss Q X) : ss.length = 2 := by obtain ⟨_, _, _, _, rfl, _⟩ := h; rfl
theorem pl_rt {rows : Rows} {rs : Rts} (g : Good rows) (gr : GoodR rows rs) : ∀ e ∈ rs.map rtD, Pl 2 e := fun e he => by
  obtain ⟨r, hr, rfl⟩ := List.mem_map.mp he
  have wl : ∀ w ∈ wrs rows, Pl 1 (.str w) := fun w hw => by
    obtain ⟨q, hq, rfl⟩ := List.mem_map.mp hw
    exact .str _ _ (strOk_name (g.nm q hq).1) (by have := isName_len (g.nm q hq).1; omega)
  refine .tup 1 _ (fun d hd => ?_) (by show 3 ≤ _; omega)
  simp only [List.mem_cons, List.not_mem_nil, or_false] at hd
  rcases hd with rfl | rfl | rfl
  · exact .str _ _ (strOk_name (gr.nm r hr)) (by have := isName_len (gr.nm r hr); omega)
  · exact wl _ (gr.inn r hr)
  · rcases gr.dn r hr with h | h
    · rw [h]; exact .str _ _ (by decide +kernel) (by decide +kernel)
    · exact wl _ h.1
theorem h_starI {ue : UE} {us : UA} {δ : List Sl} {Q : List Pv → List Sl → Prop} {X : UX} (h : ue δ (fun p δ1 => ∃ ds, srcP δ1 p ds ∧ us δ1 (fun ps δ2 => Q (ds.map Pv.fz ++ ps) δ2) X) X) : uStar ue us δ Q X := h
theorem stoL_app : ∀ (ds : List D) {ps : List Pv} {δ : List Sl} {K : List D → List Sl → Prop}, (uStoL ps δ fun es δ2 => K (ds ++ es) δ2) → uStoL (ds.map Pv.fz ++ ps) δ K
  | [], _, _, _, h => h
  | d :: ds, _, _, _, h => stoL_app ds (K := fun es δ2 => _) h
theorem pure_Rights_joined (ss : List Sl) (Q : Pv → List Sl → Prop) (X : UX) (h : U_Rights_joined ss Q X) : u_Rights_joined (endsU Q X ss.length) (startU N_Rights_joined ss) := by
  obtain ⟨rows, rs, e, n, rfl, g, gr, hp, h2, hn, k, kx⟩ := h
  show u_Rights_joined { nx := _, rt := retK Q 2, ex := fun x δ => X x (δ.take 2) } [.fz (rightsD rows rs), .fz e]
  unfold u_Rights_joined
  have h40 := gr.le
  walk_at "go"
  refine h_starI ?_
  walk_at "go"
  refine ⟨rows, rs, rfl, gr, ?_⟩
  walk_at "bk"
  refine ⟨rs.map rtD, .inr (.inr rfl), ?_⟩
  walk_at "go"
  refine stoL_app _ ?_
  walk_at "go"
  have ha : ArgD n (.lst (rs.map rtD ++ [e])) := .inl ⟨_, rfl, fun x hx => by
    rcases List.mem_append.mp hx with h | h
    · exact (pl_rt g gr x h).mono h2
    · rw [List.mem_singleton.mp h]; exact hp, (by simp; omega)⟩
  refine ⟨rows, _, n, rfl, g, ha, hn, fun rs2 e2 gr2 => ?_, fun i hi => ?_⟩
  · refine ⟨_, _, rfl, rfl, ?_⟩
    walk_at "bk"
    have e3 : rtF rows (rs.map rtD ++ [e]) = .non := by
      injection e2 with e2
      rw [e2]
      exact rt_good gr2
    exact k e3 _
  · refine ⟨_, _, rfl, ?_⟩
    walk_at "bk"
    exact kx i hi
end
end WK
namespace WK
open PySem L2
theorem mk_inj41 {st m k j : Nat} (hm : m ≤ 41) (hk : k < m) (hj : j < m) (h : cl (mkS st m k) = cl (mkS st m j)) : k = j := by
  rw [mk_cl, mk_cl] at h
  have h1 := (List.cons.inj h).1
  have h2 := (List.cons.inj h).2
  rw [ltr_is _ (Nat.mod_lt _ (by decide)), ltr_is _ (Nat.mod_lt _ (by decide))] at h1
  by_cases hb : m > 26
  · rw [if_pos hb, if_pos hb] at h2
    have h3 := (List.cons.inj h2).1
    rw [ltr_is _ (by omega), ltr_is _ (by omega)] at h3
    omega
  · omega
theorem mk_in41 {st m k : Nat} (hm : m ≤ 41) (hk : k < m) : ∀ c ∈ cl (mkS st m k), c ∈ LET.cps.toList := by
  rw [mk_cl]
  intro c hc
  rcases List.mem_cons.mp hc with e | hc
  · rw [e]; exact ltr_in (Nat.mod_lt _ (by decide))
  · by_cases hb : m > 26
    · rw [if_pos hb] at hc
      have : c = ltr (k / 26) := by simpa using hc
      rw [this]; exact ltr_in (by omega)
    · rw [if_neg hb] at hc; simp at hc
theorem names_ok41 {base : Str} {st m r : Nat} (hm : m ≤ 41) (hb : (cl base).length ≤ 6) (hl : ∀ c ∈ cl base, c ∈ LET.cps.toList) : Names (nameL base st m r m) := by
  have one : ∀ k, k < m → isName (nmS base (mkS st m k) k r) = true := by
    intro k hk
    obtain ⟨post, e, h1, h2, h3⟩ := nm_cl base (mkS st m k) k r
    have hml := mk_len st m k
    have hlen : (cl (nmS base (mkS st m k) k r)).length = (preS base r).length + (cl (mkS st m k)).length + post.length := by rw [e]; simp only [List.length_append]
    have h1' : 1 ≤ (cl (mkS st m k)).length ∧ (cl (mkS st m k)).length ≤ 2 := by rw [hml]; split <;> omega
    refine isName_of (by omega) (by omega) fun c hc => ?_
    rw [e] at hc
    rcases List.mem_append.mp hc with hc | hc
    · rcases List.mem_append.mp hc with hc | hc
      · exact hl c (h2 c hc)
      · exact mk_in41 hm hk c hc
    · exact hl c (h3 c hc)
  have at_ : ∀ {i : Nat} {a : Str}, (nameL base st m r m)[i]? = some a → i < m ∧ a = finS (nmS base (mkS st m i) i r) := by
    intro i a h
    unfold nameL at h
    rw [List.getElem?_map] at h
    cases hi : (List.range m)[i]? with
    | none => rw [hi] at h; cases h
    | some j =>
      rw [hi] at h
      cases h
      obtain ⟨h1, h2⟩ := List.getElem?_eq_some_iff.mp hi
      rw [List.getElem_range] at h2
      rw [List.length_range] at h1
      subst h2
      exact ⟨h1, rfl⟩
  refine ⟨fun n hn => ?_, fun n hn => ?_, fun i j a b z ha hb' e => ?_⟩
  · obtain ⟨k, hk, rfl⟩ := List.mem_map.mp hn
    exact fin_name (one k (List.mem_range.mp hk))
  · obtain ⟨k, hk, rfl⟩ := List.mem_map.mp hn
    exact fin_ne _
  · obtain ⟨hi, rfl⟩ := at_ ha
    obtain ⟨hj, rfl⟩ := at_ hb'
    obtain ⟨p1, e1, _⟩ := nm_cl base (mkS st m i) i r
    obtain ⟨p2, e2, _⟩ := nm_cl base (mkS st m j) j r
    obtain ⟨q1, f1⟩ := fin_cl e1
    obtain ⟨q2, f2⟩ := fin_cl e2
    rw [f1, f2] at e
    have hlen : (cl (mkS st m i)).length = (cl (mkS st m j)).length := by rw [mk_len, mk_len]
    rw [List.append_assoc, List.append_assoc, List.append_assoc] at e
    have e' := List.append_cancel_left e
    exact mk_inj41 hm hi hj (List.append_inj_left e' hlen)
local macro_rules | `(tactic| walk_at "kb") => `(tactic| first | exact kb_str_str | exact kb_str_int | exact kb_str_bool | exact kb_str_list | exact kb_str_tuple | exact kb_str_dict | exact kb_int_str | exact kb_int_int | exact kb_int_bool | exact kb_int_list | exact kb_int_tuple | exact kb_int_dict | exact kb_bool_str | exact kb_bool_int | exact kb_bool_bool | exact kb_bool_list | exact kb_bool_tuple | exact kb_bool_dict | exact kb_list_str | exact kb_list_int | exact kb_list_bool | exact kb_list_list | exact kb_list_tuple | exact kb_list_dict | exact kb_tuple_str | exact kb_tuple_int | exact kb_tuple_bool | exact kb_tuple_list | exact kb_tuple_tuple | exact kb_tuple_dict | exact kb_dict_str | exact kb_dict_int | exact kb_dict_bool | exact kb_dict_list | exact kb_dict_tuple | exact kb_dict_dict | exact kb_NoneType_str | exact kb_NoneType_int | exact kb_NoneType_bool | exact kb_NoneType_list | exact kb_NoneType_tuple | exact kb_NoneType_dict)
local macro_rules | `(tactic| walk_at "pt") => `(tactic| repeat (first | exact PtR.ow | exact PtR.io | apply PtR.s))
local macro_rules | `(tactic| walk_at "st") => `(tactic| repeat (first | exact StS.z | apply StS.s))
local macro_rules | `(tactic| walk_at "sz") => `(tactic| first | omega | (simp; omega) | simp)
local macro_rules | `(tactic| walk_at "side") => `(tactic| first | assumption | omega | (refine ⟨?_, ?_⟩ <;> omega) | (exact .inl ⟨by omega, by omega⟩) | (exact .inr ⟨by omega, by omega⟩) | (exact ⟨by decide, by decide, by decide⟩) | rfl)
local macro_rules | `(tactic| walk_at "h1") => `(tactic| first
  | with_reducible first
    | refine h_seq ?_ | refine h_asg ?_ | refine h_op ?_ | refine h_c ?_ | refine h_cons ?_ | refine h_nil ?_ | refine h_cb ?_ | refine h_call ?_ | refine h_ret ?_ | refine h_drop ?_ | refine h_next ?_ | refine h_retN ?_
    | refine h_ifS ?_ | refine h_if ?_ | refine h_B ?_ | refine h_bl ?_ | refine h_and ?_ | refine h_or ?_ | refine h_not ?_ | refine h_andV ?_ | refine h_orV ?_ | refine h_notV ?_
    | refine h_un ?_ | refine h_neg ?_ | refine h_I0 ?_ | refine h_addI ?_ | refine h_int ?_ | refine h_abs ?_ | refine h_mx2 ?_ | refine h_mn2 ?_ | refine h_par ?_ | refine h_na1 ?_ | refine h_na2 ?_ | refine h_chain ?_
    | refine h_for ?_ | refine h_lc ?_ | refine h_dc ?_ | refine h_iseq ?_ | refine h_irng1 ?_ | refine h_irng2 ?_ | refine h_ienum ?_ | refine h_gcons ?_ | refine h_gnil ?_ | refine h_gF ?_ | refine h_gOF ?_ | refine h_gOA ?_ | refine h_gXT ?_ | refine h_gXF ?_
    | refine h_setI ?_ | refine h_sfld ?_ | refine hp_sfld0 ?_ | refine h_raise ?_ | refine h_dnew ?_ | refine h_inS ?_ | refine h_sl ?_ | refine h_noPart ?_ | refine h_part ?_ | refine h_partI ?_ | refine h_meth ?_ | refine h_make ?_ | refine h_fld ?_
    | refine h_lst ?_ | refine h_tup ?_ | refine h_bm ?_ | refine h_bm0 ?_ | refine h_yes ?_ | refine h_stoF ?_ | refine h_stoT ?_ | refine h_stoN ?_ | refine h_stoC ?_ | refine hp_app0 ?_ | refine h_rtF ?_ | refine h_rtT ?_ | refine h_dget2 ?_ | refine iteT ?_ | refine iteF ?_ | refine iteNT ?_ | refine iteNF ?_
  | ((with_reducible refine' h_varF ?ev ?_); (case ev => rfl))
  | ((with_reducible refine' h_varO ?ev ?_); (case ev => rfl))
  | ((with_reducible refine' h_varI ?ev ?_); (case ev => rfl))
  | ((with_reducible refine' h_varL ?ev ?_); (case ev => rfl))
  | ((with_reducible refine' hp_gF ?e1 ?e2 ?_); (case e1 => first | exact trivial | exact nk_so _); (case e2 => walk_at "st"))
  | ((with_reducible refine' hp_gO ?e1 ?e0 ?e2 ?_); (case e1 => first | exact trivial | exact nk_so _); (case e0 => simp only [List.length]; decide); (case e2 => walk_at "st"))
  | ((with_reducible refine' h_I ?ec ?_); (case ec => walk_at "side"))
  | ((with_reducible refine' h_sz0 ?ec ?_); (case ec => walk_at "sz"))
  | ((with_reducible refine' h_ix ?es ?ea ?_); (case es => rfl); (case ea => first | assumption | walk_at "ix" | rfl))
  | ((with_reducible refine' h_len ?es ?ea ?_); (case es => rfl); (case ea => rfl))
  | ((with_reducible refine' h_lenS ?es ?_); (case es => walk_at "sz"))
  | ((with_reducible refine' h_list ?es ?ea ?_); (case es => rfl); (case ea => rfl))
  | ((with_reducible refine' h_tuple ?es ?_); (case es => first | exact .inl rfl | exact .inr rfl))
  | ((with_reducible refine' h_eqA ?e1 ?e2 ?e3 ?_); (case e1 => rfl); (case e2 => rfl); (case e3 => rfl))
  | ((with_reducible refine' h_neA ?e1 ?e2 ?e3 ?_); (case e1 => rfl); (case e2 => rfl); (case e3 => rfl))
  | ((with_reducible refine' h_inD ?e1 ?e2 ?_); (case e1 => rfl); (case e2 => rfl))
  | ((with_reducible refine' h_notInD ?e1 ?e2 ?_); (case e1 => rfl); (case e2 => rfl))
  | ((with_reducible refine' h_isN ?e1 ?_); (case e1 => rfl))
  | ((with_reducible refine' h_notN ?e1 ?_); (case e1 => rfl))
  | ((with_reducible refine' h_isi ?e1 ?e2 ?e3 ?_); (case e1 => rfl); (case e2 => rfl); (case e3 => walk_at "kb"))
  | ((with_reducible refine' h_addS ?e1 ?_); (case e1 => walk_at "sz"))
  | ((with_reducible refine' h_addL ?e1 ?e2 ?e3 ?_); (case e1 => rfl); (case e2 => rfl); (case e3 => walk_at "sz"))
  | ((with_reducible refine' h_addT ?e1 ?e2 ?e3 ?_); (case e1 => rfl); (case e2 => rfl); (case e3 => walk_at "sz"))
  | ((with_reducible refine' h_slL ?e1 ?_); (case e1 => rfl))
  | ((with_reducible refine' h_slT ?e1 ?_); (case e1 => rfl))
  | ((with_reducible refine' h_slS ?e1 ?_); (case e1 => walk_at "sz"))
  | ((with_reducible refine' h_slX ?e1 ?_); (case e1 => rfl))
  | ((with_reducible refine' h_dictC ?e1 ?_); (case e1 => rfl))
  | ((with_reducible refine' h_fldI ?e1 ?e2 ?_); (case e1 => rfl); (case e2 => walk_at "fl"))
  | ((with_reducible refine' h_ty ?e1 ?e2 ?_); (case e1 => rfl); (case e2 => rfl))
  | ((with_reducible refine' hp_app ?e1 ?e2 ?e3 ?_); (case e1 => exact ⟨_, rfl, rfl, rfl⟩); (case e2 => walk_at "sz"); (case e3 => walk_at "pt"))
  | ((with_reducible refine' hp_stoO ?e1 ?e2 ?_); (case e1 => rfl); (case e2 => walk_at "st"))
  | ((with_reducible refine' h_stoFr ?e1 ?_); (case e1 => rfl))
  | ((with_reducible refine' h_gtup ?e1 ?e2 ?_); (case e1 => rfl); (case e2 => rfl))
  | ((with_reducible refine' hp_setL ?e1 ?e2 ?e3 ?_); (case e1 => exact ⟨_, rfl, rfl, rfl⟩); (case e2 => first | rfl | assumption); (case e3 => walk_at "pt"))
  | ((with_reducible refine' hp_setD ?e0 ?e1 ?e2 ?e3 ?_); (case e0 => rfl); (case e1 => exact ⟨_, rfl, rfl, rfl⟩); (case e2 => walk_at "sz"); (case e3 => walk_at "pt"))
  | ((with_reducible refine' hp_sfld ?e1 ?e2 ?e3 ?e4 ?_); (case e1 => exact ⟨_, rfl, rfl, rfl⟩); (case e2 => simp only [List.length]; decide); (case e3 => walk_at "pf"); (case e4 => walk_at "pt"))
  | ((with_reducible refine' h_iseqN ?e1 ?e2 ?e3 ?_); (case e1 => rfl); (case e2 => rfl); (case e3 => rfl))
  | ((with_reducible refine' h_iseqS ?e1 ?e2 ?e3 ?_); (case e1 => rfl); (case e2 => rfl); (case e3 => rfl))
  | ((with_reducible refine' h_ienumN ?e1 ?e3 ?_); (case e1 => rfl); (case e3 => rfl))
  | ((with_reducible refine' h_ienumS ?e1 ?e3 ?_); (case e1 => rfl); (case e3 => rfl))
  | ((with_reducible refine' h_irng1I ?e1 ?_); (case e1 => (constructor <;> omega)))
  | ((with_reducible refine' h_irng2I ?e1 ?_); (case e1 => (refine ⟨?_, ?_, ?_, ?_⟩ <;> omega)))
  | ((with_reducible refine' h_methI ?e1 ?e2 ?_); (case e1 => rfl); (case e2 => walk_at "fl"))
  | ((with_reducible refine' h_isD ?e1 ?_); (case e1 => rfl))
  | ((with_reducible refine' h_callP ?e1 ?e2 ?_); (case e1 => rfl); (case e2 => rfl))
  | ((with_reducible refine' h_makeP ?e1 ?e2 ?_); (case e1 => rfl); (case e2 => rfl))
  | ((with_reducible refine' h_rtO ?e1 ?_); (case e1 => rfl))
  | ((with_reducible refine' h_rtA ?e1 ?_); (case e1 => rfl))
  | ((with_reducible refine' iteK0 ?e1 ?_); (case e1 => rfl))
  | ((with_reducible refine' iteK1 ?e1 ?_); (case e1 => rfl)))
local macro_rules | `(tactic| walk_at "go") => `(tactic| repeat (walk_at "h1"))
local macro_rules | `(tactic| walk_at "bk") => `(tactic| ((try dsimp only); simp only [fzn_fz, fzn_at, fzn_tm, List.map_nil, List.append_nil, List.map_cons, List.cons_append, List.nil_append, back_at, back_af, back_ao, back_fz, back_nil, pt_ow, pt_io, pt_succ]))
local macro_rules | `(tactic| walk_at "g0") => `(tactic| skip)
local macro_rules | `(tactic| walk_at "pf") => `(tactic| rfl)
section
local macro_rules | `(tactic| walk_at "fl") => `(tactic| first | exact rf_weirs _ | exact rf_lower _ | exact rf_courses _ | exact rf_no _ (by decide +kernel) (by decide +kernel) (by decide +kernel))
abbrev N_l_names : List Str := ["_law_bag_here", "_law_many", "_law_letters", "_law_base", "_law_start", "_law_shape", "_law_found", "_law_k", "_law_mark", "_law_some"]
def u_l_names : US :=
  (uSeq (uAsg (uC (.str "abcdefghijklmnopqrstuvwxyz")) (ugF 2))
  (uSeq (uAsg (uBM "str" oJoin (uC (.str "")) (uCons (uLc (uIRng1 (uCons (uCall U_l_of [] (uCons (uVar 0) (uCons (uLst (uCons (uC (.int 0)) (uCons (uC (.int 0)) (uCons (uC (.int 1)) (uCons (uC (.int 2)) (uCons (uC (.int 6)) uNil)))))) uNil))) uNil)) (ugF 7) uYes (uOp oIx (uVar 2) (uCall U_l_take [] (uCons (uVar 0) (uCons (uC (.int 26)) uNil)))) [7]) uNil)) (ugF 3))
  (uSeq (uPar false false 4 5 (uCall U_l_take [] (uCons (uVar 0) (uCons (uC (.int 26)) uNil))) (uCall U_l_take [] (uCons (uVar 0) (uCons (uC (.int 4)) uNil))))
  (uSeq (uAsg (uLst uNil) (ugO 6))
  (uSeq (uFor (uIRng1 (uCons (uVar 1) uNil)) (ugF 7) (uSeq (uAsg (uOp oAdd (uOp oIx (uVar 2) (uOp oMod (uOp oAdd (uVar 4) (uOp oMul (uC (.int 5)) (uVar 7))) (uC (.int 26)))) (uIf (uB (uOp oGt (uVar 1) (uC (.int 26)))) (uOp oIx (uVar 2) (uOp oDiv (uVar 7) (uC (.int 26)))) (uC (.str "")))) (ugF 8))
  (uSeq (uAsg (uLst (uCons (uOp oAdd (uVar 3) (uVar 8)) (uCons (uOp oAdd (uVar 8) (uVar 3)) (uCons (uOp oAdd (uVar 8) (uSl (uVar 3) uNoPart (uPart (uOp oMod (uVar 7) (uOp oAdd (uCB oLen (uCons (uVar 3) uNil)) (uC (.int 1))))))) (uCons (uOp oAdd (uOp oAdd (uSl (uVar 3) uNoPart (uPart (uC (.int 1)))) (uVar 8)) (uSl (uVar 3) (uPart (uC (.int 1))) uNoPart)) uNil))))) (ugF 9))
  (uDrop (uBM "list" oApp (uVar 6) (uCons (uIf (uB (uOp oEq (uOp oIx (uVar 9) (uVar 5)) (uC (.str "sea")))) (uC (.str "seas")) (uOp oIx (uVar 9) (uVar 5))) uNil))))))
  (uRet (uVar 6)))))))
def U_l_names : UP := fun ss Q _ => ∃ (b : D) (m : Nat), ss = [.io b, .fz (.int (m : Nat))] ∧ isBag b ∧ m ≤ 41 ∧ ∀ (b' : D) (ns : List Str), isBag b' → ns.length = m → Names ns → Q (.tm (.lst (ns.map .str))) [.io b', .fz (.int (m : Nat))]
theorem len_l_names {ss : List Sl} {Q : Pv → List Sl → Prop} {X : UX} (h : U_l_names ss Q X) : ss.length = 2 := by obtain ⟨_, _, rfl, _⟩ := h; rfl
theorem ixLet {δ : List Sl} {Q : UK} {k : Int} {j : Nat} (e : k = (j : Nat)) (h : j < 26) (hq : Q (.fz (.str ⟨#[ltr j]⟩)) δ) : oIx δ (.fz (.str LET)) (.fz (.int k)) Q := by
  subst e
  refine h_ixS (cc := ltr j) (by decide +kernel) ?_ hq
  exact atI_nat (LET_at h)
theorem pure_l_names (ss : List Sl) (Q : Pv → List Sl → Prop) (X : UX) (h : U_l_names ss Q X) : u_l_names (endsU Q X ss.length) (startU N_l_names ss) := by
  obtain ⟨b, m, rfl, hb, hm, k⟩ := h
  show u_l_names { nx := _, rt := retK Q 2, ex := _ } [.io b, .fz (.int (m : Nat)), .un, .un, .un, .un, .un, .un, .un, .un]
  unfold u_l_names
  walk_at "go"
  refine ⟨b, _, _, rfl, .inl rfl, hb, by show 0 < 5; decide, by show 5 < 1000000; decide, fun b1 d hb1 hd => ?_⟩
  obtain ⟨n, rfl, hn⟩ : ∃ n : Nat, d = .int (n : Nat) ∧ n ≤ 6 := by
    simp only [List.mem_cons, List.not_mem_nil, or_false] at hd
    rcases hd with rfl | rfl | rfl | rfl | rfl
    · exact ⟨0, rfl, by omega⟩
    · exact ⟨0, rfl, by omega⟩
    · exact ⟨1, rfl, by omega⟩
    · exact ⟨2, rfl, by omega⟩
    · exact ⟨6, rfl, by omega⟩
  walk_at "bk"
  walk_at "go"
  refine ⟨by simp [rngD]; omega, ?_⟩
  refine lc_N (fun i acc δ => ∃ (b' : D) (cs : List Nat), isBag b' ∧ acc = cs.map (fun c => D.str ⟨#[c]⟩) ∧ (∀ c ∈ cs, c ∈ LET.cps.toList) ∧ δ = [.io b', .fz (.int (m : Nat)), .fz (.str LET), .un, .un, .un, .un, .un, .un, .un]) ⟨b1, [], hb1, rfl, fun c h => by simp at h, rfl⟩ ?_ ?_
  · rintro i d acc δ hi hl hw ⟨b', cs, hb', rfl, hcs, rfl⟩
    walk_at "go"
    refine ⟨b', _, rfl, hb', by omega, by omega, fun r b2 r0 r1 hb2 => ?_⟩
    obtain ⟨j, rfl⟩ : ∃ j : Nat, r = (j : Int) := ⟨r.toNat, by omega⟩
    walk_at "bk"
    refine ixLet rfl (by omega) ?_
    walk_at "go"
    refine ⟨b2, cs ++ [ltr j], hb2, by simp, fun c hc => ?_, rfl⟩
    rcases List.mem_append.mp hc with h | h
    · exact hcs c h
    · have : c = ltr j := by simpa using h
      rw [this]; exact ltr_in (by omega)
  · rintro acc δ hl hw ⟨b', cs, hb', rfl, hcs, rfl⟩
    have hcl : cs.length ≤ 6 := by simp [rngD] at hl; omega
    refine h_nil ?_
    show oJoin [.io b', .fz (.int (m : Nat)), .fz (.str LET), .un, .un, .un, .un, .un, .un, .un] _ _ _
    refine h_join (ys := cs.map fun c => ⟨#[c]⟩) (.inl (by show some (D.lst _) = _; simp)) (by rw [sum1, show ("" : Str).length = 0 by decide +kernel]; simp; omega) ?_
    generalize hbs : Txt.join "" (cs.map fun c => (⟨#[c]⟩ : Str)) = base
    have hbc : cl base = cs := by rw [← hbs, glue_cl, flat1]
    have hbl : (cl base).length ≤ 6 := by rw [hbc]; exact hcl
    have hbm : ∀ c ∈ cl base, c ∈ LET.cps.toList := by rw [hbc]; exact hcs
    have hbl' : base.length ≤ 6 := by rw [cl_len]; exact hbl
    walk_at "go"
    refine ⟨b', _, rfl, hb', by omega, by omega, fun s1 b2 r0 r1 hb2 => ?_⟩
    obtain ⟨st, rfl⟩ : ∃ j : Nat, s1 = (j : Int) := ⟨s1.toNat, by omega⟩
    walk_at "bk"
    walk_at "go"
    refine ⟨b2, _, rfl, hb2, by omega, by omega, fun s2 b3 r2 r3 hb3 => ?_⟩
    walk_at "bk"
    walk_at "go"
    obtain ⟨sh, rfl⟩ : ∃ j : Nat, s2 = (j : Int) := ⟨s2.toNat, by omega⟩
    have hsh : sh < 4 := by omega
    refine for_rng (m := m) (fun n δ => ∃ (b' : D) (v w x : Option D), isBag b' ∧ δ = [.io b', .fz (.int (m : Nat)), .fz (.str LET), .fz (.str base), .fz (.int (st : Nat)), .fz (.int (sh : Nat)), .ow (.lst ((nameL base st m sh n).map .str)), so v, so w, so x]) ⟨b3, none, none, none, hb3, rfl⟩ ?_ ?_ (by omega)
    · rintro n δ hn ⟨b', v, w, x, hb', rfl⟩
      walk_at "go"
      refine ixLet (j := (st + 5 * n) % 26) (by omega) (Nat.mod_lt _ (by decide)) ?_
      walk_at "go"
      refine iteV (.fz (.str (if m > 26 then ⟨#[ltr (n / 26)]⟩ else ""))) (fun h R hR => ?_) (fun h R hR => ?_) ?_
      · have h' : m > 26 := by have := of_decide_eq_true h; omega
        walk_at "go"
        refine ixLet (j := n / 26) (by omega) (by omega) ?_
        rw [if_pos h'] at hR; exact hR
      · have h' : ¬ m > 26 := by have := of_decide_eq_false h; omega
        walk_at "go"
        rw [if_neg h'] at hR; exact hR
      · have e2 : (if m > 26 then (⟨#[ltr (n / 26)]⟩ : Str) else "").length ≤ 1 := by
          split
          · exact Nat.le_refl 1
          · decide +kernel
        refine h_addS (by show 1 + _ ≤ _; omega) ?_
        rw [show (⟨#[ltr ((st + 5 * n) % 26)]⟩ ++ (if m > 26 then (⟨#[ltr (n / 26)]⟩ : Str) else "") : Str) = mkS st m n from rfl]
        have hml : (mkS st m n).length ≤ 2 := by rw [cl_len, mk_len]; split <;> omega
        have hcut : ∀ lo hi, (L2.cutS base lo hi).length ≤ 6 := fun lo hi => by have := L2.cutS_length base lo hi; omega
        have hcut1 := hcut none (some 1)
        have hcut2 := hcut (some 1) none
        have hcut3 := hcut none (some ((n : Int) % ((base.length : Int) + 1)))
        have happ : (L2.cutS base none (some 1) ++ mkS st m n).length ≤ 8 := by rw [cl_len, cl_app, List.length_append, ← cl_len, ← cl_len]; omega
        walk_at "go"
        have hix : ixD (D.lst [D.str (base ++ mkS st m n), D.str (mkS st m n ++ base), D.str (mkS st m n ++ L2.cutS base none (some (↑n % (↑base.length + 1)))), D.str (L2.cutS base none (some 1) ++ mkS st m n ++ L2.cutS base (some 1) none)]) (Pv.fz (D.int ↑sh)) = some (.str (nmS base (mkS st m n) n sh)) := by
          match sh, hsh with
          | 0, _ => rfl
          | 1, _ => rfl
          | 2, _ => rfl
          | 3, _ => rfl
        refine h_ix rfl hix ?_
        walk_at "go"
        refine iteV (.fz (.str (finS (nmS base (mkS st m n) n sh)))) (fun h R hR => ?_) (fun h R hR => ?_) ?_
        · walk_at "go"
          unfold finS at hR
          rw [if_pos (of_decide_eq_true h)] at hR; exact hR
        · walk_at "go"
          unfold finS at hR
          rw [if_neg (of_decide_eq_false h)] at hR; exact hR
        · have hl40 : ((nameL base st m sh n).map D.str).length < 10000000 := by simp [nameL]; omega
          walk_at "go"
          exact ⟨b', some _, some _, some _, hb', by rw [nameL_succ, List.map_append]; rfl⟩
    · rintro δ ⟨b', v, w, x, hb', rfl⟩
      walk_at "go"
      exact k b' _ hb' (by simp [nameL]) (names_ok41 hm hbl hbm)
end
section
local macro_rules | `(tactic| walk_at "fl") => `(tactic| first | exact rf_weirs _ | exact rf_lower _ | exact rf_courses _ | exact rf_no _ (by decide +kernel) (by decide +kernel) (by decide +kernel))
abbrev N_l_river : List Str := ["_law_bag_here", "_law_many", "_law_names_here", "_law_rows", "_law_k", "_law_way"]
def u_l_river : US :=
  (uSeq (uPar false true 2 3 (uCall U_l_names [] (uCons (uVar 0) (uCons (uVar 1) uNil))) (uLst uNil))
  (uSeq (uFor (uIRng1 (uCons (uVar 1) uNil)) (ugF 4) (uSeq (uAsg (uCall U_l_take [] (uCons (uVar 0) (uCons (uC (.int 6)) uNil))) (ugF 5))
  (uIfS (uOr (uB (uOp oEq (uVar 4) (uC (.int 0)))) (uB (uOp oEq (uVar 5) (uC (.int 0))))) (uDrop (uBM "list" oApp (uVar 3) (uCons (uTup (uCons (uOp oIx (uVar 2) (uVar 4)) (uCons (uC (.str "sea")) uNil))) uNil))) (uDrop (uBM "list" oApp (uVar 3) (uCons (uTup (uCons (uOp oIx (uVar 2) (uVar 4)) (uCons (uIf (uB (uOp oLt (uVar 5) (uC (.int 4)))) (uOp oIx (uVar 2) (uOp oSub (uVar 4) (uC (.int 1)))) (uOp oIx (uVar 2) (uCall U_l_take [] (uCons (uVar 0) (uCons (uVar 4) uNil))))) uNil))) uNil))))))
  (uRet (uCall U_l_mixed [] (uCons (uVar 0) (uCons (uVar 3) uNil))))))
def U_l_river : UP := fun ss Q _ => ∃ (b : D) (m : Nat), ss = [.io b, .fz (.int (m : Nat))] ∧ isBag b ∧ 1 ≤ m ∧ m ≤ 41 ∧ ∀ (b' : D) (rows : Rows), isBag b' → rows.length = m → (m ≤ 40 → Good rows) → (∀ r ∈ rows, isName r.1 = true ∧ isName r.2 = true) → Q (.tm (.lst (rows.map rowD))) [.io b', .fz (.int (m : Nat))]
theorem len_l_river {ss : List Sl} {Q : Pv → List Sl → Prop} {X : UX} (h : U_l_river ss Q X) : ss.length = 2 := by obtain ⟨_, _, rfl, _⟩ := h; rfl
theorem ix_names {ns : List Str} {j : Nat} (h : j < ns.length) : ixD (.lst (ns.map .str)) (.fz (.int (j : Nat))) = some (.str ns[j]) := ix_nat (by simp [h])
theorem ix_names' {ns : List Str} {k : Int} {j : Nat} (e : k = (j : Nat)) (h : j < ns.length) : ixD (.lst (ns.map .str)) (.fz (.int k)) = some (.str ns[j]) := by subst e; exact ix_names h
local macro_rules | `(tactic| walk_at "ix") => `(tactic| exact ix_names (by assumption))
theorem pure_l_river (ss : List Sl) (Q : Pv → List Sl → Prop) (X : UX) (h : U_l_river ss Q X) : u_l_river (endsU Q X ss.length) (startU N_l_river ss) := by
  obtain ⟨b, m, rfl, hb, h1, hm, k⟩ := h
  show u_l_river { nx := _, rt := retK Q 2, ex := _ } [.io b, .fz (.int (m : Nat)), .un, .un, .un, .un]
  unfold u_l_river
  walk_at "go"
  refine ⟨b, m, rfl, hb, hm, fun b1 ns hb1 hl N => ?_⟩
  walk_at "bk"
  walk_at "go"
  refine for_rng (m := m) (fun n δ => ∃ (b' : D) (rows : Rows) (v w : Option D), isBag b' ∧ wrs rows = ns.take n ∧ (∀ (j : Nat) r, rows[j]? = some r → r.2 = "sea" ∨ ∃ l, l < j ∧ ns[l]? = some r.2) ∧ δ = [.io b', .fz (.int (m : Nat)), .fz (.lst (ns.map .str)), .ow (.lst (rows.map rowD)), so v, so w]) ⟨b1, [], none, none, hb1, rfl, fun j r h => by simp at h, rfl⟩ ?_ ?_ (by omega)
  · rintro n δ hn ⟨b', rows, v, w, hb', hw, hd, rfl⟩
    have hnl : n < ns.length := by omega
    have hrl : rows.length = n := by have := congrArg List.length hw; simp [wrs] at this; omega
    have hl3 : (rows.map rowD).length < 10000000 := by simp; omega
    have fin : ∀ (b2 : D) (below : Str) (v w : Option D), isBag b2 → (below = "sea" ∨ ∃ l, l < n ∧ ns[l]? = some below) → ∃ (b' : D) (rows' : Rows) (v' w' : Option D), isBag b' ∧ wrs rows' = ns.take (n + 1) ∧ (∀ (j : Nat) r, rows'[j]? = some r → r.2 = "sea" ∨ ∃ l, l < j ∧ ns[l]? = some r.2) ∧
        [Sl.io b2, .fz (.int (m : Nat)), .fz (.lst (ns.map .str)), .ow (.lst (rows.map rowD ++ [.tup [.str ns[n], .str below]])), so v, so w] = [.io b', .fz (.int (m : Nat)), .fz (.lst (ns.map .str)), .ow (.lst (rows'.map rowD)), so v', so w'] := by
      intro b2 below v w hb2 hbel
      refine ⟨b2, rows ++ [(ns[n], below)], v, w, hb2, ?_, fun j r hj => ?_, by rw [List.map_append]; rfl⟩
      · rw [List.take_add_one, List.getElem?_eq_getElem hnl, ← hw]; simp [wrs]
      · by_cases hjn : j < rows.length
        · rw [List.getElem?_append_left hjn] at hj; exact hd j r hj
        · rw [List.getElem?_append_right (by omega)] at hj
          have : j - rows.length = 0 := by
            cases hq : j - rows.length with
            | zero => rfl
            | succ q => rw [hq] at hj; simp at hj
          rw [this] at hj
          simp at hj
          subst hj
          have e : j = n := by omega
          rw [e]; exact hbel
    walk_at "go"
    refine ⟨b', _, rfl, hb', by omega, by omega, fun r b2 r0 r1 hb2 => ?_⟩
    walk_at "bk"
    walk_at "go"
    refine iteX (fun h => ?_) (fun h => ?_)
    · walk_at "go"
      exact fin b2 _ (some _) (some _) hb2 (.inl rfl)
    · have hn0 : n ≠ 0 := by have := of_decide_eq_false h; omega
      walk_at "go"
      refine iteX (fun h => ?_) (fun h => ?_)
      · walk_at "go"
        exact fin b2 _ (some _) (some _) hb2 (.inl rfl)
      · walk_at "go"
        refine iteX (fun h => ?_) (fun h => ?_)
        · walk_at "go"
          refine h_ix rfl (ix_names' (j := n - 1) (by omega) (by omega)) ?_
          walk_at "go"
          exact fin b2 _ (some _) (some _) hb2 (.inr ⟨n - 1, by omega, List.getElem?_eq_getElem _⟩)
        · walk_at "go"
          refine ⟨b2, _, rfl, hb2, by omega, by omega, fun r' b3 r0' r1' hb3 => ?_⟩
          obtain ⟨j, rfl⟩ : ∃ j : Nat, r' = (j : Int) := ⟨r'.toNat, by omega⟩
          have hj : j < ns.length := by omega
          walk_at "bk"
          walk_at "go"
          exact fin b3 _ (some _) (some _) hb3 (.inr ⟨j, by omega, List.getElem?_eq_getElem _⟩)
  · rintro δ ⟨b', rows, v, w, hb', hw, hd, rfl⟩
    rw [List.take_of_length_le (by omega)] at hw
    have gg : m ≤ 40 → Good rows := fun h40 => (good_of N (by omega) (by omega) hw hd).1
    have nmz : ∀ r ∈ rows, isName r.1 = true ∧ isName r.2 = true := fun r hr => by
      refine ⟨N.nm _ (by rw [← hw]; exact List.mem_map.mpr ⟨r, hr, rfl⟩), ?_⟩
      obtain ⟨j, hj⟩ := List.mem_iff_getElem?.mp hr
      rcases hd j r hj with e | ⟨l, _, hl⟩
      · rw [e]; decide +kernel
      · exact N.nm _ (List.mem_of_getElem? hl)
    have hrl : rows.length = m := by have := congrArg List.length hw; simp [wrs] at this; omega
    walk_at "go"
    refine ⟨b', _, _, rfl, .inr rfl, hb', by simp; omega, fun b2 es hb2 pm => ?_⟩
    obtain ⟨zs, rfl, pm'⟩ := perm_map rowD pm rows rfl
    walk_at "bk"
    walk_at "go"
    exact k b2 zs hb2 (by rw [pm'.length_eq, hrl]) (fun h => (gg h).perm pm') (fun r hr => nmz r (pm'.mem_iff.mp hr))
abbrev N_l_course : List Str := ["_law_rows", "_law_weir", "_law_below", "_law_found", "_law_k"]
def u_l_course : US :=
  (uSeq (uPar false true 2 3 (uCB oDict (uCons (uVar 0) uNil)) (uLst uNil))
  (uSeq (uFor (uIRng1 (uCons (uCB oLen (uCons (uVar 0) uNil)) uNil)) (ugF 4) (uIfS (uB (uOp oNe (uVar 1) (uC (.str "sea")))) (uSeq (uDrop (uBM "list" oApp (uVar 3) (uCons (uVar 1) uNil)))
  (uAsg (uOp oIx (uVar 2) (uVar 1)) (ugF 1))) uNext))
  (uRet (uVar 3))))
theorem lowK_take {rows : Rows} (g : Good rows) {n : Nat} {r : Str × Str} (h : rows[n]? = some r) : putD (lowK (rows.take n)) (.inr r.1) (.str r.2) = lowK (rows.take (n + 1)) ∧ valD (lowK (rows.take n)) (.inr r.1) = none := by
  have hn : r.1 ∉ wrs (rows.take n) := by
    intro z
    have nd := g.nd
    have hsplit : wrs rows = wrs (rows.take n) ++ wrs (rows.drop n) := by unfold wrs; rw [← List.map_append, List.take_append_drop]
    rw [hsplit, List.nodup_append] at nd
    obtain ⟨hxl, hxe⟩ := List.getElem?_eq_some_iff.mp h
    have hd : r ∈ rows.drop n := by
      rw [List.drop_eq_getElem_cons hxl, hxe]; exact List.mem_cons_self
    exact nd.2.2 r.1 z r.1 (List.mem_map.mpr ⟨r, hd, rfl⟩) rfl
  refine ⟨?_, valD_lowN hn⟩
  rw [put_new, take_snoc h]
  · simp [lowK]
  · intro p hp e
    obtain ⟨q, hq, rfl⟩ := List.mem_map.mp hp
    exact hn (List.mem_map.mpr ⟨q, hq, Sum.inr.inj e⟩)
theorem merge_low {rows : Rows} (g : Good rows) : mergeD [] (lowK rows) = lowK rows := by
  have key : ∀ n, n ≤ rows.length → mergeD [] (lowK (rows.take n)) = lowK (rows.take n) := by
    intro n
    induction n with
    | zero => intro _; simp [lowK, mergeD]
    | succ n ih =>
      intro h
      have hx : rows[n]? = some (rows[n]'h) := List.getElem?_eq_getElem h
      have e := (lowK_take g hx).1
      rw [← e]
      have e2 : lowK (rows.take (n + 1)) = lowK (rows.take n) ++ [(.inr (rows[n]'h).1, .str (rows[n]'h).2)] := by rw [take_snoc hx]; unfold lowK; rw [List.map_append]; rfl
      have e3 : putD (lowK (rows.take n)) (.inr (rows[n]'h).1) (.str (rows[n]'h).2) = lowK (rows.take n) ++ [(.inr (rows[n]'h).1, .str (rows[n]'h).2)] := e.trans e2
      rw [e3]
      unfold mergeD
      rw [List.foldl_append]
      have ih' := ih (by omega)
      unfold mergeD at ih'
      rw [ih']
      show putD _ _ _ = _
      exact e3
  have := key rows.length (Nat.le_refl _)
  rwa [List.take_length] at this
theorem pairs_low (rows : Rows) : (rows.map rowD).map pairD = (lowK rows).map some := by simp [lowK, rowD, pairD, Function.comp]
def U_l_course : UP := fun ss Q _ => ∃ (rows : Rows) (w : Str), ss = [.fz (.lst (rows.map rowD)), .fz (.str w)] ∧ Good rows ∧ w ∈ wrs rows ∧ ∀ s, Q (.tm (.lst ((crs rows rows.length w).map .str))) [.fz (.lst (rows.map rowD)), s]
theorem len_l_course {ss : List Sl} {Q : Pv → List Sl → Prop} {X : UX} (h : U_l_course ss Q X) : ss.length = 2 := by obtain ⟨_, _, rfl, _⟩ := h; rfl
theorem pure_l_course (ss : List Sl) (Q : Pv → List Sl → Prop) (X : UX) (h : U_l_course ss Q X) : u_l_course (endsU Q X ss.length) (startU N_l_course ss) := by
  obtain ⟨rows, w, rfl, g, hw, k⟩ := h
  show u_l_course { nx := _, rt := retK Q 2, ex := _ } [.fz (.lst (rows.map rowD)), .fz (.str w), .un, .un, .un]
  unfold u_l_course
  have h40 := g.le
  have hml : (rows.map rowD).length = rows.length := by simp
  walk_at "go"
  refine h_dictP rfl (pairs_low rows) ?_
  rw [merge_low g]
  walk_at "go"
  refine for_rng (m := rows.length) (fun n δ => ∃ (u : Str) (fs : List Str) (v : Option D), (u = "sea" ∨ u ∈ wrs rows) ∧ down rows (rows.length - n) u = "sea" ∧ fs ++ crs rows (rows.length - n) u = crs rows rows.length w ∧ fs.length ≤ n ∧ δ = [.fz (.lst (rows.map rowD)), .fz (.str u), .fz (.dct (lowK rows)), .ow (.lst (fs.map .str)), so v]) ⟨w, [], none, .inr hw, g.ends hw, rfl, Nat.le_refl _, rfl⟩ ?_ ?_ (by omega)
  · rintro n δ hn ⟨u, fs, v, hu, hd, hf, hl, rfl⟩
    have hl' : (fs.map D.str).length < 10000000 := by simp; omega
    walk_at "go"
    refine iteX (fun h => ?_) (fun h => ?_)
    · have hne : u ≠ "sea" := by simpa using h
      have hu' : u ∈ wrs rows := by rcases hu with z | z; exact absurd z hne; exact z
      have hx : valD (lowK rows) (.inr u) = some (.str (low rows u)) := valD_low hu'
      walk_at "go"
      rw [show rows.length - n = (rows.length - (n + 1)) + 1 by omega] at hd hf
      have hc : crs rows (rows.length - (n + 1) + 1) u = u :: crs rows (rows.length - (n + 1)) (low rows u) := by rw [crs, if_neg hne]
      rw [hc] at hf
      unfold down at hd
      rw [if_neg hne] at hd
      exact ⟨low rows u, fs ++ [u], some _, g.low_in hu', hd, by rw [← hf]; simp, by simp; omega, by rw [List.map_append]; rfl⟩
    · have he : u = "sea" := by simpa using h
      subst he
      walk_at "go"
      rw [crs_sea] at hf
      exact ⟨"sea", fs, some _, .inl rfl, down_sea rows _, by rw [crs_sea]; exact hf, by omega, rfl⟩
  · rintro δ ⟨u, fs, v, hu, hd, hf, hl, rfl⟩
    rw [Nat.sub_self] at hf
    have hf' : fs = crs rows rows.length w := by rw [← hf]; simp [crs]
    subst hf'
    walk_at "go"
    exact k _
end
end WK
namespace WK
open PySem L2
theorem merge_app : ∀ (more acc : List (Key × D)), ((acc ++ more).map (·.1)).Nodup → mergeD acc more = acc ++ more
  | [], acc, _ => by simp [mergeD]
  | p :: more, acc, h => by
    have hp : ∀ q ∈ acc, q.1 ≠ p.1 := fun q hq e => by
      rw [List.map_append, List.nodup_append] at h
      exact h.2.2 q.1 (List.mem_map.mpr ⟨q, hq, rfl⟩) p.1 (List.mem_map.mpr ⟨p, List.mem_cons_self, rfl⟩) e
    have ih := merge_app more (acc ++ [p]) (by simpa using h)
    unfold mergeD at ih ⊢
    rw [List.foldl_cons, put_new hp, ih]
    simp
theorem merge_nd {kds : List (Key × D)} (h : (kds.map (·.1)).Nodup) : mergeD [] kds = kds := merge_app kds [] h
theorem crs_head {rows : Rows} (g : Good rows) {w : Str} (hw : w ∈ wrs rows) : (crs rows rows.length w)[0]? = some w := by
  have h1 := g.pos
  cases hl : rows.length with
  | zero => omega
  | succ n => rw [crs, if_neg (g.ne_sea hw)]; rfl
/-- names of rights -/
structure NmR (ns : List Str) : Prop where
  nm : ∀ n ∈ ns, isName n = true
  nd : ns.Nodup
theorem nd_set {ns : List Str} (nd : ns.Nodup) {x : Str} (hx : x ∉ ns) (i : Nat) : (ns.set i x).Nodup := by
  rcases Nat.lt_or_ge i ns.length with h | h
  · rw [List.set_eq_take_append_cons_drop, if_pos h, List.nodup_append]
    have h1 := nd
    rw [← List.take_append_drop (i + 1) ns] at h1
    have nt : (ns.take i).Nodup := nd.sublist (List.take_sublist _ _)
    have ndr : (ns.drop (i + 1)).Nodup := nd.sublist (List.drop_sublist _ _)
    refine ⟨nt, List.nodup_cons.mpr ⟨fun z => hx (List.mem_of_mem_drop z), ndr⟩, fun a ha b hb e => ?_⟩
    subst e
    rcases List.mem_cons.mp hb with rfl | hb
    · exact hx (List.mem_of_mem_take ha)
    · rw [List.nodup_append] at h1
      exact h1.2.2 a (List.take_subset_take_left _ (Nat.le_succ i) ha) a hb rfl
  · rw [List.set_eq_of_length_le h]; exact nd
theorem NmR.set {ns : List Str} (N : NmR ns) (hx : ("sea" : Str) ∉ ns) (i : Nat) : NmR (ns.set i "sea") := ⟨fun n hn => by
  rcases List.mem_or_eq_of_mem_set hn with h | h
  · exact N.nm n h
  · rw [h]; exact sea_name, nd_set N.nd hx i⟩
theorem ixNn {n j : Nat} (hj : j < n) : ixN n (j : Int) = some j := by
  unfold ixN
  rw [if_pos (by omega), if_pos (by omega)]
  simp
/-- rows of rights but for their number -/
structure LR (rows : Rows) (rs : Rts) : Prop where
  nm : ∀ r ∈ rs, isName r.1 = true
  nd : (rnm rs).Nodup
  inn : ∀ r ∈ rs, r.2.1 ∈ wrs rows
  dn : ∀ r ∈ rs, r.2.2 = "sea" ∨ (r.2.2 ∈ wrs rows ∧ r.2.2 ∈ crs rows rows.length r.2.1)
local macro_rules | `(tactic| walk_at "kb") => `(tactic| first | exact kb_str_str | exact kb_str_int | exact kb_str_bool | exact kb_str_list | exact kb_str_tuple | exact kb_str_dict | exact kb_int_str | exact kb_int_int | exact kb_int_bool | exact kb_int_list | exact kb_int_tuple | exact kb_int_dict | exact kb_bool_str | exact kb_bool_int | exact kb_bool_bool | exact kb_bool_list | exact kb_bool_tuple | exact kb_bool_dict | exact kb_list_str | exact kb_list_int | exact kb_list_bool | exact kb_list_list | exact kb_list_tuple | exact kb_list_dict | exact kb_tuple_str | exact kb_tuple_int | exact kb_tuple_bool | exact kb_tuple_list | exact kb_tuple_tuple | exact kb_tuple_dict | exact kb_dict_str | exact kb_dict_int | exact kb_dict_bool | exact kb_dict_list | exact kb_dict_tuple | exact kb_dict_dict | exact kb_NoneType_str | exact kb_NoneType_int | exact kb_NoneType_bool | exact kb_NoneType_list | exact kb_NoneType_tuple | exact kb_NoneType_dict)
local macro_rules | `(tactic| walk_at "pt") => `(tactic| repeat (first | exact PtR.ow | exact PtR.io | apply PtR.s))
local macro_rules | `(tactic| walk_at "st") => `(tactic| repeat (first | exact StS.z | apply StS.s))
local macro_rules | `(tactic| walk_at "sz") => `(tactic| first | omega | (simp; omega) | simp)
local macro_rules | `(tactic| walk_at "side") => `(tactic| first | assumption | omega | (refine ⟨?_, ?_⟩ <;> omega) | (exact .inl ⟨by omega, by omega⟩) | (exact .inr ⟨by omega, by omega⟩) | (exact ⟨by decide, by decide, by decide⟩) | rfl)
local macro_rules | `(tactic| walk_at "h1") => `(tactic| first
  | with_reducible first
    | refine h_seq ?_ | refine h_asg ?_ | refine h_op ?_ | refine h_c ?_ | refine h_cons ?_ | refine h_nil ?_ | refine h_cb ?_ | refine h_call ?_ | refine h_ret ?_ | refine h_drop ?_ | refine h_next ?_ | refine h_retN ?_
    | refine h_ifS ?_ | refine h_if ?_ | refine h_B ?_ | refine h_bl ?_ | refine h_and ?_ | refine h_or ?_ | refine h_not ?_ | refine h_andV ?_ | refine h_orV ?_ | refine h_notV ?_
    | refine h_un ?_ | refine h_neg ?_ | refine h_I0 ?_ | refine h_addI ?_ | refine h_int ?_ | refine h_abs ?_ | refine h_mx2 ?_ | refine h_mn2 ?_ | refine h_par ?_ | refine h_na1 ?_ | refine h_na2 ?_ | refine h_chain ?_
    | refine h_gseq ?_ | refine h_gFor ?_ | refine h_gP ?_ | refine h_gIf ?_ | refine h_askN ?_ | refine h_iGen ?_ | refine h_iGenM ?_ | refine h_listG ?_ | refine h_for ?_ | refine h_lc ?_ | refine h_dc ?_ | refine h_iseq ?_ | refine h_irng1 ?_ | refine h_irng2 ?_ | refine h_ienum ?_ | refine h_gcons ?_ | refine h_gnil ?_ | refine h_gF ?_ | refine h_gOF ?_ | refine h_gOA ?_ | refine h_gXT ?_ | refine h_gXF ?_
    | refine h_setI ?_ | refine h_sfld ?_ | refine hp_sfld0 ?_ | refine h_raise ?_ | refine h_dnew ?_ | refine h_inS ?_ | refine h_sl ?_ | refine h_noPart ?_ | refine h_part ?_ | refine h_partI ?_ | refine h_meth ?_ | refine h_make ?_ | refine h_fld ?_
    | refine h_tpk ?_ | refine h_setTm ?_ | refine h_tell ?_ | refine h_tpk3 ?_ | refine h_tpk2 ?_ | refine h_dnewT ?_ | refine h_setT ?_ | refine h_fgtT ?_ | refine h_fgt ?_ | refine h_mkx ?_ | refine h_erf ?_ | refine h_lst ?_ | refine h_tup ?_ | refine h_bm ?_ | refine h_bm0 ?_ | refine h_yes ?_ | refine h_stoF ?_ | refine h_stoT ?_ | refine h_stoN ?_ | refine h_stoC ?_ | refine hp_app0 ?_ | refine h_rtF ?_ | refine h_rtT ?_ | refine h_dget2W ?_ | refine iteT ?_ | refine iteF ?_ | refine iteNT ?_ | refine iteNF ?_ | refine h_nest ?_ | refine h_seqN ?_ | refine h_L ?_ | refine h_ifN ?_ | refine h_forN ?_ | refine h_appN ?_ | refine h_iseqM ?_ | refine h_ienumT ?_ | refine h_appT ?_ | refine h_appTQ ?_ | refine h_revL ?_
  | ((with_reducible refine' h_varF ?ev ?_); (case ev => rfl))
  | ((with_reducible refine' h_varO ?ev ?_); (case ev => rfl))
  | ((with_reducible refine' h_varI ?ev ?_); (case ev => rfl))
  | ((with_reducible refine' h_varL ?ev ?_); (case ev => rfl))
  | ((with_reducible refine' hp_gF ?e1 ?e2 ?_); (case e1 => first | exact trivial | exact nk_so _ | exact nk_soO _ | exact nk_soO _); (case e2 => walk_at "st"))
  | ((with_reducible refine' hp_gO ?e1 ?e0 ?e2 ?_); (case e1 => first | exact trivial | exact nk_so _ | exact nk_soO _ | exact nk_soO _); (case e0 => simp only [List.length]; decide); (case e2 => walk_at "st"))
  | ((with_reducible refine' h_I ?ec ?_); (case ec => walk_at "side"))
  | ((with_reducible refine' h_sz0 ?ec ?_); (case ec => walk_at "sz"))
  | ((with_reducible refine' h_ix ?es ?ea ?_); (case es => rfl); (case ea => first | assumption | walk_at "ix" | rfl))
  | ((with_reducible refine' h_len ?es ?ea ?_); (case es => rfl); (case ea => rfl))
  | ((with_reducible refine' h_lenS ?es ?_); (case es => walk_at "sz"))
  | ((with_reducible refine' h_list ?es ?ea ?_); (case es => rfl); (case ea => rfl))
  | ((with_reducible refine' h_tupN ?es ?_); (case es => rfl))
  | ((with_reducible refine' h_fgtK ?es ?_); (case es => rfl))
  | ((with_reducible refine' h_tuple ?es ?_); (case es => first | exact .inl rfl | exact .inr rfl))
  | ((with_reducible refine' h_eqA ?e1 ?e2 ?e3 ?_); (case e1 => rfl); (case e2 => rfl); (case e3 => rfl))
  | ((with_reducible refine' h_neA ?e1 ?e2 ?e3 ?_); (case e1 => rfl); (case e2 => rfl); (case e3 => rfl))
  | ((with_reducible refine' h_inD ?e1 ?e2 ?_); (case e1 => rfl); (case e2 => rfl))
  | ((with_reducible refine' h_notInD ?e1 ?e2 ?_); (case e1 => rfl); (case e2 => rfl))
  | ((with_reducible refine' h_isN ?e1 ?_); (case e1 => rfl))
  | ((with_reducible refine' h_inT ?e1 ?_); (case e1 => rfl))
  | ((with_reducible refine' h_listT ?e1 ?_); (case e1 => rfl))
  | ((with_reducible refine' hp_setT ?e1 ?e2 ?e3 ?_); (case e1 => exact ⟨_, rfl, rfl, rfl⟩); (case e2 => walk_at "sz"); (case e3 => walk_at "pt"))
  | ((with_reducible refine' hp_ext ?e1 ?e2 ?e3 ?_); (case e1 => exact ⟨_, rfl, rfl, rfl⟩); (case e2 => walk_at "sz"); (case e3 => walk_at "pt"))
  | ((with_reducible refine' h_notN ?e1 ?_); (case e1 => rfl))
  | ((with_reducible refine' h_isi ?e1 ?e2 ?e3 ?_); (case e1 => rfl); (case e2 => rfl); (case e3 => walk_at "kb"))
  | ((with_reducible refine' h_addS ?e1 ?_); (case e1 => walk_at "sz"))
  | ((with_reducible refine' h_addL ?e1 ?e2 ?e3 ?_); (case e1 => rfl); (case e2 => rfl); (case e3 => walk_at "sz"))
  | ((with_reducible refine' h_addT ?e1 ?e2 ?e3 ?_); (case e1 => rfl); (case e2 => rfl); (case e3 => walk_at "sz"))
  | ((with_reducible refine' h_slL ?e1 ?_); (case e1 => rfl))
  | ((with_reducible refine' h_slT ?e1 ?_); (case e1 => rfl))
  | ((with_reducible refine' h_slS ?e1 ?_); (case e1 => walk_at "sz"))
  | ((with_reducible refine' h_slX ?e1 ?_); (case e1 => rfl))
  | ((with_reducible refine' h_dictC ?e1 ?_); (case e1 => rfl))
  | ((with_reducible refine' h_fldI ?e1 ?e2 ?_); (case e1 => rfl); (case e2 => walk_at "fl"))
  | ((with_reducible refine' h_ty ?e1 ?e2 ?_); (case e1 => rfl); (case e2 => rfl))
  | ((with_reducible refine' hp_app ?e1 ?e2 ?e3 ?_); (case e1 => exact ⟨_, rfl, rfl, rfl⟩); (case e2 => walk_at "sz"); (case e3 => walk_at "pt"))
  | ((with_reducible refine' hp_stoO ?e1 ?e2 ?_); (case e1 => rfl); (case e2 => walk_at "st"))
  | ((with_reducible refine' h_stoFr ?e1 ?_); (case e1 => rfl))
  | ((with_reducible refine' h_gtup ?e1 ?e2 ?_); (case e1 => rfl); (case e2 => rfl))
  | ((with_reducible refine' h_glst ?e1 ?e2 ?_); (case e1 => rfl); (case e2 => rfl))
  | ((with_reducible refine' hp_setL ?e1 ?e2 ?e3 ?_); (case e1 => exact ⟨_, rfl, rfl, rfl⟩); (case e2 => first | rfl | assumption); (case e3 => walk_at "pt"))
  | ((with_reducible refine' hp_setD ?e0 ?e1 ?e2 ?e3 ?_); (case e0 => rfl); (case e1 => exact ⟨_, rfl, rfl, rfl⟩); (case e2 => walk_at "sz"); (case e3 => walk_at "pt"))
  | ((with_reducible refine' hp_sfld ?e1 ?e2 ?e3 ?e4 ?_); (case e1 => exact ⟨_, rfl, rfl, rfl⟩); (case e2 => simp only [List.length]; decide); (case e3 => walk_at "pf"); (case e4 => walk_at "pt"))
  | ((with_reducible refine' h_iseqN ?e1 ?e2 ?e3 ?_); (case e1 => rfl); (case e2 => rfl); (case e3 => rfl))
  | ((with_reducible refine' h_iseqS ?e1 ?e2 ?e3 ?_); (case e1 => rfl); (case e2 => rfl); (case e3 => rfl))
  | ((with_reducible refine' h_ienumN ?e1 ?e3 ?_); (case e1 => rfl); (case e3 => rfl))
  | ((with_reducible refine' h_ienumS ?e1 ?e3 ?_); (case e1 => rfl); (case e3 => rfl))
  | ((with_reducible refine' h_irng1I ?e1 ?_); (case e1 => (constructor <;> omega)))
  | ((with_reducible refine' h_irng2I ?e1 ?_); (case e1 => (refine ⟨?_, ?_, ?_, ?_⟩ <;> omega)))
  | ((with_reducible refine' h_methI ?e1 ?e2 ?_); (case e1 => rfl); (case e2 => walk_at "fl"))
  | ((with_reducible refine' h_isD ?e1 ?_); (case e1 => rfl))
  | ((with_reducible refine' h_callP ?e1 ?e2 ?_); (case e1 => rfl); (case e2 => rfl))
  | ((with_reducible refine' h_makeP ?e1 ?e2 ?_); (case e1 => rfl); (case e2 => rfl))
  | ((with_reducible refine' h_rtO ?e1 ?_); (case e1 => rfl))
  | ((with_reducible refine' h_iseqMF ?e1 ?_); (case e1 => rfl))
  | ((with_reducible refine' h_iseqMT ?e1 ?_); (case e1 => rfl))
  | ((with_reducible refine' h_ienumTI ?e1 ?_); (case e1 => rfl))
  | ((with_reducible refine' h_appTI ?e1 ?_); (case e1 => walk_at "sz"))
  | ((with_reducible refine' h_rtA ?e1 ?_); (case e1 => rfl))
  | ((with_reducible refine' h_dgetF ?e1 ?e2 ?_); (case e1 => rfl); (case e2 => rfl))
  | ((with_reducible refine' iteK0 ?e1 ?_); (case e1 => rfl))
  | ((with_reducible refine' iteK1 ?e1 ?_); (case e1 => rfl)))
local macro_rules | `(tactic| walk_at "go") => `(tactic| repeat (walk_at "h1"))
local macro_rules | `(tactic| walk_at "bk") => `(tactic| ((try dsimp only); simp only [fzn_fz, fzn_at, fzn_tm, List.map_nil, List.append_nil, List.map_cons, List.cons_append, List.nil_append, back_at, back_af, back_ao, back_fz, back_nil, pt_ow, pt_io, pt_succ]))
local macro_rules | `(tactic| walk_at "g0") => `(tactic| skip)
local macro_rules | `(tactic| walk_at "pf") => `(tactic| rfl)
section
local macro_rules | `(tactic| walk_at "fl") => `(tactic| rfl)
local macro_rules | `(tactic| walk_at "ix") => `(tactic| first | exact row_ix0 _ | exact row_ix1 _ | exact rt_ix0 _ | exact rt_ix1 _ | exact rt_ix2 _ | assumption)
abbrev N_l_right_names : List Str := ["_law_bag_here", "_law_rows", "_law_many", "_law_names_here", "_law_row"]
def tl_l_right_names_3 : US :=
  (uRet (uVar 3))
def tl_l_right_names_2 : US :=
  (uSeq (uIfS (uAnd (uB (uOp oGt (uVar 2) (uC (.int 0)))) (uB (uOp oEq (uCall U_l_take [] (uCons (uVar 0) (uCons (uC (.int 6)) uNil))) (uC (.int 0))))) (uSetI (uC (.str "sea")) (uVar 3) (uCall U_l_take [] (uCons (uVar 0) (uCons (uVar 2) uNil)))) uNext) tl_l_right_names_3)
def tl_l_right_names_1 : US :=
  (uSeq (uIfS (uAnd (uB (uOp oLe (uVar 2) (uCB oLen (uCons (uVar 1) uNil)))) (uB (uOp oEq (uCall U_l_take [] (uCons (uVar 0) (uCons (uC (.int 3)) uNil))) (uC (.int 0))))) (uAsg (uSl (uLc (uISeq (uCall U_l_mixed [] (uCons (uVar 0) (uCons (uVar 1) uNil)))) (ugF 4) uYes (uOp oIx (uVar 4) (uC (.int 0))) [4]) uNoPart (uPart (uVar 2))) (ugO 3)) uNext) tl_l_right_names_2)
def u_l_right_names : US :=
  (uSeq (uAsg (uCall U_l_names [] (uCons (uVar 0) (uCons (uVar 2) uNil))) (ugO 3)) tl_l_right_names_1)
def U_l_right_names : UP := fun ss Q _ => ∃ (b : D) (rows : Rows) (m : Nat), ss = [.io b, .fz (.lst (rows.map rowD)), .fz (.int (m : Nat))] ∧ isBag b ∧ Good rows ∧ m ≤ 41 ∧ ∀ (b' : D) (ns : List Str), isBag b' → ns.length = m → NmR ns → Q (.tm (.lst (ns.map .str))) [.io b', .fz (.lst (rows.map rowD)), .fz (.int (m : Nat))]
theorem len_l_right_names {ss : List Sl} {Q : Pv → List Sl → Prop} {X : UX} (h : U_l_right_names ss Q X) : ss.length = 3 := by obtain ⟨_, _, _, rfl, _⟩ := h; rfl
theorem pure_l_right_names (ss : List Sl) (Q : Pv → List Sl → Prop) (X : UX) (h : U_l_right_names ss Q X) : u_l_right_names (endsU Q X ss.length) (startU N_l_right_names ss) := by
  obtain ⟨b, rows, m, rfl, hb, g, hm, k⟩ := h
  show u_l_right_names { nx := _, rt := retK Q 3, ex := fun x δ => X x (δ.take 3) } [.io b, .fz (.lst (rows.map rowD)), .fz (.int (m : Nat)), .un, .un]
  unfold u_l_right_names
  have h40 := g.le
  have fin : ∀ (b' : D) (ns : List Str) (u : Option D) (E : UEnds), E.rt = retK Q 3 → isBag b' → ns.length = m → NmR ns → tl_l_right_names_3 E [.io b', .fz (.lst (rows.map rowD)), .fz (.int (m : Nat)), .ow (.lst (ns.map .str)), so u] := by
    intro b' ns u E hE hb' hl N
    unfold tl_l_right_names_3
    refine h_ret (h_varO rfl ?_)
    rw [hE]
    walk_at "go"
    exact k b' ns hb' hl N
  have two : ∀ (b' : D) (ns : List Str) (u : Option D) (E : UEnds), E.rt = retK Q 3 → isBag b' → ns.length = m → NmR ns → ("sea" : Str) ∉ ns → tl_l_right_names_2 E [.io b', .fz (.lst (rows.map rowD)), .fz (.int (m : Nat)), .ow (.lst (ns.map .str)), so u] := by
    intro b' ns u E hE hb' hl N hs
    unfold tl_l_right_names_2
    walk_at "go"
    refine iteX (fun h => ?_) (fun h => ?_)
    · have h0 : 0 < m := by have := of_decide_eq_true h; omega
      walk_at "go"
      refine ⟨b', 6, rfl, hb', by omega, by omega, fun r b2 r0 r1 hb2 => ?_⟩
      walk_at "bk"
      walk_at "go"
      refine iteX (fun h2 => ?_) (fun h2 => ?_)
      · walk_at "go"
        refine ⟨b2, _, rfl, hb2, by omega, by omega, fun i b3 i0 i1 hb3 => ?_⟩
        obtain ⟨j, rfl⟩ : ∃ j : Nat, i = (j : Int) := ⟨i.toNat, by omega⟩
        walk_at "bk"
        have hj : j < (ns.map D.str).length := by rw [List.length_map]; omega
        refine hp_setL (m := j) ⟨_, rfl, rfl, rfl⟩ (ixNn hj) (by walk_at "pt") ?_
        rw [show (ns.map D.str).set j (.str "sea") = (ns.set j "sea").map D.str from by rw [List.map_set]]
        exact fin b3 (ns.set j "sea") u _ hE hb3 (by rw [List.length_set]; exact hl) (N.set hs j)
      · walk_at "go"
        exact fin b2 ns u _ hE hb2 hl N
    · walk_at "go"
      exact fin b' ns u _ hE hb' hl N
  walk_at "go"
  refine ⟨b, m, rfl, hb, hm, fun b1 ns hb1 hl N => ?_⟩
  walk_at "bk"
  walk_at "go"
  have hsea : ("sea" : Str) ∉ ns := fun z => N.nosea _ z rfl
  unfold tl_l_right_names_1
  walk_at "go"
  refine iteX (fun h => ?_) (fun h => ?_)
  · walk_at "go"
    refine ⟨b1, 3, rfl, hb1, by omega, by omega, fun r b2 r0 r1 hb2 => ?_⟩
    walk_at "bk"
    walk_at "go"
    refine iteX (fun h2 => ?_) (fun h2 => ?_)
    · have hml : m ≤ rows.length := by have := of_decide_eq_true h; simp at this; omega
      walk_at "go"
      refine ⟨b2, _, _, rfl, .inl rfl, hb2, by simp; omega, fun b3 es hb3 pm => ?_⟩
      obtain ⟨rows', rfl, pr⟩ := perm_map rowD pm rows rfl
      walk_at "bk"
      walk_at "go"
      have hrl : rows'.length ≤ 40 := by have := pr.length_eq; omega
      refine ⟨by simp; omega, ?_⟩
      refine lc_all (xs := rows') (emb := rowD) (fun r => .str r.1) rfl rfl (fun r hr P N hP => ?_) ?_
      · walk_at "go"
        exact hP
      · have ecut : cutD (rows'.map fun r => D.str r.1) none (some (m : Int)) = ((wrs rows').take m).map .str := by rw [cut_to, ← List.map_take]; unfold wrs; rw [← List.map_take, List.map_map]; rfl
        have g' := g.perm pr
        walk_at "go"
        rw [ecut]
        refine two b3 _ none _ rfl hb3 ?_ ⟨fun n hn => ?_, g'.nd.sublist (List.take_sublist _ _)⟩ (fun z => ?_)
        · rw [List.length_take, wrs_len, pr.length_eq]; omega
        · obtain ⟨r, hr, rfl⟩ := List.mem_map.mp (List.mem_of_mem_take hn)
          exact (g'.nm r hr).1
        · obtain ⟨r, hr, e⟩ := List.mem_map.mp (List.mem_of_mem_take z)
          exact g'.nosea r hr e
    · walk_at "go"
      exact two b2 ns none _ rfl hb2 hl ⟨N.nm, N.nd⟩ hsea
  · walk_at "go"
    exact two b1 ns none _ rfl hb1 hl ⟨N.nm, N.nd⟩ hsea
abbrev N_l_rights : List Str := ["_law_bag_here", "_law_rows", "_law_many", "_law_found", "_law_name", "_law_course_here", "_law_at"]
def u_l_rights : US :=
  (uSeq (uAsg (uLst uNil) (ugO 3))
  (uSeq (uFor (uISeq (uCall U_l_right_names [] (uCons (uVar 0) (uCons (uVar 1) (uCons (uVar 2) uNil))))) (ugF 4) (uSeq (uAsg (uCall U_l_course [] (uCons (uVar 1) (uCons (uOp oIx (uCall U_l_of [] (uCons (uVar 0) (uCons (uVar 1) uNil))) (uC (.int 0))) uNil))) (ugF 5))
  (uSeq (uAsg (uCall U_l_take [] (uCons (uVar 0) (uCons (uOp oAdd (uCB oLen (uCons (uVar 5) uNil)) (uC (.int 2))) uNil))) (ugF 6))
  (uDrop (uBM "list" oApp (uVar 3) (uCons (uTup (uCons (uVar 4) (uCons (uOp oIx (uVar 5) (uC (.int 0))) (uCons (uIf (uB (uOp oLt (uVar 6) (uCB oLen (uCons (uVar 5) uNil)))) (uOp oIx (uVar 5) (uVar 6)) (uC (.str "sea"))) uNil)))) uNil))))))
  (uRet (uVar 3))))
def U_l_rights : UP := fun ss Q _ => ∃ (b : D) (rows : Rows) (m : Nat), ss = [.io b, .fz (.lst (rows.map rowD)), .fz (.int (m : Nat))] ∧ isBag b ∧ Good rows ∧ m ≤ 41 ∧ ∀ (b' : D) (rs : Rts), isBag b' → LR rows rs → rs.length = m → Q (.tm (.lst (rs.map rtD))) [.io b', .fz (.lst (rows.map rowD)), .fz (.int (m : Nat))]
theorem len_l_rights {ss : List Sl} {Q : Pv → List Sl → Prop} {X : UX} (h : U_l_rights ss Q X) : ss.length = 3 := by obtain ⟨_, _, _, rfl, _⟩ := h; rfl
theorem pure_l_rights (ss : List Sl) (Q : Pv → List Sl → Prop) (X : UX) (h : U_l_rights ss Q X) : u_l_rights (endsU Q X ss.length) (startU N_l_rights ss) := by
  obtain ⟨b, rows, m, rfl, hb, g, hm, k⟩ := h
  show u_l_rights { nx := _, rt := retK Q 3, ex := _ } [.io b, .fz (.lst (rows.map rowD)), .fz (.int (m : Nat)), .un, .un, .un, .un]
  unfold u_l_rights
  have h40 := g.le
  have hp := g.pos
  walk_at "go"
  refine ⟨b, rows, m, rfl, hb, g, hm, fun b1 ns hb1 hl N => ?_⟩
  walk_at "bk"
  walk_at "go"
  refine for_M (emb := D.str) (fun n δ => ∃ (b' : D) (rs : Rts) (u v w : Option D), isBag b' ∧ rnm rs = ns.take n ∧ (∀ r ∈ rs, r.2.1 ∈ wrs rows ∧ (r.2.2 = "sea" ∨ (r.2.2 ∈ wrs rows ∧ r.2.2 ∈ crs rows rows.length r.2.1))) ∧ δ = [.io b', .fz (.lst (rows.map rowD)), .fz (.int (m : Nat)), .ow (.lst (rs.map rtD)), so u, so v, so w]) ⟨b1, [], none, none, none, hb1, rfl, (fun r h => by cases h), rfl⟩ ?_ ?_
  · rintro n nm δ hn ⟨b', rs, u, v, w, hb', hw, hd, rfl⟩
    have hrl : rs.length ≤ 41 := by have := congrArg List.length hw; simp [rnm] at this; omega
    have hl3 : (rs.map rtD).length < 10000000 := by simp; omega
    walk_at "go"
    refine ⟨b', _, _, rfl, .inl rfl, hb', by simp; omega, by simp; omega, fun b2 d hb2 hd2 => ?_⟩
    obtain ⟨r0, hr0, rfl⟩ := List.mem_map.mp hd2
    have hw0 : r0.1 ∈ wrs rows := List.mem_map.mpr ⟨r0, hr0, rfl⟩
    walk_at "bk"
    walk_at "go"
    refine ⟨rows, r0.1, rfl, g, hw0, fun s => ?_⟩
    have hcl := crs_len (rows := rows) rows.length r0.1
    have hc0 := crs_head g hw0
    walk_at "bk"
    walk_at "go"
    refine ⟨b2, _, rfl, hb2, by omega, by simp; omega, fun i b3 i0 i1 hb3 => ?_⟩
    obtain ⟨j, rfl⟩ : ∃ j : Nat, i = (j : Int) := ⟨i.toNat, by omega⟩
    have hx0 : ixD (.lst ((crs rows rows.length r0.1).map .str)) (.fz (.int 0)) = some (.str r0.1) := ix_nat (j := 0) (by rw [List.getElem?_map, hc0]; rfl)
    walk_at "bk"
    walk_at "go"
    have fin : ∀ (l : Str), (l = "sea" ∨ (l ∈ wrs rows ∧ l ∈ crs rows rows.length r0.1)) → ∃ (b' : D) (rs' : Rts) (u v w : Option D), isBag b' ∧ rnm rs' = ns.take (n + 1) ∧ (∀ r ∈ rs', r.2.1 ∈ wrs rows ∧ (r.2.2 = "sea" ∨ (r.2.2 ∈ wrs rows ∧ r.2.2 ∈ crs rows rows.length r.2.1))) ∧
        [Sl.io b3, .fz (.lst (rows.map rowD)), .fz (.int (m : Nat)), .ow (.lst (rs.map rtD ++ [.tup [.str nm, .str r0.1, .str l]])), .fz (.str nm), .fz (.lst ((crs rows rows.length r0.1).map .str)), .fz (.int (j : Nat))] = [.io b', .fz (.lst (rows.map rowD)), .fz (.int (m : Nat)), .ow (.lst (rs'.map rtD)), so u, so v, so w] := by
      intro l hll
      refine ⟨b3, rs ++ [(nm, r0.1, l)], some _, some _, some _, hb3, ?_, fun r hr => ?_, by rw [List.map_append]; rfl⟩
      · rw [take_snoc hn]; unfold rnm at hw ⊢; rw [List.map_append, hw]; rfl
      · rcases List.mem_append.mp hr with h | h
        · exact hd r h
        · have : r = (nm, r0.1, l) := by simpa using h
          rw [this]; exact ⟨hw0, hll⟩
    refine iteX (fun h => ?_) (fun h => ?_)
    · have hj : j < (crs rows rows.length r0.1).length := by have := of_decide_eq_true h; simp at this; omega
      have hxj : ixD (.lst ((crs rows rows.length r0.1).map .str)) (.fz (.int (j : Nat))) = some (.str (crs rows rows.length r0.1)[j]) := ix_nat (by simp [hj])
      have hmem : (crs rows rows.length r0.1)[j] ∈ crs rows rows.length r0.1 := List.getElem_mem hj
      walk_at "go"
      exact fin _ (.inr ⟨crs_in g _ _ _ (.inl hw0) hmem, hmem⟩)
    · walk_at "go"
      exact fin _ (.inl rfl)
  · rintro δ ⟨b', rs, u, v, w, hb', hw, hd, rfl⟩
    rw [List.take_of_length_le (by simp)] at hw
    walk_at "go"
    have hlen : rs.length = m := by have := congrArg List.length hw; simp [rnm] at this; omega
    exact k b' rs hb' ⟨fun r hr => N.nm _ (by rw [← hw]; exact List.mem_map.mpr ⟨r, hr, rfl⟩), by rw [hw]; exact N.nd, fun r hr => (hd r hr).1, fun r hr => (hd r hr).2⟩ hlen
end
section
theorem es_ok {n : Nat} {es : List D} (h : ∀ e ∈ es, Pl n e) (hn : n ≤ 60) : okD (.lst es) = true := (Ok.lst fun e he => (h e he).ok).ok (by omega)
theorem eqL_nil (ds : List D) : eqD (.lst ds) (.lst []) = ds.isEmpty := by
  rw [eqD_lst]
  cases ds with
  | nil => exact eqDs_nil
  | cons d ds => rw [toPs, toPs, PyData.eqvAll]; rfl
theorem ok_eL : okD (.lst []) = true := (Ok.lst (n := 0) fun d hd => by cases hd).ok
theorem pair_ix0 (x y : D) : ixD (.tup [x, y]) (.fz (.int 0)) = some x := ix_nat (j := 0) rfl
theorem pair_ix1 (x y : D) : ixD (.tup [x, y]) (.fz (.int 1)) = some y := ix_nat (j := 1) rfl
theorem keyS_nd0 {ws : List Str} (nd : ws.Nodup) : (ws.map fun w => (Sum.inr w : Key)).Nodup := by
  rw [List.nodup_iff_pairwise_ne] at *
  exact List.Pairwise.map _ (fun a b hn e => hn (by cases e; rfl)) nd
theorem merge_pre {rows : Rows} (P : Pre rows) : mergeD [] (lowK rows) = lowK rows := merge_nd (by
  have h := keyS_nd0 P.nd
  unfold wrs at h
  rw [List.map_map] at h
  unfold lowK
  rw [List.map_map]
  exact h)
local macro_rules | `(tactic| walk_at "fl") => `(tactic| rfl)
local macro_rules | `(tactic| walk_at "ix") => `(tactic| first | exact row_ix0 _ | exact row_ix1 _ | exact pair_ix0 _ _ | exact pair_ix1 _ _ | assumption)
abbrev N_l_is_name : List Str := ["_law_word", "_law_letter"]
def u_l_is_name : US :=
  (uSeq (uIfS (uOr (uNot (uB (uCB oIsi (uCons (uVar 0) (uCons (uC (.ty "str")) uNil))))) (uNot (uB (uChain oLe oLe (uC (.int 1)) (uCB oLen (uCons (uVar 0) uNil)) (uC (.int 8)))))) (uRet (uC (.bl false))) uNext)
  (uRet (uCB oAll (uCons (uLc (uISeq (uVar 0)) (ugF 1) uYes (uOp oIn (uVar 1) (uC (.str "abcdefghijklmnopqrstuvwxyz"))) [1]) uNil))))
abbrev U_l_is_name : UP := U_is_name
theorem len_l_is_name {ss : List Sl} {Q : Pv → List Sl → Prop} {X : UX} (h : U_l_is_name ss Q X) : ss.length = 1 := len_is_name h
theorem pure_l_is_name (ss : List Sl) (Q : Pv → List Sl → Prop) (X : UX) (h : U_l_is_name ss Q X) : u_l_is_name (endsU Q X ss.length) (startU N_l_is_name ss) := pure_is_name ss Q X h
abbrev N_l_is_pair : List Str := ["_law_entry", "_law_earlier", "_law_one"]
def u_l_is_pair : US :=
  (uSeq (uIfS (uOr (uNot (uB (uCB oIsi (uCons (uVar 0) (uCons (uC (.ty "tuple")) uNil))))) (uOr (uB (uOp oNe (uCB oLen (uCons (uVar 0) uNil)) (uC (.int 2)))) (uOr (uNot (uB (uCall U_l_is_name [] (uCons (uOp oIx (uVar 0) (uC (.int 0))) uNil)))) (uNot (uB (uCall U_l_is_name [] (uCons (uOp oIx (uVar 0) (uC (.int 1))) uNil))))))) (uRet (uC (.bl false))) uNext)
  (uRet (uAndV (uOp oNe (uOp oIx (uVar 0) (uC (.int 0))) (uC (.str "sea"))) (uNotV (uCB oAny (uCons (uLc (uISeq (uVar 1)) (ugF 2) uYes (uOp oEq (uOp oIx (uVar 2) (uC (.int 0))) (uOp oIx (uVar 0) (uC (.int 0)))) [2]) uNil))))))
def U_l_is_pair : UP := fun ss Q _ => ∃ (e : D) (rows : Rows) (n : Nat), ss = [.fz e, .fz (.lst (rows.map rowD))] ∧ Pl n e ∧ n ≤ 50 ∧ rows.length ≤ 1000 ∧ Q (.fz (.bl (okE rows e))) ss
theorem len_l_is_pair {ss : List Sl} {Q : Pv → List Sl → Prop} {X : UX} (h : U_l_is_pair ss Q X) : ss.length = 2 := by obtain ⟨_, _, _, rfl, _⟩ := h; rfl
theorem pure_l_is_pair (ss : List Sl) (Q : Pv → List Sl → Prop) (X : UX) (h : U_l_is_pair ss Q X) : u_l_is_pair (endsU Q X ss.length) (startU N_l_is_pair ss) := by
  obtain ⟨e, rows, n, rfl, hp, hn, hrl, k⟩ := h
  show u_l_is_pair { nx := _, rt := retK Q 2, ex := _ } [.fz e, .fz (.lst (rows.map rowD)), .un]
  unfold u_l_is_pair
  cases e with
  | tup ds =>
    walk_at "go"
    refine iteX (fun h => ?_) (fun h => ?_)
    · have hne : ds.length ≠ 2 := fun z => by simp [z] at h
      walk_at "go"
      rw [show okE rows (.tup ds) = false from by unfold okE; rw [asRow_ne hne]] at k
      exact k
    · obtain ⟨x, y, rfl⟩ := two_of (ds := ds) (Int.ofNat.inj (by simpa using h))
      have hx := hp.tup_in (d := x) (by simp)
      have hy := hp.tup_in (d := y) (by simp)
      obtain ⟨Tx, tx, _⟩ := hx.ty
      obtain ⟨Ty, ty, _⟩ := hy.ty
      walk_at "go"
      refine ⟨x, Tx, rfl, tx, hx.z9 (by omega), ?_⟩
      walk_at "bk"
      walk_at "go"
      cases c1 : nameD x with
      | false =>
        walk_at "go"
        rw [show okE rows (.tup [x, y]) = false from by unfold okE; rw [asRow_two (by rw [c1]; rfl)]] at k
        exact k
      | true =>
        walk_at "go"
        refine ⟨y, Ty, rfl, ty, hy.z9 (by omega), ?_⟩
        walk_at "bk"
        walk_at "go"
        cases c2 : nameD y with
        | false =>
          walk_at "go"
          rw [show okE rows (.tup [x, y]) = false from by unfold okE; rw [asRow_two (by rw [c1, c2]; rfl)]] at k
          exact k
        | true =>
          obtain ⟨a, rfl, n1⟩ := name_str c1
          obtain ⟨b, rfl, n2⟩ := name_str c2
          have eo : okE rows (.tup [.str a, .str b]) = (decide (a ≠ "sea") && !decide (a ∈ wrs rows)) := by
            unfold okE
            rw [show asRow (.tup [.str a, .str b]) = some (a, b) from asRow_row (r := (a, b)) n1 n2]
          rw [eo] at k
          walk_at "go"
          refine iteX (fun h => ?_) (fun h => ?_)
          · have h' : a ≠ "sea" := by simpa using h
            rw [decide_eq_true h', Bool.true_and] at k
            walk_at "go"
            refine ⟨by rw [List.length_map]; omega, ?_⟩
            refine lc_all (xs := rows) (emb := rowD) (fun r => .bl (decide (r.1 = a))) rfl rfl (fun r hr P N hP => ?_) ?_
            · walk_at "go"
              exact hP
            walk_at "go"
            refine h_any (bs := rows.map fun r => decide (r.1 = a)) (by rw [List.map_map]; rfl) ?_
            rw [show ((rows.map fun r => decide (r.1 = a)).any id) = decide (a ∈ wrs rows) from by
              rw [List.any_map]
              apply Bool.eq_iff_iff.mpr
              rw [List.any_eq_true, decide_eq_true_eq]
              constructor
              · rintro ⟨r, hr, e⟩
                exact List.mem_map.mpr ⟨r, hr, of_decide_eq_true e⟩
              · intro h
                obtain ⟨r, hr, e⟩ := List.mem_map.mp h
                exact ⟨r, hr, decide_eq_true e⟩]
            walk_at "go"
            exact k
          · have h' : a = "sea" := by simpa using h
            rw [h', decide_eq_false (by simp), Bool.false_and] at k
            walk_at "go"
            rw [h']
            exact k
  | _ =>
    cases hp
    all_goals
      walk_at "go"
      exact k
abbrev N_l_wrong_river : List Str := ["_law_rows", "_law_place", "_law_entry", "_law_below", "_law_weir", "_law_step"]
def tl_l_wrong_river_5 : US :=
  (uRet (uC .non))
def tl_l_wrong_river_4 : US :=
  (uSeq (uFor (uIEnum (uCons (uVar 0) uNil)) (ugTup 2 (ugCons (ugF 1) (ugCons (ugF 2) ugNil))) (uSeq (uAsg (uOp oIx (uVar 2) (uC (.int 0))) (ugF 4))
  (uSeq (uFor (uIRng1 (uCons (uCB oLen (uCons (uVar 0) uNil)) uNil)) (ugF 5) (uAsg (uIf (uB (uOp oEq (uVar 4) (uC (.str "sea")))) (uC (.str "sea")) (uOp oIx (uVar 3) (uVar 4))) (ugF 4)))
  (uIfS (uB (uOp oNe (uVar 4) (uC (.str "sea")))) (uRet (uVar 1)) uNext)))) tl_l_wrong_river_5)
def tl_l_wrong_river_3 : US :=
  (uSeq (uFor (uIEnum (uCons (uVar 0) uNil)) (ugTup 2 (ugCons (ugF 1) (ugCons (ugF 2) ugNil))) (uIfS (uAnd (uB (uOp oNe (uOp oIx (uVar 2) (uC (.int 1))) (uC (.str "sea")))) (uB (uOp (oInB not) (uOp oIx (uVar 2) (uC (.int 1))) (uVar 3)))) (uRet (uVar 1)) uNext)) tl_l_wrong_river_4)
def tl_l_wrong_river_2 : US :=
  (uSeq (uAsg (uCB oDict (uCons (uVar 0) uNil)) (ugF 3)) tl_l_wrong_river_3)
def tl_l_wrong_river_1 : US :=
  (uSeq (uFor (uIEnum (uCons (uVar 0) uNil)) (ugTup 2 (ugCons (ugF 1) (ugCons (ugF 2) ugNil))) (uIfS (uNot (uB (uCall U_l_is_pair [] (uCons (uVar 2) (uCons (uSl (uVar 0) uNoPart (uPart (uVar 1))) uNil))))) (uRet (uVar 1)) uNext)) tl_l_wrong_river_2)
def u_l_wrong_river : US :=
  (uSeq (uIfS (uOr (uNot (uB (uCB oIsi (uCons (uVar 0) (uCons (uC (.ty "list")) uNil))))) (uOr (uB (uOp oEq (uVar 0) (uLst uNil))) (uB (uOp oGt (uCB oLen (uCons (uVar 0) uNil)) (uC (.int 40)))))) (uRet (uUn oNeg (uC (.int 1)))) uNext) tl_l_wrong_river_1)
def U_l_wrong_river : UP := fun ss Q _ => ∃ (es : List D) (n : Nat), ss = [.fz (.lst es)] ∧ (∀ e ∈ es, Pl n e) ∧ n ≤ 50 ∧ es.length ≤ 1000 ∧ Q (.fz (rvF es)) ss
theorem len_l_wrong_river {ss : List Sl} {Q : Pv → List Sl → Prop} {X : UX} (h : U_l_wrong_river ss Q X) : ss.length = 1 := by obtain ⟨_, _, rfl, _⟩ := h; rfl
theorem pure_l_wrong_river (ss : List Sl) (Q : Pv → List Sl → Prop) (X : UX) (h : U_l_wrong_river ss Q X) : u_l_wrong_river (endsU Q X ss.length) (startU N_l_wrong_river ss) := by
  obtain ⟨es, n, rfl, hp, hn, hel, k⟩ := h
  show u_l_wrong_river { nx := _, rt := retK Q 1, ex := _ } [.fz (.lst es), .un, .un, .un, .un, .un]
  unfold u_l_wrong_river
  walk_at "go"
  refine h_eqD rfl rfl (es_ok hp (by omega)) ok_eL ?_
  rw [eqL_nil]
  walk_at "go"
  cases c0 : es.isEmpty with
  | true =>
    have h0 : es.length = 0 := by cases es with | nil => rfl | cons _ _ => cases c0
    rw [show rvF es = .int (-1) from by unfold rvF; rw [if_pos (.inl h0)]] at k
    walk_at "go"
    exact k
  | false =>
    have h1 : 1 ≤ es.length := by cases es with | nil => cases c0 | cons _ _ => simp
    walk_at "go"
    refine iteX (fun c1 => ?_) (fun c1 => ?_)
    · have h2 : 40 < es.length := by have := of_decide_eq_true c1; omega
      rw [show rvF es = .int (-1) from by unfold rvF; rw [if_pos (.inr h2)]] at k
      walk_at "go"
      exact k
    · have h2 : es.length ≤ 40 := by have := of_decide_eq_false c1; omega
      walk_at "go"
      unfold tl_l_wrong_river_1
      walk_at "go"
      refine for_enum (xs := es) (fun i δ => ∃ (rows : Rows) (v w : Option D), es.take i = rows.map rowD ∧ Pre rows ∧ δ = [.fz (.lst es), so v, so w, .un, .un, .un]) ⟨[], none, none, rfl, .nil, rfl⟩ ?_ ?_
      · rintro i e δ hi ⟨rows, v, w, ht, P, rfl⟩
        have hil := (List.getElem?_eq_some_iff.mp hi).1
        have hrl : rows.length = i := by
          have := congrArg List.length ht
          rw [List.length_take, List.length_map] at this; omega
        walk_at "go"
        rw [cut_to, ht]
        refine ⟨e, rows, n, rfl, hp e (List.mem_of_getElem? hi), hn, by omega, ?_⟩
        walk_at "bk"
        walk_at "go"
        cases hok : okE rows e with
        | false =>
          walk_at "go"
          rw [rv_at h1 h2 hi ht P hok] at k
          exact k
        | true =>
          obtain ⟨r, rfl, hr, P2, hnr⟩ := P.snoc hok
          walk_at "go"
          exact ⟨rows ++ [r], some (.int (i : Nat)), some (rowD r), by rw [take_snoc hi, ht, List.map_append]; rfl, P2, rfl⟩
      · rintro δ ⟨rows, v, w, ht, P, rfl⟩
        rw [List.take_length] at ht
        subst ht
        rw [rv_end h1 h2 rfl P] at k
        rw [List.length_map] at h1 h2
        unfold tl_l_wrong_river_2
        walk_at "go"
        refine h_dictP rfl (pairs_low rows) ?_
        rw [merge_pre P]
        walk_at "go"
        unfold tl_l_wrong_river_3
        walk_at "go"
        refine for_enumM (emb := rowD) (fun i δ => (∀ r ∈ rows.take i, bad2 rows r = false) ∧ ∃ (v w : Option D), δ = [.fz (.lst (rows.map rowD)), so v, so w, .fz (.dct (lowK rows)), .un, .un]) ⟨fun r h => by simp at h, v, w, rfl⟩ ?_ ?_
        · rintro i r δ hi ⟨hb, v, w, rfl⟩
          have nxt : bad2 rows r = false → ∀ y ∈ rows.take (i + 1), bad2 rows y = false := fun h y hy => by
            rw [take_snoc hi] at hy
            rcases List.mem_append.mp hy with z | z
            · exact hb y z
            · rw [List.mem_singleton.mp z]; exact h
          walk_at "go"
          refine iteX (fun h => ?_) (fun h => ?_)
          · walk_at "go"
            rw [low_isSome]
            cases hd : decide (r.2 ∈ wrs rows) with
            | true =>
              walk_at "go"
              exact ⟨nxt (by unfold bad2; rw [hd, Bool.not_true, Bool.and_false]), some _, some _, rfl⟩
            | false =>
              walk_at "go"
              have hb1 : bad2 rows r = true := by unfold bad2; rw [hd]; simpa using h
              rw [show rowsF rows = .int (i : Nat) from by unfold rowsF; rw [fidx_some hi hb1 hb]] at k
              exact k
          · have h' : r.2 = "sea" := by simpa using h
            walk_at "go"
            exact ⟨nxt (by unfold bad2; rw [h']; rfl), some _, some _, rfl⟩
        · rintro δ ⟨hb, v, w, rfl⟩
          rw [List.take_length] at hb
          have cl : Cl rows := fun r hr => by
            have := hb r hr
            unfold bad2 at this
            by_cases c : r.2 = "sea"
            · exact .inl c
            · rw [decide_eq_true c, Bool.true_and, Bool.not_eq_false', decide_eq_true_eq] at this
              exact .inr this
          have n2 : rows.findIdx? (bad2 rows) = none := List.findIdx?_eq_none_iff.mpr hb
          unfold tl_l_wrong_river_4
          walk_at "go"
          refine for_enumM (emb := rowD) (fun i δ => (∀ r ∈ rows.take i, bad3 rows r = false) ∧ ∃ (v w x4 x5 : Option D), δ = [.fz (.lst (rows.map rowD)), so v, so w, .fz (.dct (lowK rows)), so x4, so x5]) ⟨fun r h => by simp at h, v, w, none, none, rfl⟩ ?_ ?_
          · rintro i r δ hi ⟨hb3, v, w, x4, x5, rfl⟩
            walk_at "go"
            refine for_rng (m := rows.length) (fun j δ => ∃ (u : Str) (x5 : Option D), (u = "sea" ∨ u ∈ wrs rows) ∧ down rows (rows.length - j) u = down rows rows.length r.1 ∧ δ = [.fz (.lst (rows.map rowD)), .fz (.int (i : Nat)), .fz (rowD r), .fz (.dct (lowK rows)), .fz (.str u), so x5]) ⟨r.1, x5, .inr (List.mem_map.mpr ⟨r, List.mem_of_getElem? hi, rfl⟩), rfl, rfl⟩ ?_ ?_ ?_
            · rintro j δ hj ⟨u, x5, hu, hd, rfl⟩
              walk_at "go"
              refine iteX (fun h => ?_) (fun h => ?_)
              · have h' : u = "sea" := of_decide_eq_true h
                walk_at "go"
                refine ⟨"sea", some _, .inl rfl, ?_, rfl⟩
                rw [← hd, h', down_sea, down_sea]
              · have hne : u ≠ "sea" := of_decide_eq_false h
                have hu' : u ∈ wrs rows := by rcases hu with z | z; exact absurd z hne; exact z
                have hx : valD (lowK rows) (.inr u) = some (.str (low rows u)) := valD_low hu'
                walk_at "go"
                refine ⟨low rows u, some _, Pre.low_in cl hu', ?_, rfl⟩
                rw [← hd, show rows.length - j = (rows.length - (j + 1)) + 1 by omega]
                conv => rhs; unfold down
                rw [if_neg hne]
            · rintro δ ⟨u, x5, hu, hd, rfl⟩
              rw [Nat.sub_self] at hd
              have hd' : u = down rows rows.length r.1 := hd
              walk_at "go"
              refine iteX (fun h => ?_) (fun h => ?_)
              · have hne : u ≠ "sea" := by simpa using h
                walk_at "go"
                have hb4 : bad3 rows r = true := by unfold bad3; rw [← hd', decide_eq_false hne]; rfl
                rw [show rowsF rows = .int (i : Nat) from by
                  unfold rowsF
                  rw [n2]
                  show (match rows.findIdx? (bad3 rows) with | some i => D.int (i : Nat) | none => .non) = _
                  rw [fidx_some hi hb4 hb3]] at k
                exact k
              · have hse : u = "sea" := by simpa using h
                walk_at "go"
                refine ⟨fun y hy => ?_, some _, some _, some _, x5, rfl⟩
                rw [take_snoc hi] at hy
                rcases List.mem_append.mp hy with z | z
                · exact hb3 y z
                · rw [List.mem_singleton.mp z]; unfold bad3; rw [← hd', hse]; rfl
            · rw [List.length_map]; omega
          · rintro δ ⟨hb3, v, w, x4, x5, rfl⟩
            rw [List.take_length] at hb3
            unfold tl_l_wrong_river_5
            walk_at "go"
            rw [show rowsF rows = .non from by
              unfold rowsF
              rw [n2]
              show (match rows.findIdx? (bad3 rows) with | some i => D.int (i : Nat) | none => .non) = _
              rw [List.findIdx?_eq_none_iff.mpr hb3]] at k
            exact k
end
section
local macro_rules | `(tactic| walk_at "fl") => `(tactic| rfl)
local macro_rules | `(tactic| walk_at "ix") => `(tactic| first | exact rt_ix0 _ | exact rt_ix1 _ | exact rt_ix2 _ | exact tri_ix0 _ _ _ | exact tri_ix1 _ _ _ | exact tri_ix2 _ _ _ | assumption)
abbrev N_l_is_right : List Str := ["_law_weirs", "_law_entry", "_law_earlier", "_law_one"]
def u_l_is_right : US :=
  (uSeq (uIfS (uOr (uNot (uB (uCB oIsi (uCons (uVar 1) (uCons (uC (.ty "tuple")) uNil))))) (uOr (uB (uOp oNe (uCB oLen (uCons (uVar 1) uNil)) (uC (.int 3)))) (uNot (uB (uCall U_l_is_name [] (uCons (uOp oIx (uVar 1) (uC (.int 0))) uNil)))))) (uRet (uC (.bl false))) uNext)
  (uSeq (uIfS (uOr (uB (uCB oAny (uCons (uLc (uISeq (uVar 2)) (ugF 3) uYes (uOp oEq (uOp oIx (uVar 3) (uC (.int 0))) (uOp oIx (uVar 1) (uC (.int 0)))) [3]) uNil))) (uB (uOp (oInB not) (uOp oIx (uVar 1) (uC (.int 1))) (uVar 0)))) (uRet (uC (.bl false))) uNext)
  (uRet (uOrV (uOp oEq (uOp oIx (uVar 1) (uC (.int 2))) (uC (.str "sea"))) (uOp oIn (uOp oIx (uVar 1) (uC (.int 2))) (uVar 0))))))
def U_l_is_right : UP := fun ss Q _ => ∃ (ws : List Str) (e : D) (rs : Rts) (n : Nat), ss = [.fz (.lst (ws.map .str)), .fz e, .fz (.lst (rs.map rtD))] ∧ okDs (ws.map D.str) = true ∧ Pl n e ∧ n ≤ 50 ∧ rs.length ≤ 1000 ∧ Q (.fz (.bl (okRt ws (rnm rs) e))) ss
theorem len_l_is_right {ss : List Sl} {Q : Pv → List Sl → Prop} {X : UX} (h : U_l_is_right ss Q X) : ss.length = 3 := by obtain ⟨_, _, _, _, rfl, _⟩ := h; rfl
theorem tri_ix0 (x y z : D) : ixD (.tup [x, y, z]) (.fz (.int 0)) = some x := ix_nat (j := 0) rfl
theorem tri_ix1 (x y z : D) : ixD (.tup [x, y, z]) (.fz (.int 1)) = some y := ix_nat (j := 1) rfl
theorem tri_ix2 (x y z : D) : ixD (.tup [x, y, z]) (.fz (.int 2)) = some z := ix_nat (j := 2) rfl
theorem pure_l_is_right (ss : List Sl) (Q : Pv → List Sl → Prop) (X : UX) (h : U_l_is_right ss Q X) : u_l_is_right (endsU Q X ss.length) (startU N_l_is_right ss) := by
  obtain ⟨ws, e, rs, n, rfl, okw, hp, hn, hrl, k⟩ := h
  show u_l_is_right { nx := _, rt := retK Q 3, ex := _ } [.fz (.lst (ws.map .str)), .fz e, .fz (.lst (rs.map rtD)), .un]
  unfold u_l_is_right
  cases e with
  | tup ds =>
    walk_at "go"
    refine iteX (fun h => ?_) (fun h => ?_)
    · have hne : ds.length ≠ 3 := fun z => by simp [z] at h
      walk_at "go"
      rw [show okRt ws (rnm rs) (.tup ds) = false from by unfold okRt; rw [asRt_ne hne]] at k
      exact k
    · obtain ⟨x, y, z, rfl⟩ := three_of (ds := ds) (Int.ofNat.inj (by simpa using h))
      have hx := hp.tup_in (d := x) (by simp)
      have hy := hp.tup_in (d := y) (by simp)
      have hz := hp.tup_in (d := z) (by simp)
      have oky := hy.ok.ok (by omega)
      have okz := hz.ok.ok (by omega)
      obtain ⟨Tx, tx, _⟩ := hx.ty
      walk_at "go"
      refine ⟨x, Tx, rfl, tx, hx.z9 (by omega), ?_⟩
      walk_at "bk"
      walk_at "go"
      cases c1 : nameD x with
      | false =>
        walk_at "go"
        rw [show okRt ws (rnm rs) (.tup [x, y, z]) = false from by unfold okRt; rw [asRt_no c1]] at k
        exact k
      | true =>
        obtain ⟨a, rfl, n1⟩ := name_str c1
        have eo : okRt ws (rnm rs) (.tup [.str a, y, z]) = (!decide (a ∈ rnm rs) && (inS ws y && (isSea z || inS ws z))) := by
          unfold okRt
          rw [show asRt (.tup [.str a, y, z]) = some (a, y, z) from by show (if isName a = true then some (a, y, z) else none) = _; rw [if_pos n1]]
        rw [eo] at k
        walk_at "go"
        refine ⟨by rw [List.length_map]; omega, ?_⟩
        refine lc_all (xs := rs) (emb := rtD) (fun r => .bl (decide (r.1 = a))) rfl rfl (fun r hr P N hP => ?_) ?_
        · walk_at "go"
          exact hP
        walk_at "go"
        refine h_any (bs := rs.map fun r => decide (r.1 = a)) (by rw [List.map_map]; rfl) ?_
        rw [show ((rs.map fun r => decide (r.1 = a)).any id) = decide (a ∈ rnm rs) from by
          rw [List.any_map]
          apply Bool.eq_iff_iff.mpr
          rw [List.any_eq_true, decide_eq_true_eq]
          constructor
          · rintro ⟨r, hr, e⟩
            exact List.mem_map.mpr ⟨r, hr, of_decide_eq_true e⟩
          · intro h
            obtain ⟨r, hr, e⟩ := List.mem_map.mp h
            exact ⟨r, hr, decide_eq_true e⟩]
        walk_at "go"
        cases c2 : decide (a ∈ rnm rs) with
        | true =>
          rw [c2] at k
          walk_at "go"
          exact k
        | false =>
          rw [c2] at k
          walk_at "go"
          refine h_notInL rfl (.inl rfl) oky okw ?_
          rw [any_inS]
          walk_at "go"
          cases c3 : inS ws y with
          | false =>
            rw [c3] at k
            walk_at "go"
            exact k
          | true =>
            rw [c3] at k
            walk_at "go"
            refine h_eqD rfl rfl okz (Ok.str (n := 0) (by decide +kernel)).ok ?_
            rw [es_sea _ okz]
            walk_at "go"
            cases c4 : isSea z with
            | true =>
              rw [c4] at k
              walk_at "go"
              exact k
            | false =>
              rw [c4] at k
              walk_at "go"
              refine h_inL rfl (.inl rfl) okz okw ?_
              rw [any_inS]
              walk_at "go"
              exact k
  | _ =>
    cases hp
    all_goals
      walk_at "go"
      exact k
abbrev N_l_wrong_rights : List Str := ["_law_rows", "_law_rights_here", "_law_weirs", "_law_place", "_law_entry", "_law_weir", "_law_below"]
def tl_l_wrong_rights_4 : US :=
  (uRet (uC .non))
def tl_l_wrong_rights_3 : US :=
  (uSeq (uFor (uIEnum (uCons (uVar 1) uNil)) (ugTup 2 (ugCons (ugF 3) (ugCons (ugF 4) ugNil))) (uIfS (uAnd (uB (uOp oNe (uOp oIx (uVar 4) (uC (.int 2))) (uC (.str "sea")))) (uB (uOp (oInB not) (uOp oIx (uVar 4) (uC (.int 2))) (uCall U_l_course [] (uCons (uVar 0) (uCons (uOp oIx (uVar 4) (uC (.int 1))) uNil)))))) (uRet (uVar 3)) uNext)) tl_l_wrong_rights_4)
def tl_l_wrong_rights_2 : US :=
  (uSeq (uFor (uIEnum (uCons (uVar 1) uNil)) (ugTup 2 (ugCons (ugF 3) (ugCons (ugF 4) ugNil))) (uIfS (uNot (uB (uCall U_l_is_right [] (uCons (uVar 2) (uCons (uVar 4) (uCons (uSl (uVar 1) uNoPart (uPart (uVar 3))) uNil)))))) (uRet (uVar 3)) uNext)) tl_l_wrong_rights_3)
def tl_l_wrong_rights_1 : US :=
  (uSeq (uAsg (uLc (uISeq (uVar 0)) (ugTup 2 (ugCons (ugF 5) (ugCons (ugF 6) ugNil))) uYes (uVar 5) [5, 6]) (ugF 2)) tl_l_wrong_rights_2)
def u_l_wrong_rights : US :=
  (uSeq (uIfS (uOr (uNot (uB (uCB oIsi (uCons (uVar 1) (uCons (uC (.ty "list")) uNil))))) (uB (uOp oGt (uCB oLen (uCons (uVar 1) uNil)) (uC (.int 40))))) (uRet (uUn oNeg (uC (.int 1)))) uNext) tl_l_wrong_rights_1)
def U_l_wrong_rights : UP := fun ss Q _ => ∃ (rows : Rows) (es : List D) (n : Nat), ss = [.fz (.lst (rows.map rowD)), .fz (.lst es)] ∧ Good rows ∧ (∀ e ∈ es, Pl n e) ∧ n ≤ 50 ∧ es.length ≤ 1000 ∧ Q (.fz (rtF rows es)) ss
theorem len_l_wrong_rights {ss : List Sl} {Q : Pv → List Sl → Prop} {X : UX} (h : U_l_wrong_rights ss Q X) : ss.length = 2 := by obtain ⟨_, _, _, rfl, _⟩ := h; rfl
theorem pure_l_wrong_rights (ss : List Sl) (Q : Pv → List Sl → Prop) (X : UX) (h : U_l_wrong_rights ss Q X) : u_l_wrong_rights (endsU Q X ss.length) (startU N_l_wrong_rights ss) := by
  obtain ⟨rows, es, n, rfl, g, hp, hn, hel, k⟩ := h
  show u_l_wrong_rights { nx := _, rt := retK Q 2, ex := _ } [.fz (.lst (rows.map rowD)), .fz (.lst es), .un, .un, .un, .un, .un]
  unfold u_l_wrong_rights
  have okw : okDs ((wrs rows).map D.str) = true := oks_of (Ok.strs (n := 0) (wrs_ok g))
  have hrl := g.le
  walk_at "go"
  refine iteX (fun c1 => ?_) (fun c1 => ?_)
  · have h1 : 40 < es.length := by have := of_decide_eq_true c1; omega
    rw [show rtF rows es = .int (-1) from by unfold rtF; rw [if_pos h1]] at k
    walk_at "go"
    exact k
  · have h2 : es.length ≤ 40 := by have := of_decide_eq_false c1; omega
    walk_at "go"
    unfold tl_l_wrong_rights_1
    walk_at "go"
    refine ⟨by rw [List.length_map]; omega, ?_⟩
    refine lc_all (xs := rows) (emb := rowD) (fun r => .str r.1) rfl rfl (fun r hr P N hP => ?_) ?_
    · walk_at "go"
      exact hP
    rw [show rows.map (fun r => D.str r.1) = (wrs rows).map D.str by unfold wrs; rw [List.map_map]; rfl]
    walk_at "go"
    unfold tl_l_wrong_rights_2
    walk_at "go"
    refine for_enum (xs := es) (fun i δ => ∃ (rs : Rts) (v w : Option D), es.take i = rs.map rtD ∧ PreR (wrs rows) rs ∧ δ = [.fz (.lst (rows.map rowD)), .fz (.lst es), .fz (.lst ((wrs rows).map .str)), so v, so w, .un, .un]) ⟨[], none, none, rfl, .nil, rfl⟩ ?_ ?_
    · rintro i e δ hi ⟨rs, v, w, ht, P, rfl⟩
      have hil := (List.getElem?_eq_some_iff.mp hi).1
      have hrl : rs.length = i := by
        have := congrArg List.length ht
        rw [List.length_take, List.length_map] at this; omega
      walk_at "go"
      rw [cut_to, ht]
      refine ⟨_, e, rs, n, rfl, okw, hp e (List.mem_of_getElem? hi), hn, by omega, ?_⟩
      walk_at "bk"
      walk_at "go"
      cases hok : okRt (wrs rows) (rnm rs) e with
      | false =>
        walk_at "go"
        rw [rt_at h2 hi ht P hok] at k
        exact k
      | true =>
        obtain ⟨r, rfl, P2, hnr⟩ := P.snoc hok
        walk_at "go"
        exact ⟨rs ++ [r], some (.int (i : Nat)), some (rtD r), by rw [take_snoc hi, ht, List.map_append]; rfl, P2, rfl⟩
    · rintro δ ⟨rs, v, w, ht, P, rfl⟩
      rw [List.take_length] at ht
      subst ht
      rw [rt_end h2 rfl P] at k
      rw [List.length_map] at h2
      unfold tl_l_wrong_rights_3
      walk_at "go"
      refine for_enumM (emb := rtD) (fun i δ => (∀ r ∈ rs.take i, bad4 rows r = false) ∧ ∃ (v w : Option D), δ = [.fz (.lst (rows.map rowD)), .fz (.lst (rs.map rtD)), .fz (.lst ((wrs rows).map .str)), so v, so w, .un, .un]) ⟨fun r h => by simp at h, v, w, rfl⟩ ?_ ?_
      · rintro i r δ hi ⟨hb, v, w, rfl⟩
        have hr := List.mem_of_getElem? hi
        have nxt : bad4 rows r = false → ∀ y ∈ rs.take (i + 1), bad4 rows y = false := fun h y hy => by
          rw [take_snoc hi] at hy
          rcases List.mem_append.mp hy with z | z
          · exact hb y z
          · rw [List.mem_singleton.mp z]; exact h
        have okc : okDs ((crs rows rows.length r.2.1).map D.str) = true := oks_of (Ok.strs (n := 0) fun w hw => wrs_ok g w (crs_in g _ _ _ (.inl (P.inn r hr)) hw))
        walk_at "go"
        refine iteX (fun h => ?_) (fun h => ?_)
        · walk_at "go"
          refine ⟨rows, _, rfl, g, P.inn r hr, fun s => ?_⟩
          walk_at "bk"
          walk_at "go"
          refine h_notInL rfl (.inl rfl) ((Ok.str (n := 0) ?_).ok) okc ?_
          · rcases P.dn r hr with z | z
            · rw [z]; decide +kernel
            · exact wrs_ok g _ z
          rw [any_inS]
          walk_at "go"
          cases hd : decide (r.2.2 ∈ crs rows rows.length r.2.1) with
          | true =>
            rw [show inS (crs rows rows.length r.2.1) (.str r.2.2) = true from hd]
            walk_at "go"
            exact ⟨nxt (by unfold bad4; rw [hd, Bool.not_true, Bool.and_false]), some _, some _, rfl⟩
          | false =>
            rw [show inS (crs rows rows.length r.2.1) (.str r.2.2) = false from hd]
            walk_at "go"
            have hb1 : bad4 rows r = true := by unfold bad4; rw [hd]; simpa using h
            rw [show rtsF rows rs = .int (i : Nat) from by unfold rtsF; rw [fidx_some hi hb1 hb]] at k
            exact k
        · have h' : r.2.2 = "sea" := by simpa using h
          walk_at "go"
          exact ⟨nxt (by unfold bad4; rw [h']; rfl), some _, some _, rfl⟩
      · rintro δ ⟨hb, v, w, rfl⟩
        rw [List.take_length] at hb
        unfold tl_l_wrong_rights_4
        walk_at "go"
        rw [show rtsF rows rs = .non from by unfold rtsF; rw [List.findIdx?_eq_none_iff.mpr hb]] at k
        exact k
end
section
theorem strOk_iff {z : Str} : PyData.strOk z = true ↔ ∀ c ∈ cl z, c < 0x110000 := by
  unfold PyData.strOk
  rw [Array.all_eq_true_iff_forall_mem]
  constructor
  · intro h c hc
    have := h c (Array.mem_toList_iff.mp hc)
    simpa using this
  · intro h c hc
    have := h c (Array.mem_toList_iff.mpr hc)
    simpa using this
theorem strOk_app {x y : Str} (h1 : PyData.strOk x = true) (h2 : PyData.strOk y = true) : PyData.strOk (x ++ y) = true := by
  rw [strOk_iff] at *
  intro c hc
  rw [cl_app] at hc
  rcases List.mem_append.mp hc with h | h
  · exact h1 c h
  · exact h2 c h
theorem strOk_cut {x : Str} {lo hi : Option Int} (h1 : PyData.strOk x = true) : PyData.strOk (L2.cutS x lo hi) = true := by
  rw [strOk_iff] at *
  exact fun c hc => h1 c (cutS_in hc)
theorem len_app (x y : Str) : (x ++ y).length = x.length + y.length := by
  rw [cl_len, cl_len x, cl_len y, cl_app, List.length_append]
theorem Pl.sapp {n : Nat} {x y : Str} (hx : Pl n (.str x)) (hy : PyData.strOk y = true) (l : y.length ≤ 20) : Pl (n + 1) (.str (x ++ y)) :=
  .str _ _ (strOk_app hx.zok hy) (by have := hx.zlen; rw [len_app]; omega)
theorem Pl.scut {n : Nat} {x : Str} {lo hi : Option Int} (hx : Pl n (.str x)) : Pl n (.str (L2.cutS x lo hi)) :=
  .str _ _ (strOk_cut hx.zok) (by have := hx.zlen; have := cutS_length x lo hi; omega)
theorem Pl.scutApp {n : Nat} {x y : Str} {lo hi : Option Int} (hx : Pl n (.str x)) (hy : PyData.strOk y = true) (l : y.length ≤ 20) : Pl (n + 1) (.str (L2.cutS x lo hi ++ y)) := hx.scut.sapp hy l
theorem Pl.sappR {n : Nat} {x y : Str} (hx : Pl n (.str x)) (hy : PyData.strOk y = true) (l : y.length ≤ 20) : Pl (n + 1) (.str (y ++ x)) :=
  .str _ _ (strOk_app hy hx.zok) (by have := hx.zlen; rw [len_app]; omega)
theorem Pl.lit {n : Nat} {x : Str} (hx : PyData.strOk x = true) (l : x.length ≤ 20) : Pl n (.str x) := .str _ _ hx (by omega)
theorem cutD_mem {α : Type} {xs : List α} {lo hi : Option Int} {x : α} (h : x ∈ cutD xs lo hi) : x ∈ xs := List.mem_of_mem_drop (List.mem_of_mem_take h)
theorem cutD_le {α : Type} (xs : List α) (lo hi : Option Int) : (cutD xs lo hi).length ≤ xs.length := by
  unfold cutD
  rw [List.length_take, List.length_drop]; omega
theorem Pl.tin {n : Nat} {ds : List D} (h : Pl n (.tup ds)) : ∃ m, n = m + 1 ∧ ∀ d ∈ ds, Pl m d := by
  cases h with
  | tup n ds h l => exact ⟨n, rfl, h⟩
local macro_rules | `(tactic| walk_at "fl") => `(tactic| rfl)
local macro_rules | `(tactic| walk_at "ix") => `(tactic| first | exact row_ix0 _ | assumption)
abbrev N_l_bad_word : List Str := ["_law_bag_here", "_law_word", "_law_odd"]
def u_l_bad_word : US :=
  (uSeq (uAsg (uCall U_l_of [] (uCons (uVar 0) (uCons (uLst (uCons (uC (.str "")) (uCons (uOp oAdd (uVar 1) (uC (.str "abcdefgh"))) (uCons (uOp oAdd (uSl (uVar 1) uNoPart (uPart (uC (.int 3)))) (uC (.str "A"))) (uCons (uOp oAdd (uSl (uVar 1) uNoPart (uPart (uC (.int 3)))) (uC (.str "1"))) (uCons (uOp oAdd (uC (.str " ")) (uSl (uVar 1) uNoPart (uPart (uC (.int 3))))) (uCons (uOp oAdd (uSl (uVar 1) uNoPart (uPart (uC (.int 3)))) (uC (.str "-"))) (uCons (uC (.str "_")) uNil)))))))) uNil))) (ugF 2))
  (uRet (uCall U_l_of [] (uCons (uVar 0) (uCons (uLst (uCons (uVar 2) (uCons (uVar 2) (uCons (uVar 2) (uCons (uC .non) (uCons (uC (.int 0)) (uCons (uC (.int 1)) (uCons (uC (.bl true)) (uCons (uLst (uCons (uVar 1) uNil)) (uCons (uTup (uCons (uVar 1) uNil)) (uCons (uC (.str "sea")) (uCons (uOp oAdd (uSl (uVar 1) uNoPart (uPart (uC (.int 7)))) (uC (.str "q"))) (uCons (uC (.str "sea")) (uCons (uVar 1) uNil)))))))))))))) uNil)))))
def U_l_bad_word : UP := fun ss Q _ => ∃ (b : D) (z : Str) (n : Nat), ss = [.io b, .fz (.str z)] ∧ isBag b ∧ Pl n (.str z) ∧ n ≤ 50 ∧ ∀ (b' d : D), isBag b' → Pl (n + 1) d → Q (.fz d) [.io b', .fz (.str z)]
theorem len_l_bad_word {ss : List Sl} {Q : Pv → List Sl → Prop} {X : UX} (h : U_l_bad_word ss Q X) : ss.length = 2 := by obtain ⟨_, _, _, rfl, _⟩ := h; rfl
theorem pure_l_bad_word (ss : List Sl) (Q : Pv → List Sl → Prop) (X : UX) (h : U_l_bad_word ss Q X) : u_l_bad_word (endsU Q X ss.length) (startU N_l_bad_word ss) := by
  obtain ⟨b, z, n, rfl, hb, hz, hn, k⟩ := h
  show u_l_bad_word { nx := _, rt := retK Q 2, ex := _ } [.io b, .fz (.str z), .un]
  unfold u_l_bad_word
  have hzl := hz.zlen
  have c3 := cutS_length z Option.none (some 3)
  have c7 := cutS_length z Option.none (some 7)
  have e1 : ("A" : Str).length = 1 := by decide +kernel
  have e2 : ("1" : Str).length = 1 := by decide +kernel
  have e3 : (" " : Str).length = 1 := by decide +kernel
  have e4 : ("-" : Str).length = 1 := by decide +kernel
  have e5 : ("q" : Str).length = 1 := by decide +kernel
  have e6 : ("abcdefgh" : Str).length = 8 := by decide +kernel
  walk_at "go"
  refine ⟨b, _, _, rfl, .inl rfl, hb, by simp, by simp, fun b1 od hb1 ho => ?_⟩
  have po : Pl (n + 1) od := by
    simp only [List.mem_cons, List.not_mem_nil, or_false] at ho
    rcases ho with rfl | rfl | rfl | rfl | rfl | rfl | rfl
    · exact .lit (by decide +kernel) (by decide +kernel)
    · exact hz.sapp (by decide +kernel) (by decide +kernel)
    · exact hz.scutApp (by decide +kernel) (by decide +kernel)
    · exact hz.scutApp (by decide +kernel) (by decide +kernel)
    · exact hz.scut.sappR (by decide +kernel) (by decide +kernel)
    · exact hz.scutApp (by decide +kernel) (by decide +kernel)
    · exact .lit (by decide +kernel) (by decide +kernel)
  walk_at "bk"
  walk_at "go"
  refine ⟨b1, _, _, rfl, .inl rfl, hb1, by simp, by simp, fun b2 d hb2 hd => ?_⟩
  walk_at "bk"
  walk_at "go"
  refine k b2 d hb2 ?_
  simp only [List.mem_cons, List.not_mem_nil, or_false] at hd
  rcases hd with rfl | rfl | rfl | rfl | rfl | rfl | rfl | rfl | rfl | rfl | rfl | rfl | rfl
  · exact po
  · exact po
  · exact po
  · exact .non _
  · exact .int _ _
  · exact .int _ _
  · exact .bl _ _
  · exact .lst _ _ (fun d hd => by rw [List.mem_singleton.mp hd]; exact hz) (by show 1 ≤ _; omega)
  · exact .tup _ _ (fun d hd => by rw [List.mem_singleton.mp hd]; exact hz) (by show 1 ≤ _; omega)
  · exact .lit (by decide +kernel) (by decide +kernel)
  · exact hz.scutApp (by decide +kernel) (by decide +kernel)
  · exact .lit (by decide +kernel) (by decide +kernel)
  · exact hz.up
abbrev N_l_bad_entry : List Str := ["_law_bag_here", "_law_rows", "_law_place", "_law_entry"]
def u_l_bad_entry : US :=
  (uSeq (uAsg (uOp oIx (uVar 1) (uVar 2)) (ugF 3))
  (uSeq (uIfS (uNot (uB (uCB oIsi (uCons (uVar 3) (uCons (uC (.ty "tuple")) uNil))))) (uRet (uC .non)) uNext)
  (uRet (uCall U_l_of [] (uCons (uVar 0) (uCons (uLst (uCons (uC .non) (uCons (uCB oList (uCons (uVar 3) uNil)) (uCons (uSl (uVar 3) uNoPart (uPart (uUn oNeg (uC (.int 1))))) (uCons (uOp oAdd (uVar 3) (uTup (uCons (uC (.str "sea")) uNil))) (uCons (uTup uNil) (uCons (uC (.str "sea")) (uCons (uC (.int 7)) (uCons (uTup (uCons (uVar 3) uNil)) (uCons (uSl (uVar 3) uNoPart (uPart (uC (.int 1)))) (uCons (uVar 3) uNil))))))))))) uNil))))))
def U_l_bad_entry : UP := fun ss Q _ => ∃ (b : D) (s : Sl) (es : List D) (i n : Nat) (e : D), ss = [.io b, s, .fz (.int (i : Nat))] ∧ holds s (.lst es) ∧ isBag b ∧ es[i]? = some e ∧ Pl n e ∧ n ≤ 50 ∧ ∀ (b' d : D), isBag b' → Pl (n + 1) d → Q (.fz d) [.io b', s, .fz (.int (i : Nat))]
theorem len_l_bad_entry {ss : List Sl} {Q : Pv → List Sl → Prop} {X : UX} (h : U_l_bad_entry ss Q X) : ss.length = 3 := by obtain ⟨_, _, _, _, _, _, rfl, _⟩ := h; rfl
theorem pure_l_bad_entry (ss : List Sl) (Q : Pv → List Sl → Prop) (X : UX) (h : U_l_bad_entry ss Q X) : u_l_bad_entry (endsU Q X ss.length) (startU N_l_bad_entry ss) := by
  obtain ⟨b, s, es, i, n, e, rfl, hs, hb, hi, hp, hn, k⟩ := h
  show u_l_bad_entry { nx := _, rt := retK Q 3, ex := _ } [.io b, s, .fz (.int (i : Nat)), .un]
  unfold u_l_bad_entry
  have hx := ix_nat hi
  rcases hs with rfl | rfl
  all_goals
    walk_at "go"
    cases e with
    | tup ds =>
      have hl := hp.len
      obtain ⟨m, rfl, hm⟩ := hp.tin
      have cl1 := cutD_le ds Option.none (some (-1))
      have cl2 := cutD_le ds Option.none (some 1)
      walk_at "go"
      refine ⟨b, _, _, rfl, .inl rfl, hb, by simp, by simp, fun b1 d hb1 hd => ?_⟩
      walk_at "bk"
      walk_at "go"
      refine k b1 d hb1 ?_
      simp only [List.mem_cons, List.not_mem_nil, or_false] at hd
      rcases hd with rfl | rfl | rfl | rfl | rfl | rfl | rfl | rfl | rfl | rfl
      · exact .non _
      · exact .lst _ _ (fun d hd => (hm d hd).up) (by omega)
      · exact .tup _ _ (fun d hd => (hm d (cutD_mem hd)).up) (by omega)
      · refine .tup _ _ (fun d hd => ?_) (by simp; omega)
        rcases List.mem_append.mp hd with h | h
        · exact (hm d h).up
        · rw [List.mem_singleton.mp h]; exact .lit (by decide +kernel) (by decide +kernel)
      · exact .tup _ _ (fun d hd => by cases hd) (by simp)
      · exact .lit (by decide +kernel) (by decide +kernel)
      · exact .int _ _
      · exact .tup _ _ (fun d hd => by rw [List.mem_singleton.mp hd]; exact hp) (by show 1 ≤ _; omega)
      · exact .tup _ _ (fun d hd => (hm d (cutD_mem hd)).up) (by omega)
      · exact hp.up
    | _ =>
      cases hp
      all_goals
        walk_at "go"
        exact k _ _ hb (.non _)
end
section
theorem mem_set {es : List D} {i n : Nat} {e : D} (h : ∀ x ∈ es, Pl n x) (he : Pl n e) : ∀ x ∈ es.set i e, Pl n x := fun x hx => by
  rcases List.mem_or_eq_of_mem_set hx with h1 | h1
  · exact h x h1
  · rw [h1]; exact he
theorem cutD_len1 {α : Type} (xs : List α) : (cutD xs Option.none (some 1)).length ≤ 1 := by
  rw [show (some (1 : Int)) = some ((1 : Nat) : Int) from rfl, cut_to, List.length_take]; omega
theorem cutD_len2 {α : Type} (xs : List α) : (cutD xs (some 1) Option.none).length ≤ xs.length - 1 := by
  unfold cutD
  rw [show (some (1 : Int)) = some ((1 : Nat) : Int) from rfl, HT.sIx_nat, HT.sIx_none, List.length_take, List.length_drop]; omega
theorem cutD_len3 {α : Type} (xs : List α) (a : Nat) : (cutD xs Option.none (some (a : Int))).length ≤ a := by
  rw [cut_to, List.length_take]; omega
theorem cutD_len4 {α : Type} (xs : List α) (a : Nat) : (cutD xs (some ((a : Int) + 1)) Option.none).length ≤ xs.length - (a + 1) := by
  unfold cutD
  rw [show (some ((a : Int) + 1)) = some ((a + 1 : Nat) : Int) from rfl, HT.sIx_nat, HT.sIx_none, List.length_take, List.length_drop]; omega
theorem eqL_nil2 (ds : List D) : eqD (.lst ds) (.lst []) = decide (ds.length = 0) := by
  rw [eqL_nil]
  cases ds <;> simp
local macro_rules | `(tactic| walk_at "fl") => `(tactic| rfl)
local macro_rules | `(tactic| walk_at "ix") => `(tactic| first | exact row_ix0 _ | assumption)
abbrev N_l_spoilt : List Str := ["_law_bag_here", "_law_rows", "_law_weirs", "_law_found", "_law_turn", "_law_place", "_law_other", "_law_entry", "_law_way", "_law_at", "_law_word"]
def u_l_spoilt : US :=
  (uSeq (uAsg (uCB oList (uCons (uVar 1) uNil)) (ugO 3))
  (uSeq (uFor (uIRng1 (uCons (uIf (uB (uOp oNe (uVar 3) (uLst uNil))) (uCall U_l_take [] (uCons (uVar 0) (uCons (uC (.int 4)) uNil))) (uC (.int 0))) uNil)) (ugF 4) (uSeq (uPar false false 5 6 (uCall U_l_take [] (uCons (uVar 0) (uCons (uCB oLen (uCons (uVar 3) uNil)) uNil))) (uCall U_l_of [] (uCons (uVar 0) (uCons (uVar 3) uNil))))
  (uSeq (uPar false false 7 8 (uOp oIx (uVar 3) (uVar 5)) (uCall U_l_take [] (uCons (uVar 0) (uCons (uC (.int 7)) uNil))))
  (uIfS (uOr (uB (uOp oEq (uVar 8) (uC (.int 0)))) (uOr (uNot (uB (uCB oIsi (uCons (uVar 7) (uCons (uC (.ty "tuple")) uNil))))) (uB (uOp oLt (uCB oLen (uCons (uVar 7) uNil)) (uC (.int 2)))))) (uSetI (uCall U_l_bad_entry [] (uCons (uVar 0) (uCons (uVar 3) (uCons (uVar 5) uNil)))) (uVar 3) (uVar 5)) (uIfS (uAnd (uB (uOp oEq (uVar 8) (uC (.int 1)))) (uAnd (uB (uCB oIsi (uCons (uVar 6) (uCons (uC (.ty "tuple")) uNil)))) (uB (uOp oGt (uCB oLen (uCons (uVar 6) uNil)) (uC (.int 1)))))) (uSetI (uOp oAdd (uSl (uVar 6) uNoPart (uPart (uC (.int 1)))) (uSl (uVar 7) (uPart (uC (.int 1))) uNoPart)) (uVar 3) (uVar 5)) (uIfS (uB (uOp oLt (uVar 8) (uC (.int 4)))) (uSeq (uAsg (uCall U_l_take [] (uCons (uVar 0) (uCons (uCB oLen (uCons (uVar 7) uNil)) uNil))) (ugF 9))
  (uSeq (uAsg (uIf (uB (uCB oIsi (uCons (uOp oIx (uVar 7) (uVar 9)) (uCons (uC (.ty "str")) uNil)))) (uOp oIx (uVar 7) (uVar 9)) (uC (.str "odd"))) (ugF 10))
  (uSetI (uOp oAdd (uOp oAdd (uSl (uVar 7) uNoPart (uPart (uVar 9))) (uTup (uCons (uCall U_l_bad_word [] (uCons (uVar 0) (uCons (uVar 10) uNil))) uNil))) (uSl (uVar 7) (uPart (uOp oAdd (uVar 9) (uC (.int 1)))) uNoPart)) (uVar 3) (uVar 5)))) (uSetI (uOp oAdd (uSl (uVar 7) uNoPart (uPart (uUn oNeg (uC (.int 1))))) (uTup (uCons (uCall U_l_of [] (uCons (uVar 0) (uCons (uVar 2) uNil))) uNil))) (uVar 3) (uVar 5))))))))
  (uRet (uVar 3))))
def U_l_spoilt : UP := fun ss Q _ => ∃ (b : D) (es : List D) (ws : List Str), ss = [.io b, .fz (.lst es), .fz (.lst (ws.map .str))] ∧ isBag b ∧ (∀ e ∈ es, Pl 2 e) ∧ es.length ≤ 100 ∧ 0 < ws.length ∧ ws.length ≤ 100 ∧ (∀ w ∈ ws, Pl 1 (.str w)) ∧ ∀ (b' : D) (es' : List D), isBag b' → es'.length = es.length → (∀ e ∈ es', Pl 8 e) → Q (.tm (.lst es')) [.io b', .fz (.lst es), .fz (.lst (ws.map .str))]
theorem len_l_spoilt {ss : List Sl} {Q : Pv → List Sl → Prop} {X : UX} (h : U_l_spoilt ss Q X) : ss.length = 3 := by obtain ⟨_, _, _, rfl, _⟩ := h; rfl
theorem pure_l_spoilt (ss : List Sl) (Q : Pv → List Sl → Prop) (X : UX) (h : U_l_spoilt ss Q X) : u_l_spoilt (endsU Q X ss.length) (startU N_l_spoilt ss) := by
  obtain ⟨b, es, ws, rfl, hb, hp, hel, hw0, hw1, hws, k⟩ := h
  show u_l_spoilt { nx := _, rt := retK Q 3, ex := _ } [.io b, .fz (.lst es), .fz (.lst (ws.map .str)), .un, .un, .un, .un, .un, .un, .un, .un]
  unfold u_l_spoilt
  have okes : okD (.lst es) = true := es_ok hp (by omega)
  walk_at "go"
  refine h_neD rfl rfl okes ok_eL ?_
  rw [eqL_nil2]
  cases c0 : decide (es.length = 0) with
  | true =>
    have h0 : es.length = 0 := of_decide_eq_true c0
    walk_at "go"
    refine for_rng (m := 0) (fun j δ => j = 0 ∧ δ = [.io b, .fz (.lst es), .fz (.lst (ws.map .str)), .ow (.lst es), .un, .un, .un, .un, .un, .un, .un]) ⟨rfl, rfl⟩ ?_ ?_ (by omega)
    · rintro j δ hj
      omega
    · rintro δ ⟨_, rfl⟩
      walk_at "go"
      exact k b es hb rfl fun e he => (hp e he).mono (by omega)
  | false =>
    have h0 : 0 < es.length := by have := of_decide_eq_false c0; omega
    walk_at "go"
    refine ⟨b, _, rfl, hb, by omega, by omega, fun r b1 r0 r1 hb1 => ?_⟩
    obtain ⟨m, rfl⟩ : ∃ m : Nat, r = (m : Int) := ⟨r.toNat, by omega⟩
    walk_at "bk"
    walk_at "go"
    refine for_rng (m := m) (fun j δ => ∃ (b2 : D) (fs : List D) (x4 x5 x6 x7 x8 x9 xa : Option D), isBag b2 ∧ fs.length = es.length ∧ (∀ e ∈ fs, Pl (2 * j + 2) e) ∧ δ = [.io b2, .fz (.lst es), .fz (.lst (ws.map .str)), .ow (.lst fs), so x4, so x5, so x6, so x7, so x8, so x9, so xa]) ⟨b1, es, none, none, none, none, none, none, none, hb1, rfl, hp, rfl⟩ ?_ ?_ (by omega)
    · rintro j δ hj ⟨b2, fs, x4, x5, x6, x7, x8, x9, xa, hb2, hfl, hfs, rfl⟩
      walk_at "go"
      refine ⟨b2, _, rfl, hb2, by omega, by omega, fun r b3 r0 r1 hb3 => ?_⟩
      obtain ⟨i, rfl⟩ : ∃ i : Nat, r = (i : Int) := ⟨r.toNat, by omega⟩
      have hi : i < fs.length := by omega
      have hix : ixN fs.length (i : Int) = some i := ixNn hi
      have hv : fs[i]? = some fs[i] := List.getElem?_eq_getElem hi
      have hx := ix_nat hv
      walk_at "bk"
      walk_at "go"
      refine ⟨b3, _, _, rfl, .inr rfl, hb3, by omega, by omega, fun b4 oth hb4 ho => ?_⟩
      walk_at "bk"
      have hpo := hfs oth ho
      have hpe := hfs fs[i] (List.getElem_mem hi)
      generalize hent : fs[i] = ent at hv hx hpe
      have fin : ∀ (d : D), Pl (2 * (j + 1) + 2) d → ∀ e ∈ fs.set i d, Pl (2 * (j + 1) + 2) e := fun d hd => mem_set (fun x hx => (hfs x hx).mono (by omega)) hd
      obtain ⟨Te, te, _⟩ := hpe.ty
      obtain ⟨To, to, _⟩ := hpo.ty
      walk_at "go"
      refine ⟨b4, _, rfl, hb4, by omega, by omega, fun way b5 w0 w1 hb5 => ?_⟩
      walk_at "bk"
      walk_at "go"
      refine iteX (fun hw => ?_) (fun hw => ?_)
      · walk_at "go"
        refine ⟨b5, _, fs, i, 2 * j + 2, _, rfl, .inr rfl, hb5, hv, hpe, by omega, fun b6 d hb6 hd => ?_⟩
        walk_at "bk"
        walk_at "go"
        exact ⟨b6, fs.set i d, some _, some _, some _, some _, some _, x9, xa, hb6, by rw [List.length_set]; exact hfl, fin d (hd.mono (by omega)), rfl⟩
      · cases ent with
        | tup ds =>
          have hl := hpe.len
          obtain ⟨m1, hm1, hm⟩ := hpe.tin
          walk_at "go"
          refine iteX (fun hc => ?_) (fun hc => ?_)
          · walk_at "go"
            refine ⟨b5, _, fs, i, 2 * j + 2, _, rfl, .inr rfl, hb5, hv, hpe, by omega, fun b6 d hb6 hd => ?_⟩
            walk_at "bk"
            walk_at "go"
            exact ⟨b6, fs.set i d, some _, some _, some _, some _, some _, x9, xa, hb6, by rw [List.length_set]; exact hfl, fin d (hd.mono (by omega)), rfl⟩
          · have hc2 : 2 ≤ ds.length := by have := of_decide_eq_false hc; omega
            walk_at "go"
            refine iteX (fun hw1 => ?_) (fun hw1 => ?_)
            · walk_at "go"
              refine h_isi rfl to (kit_tup to) ?_
              walk_at "go"
              cases ht : isTup oth with
              | false =>
                walk_at "go"
                refine iteX (fun hw4 => ?_) (fun hw4 => ?_)
                · walk_at "go"
                  refine ⟨b5, _, rfl, hb5, by omega, by omega, fun ra b6 ra0 ra1 hb6 => ?_⟩
                  obtain ⟨a, rfl⟩ : ∃ a : Nat, ra = (a : Int) := ⟨ra.toNat, by omega⟩
                  have ha : a < ds.length := by omega
                  have hva : ds[a]? = some ds[a] := List.getElem?_eq_getElem ha
                  have hxa : ixD (.tup ds) (.fz (.int (a : Nat))) = some ds[a] := ix_nat hva
                  have hpa := hm ds[a] (List.getElem_mem ha)
                  generalize ds[a] = wa at hva hxa hpa
                  walk_at "bk"
                  walk_at "go"
                  cases wa with
                  | str z =>
                    have hz : Pl (m1 + 1) (.str z) := hpa.up
                    have q1 := cutD_len3 ds a
                    have q2 := cutD_len4 ds a
                    walk_at "go"
                    refine ⟨b6, z, m1 + 1, rfl, hb6, hz, by omega, fun b7 bw hb7 hbw => ?_⟩
                    walk_at "bk"
                    walk_at "go"
                    refine ⟨_, fs.set i _, some _, some _, some _, some _, some _, some _, some _, hb7, by rw [List.length_set]; exact hfl, fin _ ?_, rfl⟩
                    refine (Pl.tup (m1 + 2) _ (fun d hd => ?_) ?_).mono (by omega)
                    · rcases List.mem_append.mp hd with h | h
                      · rcases List.mem_append.mp h with h | h
                        · exact (hm d (cutD_mem h)).mono (by omega)
                        · rw [List.mem_singleton.mp h]; exact hbw
                      · exact (hm d (cutD_mem h)).mono (by omega)
                    · rw [List.length_append, List.length_append, List.length_singleton]; omega
                  | _ =>
                    have hz : Pl (m1 + 1) (.str "odd") := .lit (by decide +kernel) (by decide +kernel)
                    have hpa2 := hpa
                    generalize m1 = m3 at hpa2
                    cases hpa2
                    all_goals
                      have q1 := cutD_len3 ds a
                      have q2 := cutD_len4 ds a
                      walk_at "go"
                      refine ⟨b6, "odd", m1 + 1, rfl, hb6, hz, by omega, fun b7 bw hb7 hbw => ?_⟩
                      walk_at "bk"
                      walk_at "go"
                      refine ⟨_, fs.set i _, some _, some _, some _, some _, some _, some _, some _, hb7, by rw [List.length_set]; exact hfl, fin _ ?_, rfl⟩
                      refine (Pl.tup (m1 + 2) _ (fun d hd => ?_) ?_).mono (by omega)
                      · rcases List.mem_append.mp hd with h | h
                        · rcases List.mem_append.mp h with h | h
                          · exact (hm d (cutD_mem h)).mono (by omega)
                          · rw [List.mem_singleton.mp h]; exact hbw
                        · exact (hm d (cutD_mem h)).mono (by omega)
                      · rw [List.length_append, List.length_append, List.length_singleton]; omega
                · have q1 := cutD_le ds Option.none (some (-1))
                  walk_at "go"
                  refine ⟨b5, _, _, rfl, .inl rfl, hb5, by rw [List.length_map]; omega, by rw [List.length_map]; omega, fun b6 wv hb6 hwv => ?_⟩
                  walk_at "bk"
                  walk_at "go"
                  refine ⟨_, fs.set i _, some _, some _, some _, some _, some _, x9, xa, hb6, by rw [List.length_set]; exact hfl, fin _ ?_, rfl⟩
                  refine (Pl.tup (m1 + 1) _ (fun d hd => ?_) ?_).mono (by omega)
                  · rcases List.mem_append.mp hd with h | h
                    · exact (hm d (cutD_mem h)).mono (by omega)
                    · rw [List.mem_singleton.mp h]
                      obtain ⟨w, hw, rfl⟩ := List.mem_map.mp hwv
                      exact (hws w hw).mono (by omega)
                  · rw [List.length_append, List.length_singleton]; omega
              | true =>
                obtain ⟨os, rfl⟩ : ∃ os, oth = .tup os := by cases oth <;> first | exact ⟨_, rfl⟩ | cases ht
                walk_at "go"
                refine iteX (fun ho1 => ?_) (fun ho1 => ?_)
                · obtain ⟨m2, hm2, hmo⟩ := hpo.tin
                  have hlo := hpo.len
                  have q1 := cutD_len1 os
                  have q2 := cutD_len2 ds
                  walk_at "go"
                  refine ⟨_, fs.set i _, some _, some _, some _, some _, some _, x9, xa, hb5, by rw [List.length_set]; exact hfl, fin _ ?_, rfl⟩
                  refine (Pl.tup m1 _ (fun d hd => ?_) ?_).mono (by omega)
                  · rcases List.mem_append.mp hd with h | h
                    · have := hmo d (cutD_mem h); rwa [show m2 = m1 by omega] at this
                    · exact hm d (cutD_mem h)
                  · rw [List.length_append]; omega
                · walk_at "go"
                  refine iteX (fun hw4 => ?_) (fun hw4 => ?_)
                  · walk_at "go"
                    refine ⟨b5, _, rfl, hb5, by omega, by omega, fun ra b6 ra0 ra1 hb6 => ?_⟩
                    obtain ⟨a, rfl⟩ : ∃ a : Nat, ra = (a : Int) := ⟨ra.toNat, by omega⟩
                    have ha : a < ds.length := by omega
                    have hva : ds[a]? = some ds[a] := List.getElem?_eq_getElem ha
                    have hxa : ixD (.tup ds) (.fz (.int (a : Nat))) = some ds[a] := ix_nat hva
                    have hpa := hm ds[a] (List.getElem_mem ha)
                    generalize ds[a] = wa at hva hxa hpa
                    walk_at "bk"
                    walk_at "go"
                    cases wa with
                    | str z =>
                      have hz : Pl (m1 + 1) (.str z) := hpa.up
                      have q1 := cutD_len3 ds a
                      have q2 := cutD_len4 ds a
                      walk_at "go"
                      refine ⟨b6, z, m1 + 1, rfl, hb6, hz, by omega, fun b7 bw hb7 hbw => ?_⟩
                      walk_at "bk"
                      walk_at "go"
                      refine ⟨_, fs.set i _, some _, some _, some _, some _, some _, some _, some _, hb7, by rw [List.length_set]; exact hfl, fin _ ?_, rfl⟩
                      refine (Pl.tup (m1 + 2) _ (fun d hd => ?_) ?_).mono (by omega)
                      · rcases List.mem_append.mp hd with h | h
                        · rcases List.mem_append.mp h with h | h
                          · exact (hm d (cutD_mem h)).mono (by omega)
                          · rw [List.mem_singleton.mp h]; exact hbw
                        · exact (hm d (cutD_mem h)).mono (by omega)
                      · rw [List.length_append, List.length_append, List.length_singleton]; omega
                    | _ =>
                      have hz : Pl (m1 + 1) (.str "odd") := .lit (by decide +kernel) (by decide +kernel)
                      have hpa2 := hpa
                      generalize m1 = m3 at hpa2
                      cases hpa2
                      all_goals
                        have q1 := cutD_len3 ds a
                        have q2 := cutD_len4 ds a
                        walk_at "go"
                        refine ⟨b6, "odd", m1 + 1, rfl, hb6, hz, by omega, fun b7 bw hb7 hbw => ?_⟩
                        walk_at "bk"
                        walk_at "go"
                        refine ⟨_, fs.set i _, some _, some _, some _, some _, some _, some _, some _, hb7, by rw [List.length_set]; exact hfl, fin _ ?_, rfl⟩
                        refine (Pl.tup (m1 + 2) _ (fun d hd => ?_) ?_).mono (by omega)
                        · rcases List.mem_append.mp hd with h | h
                          · rcases List.mem_append.mp h with h | h
                            · exact (hm d (cutD_mem h)).mono (by omega)
                            · rw [List.mem_singleton.mp h]; exact hbw
                          · exact (hm d (cutD_mem h)).mono (by omega)
                        · rw [List.length_append, List.length_append, List.length_singleton]; omega
                  · have q1 := cutD_le ds Option.none (some (-1))
                    walk_at "go"
                    refine ⟨b5, _, _, rfl, .inl rfl, hb5, by rw [List.length_map]; omega, by rw [List.length_map]; omega, fun b6 wv hb6 hwv => ?_⟩
                    walk_at "bk"
                    walk_at "go"
                    refine ⟨_, fs.set i _, some _, some _, some _, some _, some _, x9, xa, hb6, by rw [List.length_set]; exact hfl, fin _ ?_, rfl⟩
                    refine (Pl.tup (m1 + 1) _ (fun d hd => ?_) ?_).mono (by omega)
                    · rcases List.mem_append.mp hd with h | h
                      · exact (hm d (cutD_mem h)).mono (by omega)
                      · rw [List.mem_singleton.mp h]
                        obtain ⟨w, hw, rfl⟩ := List.mem_map.mp hwv
                        exact (hws w hw).mono (by omega)
                    · rw [List.length_append, List.length_singleton]; omega
            · walk_at "go"
              refine iteX (fun hw4 => ?_) (fun hw4 => ?_)
              · walk_at "go"
                refine ⟨b5, _, rfl, hb5, by omega, by omega, fun ra b6 ra0 ra1 hb6 => ?_⟩
                obtain ⟨a, rfl⟩ : ∃ a : Nat, ra = (a : Int) := ⟨ra.toNat, by omega⟩
                have ha : a < ds.length := by omega
                have hva : ds[a]? = some ds[a] := List.getElem?_eq_getElem ha
                have hxa : ixD (.tup ds) (.fz (.int (a : Nat))) = some ds[a] := ix_nat hva
                have hpa := hm ds[a] (List.getElem_mem ha)
                generalize ds[a] = wa at hva hxa hpa
                walk_at "bk"
                walk_at "go"
                cases wa with
                | str z =>
                  have hz : Pl (m1 + 1) (.str z) := hpa.up
                  have q1 := cutD_len3 ds a
                  have q2 := cutD_len4 ds a
                  walk_at "go"
                  refine ⟨b6, z, m1 + 1, rfl, hb6, hz, by omega, fun b7 bw hb7 hbw => ?_⟩
                  walk_at "bk"
                  walk_at "go"
                  refine ⟨_, fs.set i _, some _, some _, some _, some _, some _, some _, some _, hb7, by rw [List.length_set]; exact hfl, fin _ ?_, rfl⟩
                  refine (Pl.tup (m1 + 2) _ (fun d hd => ?_) ?_).mono (by omega)
                  · rcases List.mem_append.mp hd with h | h
                    · rcases List.mem_append.mp h with h | h
                      · exact (hm d (cutD_mem h)).mono (by omega)
                      · rw [List.mem_singleton.mp h]; exact hbw
                    · exact (hm d (cutD_mem h)).mono (by omega)
                  · rw [List.length_append, List.length_append, List.length_singleton]; omega
                | _ =>
                  have hz : Pl (m1 + 1) (.str "odd") := .lit (by decide +kernel) (by decide +kernel)
                  have hpa2 := hpa
                  generalize m1 = m3 at hpa2
                  cases hpa2
                  all_goals
                    have q1 := cutD_len3 ds a
                    have q2 := cutD_len4 ds a
                    walk_at "go"
                    refine ⟨b6, "odd", m1 + 1, rfl, hb6, hz, by omega, fun b7 bw hb7 hbw => ?_⟩
                    walk_at "bk"
                    walk_at "go"
                    refine ⟨_, fs.set i _, some _, some _, some _, some _, some _, some _, some _, hb7, by rw [List.length_set]; exact hfl, fin _ ?_, rfl⟩
                    refine (Pl.tup (m1 + 2) _ (fun d hd => ?_) ?_).mono (by omega)
                    · rcases List.mem_append.mp hd with h | h
                      · rcases List.mem_append.mp h with h | h
                        · exact (hm d (cutD_mem h)).mono (by omega)
                        · rw [List.mem_singleton.mp h]; exact hbw
                      · exact (hm d (cutD_mem h)).mono (by omega)
                    · rw [List.length_append, List.length_append, List.length_singleton]; omega
              · have q1 := cutD_le ds Option.none (some (-1))
                walk_at "go"
                refine ⟨b5, _, _, rfl, .inl rfl, hb5, by rw [List.length_map]; omega, by rw [List.length_map]; omega, fun b6 wv hb6 hwv => ?_⟩
                walk_at "bk"
                walk_at "go"
                refine ⟨_, fs.set i _, some _, some _, some _, some _, some _, x9, xa, hb6, by rw [List.length_set]; exact hfl, fin _ ?_, rfl⟩
                refine (Pl.tup (m1 + 1) _ (fun d hd => ?_) ?_).mono (by omega)
                · rcases List.mem_append.mp hd with h | h
                  · exact (hm d (cutD_mem h)).mono (by omega)
                  · rw [List.mem_singleton.mp h]
                    obtain ⟨w, hw, rfl⟩ := List.mem_map.mp hwv
                    exact (hws w hw).mono (by omega)
                · rw [List.length_append, List.length_singleton]; omega
        | _ =>
          have hpe2 := hpe
          cases hpe2
          all_goals
            walk_at "go"
            refine ⟨b5, _, fs, i, 2 * j + 2, _, rfl, .inr rfl, hb5, hv, hpe, by omega, fun b6 d hb6 hd => ?_⟩
            walk_at "bk"
            walk_at "go"
            exact ⟨b6, fs.set i d, some _, some _, some _, some _, some _, x9, xa, hb6, by rw [List.length_set]; exact hfl, fin d (hd.mono (by omega)), rfl⟩
    · rintro δ ⟨b2, fs, x4, x5, x6, x7, x8, x9, xa, hb2, hfl, hfs, rfl⟩
      walk_at "go"
      exact k b2 fs hb2 hfl fun e he => (hfs e he).mono (by omega)
end
section
def dueF (s : Str) (d : D) : D := match d with | .non => .non | d => .tup [.str s, d, .bl true]
local macro_rules | `(tactic| walk_at "fl") => `(tactic| rfl)
local macro_rules | `(tactic| walk_at "ix") => `(tactic| assumption)
abbrev N_l_due : List Str := ["_law_sort", "_law_place"]
def u_l_due : US :=
  (uRet (uIf (uB (uOp (oIsN id) (uVar 1) (uC .non))) (uC .non) (uTup (uCons (uVar 0) (uCons (uVar 1) (uCons (uC (.bl true)) uNil))))))
def U_l_due : UP := fun ss Q _ => ∃ (s : Str) (d : D), ss = [.fz (.str s), .fz d] ∧ Q (.fz (dueF s d)) ss
theorem len_l_due {ss : List Sl} {Q : Pv → List Sl → Prop} {X : UX} (h : U_l_due ss Q X) : ss.length = 2 := by obtain ⟨_, _, rfl, _⟩ := h; rfl
theorem pure_l_due (ss : List Sl) (Q : Pv → List Sl → Prop) (X : UX) (h : U_l_due ss Q X) : u_l_due (endsU Q X ss.length) (startU N_l_due ss) := by
  obtain ⟨s, d, rfl, k⟩ := h
  show u_l_due { nx := _, rt := retK Q 2, ex := _ } [.fz (.str s), .fz d]
  unfold u_l_due
  cases d with
  | non =>
    walk_at "go"
    exact k
  | _ =>
    walk_at "go"
    exact k
abbrev N_l_refusal : List Str := ["_law_ask", "e", "_law_sort"]
def ul_l_refusal : List UCla2 :=
  [(yesOf XS "WeirError", noOf XS "WeirError", some 1, fun a dd x => (uSeq (uIfS (uOr (uNot (uB (uCB (oIsX XS x a dd) (uCons (uVar 1) (uCons (uC (.ty "ValueError")) uNil))))) (uB (uCB (oIsXT XS x a dd) (uCons (uVar 1) (uCons (uTup (uCons (uC (.cls "NoRight")) (uCons (uC (.cls "NotDown")) (uCons (uC (.cls "NotText")) (uCons (uC (.cls "NoWeir")) uNil))))) uNil))))) (uRet (uC (.str "other"))) uNext)
  (uSeq (uIfS (uB (uOp oEq (uCB (oIsX XS x a dd) (uCons (uVar 1) (uCons (uC (.cls "NotRiver")) uNil))) (uCB (oIsX XS x a dd) (uCons (uVar 1) (uCons (uC (.cls "NotRights")) uNil))))) (uRet (uC (.str "base"))) uNext)
  (uSeq (uAsg (uIf (uB (uCB (oIsX XS x a dd) (uCons (uVar 1) (uCons (uC (.cls "NotRiver")) uNil)))) (uC (.str "river")) (uC (.str "rights"))) (ugF 2))
  (uRet (uTup (uCons (uVar 2) (uCons (uXfM x a dd ["NotRiver", "NotRights"] "place" (uVar 1)) (uCons (uAndV (uCB oIsi (uCons (uXfM x a dd ["NotRiver", "NotRights"] "place" (uVar 1)) (uCons (uC (.ty "int")) uNil))) (uNotV (uCB oIsi (uCons (uXfM x a dd ["NotRiver", "NotRights"] "place" (uVar 1)) (uCons (uC (.ty "bool")) uNil))))) uNil)))))))))]
def uXfI (x : Xn) (a dd : Addr) (c f : Str) (Q : UK) (p : Pv) (δ1 : List Sl) : Prop := ∃ fds d, x.1 = c ∧ p = .fz (.exc a dd c fds) ∧ fds.lookup f = some d ∧ Q (.fz d) δ1
theorem h_xf {x : Xn} {a dd : Addr} {c f : Str} {ue : UE} (h : ue δ (fun p δ1 => uXfI x a dd c f Q p δ1) X) : uXf x a dd c f ue δ Q X := h
theorem h_xfI {c f : Str} {fds : List (Str × D)} {a dd : Addr} {d : D} (hl : fds.lookup f = some d) (h : Q (.fz d) δ) : uXfI (c, fds) a dd c f Q (.fz (.exc a dd c fds)) δ := ⟨fds, d, rfl, rfl, hl, h⟩
theorem lkS (f : Str) (d : D) (r : List (Str × D)) : ((f, d) :: r).lookup f = some d := by rw [lkD, if_pos rfl]
theorem no_hit1 : clsHit "NotRiver" ["NoRight", "NotDown", "NotText", "NoWeir"] = false := by decide +kernel
theorem no_hit2 : clsHit "NotRights" ["NoRight", "NotDown", "NotText", "NoWeir"] = false := by decide +kernel
theorem kx_1v : kitX "NotRiver" (.ty "ValueError") = some true := by decide +kernel
theorem kx_2v : kitX "NotRights" (.ty "ValueError") = some true := by decide +kernel
theorem kx_11 : kitX "NotRiver" (.cls "NotRiver") = some true := by decide +kernel
theorem kx_12 : kitX "NotRiver" (.cls "NotRights") = some false := by decide +kernel
theorem kx_21 : kitX "NotRights" (.cls "NotRiver") = some false := by decide +kernel
theorem kx_22 : kitX "NotRights" (.cls "NotRights") = some true := by decide +kernel
theorem yes_1 : ("NotRiver" : Str) ∈ yesOf XS "WeirError" := by decide +kernel
theorem yes_2 : ("NotRights" : Str) ∈ yesOf XS "WeirError" := by decide +kernel
def exc_l_refusal : List D → Xn → Option D := fun es x => match es, x with
  | [], (c, [(f, .int i)]) => if c = "NotRiver" ∧ f = "place" then some (.tup [.str "river", .int i, .bl true]) else if c = "NotRights" ∧ f = "place" then some (.tup [.str "rights", .int i, .bl true]) else none
  | _, _ => none
theorem exc_river (i : Int) : exc_l_refusal [] (("NotRiver" : Str), [(("place" : Str), .int i)]) = some (.tup [.str "river", .int i, .bl true]) := by
  unfold exc_l_refusal; exact if_pos ⟨rfl, rfl⟩
theorem exc_rights (i : Int) : exc_l_refusal [] (("NotRights" : Str), [(("place" : Str), .int i)]) = some (.tup [.str "rights", .int i, .bl true]) := by
  unfold exc_l_refusal; exact (if_neg (by decide +kernel)).trans (if_pos ⟨rfl, rfl⟩)
theorem pureA_l_refusal (es : List D) (x : Xn) (r : D) (hl : es.length = 0) (h : exc_l_refusal es x = some r) : uManyX (endsA r) ul_l_refusal x (.un :: (es.map .fz ++ List.replicate 2 .un)) := by
  obtain rfl := List.length_eq_zero_iff.mp hl
  obtain ⟨c, fds⟩ := x
  unfold exc_l_refusal at h
  split at h
  · rename_i c2 f i _ he
    cases he
    by_cases hx : c = "NotRiver" ∧ f = "place"
    · rw [if_pos hx] at h
      cases h
      obtain ⟨rfl, rfl⟩ := hx
      refine .inl ⟨yes_1, trivial, fun ad dd => ?_⟩
      show uSeq _ _ _ [.un, .fz (.exc ad dd "NotRiver" [("place", .int i)]), .un]
      walk_at "go"
      refine ⟨.ty "ValueError", true, rfl, (show ("NotRiver" : Str) ∈ XS by decide +kernel), (fun c e => by first | (cases e; decide +kernel) | cases e), kx_1v, ?_⟩
      walk_at "go"
      refine ⟨["NoRight", "NotDown", "NotText", "NoWeir"], rfl, (show ("NotRiver" : Str) ∈ XS by decide +kernel), (by decide +kernel), ?_⟩
      rw [show clsHit "NotRiver" ["NoRight", "NotDown", "NotText", "NoWeir"] = false from no_hit1]
      walk_at "go"
      refine ⟨.cls "NotRiver", true, rfl, (show ("NotRiver" : Str) ∈ XS by decide +kernel), (fun c e => by first | (cases e; decide +kernel) | cases e), kx_11, ?_⟩
      walk_at "go"
      refine ⟨.cls "NotRights", false, rfl, (show ("NotRiver" : Str) ∈ XS by decide +kernel), (fun c e => by first | (cases e; decide +kernel) | cases e), kx_12, ?_⟩
      walk_at "go"
      refine ⟨.cls "NotRiver", true, rfl, (show ("NotRiver" : Str) ∈ XS by decide +kernel), (fun c e => by first | (cases e; decide +kernel) | cases e), kx_11, ?_⟩
      walk_at "go"
      refine h_xfM (show ("NotRiver" : Str) ∈ [("NotRiver" : Str), "NotRights"] by decide +kernel) ?_
      refine h_xf ?_
      walk_at "go"
      refine h_xfI (lkS _ _ _) ?_
      walk_at "go"
      refine h_xfM (show ("NotRiver" : Str) ∈ [("NotRiver" : Str), "NotRights"] by decide +kernel) ?_
      refine h_xf ?_
      walk_at "go"
      refine h_xfI (lkS _ _ _) ?_
      walk_at "go"
      refine h_xfM (show ("NotRiver" : Str) ∈ [("NotRiver" : Str), "NotRights"] by decide +kernel) ?_
      refine h_xf ?_
      walk_at "go"
      refine h_xfI (lkS _ _ _) ?_
      walk_at "go"
      rfl
    · rw [if_neg hx] at h
      by_cases hx2 : c = "NotRights" ∧ f = "place"
      · rw [if_pos hx2] at h
        cases h
        obtain ⟨rfl, rfl⟩ := hx2
        refine .inl ⟨yes_2, trivial, fun ad dd => ?_⟩
        show uSeq _ _ _ [.un, .fz (.exc ad dd "NotRights" [("place", .int i)]), .un]
        walk_at "go"
        refine ⟨.ty "ValueError", true, rfl, (show ("NotRights" : Str) ∈ XS by decide +kernel), (fun c e => by first | (cases e; decide +kernel) | cases e), kx_2v, ?_⟩
        walk_at "go"
        refine ⟨["NoRight", "NotDown", "NotText", "NoWeir"], rfl, (show ("NotRights" : Str) ∈ XS by decide +kernel), (by decide +kernel), ?_⟩
        rw [show clsHit "NotRights" ["NoRight", "NotDown", "NotText", "NoWeir"] = false from no_hit2]
        walk_at "go"
        refine ⟨.cls "NotRiver", false, rfl, (show ("NotRights" : Str) ∈ XS by decide +kernel), (fun c e => by first | (cases e; decide +kernel) | cases e), kx_21, ?_⟩
        walk_at "go"
        refine ⟨.cls "NotRights", true, rfl, (show ("NotRights" : Str) ∈ XS by decide +kernel), (fun c e => by first | (cases e; decide +kernel) | cases e), kx_22, ?_⟩
        walk_at "go"
        refine ⟨.cls "NotRiver", false, rfl, (show ("NotRights" : Str) ∈ XS by decide +kernel), (fun c e => by first | (cases e; decide +kernel) | cases e), kx_21, ?_⟩
        walk_at "go"
        refine h_xfM (show ("NotRights" : Str) ∈ [("NotRiver" : Str), "NotRights"] by decide +kernel) ?_
        refine h_xf ?_
        walk_at "go"
        refine h_xfI (lkS _ _ _) ?_
        walk_at "go"
        refine h_xfM (show ("NotRights" : Str) ∈ [("NotRiver" : Str), "NotRights"] by decide +kernel) ?_
        refine h_xf ?_
        walk_at "go"
        refine h_xfI (lkS _ _ _) ?_
        walk_at "go"
        refine h_xfM (show ("NotRights" : Str) ∈ [("NotRiver" : Str), "NotRights"] by decide +kernel) ?_
        refine h_xf ?_
        walk_at "go"
        refine h_xfI (lkS _ _ _) ?_
        walk_at "go"
        rfl
      · rw [if_neg hx2] at h
        cases h
  · cases h
end
section
/-- rows of names -/
def NmRows (rows : Rows) : Prop := ∀ r ∈ rows, isName r.1 = true ∧ isName r.2 = true
theorem pl_nm {z : Str} (h : isName z = true) : Pl 1 (.str z) := .str _ _ (strOk_name h) (by have := isName_len h; omega)
theorem pl_rows {rows : Rows} (N : NmRows rows) : ∀ e ∈ rows.map rowD, Pl 2 e := fun e he => by
  obtain ⟨r, hr, rfl⟩ := List.mem_map.mp he
  refine .tup 1 _ (fun d hd => ?_) (by show 2 ≤ _; omega)
  simp only [List.mem_cons, List.not_mem_nil, or_false] at hd
  rcases hd with rfl | rfl
  · exact pl_nm (N r hr).1
  · exact pl_nm (N r hr).2
theorem pl_ws {rows : Rows} (N : NmRows rows) : ∀ w ∈ wrs rows, Pl 1 (.str w) := fun w hw => by
  obtain ⟨r, hr, rfl⟩ := List.mem_map.mp hw
  exact pl_nm (N r hr).1
theorem due_int (s : Str) (i : Int) : dueF s (.int i) = .tup [.str s, .int i, .bl true] := rfl
theorem ok_due (s : Str) (hs : PyData.strOk s = true) (i : Int) : okD (.tup [.str s, .int i, .bl true]) = true := (Ok.tup (n := 0) fun d hd => by
  simp only [List.mem_cons, List.not_mem_nil, or_false] at hd
  rcases hd with rfl | rfl | rfl
  · exact .str hs
  · exact .int
  · exact .bl).ok
theorem due_refl (s : Str) (hs : PyData.strOk s = true) (i : Int) : eqD (.tup [.str s, .int i, .bl true]) (.tup [.str s, .int i, .bl true]) = true := eqD_refl (Ok.tup (n := 0) fun d hd => by
  simp only [List.mem_cons, List.not_mem_nil, or_false] at hd
  rcases hd with rfl | rfl | rfl
  · exact .str hs
  · exact .int
  · exact .bl).fl
theorem es_refl {n : Nat} {es : List D} (h : ∀ e ∈ es, Pl n e) : eqD (.lst es) (.lst es) = true := eqD_refl (Ok.lst (n := n) fun e he => (h e he).ok).fl
theorem non_refl : eqD .non .non = true := eqD_refl (Ok.non (n := 0)).fl
theorem non_ok : okD .non = true := (Ok.non (n := 0)).ok
theorem river_ok : PyData.strOk "river" = true := by decide +kernel
theorem rights_ok : PyData.strOk "rights" = true := by decide +kernel
local macro_rules | `(tactic| walk_at "fl") => `(tactic| rfl)
local macro_rules | `(tactic| walk_at "ix") => `(tactic| first | exact row_ix0 _ | exact row_ix1 _ | assumption)
abbrev N_l_rivers_right : List Str := ["_law_bag_here", "_law_rows", "_law_weirs", "_law_turn", "_law_spoilt_here", "_law_kept", "_law_odd", "_law_weir", "_law_below"]
def tl_l_rivers_right_3 : US :=
  (uRet (uOp oEq (uAskN 0 (.non) exc_l_refusal uNil (uMake "River" U_River__init_ [] (uCons (uVar 1) uNil))) (uCall U_l_due [] (uCons (uC (.str "river")) (uCons (uCall U_l_wrong_river [] (uCons (uVar 1) uNil)) uNil)))))
def tl_l_rivers_right_2 : US :=
  (uSeq (uFor (uISeq (uLst (uCons (uLst uNil) (uCons (uCB oTuple (uCons (uVar 1) uNil)) (uCons (uC .non) (uCons (uC (.bl true)) (uCons (uOp oIx (uVar 2) (uC (.int 0))) (uCons (uC (.int 0)) uNil)))))))) (ugF 6) (uIfS (uB (uOp oNe (uAskN 0 (.non) exc_l_refusal uNil (uMake "River" U_River__init_ [] (uCons (uVar 6) uNil))) (uTup (uCons (uC (.str "river")) (uCons (uUn oNeg (uC (.int 1))) (uCons (uC (.bl true)) uNil)))))) (uRet (uC (.bl false))) uNext)) tl_l_rivers_right_3)
def tl_l_rivers_right_1 : US :=
  (uSeq (uFor (uIRng1 (uCons (uC (.int 2)) uNil)) (ugF 3) (uSeq (uAsg (uCall U_l_spoilt [] (uCons (uVar 0) (uCons (uVar 1) (uCons (uVar 2) uNil)))) (ugF 4))
  (uSeq (uAsg (uCB oList (uCons (uVar 4) uNil)) (ugF 5))
  (uIfS (uOr (uB (uOp oNe (uAskN 0 (.non) exc_l_refusal uNil (uMake "River" U_River__init_ [] (uCons (uVar 4) uNil))) (uCall U_l_due [] (uCons (uC (.str "river")) (uCons (uCall U_l_wrong_river [] (uCons (uVar 4) uNil)) uNil))))) (uB (uOp oNe (uVar 4) (uVar 5)))) (uRet (uC (.bl false))) uNext)))) tl_l_rivers_right_2)
def u_l_rivers_right : US :=
  (uSeq (uAsg (uLc (uISeq (uVar 1)) (ugTup 2 (ugCons (ugF 7) (ugCons (ugF 8) ugNil))) uYes (uVar 7) [7, 8]) (ugF 2)) tl_l_rivers_right_1)
def U_l_rivers_right : UP := fun ss Q _ => ∃ (b : D) (rows : Rows), ss = [.io b, .fz (.lst (rows.map rowD))] ∧ isBag b ∧ 1 ≤ rows.length ∧ rows.length ≤ 41 ∧ NmRows rows ∧ ∀ b', isBag b' → Q (.fz (.bl true)) [.io b', .fz (.lst (rows.map rowD))]
theorem len_l_rivers_right {ss : List Sl} {Q : Pv → List Sl → Prop} {X : UX} (h : U_l_rivers_right ss Q X) : ss.length = 2 := by obtain ⟨_, _, rfl, _⟩ := h; rfl
theorem pure_l_rivers_right (ss : List Sl) (Q : Pv → List Sl → Prop) (X : UX) (h : U_l_rivers_right ss Q X) : u_l_rivers_right (endsU Q X ss.length) (startU N_l_rivers_right ss) := by
  obtain ⟨b, rows, rfl, hb, h1, h41, N, k⟩ := h
  show u_l_rivers_right { nx := _, rt := retK Q 2, ex := _ } [.io b, .fz (.lst (rows.map rowD)), .un, .un, .un, .un, .un, .un, .un]
  unfold u_l_rivers_right
  obtain ⟨w0, hw0⟩ : ∃ w0, (wrs rows)[0]? = some w0 := ⟨_, List.getElem?_eq_getElem (by unfold wrs; rw [List.length_map]; omega)⟩
  have hwl : (wrs rows).length = rows.length := by unfold wrs; rw [List.length_map]
  walk_at "go"
  refine ⟨by rw [List.length_map]; omega, ?_⟩
  refine lc_all (xs := rows) (emb := rowD) (fun r => .str r.1) rfl rfl (fun r hr P N hP => ?_) ?_
  · walk_at "go"
    exact hP
  rw [show rows.map (fun r => D.str r.1) = (wrs rows).map D.str by unfold wrs; rw [List.map_map]; rfl]
  walk_at "go"
  unfold tl_l_rivers_right_1
  walk_at "go"
  refine for_rng (m := 2) (fun j δ => ∃ (b' : D) (x3 x4 x5 : Option D), isBag b' ∧ δ = [.io b', .fz (.lst (rows.map rowD)), .fz (.lst ((wrs rows).map .str)), so x3, so x4, so x5, .un, .un, .un]) ⟨b, none, none, none, hb, rfl⟩ ?_ ?_ (by omega)
  · rintro j δ hj ⟨b', x3, x4, x5, hb', rfl⟩
    walk_at "go"
    refine ⟨b', _, _, rfl, hb', pl_rows N, by rw [List.length_map]; omega, by omega, by omega, pl_ws N, fun b2 es hb2 hel hp => ?_⟩
    rw [List.length_map] at hel
    have oke : okD (.lst es) = true := es_ok hp (by omega)
    walk_at "bk"
    walk_at "go"
    refine ⟨[], rfl, rfl, ?_⟩
    walk_at "go"
    refine ⟨.lst es, 8, rfl, .inl ⟨es, rfl, hp, by omega⟩, by omega, fun r2 e2 g2 => ?_, fun i hi => ?_⟩
    · have e3 : es = r2.map rowD := by injection e2
      have e4 : rvF es = .non := by rw [e3]; exact rv_good g2
      refine ⟨_, _, rfl, rfl, ?_⟩
      walk_at "bk"
      walk_at "go"
      refine ⟨es, 8, rfl, hp, by omega, by omega, ?_⟩
      walk_at "bk"
      walk_at "go"
      refine ⟨"river", _, rfl, ?_⟩
      rw [e4]
      show _
      walk_at "bk"
      refine h_neD (d := .non) (e := .non) rfl rfl non_ok non_ok ?_
      rw [non_refl]
      walk_at "go"
      refine h_neD rfl rfl oke oke ?_
      rw [es_refl hp]
      walk_at "go"
      exact ⟨b2, some _, some _, some _, hb2, rfl⟩
    · have e4 : rvF es = .int i := hi
      refine ⟨_, _, rfl, _, exc_river i, ?_⟩
      walk_at "bk"
      walk_at "go"
      refine ⟨es, 8, rfl, hp, by omega, by omega, ?_⟩
      walk_at "bk"
      walk_at "go"
      refine ⟨"river", _, rfl, ?_⟩
      rw [e4, due_int]
      walk_at "bk"
      refine h_neD rfl rfl (ok_due _ river_ok i) (ok_due _ river_ok i) ?_
      rw [due_refl _ river_ok]
      walk_at "go"
      refine h_neD rfl rfl oke oke ?_
      rw [es_refl hp]
      walk_at "go"
      exact ⟨b2, some _, some _, some _, hb2, rfl⟩
  · rintro δ ⟨b', x3, x4, x5, hb', rfl⟩
    unfold tl_l_rivers_right_2
    have hx0 : ixD (.lst ((wrs rows).map D.str)) (.fz (.int 0)) = some (.str w0) := ix_nat (j := 0) (by rw [List.getElem?_map, hw0]; rfl)
    walk_at "go"
    refine for_N (fun j δ => ∃ (x6 : Option D), δ = [.io b', .fz (.lst (rows.map rowD)), .fz (.lst ((wrs rows).map .str)), so x3, so x4, so x5, so x6, .un, .un]) ⟨none, rfl⟩ ?_ ?_
    · rintro j d δ hd ⟨x6, rfl⟩
      have hm : d ∈ [D.lst [], D.tup (rows.map rowD), D.non, D.bl true, D.str w0, D.int 0] := List.mem_of_getElem? hd
      have ha : ArgD 8 d ∧ rvD d = .int (-1) := by
        simp only [List.mem_cons, List.not_mem_nil, or_false] at hm
        rcases hm with rfl | rfl | rfl | rfl | rfl | rfl
        · exact ⟨.inl ⟨[], rfl, (fun e he => by cases he), by simp⟩, rfl⟩
        all_goals exact ⟨.inr ⟨rfl, _, rfl⟩, rfl⟩
      walk_at "go"
      refine ⟨[], rfl, rfl, ?_⟩
      walk_at "go"
      refine ⟨d, 8, rfl, ha.1, by omega, fun r2 e2 g2 => ?_, fun i hi => ?_⟩
      · exfalso
        have := ha.2
        rw [e2] at this
        have e5 : rvF (r2.map rowD) = .int (-1) := this
        rw [rv_good g2] at e5
        cases e5
      · have ei : i = -1 := by rw [ha.2] at hi; injection hi with hi; exact hi.symm
        subst ei
        refine ⟨_, _, rfl, _, exc_river _, ?_⟩
        walk_at "bk"
        walk_at "go"
        refine h_neD rfl rfl (ok_due _ river_ok _) (ok_due _ river_ok _) ?_
        rw [due_refl _ river_ok]
        walk_at "go"
        exact ⟨some _, rfl⟩
    · rintro δ ⟨x6, rfl⟩
      unfold tl_l_rivers_right_3
      have hpr := pl_rows N
      walk_at "go"
      refine ⟨[], rfl, rfl, ?_⟩
      walk_at "go"
      refine ⟨.lst (rows.map rowD), 8, rfl, .inl ⟨_, rfl, fun e he => (hpr e he).mono (by omega), by rw [List.length_map]; omega⟩, by omega, fun r2 e2 g2 => ?_, fun i hi => ?_⟩
      · have e3 : rows.map rowD = r2.map rowD := by injection e2
        have e4 : rvF (rows.map rowD) = .non := by rw [e3]; exact rv_good g2
        refine ⟨_, _, rfl, rfl, ?_⟩
        walk_at "bk"
        walk_at "go"
        refine ⟨_, 2, rfl, hpr, by omega, by rw [List.length_map]; omega, ?_⟩
        walk_at "bk"
        walk_at "go"
        refine ⟨"river", _, rfl, ?_⟩
        rw [e4]
        walk_at "bk"
        refine h_eqD (d := .non) (e := .non) rfl rfl non_ok non_ok ?_
        rw [non_refl]
        walk_at "go"
        exact k b' hb'
      · have e4 : rvF (rows.map rowD) = .int i := hi
        refine ⟨_, _, rfl, _, exc_river i, ?_⟩
        walk_at "bk"
        walk_at "go"
        refine ⟨_, 2, rfl, hpr, by omega, by rw [List.length_map]; omega, ?_⟩
        walk_at "bk"
        walk_at "go"
        refine ⟨"river", _, rfl, ?_⟩
        rw [e4, due_int]
        walk_at "bk"
        refine h_eqD rfl rfl (ok_due _ river_ok i) (ok_due _ river_ok i) ?_
        rw [due_refl _ river_ok]
        walk_at "go"
        exact k b' hb'
end
section
theorem last_snoc {α : Type} {xs : List α} (h : xs ≠ []) : ∃ x, xs = cutD xs Option.none (some (-1)) ++ [x] := by
  refine ⟨xs.getLast h, ?_⟩
  have e : cutD xs Option.none (some (-1)) = xs.dropLast := by
    unfold cutD
    rw [HT.sIx_none, List.drop_zero, List.dropLast_eq_take]
    congr 1
    unfold HT.sIx
    simp only []
    rw [if_pos (by omega)]; omega
  rw [e]
  exact (List.dropLast_concat_getLast h).symm
theorem ix_lastD {xs : List D} {x : D} : ixD (.lst (xs ++ [x])) (.fz (.int (-1))) = some x := by
  show atI (xs ++ [x]) (-1) = some x
  unfold atI
  have e : ixN (xs ++ [x]).length (-1) = some xs.length := by
    unfold ixN
    rw [List.length_append, List.length_singleton, if_neg (by omega), if_pos (by omega)]
    congr 1
    omega
  rw [e]
  show (xs ++ [x])[xs.length]? = some x
  rw [List.getElem?_append_right (Nat.le_refl _), Nat.sub_self]; rfl
theorem rvF_good {rows : Rows} (g : Good rows) {i : Int} (h : rvF (rows.map rowD) = .int i) : False := by
  rw [rv_good g] at h; cases h
theorem GoodR.lr {rows : Rows} {rs : Rts} (g : GoodR rows rs) : LR rows rs := ⟨g.nm, g.nd, g.inn, g.dn⟩
theorem pl_lr {rows : Rows} {rs : Rts} (g : Good rows) (gr : LR rows rs) : ∀ e ∈ rs.map rtD, Pl 2 e := fun e he => by
  obtain ⟨r, hr, rfl⟩ := List.mem_map.mp he
  have wl : ∀ w ∈ wrs rows, Pl 1 (.str w) := pl_ws g.nm
  refine .tup 1 _ (fun d hd => ?_) (by show 3 ≤ _; omega)
  simp only [List.mem_cons, List.not_mem_nil, or_false] at hd
  rcases hd with rfl | rfl | rfl
  · exact pl_nm (gr.nm r hr)
  · exact wl _ (gr.inn r hr)
  · rcases gr.dn r hr with h | h
    · rw [h]; exact .lit (by decide +kernel) (by decide +kernel)
    · exact wl _ h.1
theorem due_ok {rows : Rows} {es : List D} {dv : D} {n : Nat} (hp : ∀ e ∈ es, Pl n e) (hl : es.length ≤ 1000) (h : dv = dueF "rights" (rtF rows es)) : okD dv = true := by
  rcases rgD_or (rows := rows) (.inl ⟨es, rfl, hp, hl⟩) with ⟨i, hi⟩ | ⟨hi, _⟩
  · have hi : rtF rows es = .int i := hi
    rw [h, hi]; exact ok_due _ rights_ok i
  · have hi : rtF rows es = .non := hi
    rw [h, hi]; exact non_ok
local macro_rules | `(tactic| walk_at "fl") => `(tactic| rfl)
local macro_rules | `(tactic| walk_at "ix") => `(tactic| first | exact row_ix0 _ | exact row_ix1 _ | assumption)
abbrev N_l_rights_right : List Str := ["_law_bag_here", "_law_rows", "_law_rights_here", "_law_weirs", "_law_river_here", "_law_turn", "_law_spoilt_here", "_law_kept", "_law_due_here", "_law_first", "_law_odd", "_law_weir", "_law_below"]
def tl_l_rights_right_3 : US :=
  (uRet (uOp oEq (uAskN 0 (.non) exc_l_refusal uNil (uMake "Rights" U_Rights__init_ [] (uCons (uVar 4) (uCons (uVar 2) uNil)))) (uCall U_l_due [] (uCons (uC (.str "rights")) (uCons (uCall U_l_wrong_rights [] (uCons (uVar 1) (uCons (uVar 2) uNil))) uNil)))))
def tl_l_rights_right_2 : US :=
  (uSeq (uFor (uISeq (uLst (uCons (uCB oTuple (uCons (uVar 2) uNil)) (uCons (uC .non) (uCons (uOp oIx (uVar 3) (uC (.int 0))) (uCons (uC (.int 0)) uNil)))))) (ugF 10) (uIfS (uB (uOp oNe (uAskN 0 (.non) exc_l_refusal uNil (uMake "Rights" U_Rights__init_ [] (uCons (uVar 4) (uCons (uVar 10) uNil)))) (uTup (uCons (uC (.str "rights")) (uCons (uUn oNeg (uC (.int 1))) (uCons (uC (.bl true)) uNil)))))) (uRet (uC (.bl false))) uNext)) tl_l_rights_right_3)
def tl_l_rights_right_1 : US :=
  (uSeq (uFor (uIRng1 (uCons (uC (.int 2)) uNil)) (ugF 5) (uSeq (uAsg (uCall U_l_spoilt [] (uCons (uVar 0) (uCons (uVar 2) (uCons (uVar 3) uNil)))) (ugF 6))
  (uSeq (uPar false false 7 8 (uCB oList (uCons (uVar 6) uNil)) (uCall U_l_due [] (uCons (uC (.str "rights")) (uCons (uCall U_l_wrong_rights [] (uCons (uVar 1) (uCons (uVar 6) uNil))) uNil))))
  (uSeq (uIfS (uOr (uB (uOp oNe (uAskN 0 (.non) exc_l_refusal uNil (uMake "Rights" U_Rights__init_ [] (uCons (uVar 4) (uCons (uVar 6) uNil)))) (uVar 8))) (uB (uOp oNe (uVar 6) (uVar 7)))) (uRet (uC (.bl false))) uNext)
  (uIfS (uAnd (uB (uOp oNe (uVar 6) (uLst uNil))) (uB (uOp (oIsN id) (uCall U_l_wrong_rights [] (uCons (uVar 1) (uCons (uSl (uVar 6) uNoPart (uPart (uUn oNeg (uC (.int 1))))) uNil))) (uC .non)))) (uSeq (uAsg (uMake "Rights" U_Rights__init_ [] (uCons (uVar 4) (uCons (uSl (uVar 6) uNoPart (uPart (uUn oNeg (uC (.int 1))))) uNil))) (ugF 9))
  (uIfS (uOr (uB (uOp oNe (uAskN 0 (.non) exc_l_refusal uNil (uMeth "Rights" "joined" U_Rights_joined [] (uVar 9) (uCons (uOp oIx (uVar 6) (uUn oNeg (uC (.int 1)))) uNil))) (uVar 8))) (uB (uOp oNe (uCB (oLenOwn "Rights" U_Rights__len_) (uCons (uVar 9) uNil)) (uOp oSub (uCB oLen (uCons (uVar 6) uNil)) (uC (.int 1)))))) (uRet (uC (.bl false))) uNext)) uNext))))) tl_l_rights_right_2)
def u_l_rights_right : US :=
  (uSeq (uPar false false 3 4 (uLc (uISeq (uVar 1)) (ugTup 2 (ugCons (ugF 11) (ugCons (ugF 12) ugNil))) uYes (uVar 11) [11, 12]) (uMake "River" U_River__init_ [] (uCons (uVar 1) uNil))) tl_l_rights_right_1)
def U_l_rights_right : UP := fun ss Q _ => ∃ (b : D) (rows : Rows) (rs : Rts), ss = [.io b, .fz (.lst (rows.map rowD)), .fz (.lst (rs.map rtD))] ∧ isBag b ∧ Good rows ∧ LR rows rs ∧ rs.length ≤ 41 ∧ ∀ b', isBag b' → Q (.fz (.bl true)) [.io b', .fz (.lst (rows.map rowD)), .fz (.lst (rs.map rtD))]
theorem len_l_rights_right {ss : List Sl} {Q : Pv → List Sl → Prop} {X : UX} (h : U_l_rights_right ss Q X) : ss.length = 3 := by obtain ⟨_, _, _, rfl, _⟩ := h; rfl
theorem pure_l_rights_right (ss : List Sl) (Q : Pv → List Sl → Prop) (X : UX) (h : U_l_rights_right ss Q X) : u_l_rights_right (endsU Q X ss.length) (startU N_l_rights_right ss) := by
  obtain ⟨b, rows, rs, rfl, hb, g, gr, h41, k⟩ := h
  show u_l_rights_right { nx := _, rt := retK Q 3, ex := _ } [.io b, .fz (.lst (rows.map rowD)), .fz (.lst (rs.map rtD)), .un, .un, .un, .un, .un, .un, .un, .un, .un, .un]
  unfold u_l_rights_right
  have h1 := g.pos
  have h40 := g.le
  obtain ⟨w0, hw0⟩ : ∃ w0, (wrs rows)[0]? = some w0 := ⟨_, List.getElem?_eq_getElem (by unfold wrs; rw [List.length_map]; omega)⟩
  have hwl : (wrs rows).length = rows.length := by unfold wrs; rw [List.length_map]
  have hpr := pl_rows g.nm
  have hpt := pl_lr g gr
  walk_at "go"
  refine ⟨by rw [List.length_map]; omega, ?_⟩
  refine lc_all (xs := rows) (emb := rowD) (fun r => .str r.1) rfl rfl (fun r hr P N hP => ?_) ?_
  · walk_at "go"
    exact hP
  rw [show rows.map (fun r => D.str r.1) = (wrs rows).map D.str by unfold wrs; rw [List.map_map]; rfl]
  walk_at "go"
  refine ⟨.lst (rows.map rowD), 8, rfl, .inl ⟨_, rfl, fun e he => (hpr e he).mono (by omega), by rw [List.length_map]; omega⟩, by omega, fun r2 e2 g2 => ?_, fun i hi => (rvF_good g hi).elim⟩
  have e3 : rows = r2 := by
    have : rows.map rowD = r2.map rowD := by injection e2
    exact row_inj this
  subst e3
  refine ⟨_, _, rfl, rfl, ?_⟩
  walk_at "bk"
  walk_at "go"
  unfold tl_l_rights_right_1
  walk_at "go"
  refine for_rng (m := 2) (fun j δ => ∃ (b' : D) (x5 x6 x7 x8 x9 : Option D), isBag b' ∧ δ = [.io b', .fz (.lst (rows.map rowD)), .fz (.lst (rs.map rtD)), .fz (.lst ((wrs rows).map .str)), .fz (riverD rows), so x5, so x6, so x7, so x8, so x9, .un, .un, .un]) ⟨b, none, none, none, none, none, hb, rfl⟩ ?_ ?_ (by omega)
  · rintro j δ hj ⟨b', x5, x6, x7, x8, x9, hb', rfl⟩
    walk_at "go"
    refine ⟨b', _, _, rfl, hb', hpt, by rw [List.length_map]; omega, by omega, by omega, pl_ws g.nm, fun b2 es hb2 hel hp => ?_⟩
    rw [List.length_map] at hel
    have oke : okD (.lst es) = true := es_ok hp (by omega)
    walk_at "bk"
    walk_at "go"
    refine ⟨rows, es, 8, rfl, g, hp, by omega, by omega, ?_⟩
    walk_at "bk"
    walk_at "go"
    refine ⟨"rights", _, rfl, ?_⟩
    obtain ⟨dv, hdv⟩ : ∃ dv, dv = dueF "rights" (rtF rows es) := ⟨_, rfl⟩
    rw [← hdv]
    have okdv : okD dv = true := due_ok hp (by omega) hdv
    walk_at "bk"
    walk_at "go"
    refine ⟨[], rfl, rfl, ?_⟩
    walk_at "go"
    refine ⟨rows, _, 8, rfl, g, .inl ⟨_, rfl, hp, by omega⟩, by omega, fun rs2 e2 gr2 => ?_, fun i hi => ?_⟩
    · have e4 : rtF rows es = .non := by
        have : es = rs2.map rtD := by injection e2
        rw [this]; exact rt_good gr2
      have ed : dv = .non := by rw [hdv, e4]; rfl
      refine ⟨_, _, rfl, rfl, ?_⟩
      walk_at "bk"
      walk_at "go"
      refine h_neD (d := .non) (e := dv) rfl rfl non_ok okdv ?_
      rw [show eqD .non dv = true from by rw [ed]; exact non_refl]
      walk_at "go"
      refine h_neD rfl rfl oke oke ?_
      rw [es_refl hp]
      walk_at "go"
      refine h_neD rfl rfl oke ok_eL ?_
      rw [eqL_nil2]
      walk_at "go"
      cases c0 : decide (es.length = 0) with
      | true =>
        walk_at "go"
        exact ⟨b2, some _, some _, some _, some _, x9, hb2, rfl⟩
      | false =>
        have hne : es ≠ [] := fun z => by rw [z] at c0; cases c0
        obtain ⟨e, hes⟩ := last_snoc hne
        have hpp : ∀ x ∈ cutD es Option.none (some (-1)), Pl 8 x := fun x hx => hp x (cutD_mem hx)
        have hpl := cutD_le es Option.none (some (-1))
        have hpe : Pl 8 e := hp e (by rw [hes]; exact List.mem_append_right _ (List.mem_singleton.mpr rfl))
        have hix : ixD (.lst es) (.fz (.int (-1))) = some e := by rw [hes]; exact ix_lastD
        have hlen : es.length = (cutD es Option.none (some (-1))).length + 1 := by
          have := congrArg List.length hes
          rw [List.length_append] at this; exact this
        walk_at "go"
        refine ⟨rows, _, 8, rfl, g, hpp, by omega, by omega, ?_⟩
        walk_at "bk"
        rcases rgD_or (rows := rows) (.inl ⟨_, rfl, hpp, by omega⟩ : ArgD 8 (.lst (cutD es Option.none (some (-1))))) with ⟨i3, hi3⟩ | ⟨hr3, rs3, ed3, gr3⟩
        · rw [show rtF rows (cutD es Option.none (some (-1))) = .int i3 from hi3]
          walk_at "go"
          exact ⟨b2, some _, some _, some _, some _, x9, hb2, rfl⟩
        · rw [show rtF rows (cutD es Option.none (some (-1))) = .non from hr3]
          have ed4 : cutD es Option.none (some (-1)) = rs3.map rtD := by injection ed3
          have hl3 : rs3.length = (cutD es Option.none (some (-1))).length := by rw [ed4, List.length_map]
          walk_at "go"
          refine ⟨rows, _, 8, rfl, g, .inl ⟨_, rfl, hpp, by omega⟩, by omega, fun rs5 e5 gr5 => ?_, fun i hi => ?_⟩
          · have e6 : rs5 = rs3 := by
              have : cutD es Option.none (some (-1)) = rs5.map rtD := by injection e5
              exact rt_inj (this.symm.trans ed4)
            subst e6
            have hes2 : rs5.map rtD ++ [e] = es := by rw [← ed4]; exact hes.symm
            refine ⟨_, _, rfl, rfl, ?_⟩
            walk_at "bk"
            walk_at "go"
            refine ⟨[], rfl, rfl, ?_⟩
            walk_at "go"
            refine ⟨rows, rs5, e, 8, rfl, g, gr3, hpe, by omega, by omega, fun hn p => ?_, fun i hi => ?_⟩
            · rw [hes2] at hn
              have ed : dv = .non := by rw [hdv, hn]; rfl
              walk_at "bk"
              walk_at "go"
              refine h_neD (d := .non) (e := dv) rfl rfl non_ok okdv ?_
              rw [show eqD .non dv = true from by rw [ed]; exact non_refl]
              walk_at "go"
              refine ⟨_, _, rfl, rfl, ?_⟩
              walk_at "go"
              refine ⟨rows, rs5, rfl, ?_⟩
              walk_at "bk"
              refine ⟨_, rfl, by omega, by omega, ?_⟩
              walk_at "go"
              refine iteX (fun hq => ?_) (fun hq => ?_)
              · exfalso
                have : (rs5.length : Int) ≠ (es.length : Int) - 1 := by simpa using hq
                omega
              · walk_at "go"
                exact ⟨b2, some _, some _, some _, some _, some _, hb2, rfl⟩
            · rw [hes2] at hi
              have ed : dv = .tup [.str "rights", .int i, .bl true] := by rw [hdv, hi]; rfl
              refine ⟨_, exc_rights i, ?_⟩
              walk_at "bk"
              walk_at "go"
              refine h_neD rfl rfl (ok_due _ rights_ok i) okdv ?_
              rw [show eqD (.tup [.str "rights", .int i, .bl true]) dv = true from by rw [ed]; exact due_refl _ rights_ok i]
              walk_at "go"
              refine ⟨_, _, rfl, rfl, ?_⟩
              walk_at "go"
              refine ⟨rows, rs5, rfl, ?_⟩
              walk_at "bk"
              refine ⟨_, rfl, by omega, by omega, ?_⟩
              walk_at "go"
              refine iteX (fun hq => ?_) (fun hq => ?_)
              · exfalso
                have : (rs5.length : Int) ≠ (es.length : Int) - 1 := by simpa using hq
                omega
              · walk_at "go"
                exact ⟨b2, some _, some _, some _, some _, some _, hb2, rfl⟩
          · exfalso
            rw [show rgD rows (.lst (cutD es Option.none (some (-1)))) = .non from hr3] at hi
            cases hi
    · have ed : dv = .tup [.str "rights", .int i, .bl true] := by rw [hdv, show rtF rows es = .int i from hi]; rfl
      refine ⟨_, _, rfl, _, exc_rights i, ?_⟩
      walk_at "bk"
      walk_at "go"
      refine h_neD rfl rfl (ok_due _ rights_ok i) okdv ?_
      rw [show eqD (.tup [.str "rights", .int i, .bl true]) dv = true from by rw [ed]; exact due_refl _ rights_ok i]
      walk_at "go"
      refine h_neD rfl rfl oke oke ?_
      rw [es_refl hp]
      walk_at "go"
      refine h_neD rfl rfl oke ok_eL ?_
      rw [eqL_nil2]
      walk_at "go"
      cases c0 : decide (es.length = 0) with
      | true =>
        walk_at "go"
        exact ⟨b2, some _, some _, some _, some _, x9, hb2, rfl⟩
      | false =>
        have hne : es ≠ [] := fun z => by rw [z] at c0; cases c0
        obtain ⟨e, hes⟩ := last_snoc hne
        have hpp : ∀ x ∈ cutD es Option.none (some (-1)), Pl 8 x := fun x hx => hp x (cutD_mem hx)
        have hpl := cutD_le es Option.none (some (-1))
        have hpe : Pl 8 e := hp e (by rw [hes]; exact List.mem_append_right _ (List.mem_singleton.mpr rfl))
        have hix : ixD (.lst es) (.fz (.int (-1))) = some e := by rw [hes]; exact ix_lastD
        have hlen : es.length = (cutD es Option.none (some (-1))).length + 1 := by
          have := congrArg List.length hes
          rw [List.length_append] at this; exact this
        walk_at "go"
        refine ⟨rows, _, 8, rfl, g, hpp, by omega, by omega, ?_⟩
        walk_at "bk"
        rcases rgD_or (rows := rows) (.inl ⟨_, rfl, hpp, by omega⟩ : ArgD 8 (.lst (cutD es Option.none (some (-1))))) with ⟨i3, hi3⟩ | ⟨hr3, rs3, ed3, gr3⟩
        · rw [show rtF rows (cutD es Option.none (some (-1))) = .int i3 from hi3]
          walk_at "go"
          exact ⟨b2, some _, some _, some _, some _, x9, hb2, rfl⟩
        · rw [show rtF rows (cutD es Option.none (some (-1))) = .non from hr3]
          have ed4 : cutD es Option.none (some (-1)) = rs3.map rtD := by injection ed3
          have hl3 : rs3.length = (cutD es Option.none (some (-1))).length := by rw [ed4, List.length_map]
          walk_at "go"
          refine ⟨rows, _, 8, rfl, g, .inl ⟨_, rfl, hpp, by omega⟩, by omega, fun rs5 e5 gr5 => ?_, fun i hi => ?_⟩
          · have e6 : rs5 = rs3 := by
              have : cutD es Option.none (some (-1)) = rs5.map rtD := by injection e5
              exact rt_inj (this.symm.trans ed4)
            subst e6
            have hes2 : rs5.map rtD ++ [e] = es := by rw [← ed4]; exact hes.symm
            refine ⟨_, _, rfl, rfl, ?_⟩
            walk_at "bk"
            walk_at "go"
            refine ⟨[], rfl, rfl, ?_⟩
            walk_at "go"
            refine ⟨rows, rs5, e, 8, rfl, g, gr3, hpe, by omega, by omega, fun hn p => ?_, fun i hi => ?_⟩
            · rw [hes2] at hn
              have ed : dv = .non := by rw [hdv, hn]; rfl
              walk_at "bk"
              walk_at "go"
              refine h_neD (d := .non) (e := dv) rfl rfl non_ok okdv ?_
              rw [show eqD .non dv = true from by rw [ed]; exact non_refl]
              walk_at "go"
              refine ⟨_, _, rfl, rfl, ?_⟩
              walk_at "go"
              refine ⟨rows, rs5, rfl, ?_⟩
              walk_at "bk"
              refine ⟨_, rfl, by omega, by omega, ?_⟩
              walk_at "go"
              refine iteX (fun hq => ?_) (fun hq => ?_)
              · exfalso
                have : (rs5.length : Int) ≠ (es.length : Int) - 1 := by simpa using hq
                omega
              · walk_at "go"
                exact ⟨b2, some _, some _, some _, some _, some _, hb2, rfl⟩
            · rw [hes2] at hi
              have ed : dv = .tup [.str "rights", .int i, .bl true] := by rw [hdv, hi]; rfl
              refine ⟨_, exc_rights i, ?_⟩
              walk_at "bk"
              walk_at "go"
              refine h_neD rfl rfl (ok_due _ rights_ok i) okdv ?_
              rw [show eqD (.tup [.str "rights", .int i, .bl true]) dv = true from by rw [ed]; exact due_refl _ rights_ok i]
              walk_at "go"
              refine ⟨_, _, rfl, rfl, ?_⟩
              walk_at "go"
              refine ⟨rows, rs5, rfl, ?_⟩
              walk_at "bk"
              refine ⟨_, rfl, by omega, by omega, ?_⟩
              walk_at "go"
              refine iteX (fun hq => ?_) (fun hq => ?_)
              · exfalso
                have : (rs5.length : Int) ≠ (es.length : Int) - 1 := by simpa using hq
                omega
              · walk_at "go"
                exact ⟨b2, some _, some _, some _, some _, some _, hb2, rfl⟩
          · exfalso
            rw [show rgD rows (.lst (cutD es Option.none (some (-1)))) = .non from hr3] at hi
            cases hi
  · rintro δ ⟨b', x5, x6, x7, x8, x9, hb', rfl⟩
    unfold tl_l_rights_right_2
    have hx0 : ixD (.lst ((wrs rows).map D.str)) (.fz (.int 0)) = some (.str w0) := ix_nat (j := 0) (by rw [List.getElem?_map, hw0]; rfl)
    walk_at "go"
    refine for_N (fun j δ => ∃ (xa : Option D), δ = [.io b', .fz (.lst (rows.map rowD)), .fz (.lst (rs.map rtD)), .fz (.lst ((wrs rows).map .str)), .fz (riverD rows), so x5, so x6, so x7, so x8, so x9, so xa, .un, .un]) ⟨none, rfl⟩ ?_ ?_
    · rintro j d δ hd ⟨xa, rfl⟩
      have hm : d ∈ [D.tup (rs.map rtD), D.non, D.str w0, D.int 0] := List.mem_of_getElem? hd
      have ha : ArgD 8 d ∧ rgD rows d = .int (-1) := by
        simp only [List.mem_cons, List.not_mem_nil, or_false] at hm
        rcases hm with rfl | rfl | rfl | rfl
        all_goals exact ⟨.inr ⟨rfl, _, rfl⟩, rfl⟩
      walk_at "go"
      refine ⟨[], rfl, rfl, ?_⟩
      walk_at "go"
      refine ⟨rows, d, 8, rfl, g, ha.1, by omega, fun r2 e2 g2 => ?_, fun i hi => ?_⟩
      · exfalso
        have := ha.2
        rw [e2] at this
        have e5 : rtF rows (r2.map rtD) = .int (-1) := this
        rw [rt_good g2] at e5
        cases e5
      · have ei : i = -1 := by rw [ha.2] at hi; injection hi with hi; exact hi.symm
        subst ei
        refine ⟨_, _, rfl, _, exc_rights _, ?_⟩
        walk_at "bk"
        walk_at "go"
        refine h_neD rfl rfl (ok_due _ rights_ok _) (ok_due _ rights_ok _) ?_
        rw [due_refl _ rights_ok]
        walk_at "go"
        exact ⟨some _, rfl⟩
    · rintro δ ⟨xa, rfl⟩
      unfold tl_l_rights_right_3
      walk_at "go"
      refine ⟨[], rfl, rfl, ?_⟩
      walk_at "go"
      have hpt8 : ∀ e ∈ rs.map rtD, Pl 8 e := fun e he => (hpt e he).mono (by omega)
      refine ⟨rows, .lst (rs.map rtD), 8, rfl, g, .inl ⟨_, rfl, hpt8, by rw [List.length_map]; omega⟩, by omega, fun r2 e2 g2 => ?_, fun i hi => ?_⟩
      · have e3 : rs.map rtD = r2.map rtD := by injection e2
        have e4 : rtF rows (rs.map rtD) = .non := by rw [e3]; exact rt_good g2
        refine ⟨_, _, rfl, rfl, ?_⟩
        walk_at "bk"
        walk_at "go"
        refine ⟨rows, _, 8, rfl, g, hpt8, by omega, by rw [List.length_map]; omega, ?_⟩
        walk_at "bk"
        walk_at "go"
        refine ⟨"rights", _, rfl, ?_⟩
        rw [e4]
        walk_at "bk"
        refine h_eqD (d := .non) (e := .non) rfl rfl non_ok non_ok ?_
        rw [non_refl]
        walk_at "go"
        exact k b' hb'
      · have e4 : rtF rows (rs.map rtD) = .int i := hi
        refine ⟨_, _, rfl, _, exc_rights i, ?_⟩
        walk_at "bk"
        walk_at "go"
        refine ⟨rows, _, 8, rfl, g, hpt8, by omega, by rw [List.length_map]; omega, ?_⟩
        walk_at "bk"
        walk_at "go"
        refine ⟨"rights", _, rfl, ?_⟩
        rw [e4, due_int]
        walk_at "bk"
        refine h_eqD rfl rfl (ok_due _ rights_ok i) (ok_due _ rights_ok i) ?_
        rw [due_refl _ rights_ok]
        walk_at "go"
        exact k b' hb'
end
section
theorem good_a : Good [(("a" : Str), ("sea" : Str))] := by
  refine ⟨by simp, by simp, fun r hr => ?_, fun r hr => ?_, by unfold wrs; simp, fun r hr => ?_, fun _ => 0, fun r hr => ?_⟩
  · rw [List.mem_singleton.mp hr]; exact ⟨by decide +kernel, by decide +kernel⟩
  · rw [List.mem_singleton.mp hr]; decide +kernel
  · rw [List.mem_singleton.mp hr]; exact .inl rfl
  · rw [List.mem_singleton.mp hr]; exact ⟨by simp, fun n => absurd rfl n⟩
local macro_rules | `(tactic| walk_at "fl") => `(tactic| rfl)
local macro_rules | `(tactic| walk_at "ix") => `(tactic| first | exact row_ix0 _ | exact row_ix1 _ | assumption)
abbrev N_l_words_right : List Str := ["_law_bag_here", "_law_word", "_law_turn", "_law_odd", "_law_told"]
def u_l_words_right : US :=
  (uSeq (uFor (uIRng1 (uCons (uC (.int 6)) uNil)) (ugF 2) (uSeq (uAsg (uCall U_l_bad_word [] (uCons (uVar 0) (uCons (uVar 1) uNil))) (ugF 3))
  (uSeq (uAsg (uCall U_is_name [] (uCons (uVar 3) uNil)) (ugF 4))
  (uIfS (uOr (uNot (uB (uCB oIsi (uCons (uVar 4) (uCons (uC (.ty "bool")) uNil))))) (uB (uOp oNe (uVar 4) (uCall U_l_is_name [] (uCons (uVar 3) uNil))))) (uRet (uC (.bl false))) uNext))))
  (uRet (uAndV (uOp (oIsB id) (uCall U_is_name [] (uCons (uVar 1) uNil)) (uC (.bl true))) (uOp (oIsB id) (uCall U_is_name [] (uCons (uC (.str "sea")) uNil)) (uC (.bl true))))))
def U_l_words_right : UP := fun ss Q _ => ∃ (b : D) (z : Str), ss = [.io b, .fz (.str z)] ∧ isBag b ∧ isName z = true ∧ ∀ b', isBag b' → Q (.fz (.bl true)) [.io b', .fz (.str z)]
theorem len_l_words_right {ss : List Sl} {Q : Pv → List Sl → Prop} {X : UX} (h : U_l_words_right ss Q X) : ss.length = 2 := by obtain ⟨_, _, rfl, _⟩ := h; rfl
theorem pure_l_words_right (ss : List Sl) (Q : Pv → List Sl → Prop) (X : UX) (h : U_l_words_right ss Q X) : u_l_words_right (endsU Q X ss.length) (startU N_l_words_right ss) := by
  obtain ⟨b, z, rfl, hb, hz, k⟩ := h
  show u_l_words_right { nx := _, rt := retK Q 2, ex := _ } [.io b, .fz (.str z), .un, .un, .un]
  unfold u_l_words_right
  have hzp := pl_nm hz
  have hzl := isName_len hz
  walk_at "go"
  refine for_rng (m := 6) (fun j δ => ∃ (b' : D) (x2 x3 x4 : Option D), isBag b' ∧ δ = [.io b', .fz (.str z), so x2, so x3, so x4]) ⟨b, none, none, none, hb, rfl⟩ ?_ ?_ (by omega)
  · rintro j δ hj ⟨b', x2, x3, x4, hb', rfl⟩
    walk_at "go"
    refine ⟨b', z, 1, rfl, hb', hzp, by omega, fun b2 d hb2 hd => ?_⟩
    obtain ⟨Td, td, _⟩ := hd.ty
    walk_at "bk"
    walk_at "go"
    refine ⟨d, Td, rfl, td, hd.z9 (by omega), ?_⟩
    walk_at "bk"
    walk_at "go"
    refine ⟨d, Td, rfl, td, hd.z9 (by omega), ?_⟩
    walk_at "bk"
    cases nameD d with
    | true =>
      walk_at "go"
      exact ⟨b2, some _, some _, some _, hb2, rfl⟩
    | false =>
      walk_at "go"
      exact ⟨b2, some _, some _, some _, hb2, rfl⟩
  · rintro δ ⟨b', x2, x3, x4, hb', rfl⟩
    walk_at "go"
    refine ⟨.str z, _, rfl, rfl, fun z2 e => by cases e; omega, ?_⟩
    rw [show nameD (.str z) = true from hz]
    walk_at "bk"
    walk_at "go"
    refine h_isB ?_
    walk_at "go"
    refine ⟨.str "sea", _, rfl, rfl, fun z2 e => by cases e; decide +kernel, ?_⟩
    rw [show nameD (.str "sea") = true from sea_name]
    walk_at "bk"
    walk_at "go"
    refine h_isB ?_
    walk_at "go"
    exact k b' hb'
abbrev N_law : List Str := ["_law_script", "_law_at", "_law_bag_here", "_law_rows", "_law_rights_here"]
def tl_law_1 : US :=
  (uRet (uC (.bl true)))
def u_law : US :=
  (uSeq (uFor (uIRng1 (uCons (uCB oMx2 (uCons (uC (.int 1)) (uCons (uCB oMn2 (uCons (uC (.int 3)) (uCons (uCB oLen (uCons (uVar 0) uNil)) uNil))) uNil))) uNil)) (ugF 1) (uSeq (uAsg (uCall U_l_bag [] (uCons (uVar 0) (uCons (uVar 1) (uCons (uC (.int 4814017)) uNil)))) (ugO 2))
  (uSeq (uAsg (uCall U_l_river [] (uCons (uVar 2) (uCons (uCall U_l_of [] (uCons (uVar 2) (uCons (uLst (uCons (uC (.int 1)) (uCons (uC (.int 2)) (uCons (uC (.int 2)) (uCons (uC (.int 3)) (uCons (uC (.int 3)) (uCons (uC (.int 4)) (uCons (uC (.int 4)) (uCons (uC (.int 5)) (uCons (uC (.int 5)) (uCons (uC (.int 6)) (uCons (uC (.int 6)) (uCons (uC (.int 40)) (uCons (uC (.int 41)) uNil)))))))))))))) uNil))) uNil))) (ugF 3))
  (uSeq (uIfS (uOr (uNot (uB (uCall U_l_rivers_right [] (uCons (uVar 2) (uCons (uVar 3) uNil))))) (uNot (uB (uCall U_l_words_right [] (uCons (uVar 2) (uCons (uOp oIx (uOp oIx (uVar 3) (uC (.int 0))) (uC (.int 0))) uNil)))))) (uRet (uC (.bl false))) uNext)
  (uSeq (uAsg (uIf (uB (uOp oLt (uCB oLen (uCons (uVar 3) uNil)) (uC (.int 41)))) (uVar 3) (uLst (uCons (uTup (uCons (uC (.str "a")) (uCons (uC (.str "sea")) uNil))) uNil))) (ugF 3))
  (uSeq (uAsg (uCall U_l_rights [] (uCons (uVar 2) (uCons (uVar 3) (uCons (uCall U_l_of [] (uCons (uVar 2) (uCons (uLst (uCons (uC (.int 0)) (uCons (uC (.int 1)) (uCons (uC (.int 2)) (uCons (uC (.int 2)) (uCons (uC (.int 3)) (uCons (uC (.int 3)) (uCons (uC (.int 4)) (uCons (uC (.int 4)) (uCons (uC (.int 5)) (uCons (uC (.int 6)) (uCons (uC (.int 40)) (uCons (uC (.int 41)) uNil))))))))))))) uNil))) uNil)))) (ugF 4))
  (uIfS (uNot (uB (uCall U_l_rights_right [] (uCons (uVar 2) (uCons (uVar 3) (uCons (uVar 4) uNil)))))) (uRet (uC (.bl false))) uNext))))))) tl_law_1)
def U_law : UP := fun ss Q _ => ∃ (xs : List Int), ss = [.fz (.scr xs)] ∧ xs.length ≤ 100000 ∧ Q (.fz (.bl true)) ss
theorem len_law {ss : List Sl} {Q : Pv → List Sl → Prop} {X : UX} (h : U_law ss Q X) : ss.length = 1 := by obtain ⟨_, rfl, _⟩ := h; rfl
theorem pure_law (ss : List Sl) (Q : Pv → List Sl → Prop) (X : UX) (h : U_law ss Q X) : u_law (endsU Q X ss.length) (startU N_law ss) := by
  obtain ⟨xs, rfl, hx, k⟩ := h
  show u_law { nx := _, rt := retK Q 1, ex := fun x δ => X x (δ.take 1) } [.fz (.scr xs), .un, .un, .un, .un]
  unfold u_law
  walk_at "go"
  have hm : ∃ m : Nat, m ≤ 3 ∧ (if (if (xs.length : Int) < 3 then (xs.length : Int) else 3) > 1 then (if (xs.length : Int) < 3 then (xs.length : Int) else 3) else 1) = (m : Int) := by
    split <;> split
    all_goals first | exact ⟨xs.length, by omega, rfl⟩ | exact ⟨3, by omega, rfl⟩ | exact ⟨1, by omega, rfl⟩
  obtain ⟨m, hm3, em⟩ := hm
  rw [em]
  refine for_rng (m := m) (fun i δ => ∃ (u1 u3 u4 : Option D) (b2 : Option (Bool × D)), δ = [.fz (.scr xs), so u1, soO b2, so u3, so u4]) ⟨none, none, none, none, rfl⟩ ?_ ?_ (by omega)
  · rintro i δ hi ⟨u1, u3, u4, b2, rfl⟩
    walk_at "go"
    refine ⟨xs, (i : Nat), 4814017, rfl, by omega, by omega, by omega, by decide, fun b hb => ?_⟩
    walk_at "bk"
    walk_at "go"
    refine ⟨b, _, _, rfl, .inl rfl, hb, by simp, by simp, fun b1 dm hb1 hdm => ?_⟩
    obtain ⟨q, rfl, hq1, hq2⟩ : ∃ q : Nat, dm = .int (q : Nat) ∧ 1 ≤ q ∧ q ≤ 41 := by
      simp only [List.mem_cons, List.not_mem_nil, or_false] at hdm
      rcases hdm with rfl | rfl | rfl | rfl | rfl | rfl | rfl | rfl | rfl | rfl | rfl | rfl | rfl
      all_goals first | exact ⟨1, rfl, by omega, by omega⟩ | exact ⟨2, rfl, by omega, by omega⟩ | exact ⟨3, rfl, by omega, by omega⟩ | exact ⟨4, rfl, by omega, by omega⟩ | exact ⟨5, rfl, by omega, by omega⟩ | exact ⟨6, rfl, by omega, by omega⟩ | exact ⟨40, rfl, by omega, by omega⟩ | exact ⟨41, rfl, by omega, by omega⟩
    walk_at "bk"
    walk_at "go"
    refine ⟨b1, q, rfl, hb1, hq1, hq2, fun b2 rows hb2 hrl hg nm => ?_⟩
    walk_at "bk"
    walk_at "go"
    refine ⟨b2, rows, rfl, hb2, by omega, by omega, nm, fun b3 hb3 => ?_⟩
    obtain ⟨r0, hr0⟩ : ∃ r0, rows[0]? = some r0 := ⟨_, List.getElem?_eq_getElem (by omega)⟩
    have hx0 : ixD (.lst (rows.map rowD)) (.fz (.int 0)) = some (rowD r0) := ix_nat (j := 0) (by rw [List.getElem?_map, hr0]; rfl)
    walk_at "bk"
    walk_at "go"
    refine ⟨b3, r0.1, rfl, hb3, (nm r0 (List.mem_of_getElem? hr0)).1, fun b4 hb4 => ?_⟩
    walk_at "bk"
    walk_at "go"
    refine iteX (fun hc => ?_) (fun hc => ?_)
    · have g2 : Good rows := hg (by have := of_decide_eq_true hc; rw [List.length_map] at this; omega)
      walk_at "go"
      refine ⟨b4, _, _, rfl, .inl rfl, hb4, by simp, by simp, fun b5 dm2 hb5 hdm2 => ?_⟩
      obtain ⟨m2, rfl, hm2⟩ : ∃ m2 : Nat, dm2 = .int (m2 : Nat) ∧ m2 ≤ 41 := by
        simp only [List.mem_cons, List.not_mem_nil, or_false] at hdm2
        rcases hdm2 with rfl | rfl | rfl | rfl | rfl | rfl | rfl | rfl | rfl | rfl | rfl | rfl
        all_goals first | exact ⟨0, rfl, by omega⟩ | exact ⟨1, rfl, by omega⟩ | exact ⟨2, rfl, by omega⟩ | exact ⟨3, rfl, by omega⟩ | exact ⟨4, rfl, by omega⟩ | exact ⟨5, rfl, by omega⟩ | exact ⟨6, rfl, by omega⟩ | exact ⟨40, rfl, by omega⟩ | exact ⟨41, rfl, by omega⟩
      walk_at "bk"
      walk_at "go"
      refine ⟨b5, rows, m2, rfl, hb5, g2, hm2, fun b6 rs hb6 lr hrl => ?_⟩
      walk_at "bk"
      walk_at "go"
      refine ⟨b6, rows, rs, rfl, hb6, g2, lr, by omega, fun b7 hb7 => ?_⟩
      walk_at "bk"
      walk_at "go"
      exact ⟨some _, some _, some _, some (true, _), rfl⟩
    · walk_at "go"
      refine ⟨b4, _, _, rfl, .inl rfl, hb4, by simp, by simp, fun b5 dm2 hb5 hdm2 => ?_⟩
      obtain ⟨m2, rfl, hm2⟩ : ∃ m2 : Nat, dm2 = .int (m2 : Nat) ∧ m2 ≤ 41 := by
        simp only [List.mem_cons, List.not_mem_nil, or_false] at hdm2
        rcases hdm2 with rfl | rfl | rfl | rfl | rfl | rfl | rfl | rfl | rfl | rfl | rfl | rfl
        all_goals first | exact ⟨0, rfl, by omega⟩ | exact ⟨1, rfl, by omega⟩ | exact ⟨2, rfl, by omega⟩ | exact ⟨3, rfl, by omega⟩ | exact ⟨4, rfl, by omega⟩ | exact ⟨5, rfl, by omega⟩ | exact ⟨6, rfl, by omega⟩ | exact ⟨40, rfl, by omega⟩ | exact ⟨41, rfl, by omega⟩
      walk_at "bk"
      walk_at "go"
      refine ⟨b5, ([(("a" : Str), ("sea" : Str))]), m2, rfl, hb5, good_a, hm2, fun b6 rs hb6 lr hrl => ?_⟩
      walk_at "bk"
      walk_at "go"
      refine ⟨b6, ([(("a" : Str), ("sea" : Str))]), rs, rfl, hb6, good_a, lr, by omega, fun b7 hb7 => ?_⟩
      walk_at "bk"
      walk_at "go"
      exact ⟨some _, some _, some _, some (true, _), rfl⟩
  · rintro δ ⟨u1, u3, u4, b2, rfl⟩
    unfold tl_law_1
    walk_at "go"
    exact k
end
end WK
namespace WK
open PySem L2
abbrev NAS : List (Str × Str) := [("River", "weirs"), ("River", "lower"), ("River", "courses"), ("Rights", "river"), ("Rights", "names"), ("Rights", "entries"), ("Rights", "ways"), ("Rights", "stops")]
abbrev KS : List (Str × V) := [("LETTERS", (.str "abcdefghijklmnopqrstuvwxyz")), ("MOST_WEIRS", (.int 40)), ("MOST_RIGHTS", (.int 40))]
abbrev ITS : List (Str × Str) := []
abbrev s_l_bag : Stmt := top 24
theorem sc_l_bag : FnScope N_l_bag ["_law_script", "_law_at", "_law_salt"] (defScope s_l_bag) := ⟨rfl, rfl, rfl, by decide +kernel, rfl, by decide +kernel, by decide +kernel⟩
theorem ok_l_bag {P : Program} {w : World} {K : PySem.W.Frag} {mg : Str → Option Value} {base : Heap} {f : Addr} {fd : FuncData} {T : List (Addr × Str)} (F : FunD K "_law_bag" "_law_bag" (defArgs s_l_bag) (defBody s_l_bag) (defScope s_l_bag) [] [] f fd) (B : Bf mg) (G : GF2 K mg CS NAS KS ITS)  :
    FnOk P w K mg base (L2.CX P w) 1 f fd ["_law_script", "_law_at", "_law_salt"] (SpU K T U_l_bag) := by
  refine F.ok sc_l_bag (fun vs H Q E h => spu_len (fun _ _ _ => len_l_bag) h) (fun cdv A outer s H vs Q E hr h => ?_)
  have hu := hu_of hr
  have hu65 := hu65_of hr
  have hu0 := hr.units
  have hu00 := Nat.lt_of_le_of_lt (Nat.le_add_right _ _) hu0
  exact ⟨_, (pss_cons (ps_set (i := 3) sc_l_bag.nd rfl (Or.inl rfl) (pe_ifExp (pt_cmpR op_lt (pv 1) (pe_callB cr_lenR (by rfl) B.len bt_len (pa_cons (pv 0) pa_nil)) (nomark _)) (pe_ix (ix_U hu) (pv 0) (pv 1) (fun _ _ => rfl)) pe_int))
  (pss_cons (ps_set (i := 4) sc_l_bag.nd rfl (Or.inl rfl) (pe_op op_addU (pv 2) (pe_op op_mul pe_int (pv 1))))
  (pss_cons (ps_for (passes_of rfl) rfl (pi_enum rfl B.enumerate (pa_cons (pe_slice sl_U (pv 0) po_none (po_some pe_int)) pa_nil)) (pg_tup rfl (pgs_cons (pg_name (i := 5) sc_l_bag.nd rfl (Or.inl rfl)) (pgs_cons (pg_name (i := 6) sc_l_bag.nd rfl (Or.inl rfl)) pgs_nil))) (pss_one (ps_set (i := 4) sc_l_bag.nd rfl (Or.inl rfl) (pe_op op_mod (pe_callTy call_int1 (by rfl) B.int bt_int (pa_cons (pe_op op_addU (pe_op op_addU (pe_op op_addU (pe_op op_mul (pv 4) pe_int) (pe_op op_mod (pe_callTy call_int1 (by rfl) B.int bt_int (pa_cons (pv 6) pa_nil)) pe_int)) (pe_op op_mul pe_int (pv 5))) pe_int) pa_nil)) pe_int))))
  (pss_one (ps_ret (pe_lst (pa_cons (pe_ifExp (pt_cmpR op_ge (pe_callB call_abs (by rfl) B.abs bt_abs (pa_cons (pv 3) pa_nil)) (pe_op op_pow pe_int pe_int) (nomark _)) (pe_callB call_abs (by rfl) B.abs bt_abs (pa_cons (pv 3) pa_nil)) pe_int) (pa_cons (pv 4) pa_nil)))))))),
    spu_body (N := N_l_bag) (u := u_l_bag) (fun _ _ _ h => by rw [len_l_bag h]; decide) pure_l_bag (fun H0 G0 P0 => (tr_seq (tr_asg (tr_if (tr_test (tr_op tr_I0b tr_var (tr_cb tr_len (tr_cons tr_var tr_nil)))) (tr_op tr_ix tr_var tr_var) tr_int) tr_gF)
  (tr_seq (tr_asg (tr_op tr_add tr_var (tr_op tr_Ii tr_int tr_var)) tr_gF)
  (tr_seq (tr_for (tr_ienum (tr_cons (tr_sl tr_var tr_noPart (tr_part tr_int)) tr_nil)) (tr_gtup (tr_gcons tr_gF (tr_gcons tr_gF tr_gnil))) (tr_asg (tr_op tr_Ii (tr_cb tr_int1 (tr_cons (tr_op tr_add (tr_op tr_add (tr_op tr_add (tr_op tr_Ii tr_var tr_int) (tr_op tr_Ii (tr_cb tr_int1 (tr_cons tr_var tr_nil)) tr_int)) (tr_op tr_Ii tr_int tr_var)) tr_int) tr_nil)) tr_int) tr_gF))
  (tr_ret (tr_lst (tr_cons (tr_if (tr_test (tr_op tr_I0b (tr_cb tr_abs (tr_cons tr_var tr_nil)) (tr_op tr_Ii tr_int tr_int))) (tr_cb tr_abs (tr_cons tr_var tr_nil)) tr_int) (tr_cons tr_var tr_nil)))))))) h⟩
abbrev s_l_take : Stmt := top 25
theorem sc_l_take : FnScope N_l_take ["_law_bag_here", "_law_many"] (defScope s_l_take) := ⟨rfl, rfl, rfl, by decide +kernel, rfl, by decide +kernel, by decide +kernel⟩
theorem ok_l_take {P : Program} {w : World} {K : PySem.W.Frag} {mg : Str → Option Value} {base : Heap} {f : Addr} {fd : FuncData} {T : List (Addr × Str)} (F : FunD K "_law_take" "_law_take" (defArgs s_l_take) (defBody s_l_take) (defScope s_l_take) [] [] f fd) (B : Bf mg) (G : GF2 K mg CS NAS KS ITS)  :
    FnOk P w K mg base (L2.CX P w) 1 f fd ["_law_bag_here", "_law_many"] (SpU K T U_l_take) := by
  refine F.ok sc_l_take (fun vs H Q E h => spu_len (fun _ _ _ => len_l_take) h) (fun cdv A outer s H vs Q E hr h => ?_)
  have hu := hu_of hr
  have hu65 := hu65_of hr
  have hu0 := hr.units
  have hu00 := Nat.lt_of_le_of_lt (Nat.le_add_right _ _) hu0
  exact ⟨_, (pss_cons (ps_if (pt_cmpR op_gt (pe_ix (ix_U hu) (pv 0) pe_int (fun _ _ => rfl)) pe_int (nomark _)) (pss_cons (ps_set (i := 2) sc_l_take.nd rfl (Or.inl rfl) (pe_op op_mod (pe_callTy call_int1 (by rfl) B.int bt_int (pa_cons (pe_ix (ix_U hu) (pv 0) pe_int (fun _ _ => rfl)) pa_nil)) (pv 1)))
  (pss_cons (ps_asg (pe_op op_fdivW (pe_ix (ix_U hu) (pv 0) pe_int (fun _ _ => rfl)) (pv 1)) (pg_sub (pv 0) pe_int (set_U hu)))
  (pss_one (ps_ret (pv 2))))) pss_nil)
  (pss_cons (ps_asg (pe_op op_mod (pe_callTy call_int1 (by rfl) B.int bt_int (pa_cons (pe_op op_addU (pe_op op_mul (pe_ix (ix_U hu) (pv 0) pe_int (fun _ _ => rfl)) pe_int) pe_int) pa_nil)) pe_int) (pg_sub (pv 0) pe_int (set_U hu)))
  (pss_one (ps_ret (pe_op op_mod (pe_op op_fdiv (pe_op op_mod (pe_callTy call_int1 (by rfl) B.int bt_int (pa_cons (pe_op op_mul (pe_op op_fdiv (pe_ix (ix_U hu) (pv 0) pe_int (fun _ _ => rfl)) pe_int) pe_int) pa_nil)) pe_int) pe_int) (pv 1)))))),
    spu_body (N := N_l_take) (u := u_l_take) (fun _ _ _ h => by rw [len_l_take h]; decide) pure_l_take (fun H0 G0 P0 => (tr_seq (tr_ifS (tr_test (tr_op tr_I0b (tr_op tr_ix tr_var tr_int) tr_int)) (tr_seq (tr_asg (tr_op tr_Ii (tr_cb tr_int1 (tr_cons (tr_op tr_ix tr_var tr_int) tr_nil)) tr_var) tr_gF)
  (tr_seq (tr_setI (tr_op tr_Ii (tr_op tr_ix tr_var tr_int) tr_var) tr_var tr_int)
  (tr_ret tr_var))) tr_next)
  (tr_seq (tr_setI (tr_op tr_Ii (tr_cb tr_int1 (tr_cons (tr_op tr_add (tr_op tr_Ii (tr_op tr_ix tr_var tr_int) tr_int) tr_int) tr_nil)) tr_int) tr_var tr_int)
  (tr_ret (tr_op tr_Ii (tr_op tr_Ii (tr_op tr_Ii (tr_cb tr_int1 (tr_cons (tr_op tr_Ii (tr_op tr_Ii (tr_op tr_ix tr_var tr_int) tr_int) tr_int) tr_nil)) tr_int) tr_int) tr_var))))) h⟩
abbrev s_l_of : Stmt := top 26
theorem sc_l_of : FnScope N_l_of ["_law_bag_here", "_law_some"] (defScope s_l_of) := ⟨rfl, rfl, rfl, by decide +kernel, rfl, by decide +kernel, by decide +kernel⟩
theorem ok_l_of {P : Program} {w : World} {K : PySem.W.Frag} {mg : Str → Option Value} {base : Heap} {f : Addr} {fd : FuncData} {T : List (Addr × Str)} (F : FunD K "_law_of" "_law_of" (defArgs s_l_of) (defBody s_l_of) (defScope s_l_of) [] [] f fd) (B : Bf mg) (G : GF2 K mg CS NAS KS ITS) (c_l_take : Cal P w K mg base 1 "_law_take" ["_law_bag_here", "_law_many"] (SpU K T U_l_take)) :
    FnOk P w K mg base (L2.CX P w) 2 f fd ["_law_bag_here", "_law_some"] (SpU K T U_l_of) := by
  refine F.ok sc_l_of (fun vs H Q E h => spu_len (fun _ _ _ => len_l_of) h) (fun cdv A outer s H vs Q E hr h => ?_)
  have hu := hu_of hr
  have hu65 := hu65_of hr
  have hu0 := hr.units
  have hu00 := Nat.lt_of_le_of_lt (Nat.le_add_right _ _) hu0
  exact ⟨_, (pss_one (ps_ret (pe_ix (ix_U hu) (pv 1) (pe_calS c_l_take (hr.mono (by decide)) rfl (takes_of rfl rfl rfl rfl) (pa_cons (pv 0) (pa_cons (pe_callB cr_lenR (by rfl) B.len bt_len (pa_cons (pv 1) pa_nil)) pa_nil))) (fun _ _ => rfl)))),
    spu_body (N := N_l_of) (u := u_l_of) (fun _ _ _ h => by rw [len_l_of h]; decide) pure_l_of (fun H0 G0 P0 => (tr_ret (tr_op tr_ix tr_var (tr_callS (tr_cons tr_var (tr_cons (tr_cb tr_len (tr_cons tr_var tr_nil)) tr_nil)))))) h⟩
abbrev s_l_mixed : Stmt := top 27
theorem sc_l_mixed : FnScope N_l_mixed ["_law_bag_here", "_law_some"] (defScope s_l_mixed) := ⟨rfl, rfl, rfl, by decide +kernel, rfl, by decide +kernel, by decide +kernel⟩
theorem ok_l_mixed {P : Program} {w : World} {K : PySem.W.Frag} {mg : Str → Option Value} {base : Heap} {f : Addr} {fd : FuncData} {T : List (Addr × Str)} (F : FunD K "_law_mixed" "_law_mixed" (defArgs s_l_mixed) (defBody s_l_mixed) (defScope s_l_mixed) [] [] f fd) (B : Bf mg) (G : GF2 K mg CS NAS KS ITS) (c_l_take : Cal P w K mg base 1 "_law_take" ["_law_bag_here", "_law_many"] (SpU K T U_l_take)) :
    FnOk P w K mg base (L2.CX P w) 2 f fd ["_law_bag_here", "_law_some"] (SpU K T U_l_mixed) := by
  refine F.ok sc_l_mixed (fun vs H Q E h => spu_len (fun _ _ _ => len_l_mixed) h) (fun cdv A outer s H vs Q E hr h => ?_)
  have hu := hu_of hr
  have hu65 := hu65_of hr
  have hu0 := hr.units
  have hu00 := Nat.lt_of_le_of_lt (Nat.le_add_right _ _) hu0
  exact ⟨_, (pss_cons (ps_par (i := 2) (j := 3) (by rfl) sc_l_mixed.nd rfl rfl (by decide) rfl rfl (pa_cons (pe_callTy (cr_listU rfl) (by rfl) B.list bt_list (pa_cons (pv 1) pa_nil)) (pa_cons (pe_lst pa_nil) pa_nil)) (by rfl))
  (pss_cons (ps_for (passes_of rfl) rfl (pi_range1 rfl B.range (pa_cons (pe_callB cr_lenR (by rfl) B.len bt_len (pa_cons (pv 1) pa_nil)) pa_nil)) (pg_name (i := 4) sc_l_mixed.nd rfl (Or.inl rfl)) (pss_one (ps_expr (pe_bm PySem.F.plainAttrs_list PySem.F.slot_list_append PySem.F.type_list_append mt_append (pv 3) (pa_cons (pe_bm PySem.F.plainAttrs_list PySem.F.slot_list_pop PySem.F.type_list_pop mt_popAt (pv 2) (pa_cons (pe_calS c_l_take (hr.mono (by decide)) rfl (takes_of rfl rfl rfl rfl) (pa_cons (pv 0) (pa_cons (pe_callB cr_lenR (by rfl) B.len bt_len (pa_cons (pv 2) pa_nil)) pa_nil))) pa_nil)) pa_nil)))))
  (pss_one (ps_ret (pv 3))))),
    spu_body (N := N_l_mixed) (u := u_l_mixed) (fun _ _ _ h => by rw [len_l_mixed h]; decide) pure_l_mixed (fun H0 G0 P0 => (tr_seq (tr_par (tr_cb tr_list (tr_cons tr_var tr_nil)) (tr_lst tr_nil))
  (tr_seq (tr_for (tr_irng1 (tr_cons (tr_cb tr_len (tr_cons tr_var tr_nil)) tr_nil)) tr_gF (tr_drop (tr_bm tr_app tr_var (tr_cons (tr_bm tr_popAt tr_var (tr_cons (tr_callS (tr_cons tr_var (tr_cons (tr_cb tr_len (tr_cons tr_var tr_nil)) tr_nil))) tr_nil)) tr_nil))))
  (tr_ret tr_var)))) h⟩
abbrev s_l_names : Stmt := top 28
theorem sc_l_names : FnScope N_l_names ["_law_bag_here", "_law_many"] (defScope s_l_names) := ⟨rfl, rfl, rfl, by decide +kernel, rfl, by decide +kernel, by decide +kernel⟩
theorem ok_l_names {P : Program} {w : World} {K : PySem.W.Frag} {mg : Str → Option Value} {base : Heap} {f : Addr} {fd : FuncData} {T : List (Addr × Str)} (F : FunD K "_law_names" "_law_names" (defArgs s_l_names) (defBody s_l_names) (defScope s_l_names) [] [] f fd) (B : Bf mg) (G : GF2 K mg CS NAS KS ITS) (c_l_of : Cal P w K mg base 2 "_law_of" ["_law_bag_here", "_law_some"] (SpU K T U_l_of)) (c_l_take : Cal P w K mg base 1 "_law_take" ["_law_bag_here", "_law_many"] (SpU K T U_l_take)) :
    FnOk P w K mg base (L2.CX P w) 3 f fd ["_law_bag_here", "_law_many"] (SpU K T U_l_names) := by
  refine F.ok sc_l_names (fun vs H Q E h => spu_len (fun _ _ _ => len_l_names) h) (fun cdv A outer s H vs Q E hr h => ?_)
  have hu := hu_of hr
  have hu65 := hu65_of hr
  have hu0 := hr.units
  have hu00 := Nat.lt_of_le_of_lt (Nat.le_add_right _ _) hu0
  exact ⟨_, (pss_cons (ps_set (i := 2) sc_l_names.nd rfl (Or.inr rfl) pe_str)
  (pss_cons (ps_set (i := 3) sc_l_names.nd rfl (Or.inl rfl) (pe_bm PySem.F.plainAttrs_str PySem.F.slot_str_join PySem.F.type_str_join mt_joinU pe_str (pa_cons (pe_lc (own := [("_law_k", 7)]) (g := (gName 7)) (tt := tYes) (te := (tOp (rIxU K) (tVar 2) (tCallS (SpU K T U_l_take) (WE fun _ _ _ _ => False) (tCons (tVar 0) (tCons (tC (.int 26)) tNil))))) (by rfl) sc_l_names.nd (pi_range1 rfl B.range (pa_cons (pe_calS c_l_of (hr.mono (by decide)) rfl (takes_of rfl rfl rfl rfl) (pa_cons (pv 0) (pa_cons (pe_lst (pa_cons pe_int (pa_cons pe_int (pa_cons pe_int (pa_cons pe_int (pa_cons pe_int pa_nil)))))) pa_nil))) pa_nil)) (blkOk_by (own := [("_law_k", 7)]) (N := N_l_names) (sc := defScope s_l_names) (by decide +kernel)) (fun _ _ _ _ _ => (pg_name (i := 7) sc_l_names.nd rfl (Or.inl rfl))) (fun _ _ _ _ _ => pts_nil) (fun _ _ _ _ _ => (pe_ix (ix_U hu) (pv 2) (pe_calS c_l_take (hr.mono (by decide)) rfl LamX.takes0 (pa_cons (pv 0) (pa_cons pe_int pa_nil))) (fun _ _ => rfl)))) pa_nil)))
  (pss_cons (ps_par (i := 4) (j := 5) (by rfl) sc_l_names.nd rfl rfl (by decide) rfl rfl (pa_cons (pe_calS c_l_take (hr.mono (by decide)) rfl (takes_of rfl rfl rfl rfl) (pa_cons (pv 0) (pa_cons pe_int pa_nil))) (pa_cons (pe_calS c_l_take (hr.mono (by decide)) rfl (takes_of rfl rfl rfl rfl) (pa_cons (pv 0) (pa_cons pe_int pa_nil))) pa_nil)) (by rfl))
  (pss_cons (ps_set (i := 6) sc_l_names.nd rfl (Or.inl rfl) (pe_lst pa_nil))
  (pss_cons (ps_for (passes_of rfl) rfl (pi_range1 rfl B.range (pa_cons (pv 1) pa_nil)) (pg_name (i := 7) sc_l_names.nd rfl (Or.inl rfl)) (pss_cons (ps_set (i := 8) sc_l_names.nd rfl (Or.inl rfl) (pe_op op_addU (pe_ix (ix_U hu) (pv 2) (pe_op op_mod (pe_op op_addU (pv 4) (pe_op op_mul pe_int (pv 7))) pe_int) (fun _ _ => rfl)) (pe_ifExp (pt_cmpR op_gt (pv 1) pe_int (nomark _)) (pe_ix (ix_U hu) (pv 2) (pe_op op_fdiv (pv 7) pe_int) (fun _ _ => rfl)) pe_str)))
  (pss_cons (ps_set (i := 9) sc_l_names.nd rfl (Or.inl rfl) (pe_lst (pa_cons (pe_op op_addU (pv 3) (pv 8)) (pa_cons (pe_op op_addU (pv 8) (pv 3)) (pa_cons (pe_op op_addU (pv 8) (pe_slice sl_U (pv 3) po_none (po_some (pe_op op_mod (pv 7) (pe_op op_addU (pe_callB cr_lenR (by rfl) B.len bt_len (pa_cons (pv 3) pa_nil)) pe_int))))) (pa_cons (pe_op op_addU (pe_op op_addU (pe_slice sl_U (pv 3) po_none (po_some pe_int)) (pv 8)) (pe_slice sl_U (pv 3) (po_some pe_int) po_none)) pa_nil))))))
  (pss_one (ps_expr (pe_bm PySem.F.plainAttrs_list PySem.F.slot_list_append PySem.F.type_list_append mt_append (pv 6) (pa_cons (pe_ifExp (pt_cmpR (op_eqU hu0) (pe_ix (ix_U hu) (pv 9) (pv 5) (fun _ _ => rfl)) pe_str (nomark _)) pe_str (pe_ix (ix_U hu) (pv 9) (pv 5) (fun _ _ => rfl))) pa_nil)))))))
  (pss_one (ps_ret (pv 6)))))))),
    spu_body (N := N_l_names) (u := u_l_names) (fun _ _ _ h => by rw [len_l_names h]; decide) pure_l_names (fun H0 G0 P0 => (tr_seq (tr_asg tr_str tr_gF)
  (tr_seq (tr_asg (tr_bm tr_join tr_str (tr_cons (tr_lc (tr_irng1 (tr_cons (tr_callS (tr_cons tr_var (tr_cons (tr_lst (tr_cons tr_int (tr_cons tr_int (tr_cons tr_int (tr_cons tr_int (tr_cons tr_int tr_nil)))))) tr_nil))) tr_nil)) tr_gF gmono_name (gin_name (by decide)) tr_yes (tr_op tr_ix tr_var (tr_callS (tr_cons tr_var (tr_cons tr_int tr_nil))))) tr_nil)) tr_gF)
  (tr_seq (tr_par (tr_callS (tr_cons tr_var (tr_cons tr_int tr_nil))) (tr_callS (tr_cons tr_var (tr_cons tr_int tr_nil))))
  (tr_seq (tr_asg (tr_lst tr_nil) tr_gO)
  (tr_seq (tr_for (tr_irng1 (tr_cons tr_var tr_nil)) tr_gF (tr_seq (tr_asg (tr_op tr_add (tr_op tr_ix tr_var (tr_op tr_Ii (tr_op tr_add tr_var (tr_op tr_Ii tr_int tr_var)) tr_int)) (tr_if (tr_test (tr_op tr_I0b tr_var tr_int)) (tr_op tr_ix tr_var (tr_op tr_Ii tr_var tr_int)) tr_str)) tr_gF)
  (tr_seq (tr_asg (tr_lst (tr_cons (tr_op tr_add tr_var tr_var) (tr_cons (tr_op tr_add tr_var tr_var) (tr_cons (tr_op tr_add tr_var (tr_sl tr_var tr_noPart (tr_part (tr_op tr_Ii tr_var (tr_op tr_add (tr_cb tr_len (tr_cons tr_var tr_nil)) tr_int))))) (tr_cons (tr_op tr_add (tr_op tr_add (tr_sl tr_var tr_noPart (tr_part tr_int)) tr_var) (tr_sl tr_var (tr_part tr_int) tr_noPart)) tr_nil))))) tr_gF)
  (tr_drop (tr_bm tr_app tr_var (tr_cons (tr_if (tr_test (tr_op tr_eq (tr_op tr_ix tr_var tr_var) tr_str)) tr_str (tr_op tr_ix tr_var tr_var)) tr_nil))))))
  (tr_ret tr_var))))))) h⟩
end WK
namespace WK
open PySem L2
abbrev s_l_river : Stmt := top 29
theorem sc_l_river : FnScope N_l_river ["_law_bag_here", "_law_many"] (defScope s_l_river) := ⟨rfl, rfl, rfl, by decide +kernel, rfl, by decide +kernel, by decide +kernel⟩
theorem ok_l_river {P : Program} {w : World} {K : PySem.W.Frag} {mg : Str → Option Value} {base : Heap} {f : Addr} {fd : FuncData} {T : List (Addr × Str)} (F : FunD K "_law_river" "_law_river" (defArgs s_l_river) (defBody s_l_river) (defScope s_l_river) [] [] f fd) (B : Bf mg) (G : GF2 K mg CS NAS KS ITS) (c_l_mixed : Cal P w K mg base 2 "_law_mixed" ["_law_bag_here", "_law_some"] (SpU K T U_l_mixed)) (c_l_names : Cal P w K mg base 3 "_law_names" ["_law_bag_here", "_law_many"] (SpU K T U_l_names)) (c_l_take : Cal P w K mg base 1 "_law_take" ["_law_bag_here", "_law_many"] (SpU K T U_l_take)) :
    FnOk P w K mg base (L2.CX P w) 4 f fd ["_law_bag_here", "_law_many"] (SpU K T U_l_river) := by
  refine F.ok sc_l_river (fun vs H Q E h => spu_len (fun _ _ _ => len_l_river) h) (fun cdv A outer s H vs Q E hr h => ?_)
  have hu := hu_of hr
  have hu65 := hu65_of hr
  have hu0 := hr.units
  have hu00 := Nat.lt_of_le_of_lt (Nat.le_add_right _ _) hu0
  exact ⟨_, (pss_cons (ps_par (i := 2) (j := 3) (by rfl) sc_l_river.nd rfl rfl (by decide) rfl rfl (pa_cons (pe_calS c_l_names (hr.mono (by decide)) rfl (takes_of rfl rfl rfl rfl) (pa_cons (pv 0) (pa_cons (pv 1) pa_nil))) (pa_cons (pe_lst pa_nil) pa_nil)) (by rfl))
  (pss_cons (ps_for (passes_of rfl) rfl (pi_range1 rfl B.range (pa_cons (pv 1) pa_nil)) (pg_name (i := 4) sc_l_river.nd rfl (Or.inl rfl)) (pss_cons (ps_set (i := 5) sc_l_river.nd rfl (Or.inl rfl) (pe_calS c_l_take (hr.mono (by decide)) rfl (takes_of rfl rfl rfl rfl) (pa_cons (pv 0) (pa_cons pe_int pa_nil))))
  (pss_one (ps_if (PW.pt (pw_or (pt_cmpR (op_eqU hu0) (pv 4) pe_int (nomark _)) (pw_or1 (pt_cmpR (op_eqU hu0) (pv 5) pe_int (nomark _))))) (pss_one (ps_expr (pe_bm PySem.F.plainAttrs_list PySem.F.slot_list_append PySem.F.type_list_append mt_append (pv 3) (pa_cons (pe_tup (pa_cons (pe_ix (ix_U hu) (pv 2) (pv 4) (fun _ _ => rfl)) (pa_cons pe_str pa_nil))) pa_nil)))) (pss_one (ps_expr (pe_bm PySem.F.plainAttrs_list PySem.F.slot_list_append PySem.F.type_list_append mt_append (pv 3) (pa_cons (pe_tup (pa_cons (pe_ix (ix_U hu) (pv 2) (pv 4) (fun _ _ => rfl)) (pa_cons (pe_ifExp (pt_cmpR op_lt (pv 5) pe_int (nomark _)) (pe_ix (ix_U hu) (pv 2) (pe_op op_sub (pv 4) pe_int) (fun _ _ => rfl)) (pe_ix (ix_U hu) (pv 2) (pe_calS c_l_take (hr.mono (by decide)) rfl (takes_of rfl rfl rfl rfl) (pa_cons (pv 0) (pa_cons (pv 4) pa_nil))) (fun _ _ => rfl))) pa_nil))) pa_nil))))))))
  (pss_one (ps_ret (pe_calS c_l_mixed (hr.mono (by decide)) rfl (takes_of rfl rfl rfl rfl) (pa_cons (pv 0) (pa_cons (pv 3) pa_nil))))))),
    spu_body (N := N_l_river) (u := u_l_river) (fun _ _ _ h => by rw [len_l_river h]; decide) pure_l_river (fun H0 G0 P0 => (tr_seq (tr_par (tr_callS (tr_cons tr_var (tr_cons tr_var tr_nil))) (tr_lst tr_nil))
  (tr_seq (tr_for (tr_irng1 (tr_cons tr_var tr_nil)) tr_gF (tr_seq (tr_asg (tr_callS (tr_cons tr_var (tr_cons tr_int tr_nil))) tr_gF)
  (tr_ifS (tr_or (tr_test (tr_op tr_eq tr_var tr_int)) (tr_test (tr_op tr_eq tr_var tr_int))) (tr_drop (tr_bm tr_app tr_var (tr_cons (tr_tup (tr_cons (tr_op tr_ix tr_var tr_var) (tr_cons tr_str tr_nil))) tr_nil))) (tr_drop (tr_bm tr_app tr_var (tr_cons (tr_tup (tr_cons (tr_op tr_ix tr_var tr_var) (tr_cons (tr_if (tr_test (tr_op tr_I0b tr_var tr_int)) (tr_op tr_ix tr_var (tr_op tr_I0i tr_var tr_int)) (tr_op tr_ix tr_var (tr_callS (tr_cons tr_var (tr_cons tr_var tr_nil))))) tr_nil))) tr_nil))))))
  (tr_ret (tr_callS (tr_cons tr_var (tr_cons tr_var tr_nil))))))) h⟩
abbrev s_l_course : Stmt := top 30
theorem sc_l_course : FnScope N_l_course ["_law_rows", "_law_weir"] (defScope s_l_course) := ⟨rfl, rfl, rfl, by decide +kernel, rfl, by decide +kernel, by decide +kernel⟩
theorem ok_l_course {P : Program} {w : World} {K : PySem.W.Frag} {mg : Str → Option Value} {base : Heap} {f : Addr} {fd : FuncData} {T : List (Addr × Str)} (F : FunD K "_law_course" "_law_course" (defArgs s_l_course) (defBody s_l_course) (defScope s_l_course) [] [] f fd) (B : Bf mg) (G : GF2 K mg CS NAS KS ITS)  :
    FnOk P w K mg base (L2.CX P w) 1 f fd ["_law_rows", "_law_weir"] (SpU K T U_l_course) := by
  refine F.ok sc_l_course (fun vs H Q E h => spu_len (fun _ _ _ => len_l_course) h) (fun cdv A outer s H vs Q E hr h => ?_)
  have hu := hu_of hr
  have hu65 := hu65_of hr
  have hu0 := hr.units
  have hu00 := Nat.lt_of_le_of_lt (Nat.le_add_right _ _) hu0
  exact ⟨_, (pss_cons (ps_par (i := 2) (j := 3) (by rfl) sc_l_course.nd rfl rfl (by decide) rfl rfl (pa_cons (pe_callTy (cr_dictU rfl) (by rfl) B.dict bt_dict (pa_cons (pv 0) pa_nil)) (pa_cons (pe_lst pa_nil) pa_nil)) (by rfl))
  (pss_cons (ps_for (passes_of rfl) rfl (pi_range1 rfl B.range (pa_cons (pe_callB cr_lenR (by rfl) B.len bt_len (pa_cons (pv 0) pa_nil)) pa_nil)) (pg_name (i := 4) sc_l_course.nd rfl (Or.inl rfl)) (pss_one (ps_if (pt_cmpR (op_neU hu0) (pv 1) pe_str (nomark _)) (pss_cons (ps_expr (pe_bm PySem.F.plainAttrs_list PySem.F.slot_list_append PySem.F.type_list_append mt_append (pv 3) (pa_cons (pv 1) pa_nil)))
  (pss_one (ps_set (i := 1) sc_l_course.nd rfl (Or.inl rfl) (pe_ix (ix_U hu) (pv 2) (pv 1) (fun _ _ => rfl))))) pss_nil)))
  (pss_one (ps_ret (pv 3))))),
    spu_body (N := N_l_course) (u := u_l_course) (fun _ _ _ h => by rw [len_l_course h]; decide) pure_l_course (fun H0 G0 P0 => (tr_seq (tr_par (tr_cb tr_dict (tr_cons tr_var tr_nil)) (tr_lst tr_nil))
  (tr_seq (tr_for (tr_irng1 (tr_cons (tr_cb tr_len (tr_cons tr_var tr_nil)) tr_nil)) tr_gF (tr_ifS (tr_test (tr_op tr_ne tr_var tr_str)) (tr_seq (tr_drop (tr_bm tr_app tr_var (tr_cons tr_var tr_nil)))
  (tr_asg (tr_op tr_ix tr_var tr_var) tr_gF)) tr_next))
  (tr_ret tr_var)))) h⟩
abbrev s_is_name : Stmt := top 12
theorem sc_is_name : FnScope N_is_name ["value"] (defScope s_is_name) := ⟨rfl, rfl, rfl, by decide +kernel, rfl, by decide +kernel, by decide +kernel⟩
theorem ok_is_name {P : Program} {w : World} {K : PySem.W.Frag} {mg : Str → Option Value} {base : Heap} {f : Addr} {fd : FuncData} {T : List (Addr × Str)} (F : FunD K "is_name" "is_name" (defArgs s_is_name) (defBody s_is_name) (defScope s_is_name) [] [] f fd) (B : Bf mg) (G : GF2 K mg CS NAS KS ITS)  :
    FnOk P w K mg base (L2.CX P w) 1 f fd ["value"] (SpU K T U_is_name) := by
  refine F.ok sc_is_name (fun vs H Q E h => spu_len (fun _ _ _ => len_is_name) h) (fun cdv A outer s H vs Q E hr h => ?_)
  have hu := hu_of hr
  have hu65 := hu65_of hr
  have hu0 := hr.units
  have hu00 := Nat.lt_of_le_of_lt (Nat.le_add_right _ _) hu0
  exact ⟨_, (pss_cons (ps_if (PW.pt (pw_or (pt_not (pt_val (pe_callB call_isi (by rfl) B.isinstance bt_isinstance (pa_cons (pv 0) (pa_cons (pe_ty (T := "str") (by rfl) B.str (by decide +kernel)) pa_nil))))) (pw_or1 (pt_not (pt_chain op_le op_le pe_int (pe_callB cr_lenR (by rfl) B.len bt_len (pa_cons (pv 0) pa_nil)) pe_int))))) (pss_one (ps_ret pe_bl)) pss_nil)
  (pss_one (ps_ret (pe_callB (cr_all rfl) (by rfl) B.all bt_all (pa_cons (pe_lc (own := [("letter", 1)]) (g := (gName 1)) (tt := tYes) (te := (tOp (rInX K) (tVar 1) (tC (.str "abcdefghijklmnopqrstuvwxyz")))) (by rfl) sc_is_name.nd (pi_seq (pv 0)) (blkOk_by (own := [("letter", 1)]) (N := N_is_name) (sc := defScope s_is_name) (by decide +kernel)) (fun _ _ _ _ _ => (pg_name (i := 1) sc_is_name.nd rfl (Or.inl rfl))) (fun _ _ _ _ _ => pts_nil) (fun _ _ _ _ _ => (pe_cmpR (op_inX hu65) (pv 1) (pe_gl (v := (.str "abcdefghijklmnopqrstuvwxyz")) rfl (G.k (i := 0) rfl)) (by rfl)))) pa_nil))))),
    spu_body (N := N_is_name) (u := u_is_name) (fun _ _ _ h => by rw [len_is_name h]; decide) pure_is_name (fun H0 G0 P0 => (tr_seq (tr_ifS (tr_or (tr_not (tr_tB (tr_cb tr_isi (tr_cons tr_var (tr_cons tr_ty tr_nil))))) (tr_not (tr_test (tr_chain tr_I0b tr_I0b tr_int (tr_cb tr_len (tr_cons tr_var tr_nil)) tr_int)))) (tr_ret tr_bl) tr_next)
  (tr_ret (tr_cb tr_all (tr_cons (tr_lc (tr_iseq tr_var) tr_gF gmono_name (gin_name (by decide)) tr_yes (tr_op tr_in tr_var tr_str)) tr_nil))))) h⟩
abbrev s_is_wrong_row : Stmt := top 13
theorem sc_is_wrong_row : FnScope N_is_wrong_row ["entry", "earlier"] (defScope s_is_wrong_row) := ⟨rfl, rfl, rfl, by decide +kernel, rfl, by decide +kernel, by decide +kernel⟩
theorem ok_is_wrong_row {P : Program} {w : World} {K : PySem.W.Frag} {mg : Str → Option Value} {base : Heap} {f : Addr} {fd : FuncData} {T : List (Addr × Str)} (F : FunD K "is_wrong_row" "is_wrong_row" (defArgs s_is_wrong_row) (defBody s_is_wrong_row) (defScope s_is_wrong_row) [] [] f fd) (B : Bf mg) (G : GF2 K mg CS NAS KS ITS) (c_is_name : Cal P w K mg base 1 "is_name" ["value"] (SpU K T U_is_name)) :
    FnOk P w K mg base (L2.CX P w) 2 f fd ["entry", "earlier"] (SpU K T U_is_wrong_row) := by
  refine F.ok sc_is_wrong_row (fun vs H Q E h => spu_len (fun _ _ _ => len_is_wrong_row) h) (fun cdv A outer s H vs Q E hr h => ?_)
  have hu := hu_of hr
  have hu65 := hu65_of hr
  have hu0 := hr.units
  have hu00 := Nat.lt_of_le_of_lt (Nat.le_add_right _ _) hu0
  exact ⟨_, (pss_cons (ps_if (PW.pt (pw_or (pt_not (pt_val (pe_callB call_isi (by rfl) B.isinstance bt_isinstance (pa_cons (pv 0) (pa_cons (pe_ty (T := "tuple") (by rfl) B.tuple (by decide +kernel)) pa_nil))))) (pw_or1 (pt_cmpR (op_neU hu0) (pe_callB cr_lenR (by rfl) B.len bt_len (pa_cons (pv 0) pa_nil)) pe_int (nomark _))))) (pss_one (ps_ret pe_bl)) pss_nil)
  (pss_cons (ps_asg (pv 0) (pg_tup rfl (pgs_cons (pg_name (i := 2) sc_is_wrong_row.nd rfl (Or.inl rfl)) (pgs_cons (pg_name (i := 3) sc_is_wrong_row.nd rfl (Or.inl rfl)) pgs_nil))))
  (pss_cons (ps_if (PW.pt (pw_or (pt_not (pt_val (pe_calS c_is_name (hr.mono (by decide)) rfl (takes_of rfl rfl rfl rfl) (pa_cons (pv 2) pa_nil)))) (pw_or1 (pt_not (pt_val (pe_calS c_is_name (hr.mono (by decide)) rfl (takes_of rfl rfl rfl rfl) (pa_cons (pv 3) pa_nil))))))) (pss_one (ps_ret pe_bl)) pss_nil)
  (pss_one (ps_ret (pe_or (pe_cmpR (op_eqU hu0) (pv 2) pe_str (nomark _)) (pe_one (pe_cmpR (op_inX hu65) (pv 2) (pv 1) (by rfl))))))))),
    spu_body (N := N_is_wrong_row) (u := u_is_wrong_row) (fun _ _ _ h => by rw [len_is_wrong_row h]; decide) pure_is_wrong_row (fun H0 G0 P0 => (tr_seq (tr_ifS (tr_or (tr_not (tr_tB (tr_cb tr_isi (tr_cons tr_var (tr_cons tr_ty tr_nil))))) (tr_test (tr_op tr_ne (tr_cb tr_len (tr_cons tr_var tr_nil)) tr_int))) (tr_ret tr_bl) tr_next)
  (tr_seq (tr_asg tr_var (tr_gtup (tr_gcons tr_gF (tr_gcons tr_gF tr_gnil))))
  (tr_seq (tr_ifS (tr_or (tr_not (tr_tB (tr_callS (tr_cons tr_var tr_nil)))) (tr_not (tr_tB (tr_callS (tr_cons tr_var tr_nil))))) (tr_ret tr_bl) tr_next)
  (tr_ret (tr_orV (tr_op tr_eq tr_var tr_str) (tr_op tr_in tr_var tr_var))))))) h⟩
abbrev s_reaches_sea : Stmt := top 14
theorem sc_reaches_sea : FnScope N_reaches_sea ["weir", "lower"] (defScope s_reaches_sea) := ⟨rfl, rfl, rfl, by decide +kernel, rfl, by decide +kernel, by decide +kernel⟩
theorem ok_reaches_sea {P : Program} {w : World} {K : PySem.W.Frag} {mg : Str → Option Value} {base : Heap} {f : Addr} {fd : FuncData} {T : List (Addr × Str)} (F : FunD K "reaches_sea" "reaches_sea" (defArgs s_reaches_sea) (defBody s_reaches_sea) (defScope s_reaches_sea) [] [] f fd) (B : Bf mg) (G : GF2 K mg CS NAS KS ITS)  :
    FnOk P w K mg base (L2.CX P w) 1 f fd ["weir", "lower"] (SpU K T U_reaches_sea) := by
  refine F.ok sc_reaches_sea (fun vs H Q E h => spu_len (fun _ _ _ => len_reaches_sea) h) (fun cdv A outer s H vs Q E hr h => ?_)
  have hu := hu_of hr
  have hu65 := hu65_of hr
  have hu0 := hr.units
  have hu00 := Nat.lt_of_le_of_lt (Nat.le_add_right _ _) hu0
  exact ⟨_, (pss_cons (ps_for (passes_of rfl) rfl (pi_range1 rfl B.range (pa_cons (pe_callB cr_lenR (by rfl) B.len bt_len (pa_cons (pv 1) pa_nil)) pa_nil)) (pg_name (i := 2) sc_reaches_sea.nd rfl (Or.inl rfl)) (pss_cons (ps_if (pt_cmpR (op_eqU hu0) (pv 0) pe_str (nomark _)) (pss_one (ps_ret pe_bl)) pss_nil)
  (pss_one (ps_set (i := 0) sc_reaches_sea.nd rfl (Or.inl rfl) (pe_ix (ix_U hu) (pv 1) (pv 0) (fun _ _ => rfl))))))
  (pss_one (ps_ret (pe_cmpR (op_eqU hu0) (pv 0) pe_str (nomark _))))),
    spu_body (N := N_reaches_sea) (u := u_reaches_sea) (fun _ _ _ h => by rw [len_reaches_sea h]; decide) pure_reaches_sea (fun H0 G0 P0 => (tr_seq (tr_for (tr_irng1 (tr_cons (tr_cb tr_len (tr_cons tr_var tr_nil)) tr_nil)) tr_gF (tr_seq (tr_ifS (tr_test (tr_op tr_eq tr_var tr_str)) (tr_ret tr_bl) tr_next)
  (tr_asg (tr_op tr_ix tr_var tr_var) tr_gF)))
  (tr_ret (tr_op tr_eq tr_var tr_str)))) h⟩
abbrev s_river_fault : Stmt := top 15
theorem sc_river_fault : FnScope N_river_fault ["rows"] (defScope s_river_fault) := ⟨rfl, rfl, rfl, by decide +kernel, rfl, by decide +kernel, by decide +kernel⟩
theorem ok_river_fault {P : Program} {w : World} {K : PySem.W.Frag} {mg : Str → Option Value} {base : Heap} {f : Addr} {fd : FuncData} {T : List (Addr × Str)} (F : FunD K "river_fault" "river_fault" (defArgs s_river_fault) (defBody s_river_fault) (defScope s_river_fault) [] [] f fd) (B : Bf mg) (G : GF2 K mg CS NAS KS ITS) (c_is_wrong_row : Cal P w K mg base 2 "is_wrong_row" ["entry", "earlier"] (SpU K T U_is_wrong_row)) (c_reaches_sea : Cal P w K mg base 1 "reaches_sea" ["weir", "lower"] (SpU K T U_reaches_sea)) :
    FnOk P w K mg base (L2.CX P w) 3 f fd ["rows"] (SpU K T U_river_fault) := by
  refine F.ok sc_river_fault (fun vs H Q E h => spu_len (fun _ _ _ => len_river_fault) h) (fun cdv A outer s H vs Q E hr h => ?_)
  have hu := hu_of hr
  have hu65 := hu65_of hr
  have hu0 := hr.units
  have hu00 := Nat.lt_of_le_of_lt (Nat.le_add_right _ _) hu0
  exact ⟨_, (pss_cons (ps_if (PW.pt (pw_or (pt_not (pt_val (pe_callB call_isi (by rfl) B.isinstance bt_isinstance (pa_cons (pv 0) (pa_cons (pe_ty (T := "list") (by rfl) B.list (by decide +kernel)) pa_nil))))) (pw_or1 (pt_not (pt_chain op_le op_le pe_int (pe_callB cr_lenR (by rfl) B.len bt_len (pa_cons (pv 0) pa_nil)) (pe_gl (v := (.int 40)) rfl (G.k (i := 1) rfl))))))) (pss_one (ps_ret (pe_un un_neg pe_int))) pss_nil)
  (pss_cons (ps_set (i := 1) sc_river_fault.nd rfl (Or.inl rfl) pe_dnewK)
  (pss_cons (ps_for (passes_of rfl) rfl (pi_enum rfl B.enumerate (pa_cons (pv 0) pa_nil)) (pg_tup rfl (pgs_cons (pg_name (i := 2) sc_river_fault.nd rfl (Or.inl rfl)) (pgs_cons (pg_name (i := 3) sc_river_fault.nd rfl (Or.inl rfl)) pgs_nil))) (pss_cons (ps_if (pt_val (pe_calS c_is_wrong_row (hr.mono (by decide)) rfl (takes_of rfl rfl rfl rfl) (pa_cons (pv 3) (pa_cons (pv 1) pa_nil)))) (pss_one (ps_ret (pv 2))) pss_nil)
  (pss_one (ps_asg (pe_ix (ix_U hu) (pv 3) pe_int (fun _ _ => rfl)) (pg_sub (pv 1) (pe_ix (ix_U hu) (pv 3) pe_int (fun _ _ => rfl)) (set_U hu))))))
  (pss_cons (ps_for (passes_of rfl) rfl (pi_enum rfl B.enumerate (pa_cons (pv 0) pa_nil)) (pg_tup rfl (pgs_cons (pg_name (i := 2) sc_river_fault.nd rfl (Or.inl rfl)) (pgs_cons (pg_name (i := 3) sc_river_fault.nd rfl (Or.inl rfl)) pgs_nil))) (pss_one (ps_if (PW.pt (pw_and (pt_cmpR (op_neU hu0) (pe_ix (ix_U hu) (pv 3) pe_int (fun _ _ => rfl)) pe_str (nomark _)) (pw_and1 (pt_cmpR (op_notInX hu65) (pe_ix (ix_U hu) (pv 3) pe_int (fun _ _ => rfl)) (pv 1) (by rfl))))) (pss_one (ps_ret (pv 2))) pss_nil)))
  (pss_cons (ps_for (passes_of rfl) rfl (pi_enum rfl B.enumerate (pa_cons (pv 0) pa_nil)) (pg_tup rfl (pgs_cons (pg_name (i := 2) sc_river_fault.nd rfl (Or.inl rfl)) (pgs_cons (pg_name (i := 3) sc_river_fault.nd rfl (Or.inl rfl)) pgs_nil))) (pss_one (ps_if (pt_not (pt_val (pe_calS c_reaches_sea (hr.mono (by decide)) rfl (takes_of rfl rfl rfl rfl) (pa_cons (pe_ix (ix_U hu) (pv 3) pe_int (fun _ _ => rfl)) (pa_cons (pv 1) pa_nil))))) (pss_one (ps_ret (pv 2))) pss_nil)))
  (pss_one (ps_ret pe_non))))))),
    spu_body (N := N_river_fault) (u := u_river_fault) (fun _ _ _ h => by rw [len_river_fault h]; decide) pure_river_fault (fun H0 G0 P0 => (tr_seq (tr_ifS (tr_or (tr_not (tr_tB (tr_cb tr_isi (tr_cons tr_var (tr_cons tr_ty tr_nil))))) (tr_not (tr_test (tr_chain tr_I0b tr_I0b tr_int (tr_cb tr_len (tr_cons tr_var tr_nil)) tr_int)))) (tr_ret (tr_un tr_neg tr_int)) tr_next)
  (tr_seq (tr_asg tr_dnew tr_gO)
  (tr_seq (tr_for (tr_ienum (tr_cons tr_var tr_nil)) (tr_gtup (tr_gcons tr_gF (tr_gcons tr_gF tr_gnil))) (tr_seq (tr_ifS (tr_tB (tr_callS (tr_cons tr_var (tr_cons tr_var tr_nil)))) (tr_ret tr_var) tr_next)
  (tr_setI (tr_op tr_ix tr_var tr_int) tr_var (tr_op tr_ix tr_var tr_int))))
  (tr_seq (tr_for (tr_ienum (tr_cons tr_var tr_nil)) (tr_gtup (tr_gcons tr_gF (tr_gcons tr_gF tr_gnil))) (tr_ifS (tr_and (tr_test (tr_op tr_ne (tr_op tr_ix tr_var tr_int) tr_str)) (tr_test (tr_op tr_notIn (tr_op tr_ix tr_var tr_int) tr_var))) (tr_ret tr_var) tr_next))
  (tr_seq (tr_for (tr_ienum (tr_cons tr_var tr_nil)) (tr_gtup (tr_gcons tr_gF (tr_gcons tr_gF tr_gnil))) (tr_ifS (tr_not (tr_tB (tr_callS (tr_cons (tr_op tr_ix tr_var tr_int) (tr_cons tr_var tr_nil))))) (tr_ret tr_var) tr_next))
  (tr_ret tr_non))))))) h⟩
abbrev s_course_of : Stmt := top 16
theorem sc_course_of : FnScope N_course_of ["weir", "lower"] (defScope s_course_of) := ⟨rfl, rfl, rfl, by decide +kernel, rfl, by decide +kernel, by decide +kernel⟩
theorem ok_course_of {P : Program} {w : World} {K : PySem.W.Frag} {mg : Str → Option Value} {base : Heap} {f : Addr} {fd : FuncData} {T : List (Addr × Str)} (F : FunD K "course_of" "course_of" (defArgs s_course_of) (defBody s_course_of) (defScope s_course_of) [] [] f fd) (B : Bf mg) (G : GF2 K mg CS NAS KS ITS)  :
    FnOk P w K mg base (L2.CX P w) 1 f fd ["weir", "lower"] (SpU K T U_course_of) := by
  refine F.ok sc_course_of (fun vs H Q E h => spu_len (fun _ _ _ => len_course_of) h) (fun cdv A outer s H vs Q E hr h => ?_)
  have hu := hu_of hr
  have hu65 := hu65_of hr
  have hu0 := hr.units
  have hu00 := Nat.lt_of_le_of_lt (Nat.le_add_right _ _) hu0
  exact ⟨_, (pss_cons (ps_set (i := 2) sc_course_of.nd rfl (Or.inl rfl) (pe_lst pa_nil))
  (pss_cons (ps_while (passes_of rfl) (pt_cmpR (op_neU hu0) (pv 0) pe_str (nomark _)) (pss_cons (ps_expr (pe_bm PySem.F.plainAttrs_list PySem.F.slot_list_append PySem.F.type_list_append mt_append (pv 2) (pa_cons (pv 0) pa_nil)))
  (pss_one (ps_set (i := 0) sc_course_of.nd rfl (Or.inl rfl) (pe_ix (ix_U hu) (pv 1) (pv 0) (fun _ _ => rfl))))))
  (pss_one (ps_ret (pe_callTy call_tupN (by rfl) B.tuple bt_tuple (pa_cons (pv 2) pa_nil)))))),
    spu_body (N := N_course_of) (u := u_course_of) (fun _ _ _ h => by rw [len_course_of h]; decide) pure_course_of (fun H0 G0 P0 => (tr_seq (tr_asg (tr_lst tr_nil) tr_gO)
  (tr_seq (tr_while (tr_test (tr_op tr_ne tr_var tr_str)) (tr_seq (tr_drop (tr_bm tr_app tr_var (tr_cons tr_var tr_nil)))
  (tr_asg (tr_op tr_ix tr_var tr_var) tr_gF)))
  (tr_ret (tr_cb tr_tupN (tr_cons tr_var tr_nil)))))) h⟩
abbrev s_River__init_ : Stmt := inClass (top 17) 0
theorem sc_River__init_ : FnScope N_River__init_ ["self", "rows"] (defScope s_River__init_) := ⟨rfl, rfl, rfl, by decide +kernel, rfl, by decide +kernel, by decide +kernel⟩
theorem ok_River__init_ {P : Program} {w : World} {K : PySem.W.Frag} {mg : Str → Option Value} {base : Heap} {f : Addr} {fd : FuncData} {T : List (Addr × Str)} (F : FunD K "__init__" "River.__init__" (defArgs s_River__init_) (defBody s_River__init_) (defScope s_River__init_) [] [] f fd) (B : Bf mg) (G : GF2 K mg CS NAS KS ITS) (c_course_of : Cal P w K mg base 1 "course_of" ["weir", "lower"] (SpU K T U_course_of)) (c_river_fault : Cal P w K mg base 3 "river_fault" ["rows"] (SpU K T U_river_fault)) (x_NotRiver : XCal P w K mg base 1 "NotRiver" ["self", "place"] (sp_xL "NotRiver" ["place"] K)) :
    FnOk P w K mg base (L2.CX P w) 4 f fd ["self", "rows"] (SpU K T U_River__init_) := by
  refine F.ok sc_River__init_ (fun vs H Q E h => spu_len (fun _ _ _ => len_River__init_) h) (fun cdv A outer s H vs Q E hr h => ?_)
  have hu := hu_of hr
  have hu65 := hu65_of hr
  have hu0 := hr.units
  have hu00 := Nat.lt_of_le_of_lt (Nat.le_add_right _ _) hu0
  exact ⟨_, (pss_cons (ps_set (i := 2) sc_River__init_.nd rfl (Or.inl rfl) (pe_calS c_river_fault (hr.mono (by decide)) rfl (takes_of rfl rfl rfl rfl) (pa_cons (pv 1) pa_nil)))
  (pss_cons (ps_if (pt_cmpR op_notNn (pv 2) pe_non (nomark _)) (pss_one (ps_raiseO rfl (takes_of rfl rfl rfl rfl) x_NotRiver (hr.mono (by decide)) rfl (pa_cons (pv 2) pa_nil))) pss_nil)
  (pss_cons (ps_fld (pv 0) (pe_callTy call_tuple_of (by rfl) B.tuple bt_tuple (pa_cons (pe_lc (own := [("weir", 3), ("below", 4)]) (g := (gTup K 2 (gCons (gName 3) (gCons (gName 4) gNil)))) (tt := tYes) (te := (tVar 3)) (by rfl) sc_River__init_.nd (pi_seq (pv 1)) (blkOk_by (own := [("weir", 3), ("below", 4)]) (N := N_River__init_) (sc := defScope s_River__init_) (by decide +kernel)) (fun _ _ _ _ _ => (pg_tup rfl (pgs_cons (pg_name (i := 3) sc_River__init_.nd rfl (Or.inl rfl)) (pgs_cons (pg_name (i := 4) sc_River__init_.nd rfl (Or.inl rfl)) pgs_nil)))) (fun _ _ _ _ _ => pts_nil) (fun _ _ _ _ _ => (pv 3))) pa_nil)) rfl)
  (pss_cons (ps_fld (pv 0) (pe_dc (own := [("weir", 3), ("below", 4)]) (g := (gTup K 2 (gCons (gName 3) (gCons (gName 4) gNil)))) (tt := tYes) (tv := (tVar 4)) (tk := (tVar 3)) (by rfl) sc_River__init_.nd (pi_seq (pv 1)) (blkOk_by (own := [("weir", 3), ("below", 4)]) (N := N_River__init_) (sc := defScope s_River__init_) (by decide +kernel)) (fun _ _ _ _ _ => (pg_tup rfl (pgs_cons (pg_name (i := 3) sc_River__init_.nd rfl (Or.inl rfl)) (pgs_cons (pg_name (i := 4) sc_River__init_.nd rfl (Or.inl rfl)) pgs_nil)))) (fun _ _ _ _ _ => pts_nil) (fun _ _ _ _ _ => (pv 3)) (fun _ _ _ _ _ => (pv 4))) rfl)
  (pss_one (ps_fld (pv 0) (pe_dc (own := [("weir", 3)]) (g := (gName 3)) (tt := tYes) (tv := (tCallS (SpU K T U_course_of) (WE fun _ _ _ _ => False) (tCons (tVar 3) (tCons (tFld K (tVar 0) "lower") tNil)))) (tk := (tVar 3)) (by rfl) sc_River__init_.nd (pi_seq (pe_fld (pv 0) rfl)) (blkOk_by (own := [("weir", 3)]) (N := N_River__init_) (sc := defScope s_River__init_) (by decide +kernel)) (fun _ _ _ _ _ => (pg_name (i := 3) sc_River__init_.nd rfl (Or.inl rfl))) (fun _ _ _ _ _ => pts_nil) (fun _ _ _ _ _ => (pv 3)) (fun _ _ _ _ _ => (pe_calS c_course_of (hr.mono (by decide)) rfl LamX.takes0 (pa_cons (pv 3) (pa_cons (pe_fld (pv 0) rfl) pa_nil))))) rfl)))))),
    spu_body (N := N_River__init_) (u := u_River__init_) (fun _ _ _ h => by rw [len_River__init_ h]; decide) pure_River__init_ (fun H0 G0 P0 => (tr_seq (tr_asg (tr_callS (tr_cons tr_var tr_nil)) tr_gF)
  (tr_seq (tr_ifS (tr_test (tr_op tr_notN tr_var tr_non)) (tr_raise (by decide) (tr_cons tr_var tr_nil)) tr_next)
  (tr_seq (tr_sfld (G.cl (i := 0) rfl) (G.na (i := 0) rfl) tr_var (tr_cb tr_tuple (tr_cons (tr_lc (tr_iseq tr_var) (tr_gtup (tr_gcons tr_gF (tr_gcons tr_gF tr_gnil))) (gmono_tup (gmono_cons gmono_name (gmono_cons gmono_name gmono_nil))) (gin_tup (gin_cons gmono_name (gmono_cons gmono_name gmono_nil) (gin_name (by decide)) (gin_cons gmono_name gmono_nil (gin_name (by decide)) gin_nil))) tr_yes tr_var) tr_nil)))
  (tr_seq (tr_sfld (G.cl (i := 0) rfl) (G.na (i := 1) rfl) tr_var (tr_dc (tr_iseq tr_var) (tr_gtup (tr_gcons tr_gF (tr_gcons tr_gF tr_gnil))) (gmono_tup (gmono_cons gmono_name (gmono_cons gmono_name gmono_nil))) (gin_tup (gin_cons gmono_name (gmono_cons gmono_name gmono_nil) (gin_name (by decide)) (gin_cons gmono_name gmono_nil (gin_name (by decide)) gin_nil))) tr_yes tr_var tr_var))
  (tr_sfld (G.cl (i := 0) rfl) (G.na (i := 2) rfl) tr_var (tr_dc (tr_iseq (tr_fld (G.cl (i := 0) rfl) (G.na (i := 0) rfl) tr_var)) tr_gF gmono_name (gin_name (by decide)) tr_yes tr_var (tr_callS (tr_cons tr_var (tr_cons (tr_fld (G.cl (i := 0) rfl) (G.na (i := 1) rfl) tr_var) tr_nil)))))))))) h⟩
abbrev s_River_need : Stmt := inClass (top 17) 4
theorem sc_River_need : FnScope N_River_need ["self", "weir"] (defScope s_River_need) := ⟨rfl, rfl, rfl, by decide +kernel, rfl, by decide +kernel, by decide +kernel⟩
theorem ok_River_need {P : Program} {w : World} {K : PySem.W.Frag} {mg : Str → Option Value} {base : Heap} {f : Addr} {fd : FuncData} {T : List (Addr × Str)} (F : FunD K "need" "River.need" (defArgs s_River_need) (defBody s_River_need) (defScope s_River_need) [] [] f fd) (B : Bf mg) (G : GF2 K mg CS NAS KS ITS)  (x_NoWeir : XCal P w K mg base 1 "NoWeir" ["self", "name"] (sp_xL "NoWeir" ["name"] K)) :
    FnOk P w K mg base (L2.CX P w) 3 f fd ["self", "weir"] (SpU K T U_River_need) := by
  refine F.ok sc_River_need (fun vs H Q E h => spu_len (fun _ _ _ => len_River_need) h) (fun cdv A outer s H vs Q E hr h => ?_)
  have hu := hu_of hr
  have hu65 := hu65_of hr
  have hu0 := hr.units
  have hu00 := Nat.lt_of_le_of_lt (Nat.le_add_right _ _) hu0
  exact ⟨_, (pss_one (ps_if (pt_cmpR (op_notInX hu65) (pv 1) (pe_fld (pv 0) rfl) (by rfl)) (pss_one (ps_raiseO rfl (takes_of rfl rfl rfl rfl) x_NoWeir (hr.mono (by decide)) rfl (pa_cons (pv 1) pa_nil))) pss_nil)),
    spu_body (N := N_River_need) (u := u_River_need) (fun _ _ _ h => by rw [len_River_need h]; decide) pure_River_need (fun H0 G0 P0 => (tr_ifS (tr_test (tr_op tr_notIn tr_var (tr_fld (G.cl (i := 0) rfl) (G.na (i := 0) rfl) tr_var))) (tr_raise (by decide) (tr_cons tr_var tr_nil)) tr_next)) h⟩
end WK
namespace WK
open PySem L2
abbrev s_River_is_down : Stmt := inClass (top 17) 11
theorem sc_River_is_down : FnScope N_River_is_down ["self", "high", "low"] (defScope s_River_is_down) := ⟨rfl, rfl, rfl, by decide +kernel, rfl, by decide +kernel, by decide +kernel⟩
theorem ok_River_is_down {P : Program} {w : World} {K : PySem.W.Frag} {mg : Str → Option Value} {base : Heap} {f : Addr} {fd : FuncData} {T : List (Addr × Str)} (F : FunD K "is_down" "River.is_down" (defArgs s_River_is_down) (defBody s_River_is_down) (defScope s_River_is_down) [] [] f fd) (B : Bf mg) (G : GF2 K mg CS NAS KS ITS) (c_River_need : MCal P w K mg base 3 "River" "need" ["self", "weir"] (SpU K T U_River_need)) :
    FnOk P w K mg base (L2.CX P w) 4 f fd ["self", "high", "low"] (SpU K T U_River_is_down) := by
  refine F.ok sc_River_is_down (fun vs H Q E h => spu_len (fun _ _ _ => len_River_is_down) h) (fun cdv A outer s H vs Q E hr h => ?_)
  have hu := hu_of hr
  have hu65 := hu65_of hr
  have hu0 := hr.units
  have hu00 := Nat.lt_of_le_of_lt (Nat.le_add_right _ _) hu0
  exact ⟨_, (pss_cons (ps_expr (pe_mcalS (pv 0) c_River_need (G.cl (i := 0) rfl) (hr.mono (by decide)) (takes_of rfl rfl rfl rfl) (pa_cons (pv 1) pa_nil)))
  (pss_cons (ps_expr (pe_mcalS (pv 0) c_River_need (G.cl (i := 0) rfl) (hr.mono (by decide)) (takes_of rfl rfl rfl rfl) (pa_cons (pv 2) pa_nil)))
  (pss_one (ps_ret (pe_cmpR (op_inX hu65) (pv 2) (pe_ix (ix_U hu) (pe_fld (pv 0) rfl) (pv 1) (fun _ _ => rfl)) (by rfl)))))),
    spu_body (N := N_River_is_down) (u := u_River_is_down) (fun _ _ _ h => by rw [len_River_is_down h]; decide) pure_River_is_down (fun H0 G0 P0 => (tr_seq (tr_drop (tr_methS tr_var (tr_cons tr_var tr_nil)))
  (tr_seq (tr_drop (tr_methS tr_var (tr_cons tr_var tr_nil)))
  (tr_ret (tr_op tr_in tr_var (tr_fgt (tr_op tr_ix (tr_fld (G.cl (i := 0) rfl) (G.na (i := 2) rfl) tr_var) tr_var))))))) h⟩
abbrev s_River_way : Stmt := inClass (top 17) 13
theorem sc_River_way : FnScope N_River_way ["self", "intake", "last"] (defScope s_River_way) := ⟨rfl, rfl, rfl, by decide +kernel, rfl, by decide +kernel, by decide +kernel⟩
theorem ok_River_way {P : Program} {w : World} {K : PySem.W.Frag} {mg : Str → Option Value} {base : Heap} {f : Addr} {fd : FuncData} {T : List (Addr × Str)} (F : FunD K "way" "River.way" (defArgs s_River_way) (defBody s_River_way) (defScope s_River_way) [] [] f fd) (B : Bf mg) (G : GF2 K mg CS NAS KS ITS) (c_River_need : MCal P w K mg base 3 "River" "need" ["self", "weir"] (SpU K T U_River_need)) (x_NotDown : XCal P w K mg base 1 "NotDown" ["self", "high", "low"] (sp_xL "NotDown" ["high", "low"] K)) :
    FnOk P w K mg base (L2.CX P w) 4 f fd ["self", "intake", "last"] (SpU K T U_River_way) := by
  refine F.ok sc_River_way (fun vs H Q E h => spu_len (fun _ _ _ => len_River_way) h) (fun cdv A outer s H vs Q E hr h => ?_)
  have hu := hu_of hr
  have hu65 := hu65_of hr
  have hu0 := hr.units
  have hu00 := Nat.lt_of_le_of_lt (Nat.le_add_right _ _) hu0
  exact ⟨_, (pss_cons (ps_expr (pe_mcalS (pv 0) c_River_need (G.cl (i := 0) rfl) (hr.mono (by decide)) (takes_of rfl rfl rfl rfl) (pa_cons (pv 1) pa_nil)))
  (pss_cons (ps_set (i := 3) sc_River_way.nd rfl (Or.inl rfl) (pe_ix (ix_U hu) (pe_fld (pv 0) rfl) (pv 1) (fun _ _ => rfl)))
  (pss_cons (ps_if (pt_cmpR (op_eqU hu0) (pv 2) pe_str (nomark _)) (pss_one (ps_ret (pv 3))) pss_nil)
  (pss_cons (ps_expr (pe_mcalS (pv 0) c_River_need (G.cl (i := 0) rfl) (hr.mono (by decide)) (takes_of rfl rfl rfl rfl) (pa_cons (pv 2) pa_nil)))
  (pss_cons (ps_if (pt_cmpR (op_notInX hu65) (pv 2) (pv 3) (by rfl)) (pss_one (ps_raiseO rfl (takes_of rfl rfl rfl rfl) x_NotDown (hr.mono (by decide)) rfl (pa_cons (pv 1) (pa_cons (pv 2) pa_nil)))) pss_nil)
  (pss_one (ps_ret (pe_slice sl_U (pv 3) po_none (po_some (pe_op op_addU (pe_tidx (pv 3) (pa_cons (pv 2) pa_nil)) pe_int)))))))))),
    spu_body (N := N_River_way) (u := u_River_way) (fun _ _ _ h => by rw [len_River_way h]; decide) pure_River_way (fun H0 G0 P0 => (tr_seq (tr_drop (tr_methS tr_var (tr_cons tr_var tr_nil)))
  (tr_seq (tr_asg (tr_op tr_ix (tr_fld (G.cl (i := 0) rfl) (G.na (i := 2) rfl) tr_var) tr_var) tr_gF)
  (tr_seq (tr_ifS (tr_test (tr_op tr_eq tr_var tr_str)) (tr_ret (tr_fgt tr_var)) tr_next)
  (tr_seq (tr_drop (tr_methS tr_var (tr_cons tr_var tr_nil)))
  (tr_seq (tr_ifS (tr_test (tr_op tr_notIn tr_var (tr_fgt tr_var))) (tr_raise (by decide) (tr_cons tr_var (tr_cons tr_var tr_nil))) tr_next)
  (tr_ret (tr_sl (tr_fgt tr_var) tr_noPart (tr_part (tr_op tr_add (tr_tidx tr_var (tr_cons tr_var tr_nil)) tr_int)))))))))) h⟩
abbrev s_is_wrong_right : Stmt := top 20
theorem sc_is_wrong_right : FnScope N_is_wrong_right ["river", "entry", "earlier"] (defScope s_is_wrong_right) := ⟨rfl, rfl, rfl, by decide +kernel, rfl, by decide +kernel, by decide +kernel⟩
theorem ok_is_wrong_right {P : Program} {w : World} {K : PySem.W.Frag} {mg : Str → Option Value} {base : Heap} {f : Addr} {fd : FuncData} {T : List (Addr × Str)} (F : FunD K "is_wrong_right" "is_wrong_right" (defArgs s_is_wrong_right) (defBody s_is_wrong_right) (defScope s_is_wrong_right) [] [] f fd) (B : Bf mg) (G : GF2 K mg CS NAS KS ITS) (c_is_name : Cal P w K mg base 1 "is_name" ["value"] (SpU K T U_is_name)) :
    FnOk P w K mg base (L2.CX P w) 2 f fd ["river", "entry", "earlier"] (SpU K T U_is_wrong_right) := by
  refine F.ok sc_is_wrong_right (fun vs H Q E h => spu_len (fun _ _ _ => len_is_wrong_right) h) (fun cdv A outer s H vs Q E hr h => ?_)
  have hu := hu_of hr
  have hu65 := hu65_of hr
  have hu0 := hr.units
  have hu00 := Nat.lt_of_le_of_lt (Nat.le_add_right _ _) hu0
  exact ⟨_, (pss_cons (ps_if (PW.pt (pw_or (pt_not (pt_val (pe_callB call_isi (by rfl) B.isinstance bt_isinstance (pa_cons (pv 1) (pa_cons (pe_ty (T := "tuple") (by rfl) B.tuple (by decide +kernel)) pa_nil))))) (pw_or1 (pt_cmpR (op_neU hu0) (pe_callB cr_lenR (by rfl) B.len bt_len (pa_cons (pv 1) pa_nil)) pe_int (nomark _))))) (pss_one (ps_ret pe_bl)) pss_nil)
  (pss_cons (ps_asg (pv 1) (pg_tup rfl (pgs_cons (pg_name (i := 3) sc_is_wrong_right.nd rfl (Or.inl rfl)) (pgs_cons (pg_name (i := 4) sc_is_wrong_right.nd rfl (Or.inl rfl)) (pgs_cons (pg_name (i := 5) sc_is_wrong_right.nd rfl (Or.inl rfl)) pgs_nil)))))
  (pss_cons (ps_if (PW.pt (pw_or (pt_not (pt_val (pe_calS c_is_name (hr.mono (by decide)) rfl (takes_of rfl rfl rfl rfl) (pa_cons (pv 3) pa_nil)))) (pw_or (pt_cmpR (op_inX hu65) (pv 3) (pv 2) (by rfl)) (pw_or1 (pt_cmpR (op_notInX hu65) (pv 4) (pe_fld (pv 0) rfl) (by rfl)))))) (pss_one (ps_ret pe_bl)) pss_nil)
  (pss_one (ps_ret (pe_and (pe_cmpR (op_neU hu0) (pv 5) pe_str (nomark _)) (pe_one (pe_cmpR (op_notInX hu65) (pv 5) (pe_fld (pv 0) rfl) (by rfl))))))))),
    spu_body (N := N_is_wrong_right) (u := u_is_wrong_right) (fun _ _ _ h => by rw [len_is_wrong_right h]; decide) pure_is_wrong_right (fun H0 G0 P0 => (tr_seq (tr_ifS (tr_or (tr_not (tr_tB (tr_cb tr_isi (tr_cons tr_var (tr_cons tr_ty tr_nil))))) (tr_test (tr_op tr_ne (tr_cb tr_len (tr_cons tr_var tr_nil)) tr_int))) (tr_ret tr_bl) tr_next)
  (tr_seq (tr_asg tr_var (tr_gtup (tr_gcons tr_gF (tr_gcons tr_gF (tr_gcons tr_gF tr_gnil)))))
  (tr_seq (tr_ifS (tr_or (tr_not (tr_tB (tr_callS (tr_cons tr_var tr_nil)))) (tr_or (tr_test (tr_op tr_in tr_var tr_var)) (tr_test (tr_op tr_notIn tr_var (tr_fld (G.cl (i := 0) rfl) (G.na (i := 0) rfl) tr_var))))) (tr_ret tr_bl) tr_next)
  (tr_ret (tr_andV (tr_op tr_ne tr_var tr_str) (tr_op tr_notIn tr_var (tr_fld (G.cl (i := 0) rfl) (G.na (i := 0) rfl) tr_var)))))))) h⟩
abbrev s_rights_fault : Stmt := top 21
theorem sc_rights_fault : FnScope N_rights_fault ["river", "rows"] (defScope s_rights_fault) := ⟨rfl, rfl, rfl, by decide +kernel, rfl, by decide +kernel, by decide +kernel⟩
theorem ok_rights_fault {P : Program} {w : World} {K : PySem.W.Frag} {mg : Str → Option Value} {base : Heap} {f : Addr} {fd : FuncData} {T : List (Addr × Str)} (F : FunD K "rights_fault" "rights_fault" (defArgs s_rights_fault) (defBody s_rights_fault) (defScope s_rights_fault) [] [] f fd) (B : Bf mg) (G : GF2 K mg CS NAS KS ITS) (c_River_is_down : MCal P w K mg base 4 "River" "is_down" ["self", "high", "low"] (SpU K T U_River_is_down)) (c_is_wrong_right : Cal P w K mg base 2 "is_wrong_right" ["river", "entry", "earlier"] (SpU K T U_is_wrong_right)) :
    FnOk P w K mg base (L2.CX P w) 5 f fd ["river", "rows"] (SpU K T U_rights_fault) := by
  refine F.ok sc_rights_fault (fun vs H Q E h => spu_len (fun _ _ _ => len_rights_fault) h) (fun cdv A outer s H vs Q E hr h => ?_)
  have hu := hu_of hr
  have hu65 := hu65_of hr
  have hu0 := hr.units
  have hu00 := Nat.lt_of_le_of_lt (Nat.le_add_right _ _) hu0
  exact ⟨_, (pss_cons (ps_if (PW.pt (pw_or (pt_not (pt_val (pe_callB call_isi (by rfl) B.isinstance bt_isinstance (pa_cons (pv 1) (pa_cons (pe_ty (T := "list") (by rfl) B.list (by decide +kernel)) pa_nil))))) (pw_or1 (pt_cmpR op_gt (pe_callB cr_lenR (by rfl) B.len bt_len (pa_cons (pv 1) pa_nil)) (pe_gl (v := (.int 40)) rfl (G.k (i := 2) rfl)) (nomark _))))) (pss_one (ps_ret (pe_un un_neg pe_int))) pss_nil)
  (pss_cons (ps_set (i := 2) sc_rights_fault.nd rfl (Or.inl rfl) pe_dnewK)
  (pss_cons (ps_for (passes_of rfl) rfl (pi_enum rfl B.enumerate (pa_cons (pv 1) pa_nil)) (pg_tup rfl (pgs_cons (pg_name (i := 3) sc_rights_fault.nd rfl (Or.inl rfl)) (pgs_cons (pg_name (i := 4) sc_rights_fault.nd rfl (Or.inl rfl)) pgs_nil))) (pss_cons (ps_if (pt_val (pe_calS c_is_wrong_right (hr.mono (by decide)) rfl (takes_of rfl rfl rfl rfl) (pa_cons (pv 0) (pa_cons (pv 4) (pa_cons (pv 2) pa_nil))))) (pss_one (ps_ret (pv 3))) pss_nil)
  (pss_one (ps_asg pe_bl (pg_sub (pv 2) (pe_ix (ix_U hu) (pv 4) pe_int (fun _ _ => rfl)) (set_U hu))))))
  (pss_cons (ps_for (passes_of rfl) rfl (pi_enum rfl B.enumerate (pa_cons (pv 1) pa_nil)) (pg_tup rfl (pgs_cons (pg_name (i := 3) sc_rights_fault.nd rfl (Or.inl rfl)) (pgs_cons (pg_name (i := 4) sc_rights_fault.nd rfl (Or.inl rfl)) pgs_nil))) (pss_one (ps_if (PW.pt (pw_and (pt_cmpR (op_neU hu0) (pe_ix (ix_U hu) (pv 4) pe_int (fun _ _ => rfl)) pe_str (nomark _)) (pw_and1 (pt_not (pt_val (pe_mcalS (pv 0) c_River_is_down (G.cl (i := 0) rfl) (hr.mono (by decide)) (takes_of rfl rfl rfl rfl) (pa_cons (pe_ix (ix_U hu) (pv 4) pe_int (fun _ _ => rfl)) (pa_cons (pe_ix (ix_U hu) (pv 4) pe_int (fun _ _ => rfl)) pa_nil)))))))) (pss_one (ps_ret (pv 3))) pss_nil)))
  (pss_one (ps_ret pe_non)))))),
    spu_body (N := N_rights_fault) (u := u_rights_fault) (fun _ _ _ h => by rw [len_rights_fault h]; decide) pure_rights_fault (fun H0 G0 P0 => (tr_seq (tr_ifS (tr_or (tr_not (tr_tB (tr_cb tr_isi (tr_cons tr_var (tr_cons tr_ty tr_nil))))) (tr_test (tr_op tr_I0b (tr_cb tr_len (tr_cons tr_var tr_nil)) tr_int))) (tr_ret (tr_un tr_neg tr_int)) tr_next)
  (tr_seq (tr_asg tr_dnew tr_gO)
  (tr_seq (tr_for (tr_ienum (tr_cons tr_var tr_nil)) (tr_gtup (tr_gcons tr_gF (tr_gcons tr_gF tr_gnil))) (tr_seq (tr_ifS (tr_tB (tr_callS (tr_cons tr_var (tr_cons tr_var (tr_cons tr_var tr_nil))))) (tr_ret tr_var) tr_next)
  (tr_setI tr_bl tr_var (tr_op tr_ix tr_var tr_int))))
  (tr_seq (tr_for (tr_ienum (tr_cons tr_var tr_nil)) (tr_gtup (tr_gcons tr_gF (tr_gcons tr_gF tr_gnil))) (tr_ifS (tr_and (tr_test (tr_op tr_ne (tr_op tr_ix tr_var tr_int) tr_str)) (tr_not (tr_tB (tr_methS tr_var (tr_cons (tr_op tr_ix tr_var tr_int) (tr_cons (tr_op tr_ix tr_var tr_int) tr_nil)))))) (tr_ret tr_var) tr_next))
  (tr_ret tr_non)))))) h⟩
abbrev s_Rights__init_ : Stmt := inClass (top 22) 0
theorem sc_Rights__init_ : FnScope N_Rights__init_ ["self", "river", "rows"] (defScope s_Rights__init_) := ⟨rfl, rfl, rfl, by decide +kernel, rfl, by decide +kernel, by decide +kernel⟩
theorem ok_Rights__init_ {P : Program} {w : World} {K : PySem.W.Frag} {mg : Str → Option Value} {base : Heap} {f : Addr} {fd : FuncData} {T : List (Addr × Str)} (F : FunD K "__init__" "Rights.__init__" (defArgs s_Rights__init_) (defBody s_Rights__init_) (defScope s_Rights__init_) [] [] f fd) (B : Bf mg) (G : GF2 K mg CS NAS KS ITS) (c_River_way : MCal P w K mg base 4 "River" "way" ["self", "intake", "last"] (SpU K T U_River_way)) (c_rights_fault : Cal P w K mg base 5 "rights_fault" ["river", "rows"] (SpU K T U_rights_fault)) (x_NotRights : XCal P w K mg base 1 "NotRights" ["self", "place"] (sp_xL "NotRights" ["place"] K)) :
    FnOk P w K mg base (L2.CX P w) 6 f fd ["self", "river", "rows"] (SpU K T U_Rights__init_) := by
  refine F.ok sc_Rights__init_ (fun vs H Q E h => spu_len (fun _ _ _ => len_Rights__init_) h) (fun cdv A outer s H vs Q E hr h => ?_)
  have hu := hu_of hr
  have hu65 := hu65_of hr
  have hu0 := hr.units
  have hu00 := Nat.lt_of_le_of_lt (Nat.le_add_right _ _) hu0
  exact ⟨_, (pss_cons (ps_set (i := 3) sc_Rights__init_.nd rfl (Or.inl rfl) (pe_calS c_rights_fault (hr.mono (by decide)) rfl (takes_of rfl rfl rfl rfl) (pa_cons (pv 1) (pa_cons (pv 2) pa_nil))))
  (pss_cons (ps_if (pt_cmpR op_notNn (pv 3) pe_non (nomark _)) (pss_one (ps_raiseO rfl (takes_of rfl rfl rfl rfl) x_NotRights (hr.mono (by decide)) rfl (pa_cons (pv 3) pa_nil))) pss_nil)
  (pss_cons (ps_fld (pv 0) (pv 1) rfl)
  (pss_cons (ps_fld (pv 0) (pe_callTy call_tuple_of (by rfl) B.tuple bt_tuple (pa_cons (pe_lc (own := [("name", 4), ("intake", 5), ("last", 6)]) (g := (gTup K 3 (gCons (gName 4) (gCons (gName 5) (gCons (gName 6) gNil))))) (tt := tYes) (te := (tVar 4)) (by rfl) sc_Rights__init_.nd (pi_seq (pv 2)) (blkOk_by (own := [("name", 4), ("intake", 5), ("last", 6)]) (N := N_Rights__init_) (sc := defScope s_Rights__init_) (by decide +kernel)) (fun _ _ _ _ _ => (pg_tup rfl (pgs_cons (pg_name (i := 4) sc_Rights__init_.nd rfl (Or.inl rfl)) (pgs_cons (pg_name (i := 5) sc_Rights__init_.nd rfl (Or.inl rfl)) (pgs_cons (pg_name (i := 6) sc_Rights__init_.nd rfl (Or.inl rfl)) pgs_nil))))) (fun _ _ _ _ _ => pts_nil) (fun _ _ _ _ _ => (pv 4))) pa_nil)) rfl)
  (pss_cons (ps_fld (pv 0) (pe_dc (own := [("entry", 7)]) (g := (gName 7)) (tt := tYes) (tv := (tVar 7)) (tk := (tOp (rIxU K) (tVar 7) (tC (.int 0)))) (by rfl) sc_Rights__init_.nd (pi_seq (pv 2)) (blkOk_by (own := [("entry", 7)]) (N := N_Rights__init_) (sc := defScope s_Rights__init_) (by decide +kernel)) (fun _ _ _ _ _ => (pg_name (i := 7) sc_Rights__init_.nd rfl (Or.inl rfl))) (fun _ _ _ _ _ => pts_nil) (fun _ _ _ _ _ => (pe_ix (ix_U hu) (pv 7) pe_int (fun _ _ => rfl))) (fun _ _ _ _ _ => (pv 7))) rfl)
  (pss_cons (ps_fld (pv 0) (pe_dc (own := [("name", 4), ("intake", 5), ("last", 6)]) (g := (gTup K 3 (gCons (gName 4) (gCons (gName 5) (gCons (gName 6) gNil))))) (tt := tYes) (tv := (tMethS (He.ga K "River") "way" (SpU K T U_River_way) (WE fun _ _ _ _ => False) (tVar 1) (tCons (tVar 5) (tCons (tVar 6) tNil)))) (tk := (tVar 4)) (by rfl) sc_Rights__init_.nd (pi_seq (pv 2)) (blkOk_by (own := [("name", 4), ("intake", 5), ("last", 6)]) (N := N_Rights__init_) (sc := defScope s_Rights__init_) (by decide +kernel)) (fun _ _ _ _ _ => (pg_tup rfl (pgs_cons (pg_name (i := 4) sc_Rights__init_.nd rfl (Or.inl rfl)) (pgs_cons (pg_name (i := 5) sc_Rights__init_.nd rfl (Or.inl rfl)) (pgs_cons (pg_name (i := 6) sc_Rights__init_.nd rfl (Or.inl rfl)) pgs_nil))))) (fun _ _ _ _ _ => pts_nil) (fun _ _ _ _ _ => (pv 4)) (fun _ _ _ _ _ => (pe_mcalS (pv 1) c_River_way (G.cl (i := 0) rfl) (hr.mono (by decide)) LamX.takes0 (pa_cons (pv 5) (pa_cons (pv 6) pa_nil))))) rfl)
  (pss_one (ps_fld (pv 0) (pe_dc (own := [("name", 4)]) (g := (gName 4)) (tt := tYes) (tv := (tDc (iSeq K (tOp (rIxU K) (tFld K (tVar 0) "ways") (tVar 4))) (gName 8) tYes (tVar 8) (tC (.bl true)) [8])) (tk := (tVar 4)) (by rfl) sc_Rights__init_.nd (pi_seq (pe_fld (pv 0) rfl)) (blkOk_by (own := [("name", 4)]) (N := N_Rights__init_) (sc := defScope s_Rights__init_) (by decide +kernel)) (fun _ _ _ _ _ => (pg_name (i := 4) sc_Rights__init_.nd rfl (Or.inl rfl))) (fun _ _ _ _ _ => pts_nil) (fun _ _ _ _ _ => (pv 4)) (fun _ _ _ _ _ => (pe_dc (own := [("weir", 8)]) (g := (gName 8)) (tt := tYes) (tv := (tC (.bl true))) (tk := (tVar 8)) (by rfl) sc_Rights__init_.nd (pi_seq (pe_ix (ix_U hu) (pe_fld (pv 0) rfl) (pv 4) (fun _ _ => rfl))) (blkOk_by (own := [("weir", 8)]) (N := N_Rights__init_) (by rfl)) (fun _ _ _ _ _ => (pg_name (i := 8) sc_Rights__init_.nd rfl (Or.inl rfl))) (fun _ _ _ _ _ => pts_nil) (fun _ _ _ _ _ => (pv 8)) (fun _ _ _ _ _ => pe_bl)))) rfl)))))))),
    spu_body (N := N_Rights__init_) (u := u_Rights__init_) (fun _ _ _ h => by rw [len_Rights__init_ h]; decide) pure_Rights__init_ (fun H0 G0 P0 => (tr_seq (tr_asg (tr_callS (tr_cons tr_var (tr_cons tr_var tr_nil))) tr_gF)
  (tr_seq (tr_ifS (tr_test (tr_op tr_notN tr_var tr_non)) (tr_raise (by decide) (tr_cons tr_var tr_nil)) tr_next)
  (tr_seq (tr_sfld (G.cl (i := 1) rfl) (G.na (i := 3) rfl) tr_var tr_var)
  (tr_seq (tr_sfld (G.cl (i := 1) rfl) (G.na (i := 4) rfl) tr_var (tr_cb tr_tuple (tr_cons (tr_lc (tr_iseq tr_var) (tr_gtup (tr_gcons tr_gF (tr_gcons tr_gF (tr_gcons tr_gF tr_gnil)))) (gmono_tup (gmono_cons gmono_name (gmono_cons gmono_name (gmono_cons gmono_name gmono_nil)))) (gin_tup (gin_cons gmono_name (gmono_cons gmono_name (gmono_cons gmono_name gmono_nil)) (gin_name (by decide)) (gin_cons gmono_name (gmono_cons gmono_name gmono_nil) (gin_name (by decide)) (gin_cons gmono_name gmono_nil (gin_name (by decide)) gin_nil)))) tr_yes tr_var) tr_nil)))
  (tr_seq (tr_sfld (G.cl (i := 1) rfl) (G.na (i := 5) rfl) tr_var (tr_dc (tr_iseq tr_var) tr_gF gmono_name (gin_name (by decide)) tr_yes (tr_op tr_ix tr_var tr_int) tr_var))
  (tr_seq (tr_sfld (G.cl (i := 1) rfl) (G.na (i := 6) rfl) tr_var (tr_dc (tr_iseq tr_var) (tr_gtup (tr_gcons tr_gF (tr_gcons tr_gF (tr_gcons tr_gF tr_gnil)))) (gmono_tup (gmono_cons gmono_name (gmono_cons gmono_name (gmono_cons gmono_name gmono_nil)))) (gin_tup (gin_cons gmono_name (gmono_cons gmono_name (gmono_cons gmono_name gmono_nil)) (gin_name (by decide)) (gin_cons gmono_name (gmono_cons gmono_name gmono_nil) (gin_name (by decide)) (gin_cons gmono_name gmono_nil (gin_name (by decide)) gin_nil)))) tr_yes tr_var (tr_methS tr_var (tr_cons tr_var (tr_cons tr_var tr_nil)))))
  (tr_sfld (G.cl (i := 1) rfl) (G.na (i := 7) rfl) tr_var (tr_dc (tr_iseq (tr_fld (G.cl (i := 1) rfl) (G.na (i := 4) rfl) tr_var)) tr_gF gmono_name (gin_name (by decide)) tr_yes tr_var (tr_dc (tr_iseq (tr_op tr_ix (tr_fld (G.cl (i := 1) rfl) (G.na (i := 6) rfl) tr_var) tr_var)) tr_gF gmono_name (gin_name (by decide)) tr_yes tr_var tr_bl)))))))))) h⟩
abbrev s_Rights__len_ : Stmt := inClass (top 22) 1
theorem sc_Rights__len_ : FnScope N_Rights__len_ ["self"] (defScope s_Rights__len_) := ⟨rfl, rfl, rfl, by decide +kernel, rfl, by decide +kernel, by decide +kernel⟩
theorem ok_Rights__len_ {P : Program} {w : World} {K : PySem.W.Frag} {mg : Str → Option Value} {base : Heap} {f : Addr} {fd : FuncData} {T : List (Addr × Str)} (F : FunD K "__len__" "Rights.__len__" (defArgs s_Rights__len_) (defBody s_Rights__len_) (defScope s_Rights__len_) [] [] f fd) (B : Bf mg) (G : GF2 K mg CS NAS KS ITS)  :
    FnOk P w K mg base (L2.CX P w) 1 f fd ["self"] (SpU K T U_Rights__len_) := by
  refine F.ok sc_Rights__len_ (fun vs H Q E h => spu_len (fun _ _ _ => len_Rights__len_) h) (fun cdv A outer s H vs Q E hr h => ?_)
  have hu := hu_of hr
  have hu65 := hu65_of hr
  have hu0 := hr.units
  have hu00 := Nat.lt_of_le_of_lt (Nat.le_add_right _ _) hu0
  exact ⟨_, (pss_one (ps_ret (pe_callB cr_lenR (by rfl) B.len bt_len (pa_cons (pe_fld (pv 0) rfl) pa_nil)))),
    spu_body (N := N_Rights__len_) (u := u_Rights__len_) (fun _ _ _ h => by rw [len_Rights__len_ h]; decide) pure_Rights__len_ (fun H0 G0 P0 => (tr_ret (tr_cb tr_len (tr_cons (tr_fld (G.cl (i := 1) rfl) (G.na (i := 4) rfl) tr_var) tr_nil)))) h⟩
abbrev s_Rights_rows : Stmt := inClass (top 22) 5
theorem sc_Rights_rows : FnScope N_Rights_rows ["self"] (defScope s_Rights_rows) := ⟨rfl, rfl, rfl, by decide +kernel, rfl, by decide +kernel, by decide +kernel⟩
theorem ok_Rights_rows {P : Program} {w : World} {K : PySem.W.Frag} {mg : Str → Option Value} {base : Heap} {f : Addr} {fd : FuncData} {T : List (Addr × Str)} (F : FunD K "rows" "Rights.rows" (defArgs s_Rights_rows) (defBody s_Rights_rows) (defScope s_Rights_rows) [] [] f fd) (B : Bf mg) (G : GF2 K mg CS NAS KS ITS)  :
    FnOk P w K mg base (L2.CX P w) 1 f fd ["self"] (SpU K T U_Rights_rows) := by
  refine F.ok sc_Rights_rows (fun vs H Q E h => spu_len (fun _ _ _ => len_Rights_rows) h) (fun cdv A outer s H vs Q E hr h => ?_)
  have hu := hu_of hr
  have hu65 := hu65_of hr
  have hu0 := hr.units
  have hu00 := Nat.lt_of_le_of_lt (Nat.le_add_right _ _) hu0
  exact ⟨_, (pss_one (ps_ret (pe_lc (own := [("name", 1)]) (g := (gName 1)) (tt := tYes) (te := (tOp (rIxU K) (tFld K (tVar 0) "entries") (tVar 1))) (by rfl) sc_Rights_rows.nd (pi_seq (pe_fld (pv 0) rfl)) (blkOk_by (own := [("name", 1)]) (N := N_Rights_rows) (sc := defScope s_Rights_rows) (by decide +kernel)) (fun _ _ _ _ _ => (pg_name (i := 1) sc_Rights_rows.nd rfl (Or.inl rfl))) (fun _ _ _ _ _ => pts_nil) (fun _ _ _ _ _ => (pe_ix (ix_U hu) (pe_fld (pv 0) rfl) (pv 1) (fun _ _ => rfl)))))),
    spu_body (N := N_Rights_rows) (u := u_Rights_rows) (fun _ _ _ h => by rw [len_Rights_rows h]; decide) pure_Rights_rows (fun H0 G0 P0 => (tr_ret (tr_lc (tr_iseq (tr_fld (G.cl (i := 1) rfl) (G.na (i := 4) rfl) tr_var)) tr_gF gmono_name (gin_name (by decide)) tr_yes (tr_op tr_ix (tr_fld (G.cl (i := 1) rfl) (G.na (i := 5) rfl) tr_var) tr_var)))) h⟩
abbrev s_Rights_joined : Stmt := inClass (top 22) 16
theorem sc_Rights_joined : FnScope N_Rights_joined ["self", "row"] (defScope s_Rights_joined) := ⟨rfl, rfl, rfl, by decide +kernel, rfl, by decide +kernel, by decide +kernel⟩
theorem ok_Rights_joined {P : Program} {w : World} {K : PySem.W.Frag} {mg : Str → Option Value} {base : Heap} {f : Addr} {fd : FuncData} {T : List (Addr × Str)} (F : FunD K "joined" "Rights.joined" (defArgs s_Rights_joined) (defBody s_Rights_joined) (defScope s_Rights_joined) [] [] f fd) (B : Bf mg) (G : GF2 K mg CS NAS KS ITS) (c_Rights__init_ : ICal P w K mg base 6 "Rights" ["self", "river", "rows"] (SpU K T U_Rights__init_)) (c_Rights_rows : MCal P w K mg base 1 "Rights" "rows" ["self"] (SpU K T U_Rights_rows)) :
    FnOk P w K mg base (L2.CX P w) 8 f fd ["self", "row"] (SpU K T U_Rights_joined) := by
  refine F.ok sc_Rights_joined (fun vs H Q E h => spu_len (fun _ _ _ => len_Rights_joined) h) (fun cdv A outer s H vs Q E hr h => ?_)
  have hu := hu_of hr
  have hu65 := hu65_of hr
  have hu0 := hr.units
  have hu00 := Nat.lt_of_le_of_lt (Nat.le_add_right _ _) hu0
  exact ⟨_, (pss_one (ps_ret (pe_makS c_Rights__init_ (hr.mono (by decide)) rfl (takes_of rfl rfl rfl rfl) (pa_cons (pe_fld (pv 0) rfl) (pa_cons (pe_lst (StX.pa_star (pe_mcal0S (pv 0) c_Rights_rows (G.cl (i := 1) rfl) (hr.mono (by decide)) (takes_of rfl rfl rfl rfl)) (pa_cons (pv 1) pa_nil))) pa_nil))))),
    spu_body (N := N_Rights_joined) (u := u_Rights_joined) (fun _ _ _ h => by rw [len_Rights_joined h]; decide) pure_Rights_joined (fun H0 G0 P0 => (tr_ret (tr_makeS (tr_cons (tr_fld (G.cl (i := 1) rfl) (G.na (i := 3) rfl) tr_var) (tr_cons (tr_lst (tr_star (tr_methS tr_var tr_nil) (tr_cons tr_var tr_nil))) tr_nil))))) h⟩
end WK
namespace WK
open PySem L2
abbrev s_l_right_names : Stmt := top 31
theorem sc_l_right_names : FnScope N_l_right_names ["_law_bag_here", "_law_rows", "_law_many"] (defScope s_l_right_names) := ⟨rfl, rfl, rfl, by decide +kernel, rfl, by decide +kernel, by decide +kernel⟩
theorem ok_l_right_names {P : Program} {w : World} {K : PySem.W.Frag} {mg : Str → Option Value} {base : Heap} {f : Addr} {fd : FuncData} {T : List (Addr × Str)} (F : FunD K "_law_right_names" "_law_right_names" (defArgs s_l_right_names) (defBody s_l_right_names) (defScope s_l_right_names) [] [] f fd) (B : Bf mg) (G : GF2 K mg CS NAS KS ITS) (c_l_mixed : Cal P w K mg base 2 "_law_mixed" ["_law_bag_here", "_law_some"] (SpU K T U_l_mixed)) (c_l_names : Cal P w K mg base 3 "_law_names" ["_law_bag_here", "_law_many"] (SpU K T U_l_names)) (c_l_take : Cal P w K mg base 1 "_law_take" ["_law_bag_here", "_law_many"] (SpU K T U_l_take)) :
    FnOk P w K mg base (L2.CX P w) 4 f fd ["_law_bag_here", "_law_rows", "_law_many"] (SpU K T U_l_right_names) := by
  refine F.ok sc_l_right_names (fun vs H Q E h => spu_len (fun _ _ _ => len_l_right_names) h) (fun cdv A outer s H vs Q E hr h => ?_)
  have hu := hu_of hr
  have hu65 := hu65_of hr
  have hu0 := hr.units
  have hu00 := Nat.lt_of_le_of_lt (Nat.le_add_right _ _) hu0
  exact ⟨_, (pss_cons (ps_set (i := 3) sc_l_right_names.nd rfl (Or.inl rfl) (pe_calS c_l_names (hr.mono (by decide)) rfl (takes_of rfl rfl rfl rfl) (pa_cons (pv 0) (pa_cons (pv 2) pa_nil))))
  (pss_cons (ps_if (PW.pt (pw_and (pt_cmpR op_le (pv 2) (pe_callB cr_lenR (by rfl) B.len bt_len (pa_cons (pv 1) pa_nil)) (nomark _)) (pw_and1 (pt_cmpR (op_eqU hu0) (pe_calS c_l_take (hr.mono (by decide)) rfl (takes_of rfl rfl rfl rfl) (pa_cons (pv 0) (pa_cons pe_int pa_nil))) pe_int (nomark _))))) (pss_one (ps_set (i := 3) sc_l_right_names.nd rfl (Or.inl rfl) (pe_slice sl_U (pe_lc (own := [("_law_row", 4)]) (g := (gName 4)) (tt := tYes) (te := (tOp (rIxU K) (tVar 4) (tC (.int 0)))) (by rfl) sc_l_right_names.nd (pi_seq (pe_calS c_l_mixed (hr.mono (by decide)) rfl (takes_of rfl rfl rfl rfl) (pa_cons (pv 0) (pa_cons (pv 1) pa_nil)))) (blkOk_by (own := [("_law_row", 4)]) (N := N_l_right_names) (sc := defScope s_l_right_names) (by decide +kernel)) (fun _ _ _ _ _ => (pg_name (i := 4) sc_l_right_names.nd rfl (Or.inl rfl))) (fun _ _ _ _ _ => pts_nil) (fun _ _ _ _ _ => (pe_ix (ix_U hu) (pv 4) pe_int (fun _ _ => rfl)))) po_none (po_some (pv 2))))) pss_nil)
  (pss_cons (ps_if (PW.pt (pw_and (pt_cmpR op_gt (pv 2) pe_int (nomark _)) (pw_and1 (pt_cmpR (op_eqU hu0) (pe_calS c_l_take (hr.mono (by decide)) rfl (takes_of rfl rfl rfl rfl) (pa_cons (pv 0) (pa_cons pe_int pa_nil))) pe_int (nomark _))))) (pss_one (ps_asg pe_str (pg_sub (pv 3) (pe_calS c_l_take (hr.mono (by decide)) rfl (takes_of rfl rfl rfl rfl) (pa_cons (pv 0) (pa_cons (pv 2) pa_nil))) (set_U hu)))) pss_nil)
  (pss_one (ps_ret (pv 3)))))),
    spu_body (N := N_l_right_names) (u := u_l_right_names) (fun _ _ _ h => by rw [len_l_right_names h]; decide) pure_l_right_names (fun H0 G0 P0 => (tr_seq (tr_asg (tr_callS (tr_cons tr_var (tr_cons tr_var tr_nil))) tr_gO)
  (tr_seq (tr_ifS (tr_and (tr_test (tr_op tr_I0b tr_var (tr_cb tr_len (tr_cons tr_var tr_nil)))) (tr_test (tr_op tr_eq (tr_callS (tr_cons tr_var (tr_cons tr_int tr_nil))) tr_int))) (tr_asg (tr_sl (tr_lc (tr_iseq (tr_callS (tr_cons tr_var (tr_cons tr_var tr_nil)))) tr_gF gmono_name (gin_name (by decide)) tr_yes (tr_op tr_ix tr_var tr_int)) tr_noPart (tr_part tr_var)) tr_gO) tr_next)
  (tr_seq (tr_ifS (tr_and (tr_test (tr_op tr_I0b tr_var tr_int)) (tr_test (tr_op tr_eq (tr_callS (tr_cons tr_var (tr_cons tr_int tr_nil))) tr_int))) (tr_setI tr_str tr_var (tr_callS (tr_cons tr_var (tr_cons tr_var tr_nil)))) tr_next)
  (tr_ret tr_var))))) h⟩
abbrev s_l_rights : Stmt := top 32
theorem sc_l_rights : FnScope N_l_rights ["_law_bag_here", "_law_rows", "_law_many"] (defScope s_l_rights) := ⟨rfl, rfl, rfl, by decide +kernel, rfl, by decide +kernel, by decide +kernel⟩
theorem ok_l_rights {P : Program} {w : World} {K : PySem.W.Frag} {mg : Str → Option Value} {base : Heap} {f : Addr} {fd : FuncData} {T : List (Addr × Str)} (F : FunD K "_law_rights" "_law_rights" (defArgs s_l_rights) (defBody s_l_rights) (defScope s_l_rights) [] [] f fd) (B : Bf mg) (G : GF2 K mg CS NAS KS ITS) (c_l_course : Cal P w K mg base 1 "_law_course" ["_law_rows", "_law_weir"] (SpU K T U_l_course)) (c_l_of : Cal P w K mg base 2 "_law_of" ["_law_bag_here", "_law_some"] (SpU K T U_l_of)) (c_l_right_names : Cal P w K mg base 4 "_law_right_names" ["_law_bag_here", "_law_rows", "_law_many"] (SpU K T U_l_right_names)) (c_l_take : Cal P w K mg base 1 "_law_take" ["_law_bag_here", "_law_many"] (SpU K T U_l_take)) :
    FnOk P w K mg base (L2.CX P w) 5 f fd ["_law_bag_here", "_law_rows", "_law_many"] (SpU K T U_l_rights) := by
  refine F.ok sc_l_rights (fun vs H Q E h => spu_len (fun _ _ _ => len_l_rights) h) (fun cdv A outer s H vs Q E hr h => ?_)
  have hu := hu_of hr
  have hu65 := hu65_of hr
  have hu0 := hr.units
  have hu00 := Nat.lt_of_le_of_lt (Nat.le_add_right _ _) hu0
  exact ⟨_, (pss_cons (ps_set (i := 3) sc_l_rights.nd rfl (Or.inl rfl) (pe_lst pa_nil))
  (pss_cons (ps_for (passes_of rfl) rfl (pi_seq (pe_calS c_l_right_names (hr.mono (by decide)) rfl (takes_of rfl rfl rfl rfl) (pa_cons (pv 0) (pa_cons (pv 1) (pa_cons (pv 2) pa_nil))))) (pg_name (i := 4) sc_l_rights.nd rfl (Or.inl rfl)) (pss_cons (ps_set (i := 5) sc_l_rights.nd rfl (Or.inl rfl) (pe_calS c_l_course (hr.mono (by decide)) rfl (takes_of rfl rfl rfl rfl) (pa_cons (pv 1) (pa_cons (pe_ix (ix_U hu) (pe_calS c_l_of (hr.mono (by decide)) rfl (takes_of rfl rfl rfl rfl) (pa_cons (pv 0) (pa_cons (pv 1) pa_nil))) pe_int (fun _ _ => rfl)) pa_nil))))
  (pss_cons (ps_set (i := 6) sc_l_rights.nd rfl (Or.inl rfl) (pe_calS c_l_take (hr.mono (by decide)) rfl (takes_of rfl rfl rfl rfl) (pa_cons (pv 0) (pa_cons (pe_op op_addU (pe_callB cr_lenR (by rfl) B.len bt_len (pa_cons (pv 5) pa_nil)) pe_int) pa_nil))))
  (pss_one (ps_expr (pe_bm PySem.F.plainAttrs_list PySem.F.slot_list_append PySem.F.type_list_append mt_append (pv 3) (pa_cons (pe_tup (pa_cons (pv 4) (pa_cons (pe_ix (ix_U hu) (pv 5) pe_int (fun _ _ => rfl)) (pa_cons (pe_ifExp (pt_cmpR op_lt (pv 6) (pe_callB cr_lenR (by rfl) B.len bt_len (pa_cons (pv 5) pa_nil)) (nomark _)) (pe_ix (ix_U hu) (pv 5) (pv 6) (fun _ _ => rfl)) pe_str) pa_nil)))) pa_nil)))))))
  (pss_one (ps_ret (pv 3))))),
    spu_body (N := N_l_rights) (u := u_l_rights) (fun _ _ _ h => by rw [len_l_rights h]; decide) pure_l_rights (fun H0 G0 P0 => (tr_seq (tr_asg (tr_lst tr_nil) tr_gO)
  (tr_seq (tr_for (tr_iseq (tr_callS (tr_cons tr_var (tr_cons tr_var (tr_cons tr_var tr_nil))))) tr_gF (tr_seq (tr_asg (tr_callS (tr_cons tr_var (tr_cons (tr_op tr_ix (tr_callS (tr_cons tr_var (tr_cons tr_var tr_nil))) tr_int) tr_nil))) tr_gF)
  (tr_seq (tr_asg (tr_callS (tr_cons tr_var (tr_cons (tr_op tr_add (tr_cb tr_len (tr_cons tr_var tr_nil)) tr_int) tr_nil))) tr_gF)
  (tr_drop (tr_bm tr_app tr_var (tr_cons (tr_tup (tr_cons tr_var (tr_cons (tr_op tr_ix tr_var tr_int) (tr_cons (tr_if (tr_test (tr_op tr_I0b tr_var (tr_cb tr_len (tr_cons tr_var tr_nil)))) (tr_op tr_ix tr_var tr_var) tr_str) tr_nil)))) tr_nil))))))
  (tr_ret tr_var)))) h⟩
abbrev s_l_is_name : Stmt := top 33
theorem sc_l_is_name : FnScope N_l_is_name ["_law_word"] (defScope s_l_is_name) := ⟨rfl, rfl, rfl, by decide +kernel, rfl, by decide +kernel, by decide +kernel⟩
theorem ok_l_is_name {P : Program} {w : World} {K : PySem.W.Frag} {mg : Str → Option Value} {base : Heap} {f : Addr} {fd : FuncData} {T : List (Addr × Str)} (F : FunD K "_law_is_name" "_law_is_name" (defArgs s_l_is_name) (defBody s_l_is_name) (defScope s_l_is_name) [] [] f fd) (B : Bf mg) (G : GF2 K mg CS NAS KS ITS)  :
    FnOk P w K mg base (L2.CX P w) 1 f fd ["_law_word"] (SpU K T U_l_is_name) := by
  refine F.ok sc_l_is_name (fun vs H Q E h => spu_len (fun _ _ _ => len_l_is_name) h) (fun cdv A outer s H vs Q E hr h => ?_)
  have hu := hu_of hr
  have hu65 := hu65_of hr
  have hu0 := hr.units
  have hu00 := Nat.lt_of_le_of_lt (Nat.le_add_right _ _) hu0
  exact ⟨_, (pss_cons (ps_if (PW.pt (pw_or (pt_not (pt_val (pe_callB call_isi (by rfl) B.isinstance bt_isinstance (pa_cons (pv 0) (pa_cons (pe_ty (T := "str") (by rfl) B.str (by decide +kernel)) pa_nil))))) (pw_or1 (pt_not (pt_chain op_le op_le pe_int (pe_callB cr_lenR (by rfl) B.len bt_len (pa_cons (pv 0) pa_nil)) pe_int))))) (pss_one (ps_ret pe_bl)) pss_nil)
  (pss_one (ps_ret (pe_callB (cr_all rfl) (by rfl) B.all bt_all (pa_cons (pe_lc (own := [("_law_letter", 1)]) (g := (gName 1)) (tt := tYes) (te := (tOp (rInX K) (tVar 1) (tC (.str "abcdefghijklmnopqrstuvwxyz")))) (by rfl) sc_l_is_name.nd (pi_seq (pv 0)) (blkOk_by (own := [("_law_letter", 1)]) (N := N_l_is_name) (sc := defScope s_l_is_name) (by decide +kernel)) (fun _ _ _ _ _ => (pg_name (i := 1) sc_l_is_name.nd rfl (Or.inl rfl))) (fun _ _ _ _ _ => pts_nil) (fun _ _ _ _ _ => (pe_cmpR (op_inX hu65) (pv 1) pe_str (by rfl)))) pa_nil))))),
    spu_body (N := N_l_is_name) (u := u_l_is_name) (fun _ _ _ h => by rw [len_l_is_name h]; decide) pure_l_is_name (fun H0 G0 P0 => (tr_seq (tr_ifS (tr_or (tr_not (tr_tB (tr_cb tr_isi (tr_cons tr_var (tr_cons tr_ty tr_nil))))) (tr_not (tr_test (tr_chain tr_I0b tr_I0b tr_int (tr_cb tr_len (tr_cons tr_var tr_nil)) tr_int)))) (tr_ret tr_bl) tr_next)
  (tr_ret (tr_cb tr_all (tr_cons (tr_lc (tr_iseq tr_var) tr_gF gmono_name (gin_name (by decide)) tr_yes (tr_op tr_in tr_var tr_str)) tr_nil))))) h⟩
abbrev s_l_is_pair : Stmt := top 34
theorem sc_l_is_pair : FnScope N_l_is_pair ["_law_entry", "_law_earlier"] (defScope s_l_is_pair) := ⟨rfl, rfl, rfl, by decide +kernel, rfl, by decide +kernel, by decide +kernel⟩
theorem ok_l_is_pair {P : Program} {w : World} {K : PySem.W.Frag} {mg : Str → Option Value} {base : Heap} {f : Addr} {fd : FuncData} {T : List (Addr × Str)} (F : FunD K "_law_is_pair" "_law_is_pair" (defArgs s_l_is_pair) (defBody s_l_is_pair) (defScope s_l_is_pair) [] [] f fd) (B : Bf mg) (G : GF2 K mg CS NAS KS ITS) (c_l_is_name : Cal P w K mg base 1 "_law_is_name" ["_law_word"] (SpU K T U_l_is_name)) :
    FnOk P w K mg base (L2.CX P w) 2 f fd ["_law_entry", "_law_earlier"] (SpU K T U_l_is_pair) := by
  refine F.ok sc_l_is_pair (fun vs H Q E h => spu_len (fun _ _ _ => len_l_is_pair) h) (fun cdv A outer s H vs Q E hr h => ?_)
  have hu := hu_of hr
  have hu65 := hu65_of hr
  have hu0 := hr.units
  have hu00 := Nat.lt_of_le_of_lt (Nat.le_add_right _ _) hu0
  exact ⟨_, (pss_cons (ps_if (PW.pt (pw_or (pt_not (pt_val (pe_callB call_isi (by rfl) B.isinstance bt_isinstance (pa_cons (pv 0) (pa_cons (pe_ty (T := "tuple") (by rfl) B.tuple (by decide +kernel)) pa_nil))))) (pw_or (pt_cmpR (op_neU hu0) (pe_callB cr_lenR (by rfl) B.len bt_len (pa_cons (pv 0) pa_nil)) pe_int (nomark _)) (pw_or (pt_not (pt_val (pe_calS c_l_is_name (hr.mono (by decide)) rfl (takes_of rfl rfl rfl rfl) (pa_cons (pe_ix (ix_U hu) (pv 0) pe_int (fun _ _ => rfl)) pa_nil)))) (pw_or1 (pt_not (pt_val (pe_calS c_l_is_name (hr.mono (by decide)) rfl (takes_of rfl rfl rfl rfl) (pa_cons (pe_ix (ix_U hu) (pv 0) pe_int (fun _ _ => rfl)) pa_nil))))))))) (pss_one (ps_ret pe_bl)) pss_nil)
  (pss_one (ps_ret (pe_and (pe_cmpR (op_neU hu0) (pe_ix (ix_U hu) (pv 0) pe_int (fun _ _ => rfl)) pe_str (nomark _)) (pe_one (pe_not (pe_callB (cr_any rfl) (by rfl) B.any bt_any (pa_cons (pe_lc (own := [("_law_one", 2)]) (g := (gName 2)) (tt := tYes) (te := (tOp (rEqU K) (tOp (rIxU K) (tVar 2) (tC (.int 0))) (tOp (rIxU K) (tVar 0) (tC (.int 0))))) (by rfl) sc_l_is_pair.nd (pi_seq (pv 1)) (blkOk_by (own := [("_law_one", 2)]) (N := N_l_is_pair) (sc := defScope s_l_is_pair) (by decide +kernel)) (fun _ _ _ _ _ => (pg_name (i := 2) sc_l_is_pair.nd rfl (Or.inl rfl))) (fun _ _ _ _ _ => pts_nil) (fun _ _ _ _ _ => (pe_cmpR (op_eqU hu0) (pe_ix (ix_U hu) (pv 2) pe_int (fun _ _ => rfl)) (pe_ix (ix_U hu) (pv 0) pe_int (fun _ _ => rfl)) (nomark _)))) pa_nil)))))))),
    spu_body (N := N_l_is_pair) (u := u_l_is_pair) (fun _ _ _ h => by rw [len_l_is_pair h]; decide) pure_l_is_pair (fun H0 G0 P0 => (tr_seq (tr_ifS (tr_or (tr_not (tr_tB (tr_cb tr_isi (tr_cons tr_var (tr_cons tr_ty tr_nil))))) (tr_or (tr_test (tr_op tr_ne (tr_cb tr_len (tr_cons tr_var tr_nil)) tr_int)) (tr_or (tr_not (tr_tB (tr_callS (tr_cons (tr_op tr_ix tr_var tr_int) tr_nil)))) (tr_not (tr_tB (tr_callS (tr_cons (tr_op tr_ix tr_var tr_int) tr_nil))))))) (tr_ret tr_bl) tr_next)
  (tr_ret (tr_andV (tr_op tr_ne (tr_op tr_ix tr_var tr_int) tr_str) (tr_notV (tr_cb tr_any (tr_cons (tr_lc (tr_iseq tr_var) tr_gF gmono_name (gin_name (by decide)) tr_yes (tr_op tr_eq (tr_op tr_ix tr_var tr_int) (tr_op tr_ix tr_var tr_int))) tr_nil))))))) h⟩
abbrev s_l_wrong_river : Stmt := top 35
theorem sc_l_wrong_river : FnScope N_l_wrong_river ["_law_rows"] (defScope s_l_wrong_river) := ⟨rfl, rfl, rfl, by decide +kernel, rfl, by decide +kernel, by decide +kernel⟩
theorem ok_l_wrong_river {P : Program} {w : World} {K : PySem.W.Frag} {mg : Str → Option Value} {base : Heap} {f : Addr} {fd : FuncData} {T : List (Addr × Str)} (F : FunD K "_law_wrong_river" "_law_wrong_river" (defArgs s_l_wrong_river) (defBody s_l_wrong_river) (defScope s_l_wrong_river) [] [] f fd) (B : Bf mg) (G : GF2 K mg CS NAS KS ITS) (c_l_is_pair : Cal P w K mg base 2 "_law_is_pair" ["_law_entry", "_law_earlier"] (SpU K T U_l_is_pair)) :
    FnOk P w K mg base (L2.CX P w) 3 f fd ["_law_rows"] (SpU K T U_l_wrong_river) := by
  refine F.ok sc_l_wrong_river (fun vs H Q E h => spu_len (fun _ _ _ => len_l_wrong_river) h) (fun cdv A outer s H vs Q E hr h => ?_)
  have hu := hu_of hr
  have hu65 := hu65_of hr
  have hu0 := hr.units
  have hu00 := Nat.lt_of_le_of_lt (Nat.le_add_right _ _) hu0
  exact ⟨_, (pss_cons (ps_if (PW.pt (pw_or (pt_not (pt_val (pe_callB call_isi (by rfl) B.isinstance bt_isinstance (pa_cons (pv 0) (pa_cons (pe_ty (T := "list") (by rfl) B.list (by decide +kernel)) pa_nil))))) (pw_or (pt_cmpR (op_eqU hu0) (pv 0) (pe_lst pa_nil) (nomark _)) (pw_or1 (pt_cmpR op_gt (pe_callB cr_lenR (by rfl) B.len bt_len (pa_cons (pv 0) pa_nil)) pe_int (nomark _)))))) (pss_one (ps_ret (pe_un un_neg pe_int))) pss_nil)
  (pss_cons (ps_for (passes_of rfl) rfl (pi_enum rfl B.enumerate (pa_cons (pv 0) pa_nil)) (pg_tup rfl (pgs_cons (pg_name (i := 1) sc_l_wrong_river.nd rfl (Or.inl rfl)) (pgs_cons (pg_name (i := 2) sc_l_wrong_river.nd rfl (Or.inl rfl)) pgs_nil))) (pss_one (ps_if (pt_not (pt_val (pe_calS c_l_is_pair (hr.mono (by decide)) rfl (takes_of rfl rfl rfl rfl) (pa_cons (pv 2) (pa_cons (pe_slice sl_U (pv 0) po_none (po_some (pv 1))) pa_nil))))) (pss_one (ps_ret (pv 1))) pss_nil)))
  (pss_cons (ps_set (i := 3) sc_l_wrong_river.nd rfl (Or.inl rfl) (pe_callTy (cr_dictU rfl) (by rfl) B.dict bt_dict (pa_cons (pv 0) pa_nil)))
  (pss_cons (ps_for (passes_of rfl) rfl (pi_enum rfl B.enumerate (pa_cons (pv 0) pa_nil)) (pg_tup rfl (pgs_cons (pg_name (i := 1) sc_l_wrong_river.nd rfl (Or.inl rfl)) (pgs_cons (pg_name (i := 2) sc_l_wrong_river.nd rfl (Or.inl rfl)) pgs_nil))) (pss_one (ps_if (PW.pt (pw_and (pt_cmpR (op_neU hu0) (pe_ix (ix_U hu) (pv 2) pe_int (fun _ _ => rfl)) pe_str (nomark _)) (pw_and1 (pt_cmpR (op_notInX hu65) (pe_ix (ix_U hu) (pv 2) pe_int (fun _ _ => rfl)) (pv 3) (by rfl))))) (pss_one (ps_ret (pv 1))) pss_nil)))
  (pss_cons (ps_for (passes_of rfl) rfl (pi_enum rfl B.enumerate (pa_cons (pv 0) pa_nil)) (pg_tup rfl (pgs_cons (pg_name (i := 1) sc_l_wrong_river.nd rfl (Or.inl rfl)) (pgs_cons (pg_name (i := 2) sc_l_wrong_river.nd rfl (Or.inl rfl)) pgs_nil))) (pss_cons (ps_set (i := 4) sc_l_wrong_river.nd rfl (Or.inl rfl) (pe_ix (ix_U hu) (pv 2) pe_int (fun _ _ => rfl)))
  (pss_cons (ps_for (passes_of rfl) rfl (pi_range1 rfl B.range (pa_cons (pe_callB cr_lenR (by rfl) B.len bt_len (pa_cons (pv 0) pa_nil)) pa_nil)) (pg_name (i := 5) sc_l_wrong_river.nd rfl (Or.inl rfl)) (pss_one (ps_set (i := 4) sc_l_wrong_river.nd rfl (Or.inl rfl) (pe_ifExp (pt_cmpR (op_eqU hu0) (pv 4) pe_str (nomark _)) pe_str (pe_ix (ix_U hu) (pv 3) (pv 4) (fun _ _ => rfl))))))
  (pss_one (ps_if (pt_cmpR (op_neU hu0) (pv 4) pe_str (nomark _)) (pss_one (ps_ret (pv 1))) pss_nil)))))
  (pss_one (ps_ret pe_non))))))),
    spu_body (N := N_l_wrong_river) (u := u_l_wrong_river) (fun _ _ _ h => by rw [len_l_wrong_river h]; decide) pure_l_wrong_river (fun H0 G0 P0 => (tr_seq (tr_ifS (tr_or (tr_not (tr_tB (tr_cb tr_isi (tr_cons tr_var (tr_cons tr_ty tr_nil))))) (tr_or (tr_test (tr_op tr_eq tr_var (tr_lst tr_nil))) (tr_test (tr_op tr_I0b (tr_cb tr_len (tr_cons tr_var tr_nil)) tr_int)))) (tr_ret (tr_un tr_neg tr_int)) tr_next)
  (tr_seq (tr_for (tr_ienum (tr_cons tr_var tr_nil)) (tr_gtup (tr_gcons tr_gF (tr_gcons tr_gF tr_gnil))) (tr_ifS (tr_not (tr_tB (tr_callS (tr_cons tr_var (tr_cons (tr_sl tr_var tr_noPart (tr_part tr_var)) tr_nil))))) (tr_ret tr_var) tr_next))
  (tr_seq (tr_asg (tr_cb tr_dict (tr_cons tr_var tr_nil)) tr_gF)
  (tr_seq (tr_for (tr_ienum (tr_cons tr_var tr_nil)) (tr_gtup (tr_gcons tr_gF (tr_gcons tr_gF tr_gnil))) (tr_ifS (tr_and (tr_test (tr_op tr_ne (tr_op tr_ix tr_var tr_int) tr_str)) (tr_test (tr_op tr_notIn (tr_op tr_ix tr_var tr_int) tr_var))) (tr_ret tr_var) tr_next))
  (tr_seq (tr_for (tr_ienum (tr_cons tr_var tr_nil)) (tr_gtup (tr_gcons tr_gF (tr_gcons tr_gF tr_gnil))) (tr_seq (tr_asg (tr_op tr_ix tr_var tr_int) tr_gF)
  (tr_seq (tr_for (tr_irng1 (tr_cons (tr_cb tr_len (tr_cons tr_var tr_nil)) tr_nil)) tr_gF (tr_asg (tr_if (tr_test (tr_op tr_eq tr_var tr_str)) tr_str (tr_op tr_ix tr_var tr_var)) tr_gF))
  (tr_ifS (tr_test (tr_op tr_ne tr_var tr_str)) (tr_ret tr_var) tr_next))))
  (tr_ret tr_non))))))) h⟩
end WK
namespace WK
open PySem L2
abbrev s_l_is_right : Stmt := top 36
theorem sc_l_is_right : FnScope N_l_is_right ["_law_weirs", "_law_entry", "_law_earlier"] (defScope s_l_is_right) := ⟨rfl, rfl, rfl, by decide +kernel, rfl, by decide +kernel, by decide +kernel⟩
theorem ok_l_is_right {P : Program} {w : World} {K : PySem.W.Frag} {mg : Str → Option Value} {base : Heap} {f : Addr} {fd : FuncData} {T : List (Addr × Str)} (F : FunD K "_law_is_right" "_law_is_right" (defArgs s_l_is_right) (defBody s_l_is_right) (defScope s_l_is_right) [] [] f fd) (B : Bf mg) (G : GF2 K mg CS NAS KS ITS) (c_l_is_name : Cal P w K mg base 1 "_law_is_name" ["_law_word"] (SpU K T U_l_is_name)) :
    FnOk P w K mg base (L2.CX P w) 2 f fd ["_law_weirs", "_law_entry", "_law_earlier"] (SpU K T U_l_is_right) := by
  refine F.ok sc_l_is_right (fun vs H Q E h => spu_len (fun _ _ _ => len_l_is_right) h) (fun cdv A outer s H vs Q E hr h => ?_)
  have hu := hu_of hr
  have hu65 := hu65_of hr
  have hu0 := hr.units
  have hu00 := Nat.lt_of_le_of_lt (Nat.le_add_right _ _) hu0
  exact ⟨_, (pss_cons (ps_if (PW.pt (pw_or (pt_not (pt_val (pe_callB call_isi (by rfl) B.isinstance bt_isinstance (pa_cons (pv 1) (pa_cons (pe_ty (T := "tuple") (by rfl) B.tuple (by decide +kernel)) pa_nil))))) (pw_or (pt_cmpR (op_neU hu0) (pe_callB cr_lenR (by rfl) B.len bt_len (pa_cons (pv 1) pa_nil)) pe_int (nomark _)) (pw_or1 (pt_not (pt_val (pe_calS c_l_is_name (hr.mono (by decide)) rfl (takes_of rfl rfl rfl rfl) (pa_cons (pe_ix (ix_U hu) (pv 1) pe_int (fun _ _ => rfl)) pa_nil)))))))) (pss_one (ps_ret pe_bl)) pss_nil)
  (pss_cons (ps_if (PW.pt (pw_or (pt_val (pe_callB (cr_any rfl) (by rfl) B.any bt_any (pa_cons (pe_lc (own := [("_law_one", 3)]) (g := (gName 3)) (tt := tYes) (te := (tOp (rEqU K) (tOp (rIxU K) (tVar 3) (tC (.int 0))) (tOp (rIxU K) (tVar 1) (tC (.int 0))))) (by rfl) sc_l_is_right.nd (pi_seq (pv 2)) (blkOk_by (own := [("_law_one", 3)]) (N := N_l_is_right) (sc := defScope s_l_is_right) (by decide +kernel)) (fun _ _ _ _ _ => (pg_name (i := 3) sc_l_is_right.nd rfl (Or.inl rfl))) (fun _ _ _ _ _ => pts_nil) (fun _ _ _ _ _ => (pe_cmpR (op_eqU hu0) (pe_ix (ix_U hu) (pv 3) pe_int (fun _ _ => rfl)) (pe_ix (ix_U hu) (pv 1) pe_int (fun _ _ => rfl)) (nomark _)))) pa_nil))) (pw_or1 (pt_cmpR (op_notInX hu65) (pe_ix (ix_U hu) (pv 1) pe_int (fun _ _ => rfl)) (pv 0) (by rfl))))) (pss_one (ps_ret pe_bl)) pss_nil)
  (pss_one (ps_ret (pe_or (pe_cmpR (op_eqU hu0) (pe_ix (ix_U hu) (pv 1) pe_int (fun _ _ => rfl)) pe_str (nomark _)) (pe_one (pe_cmpR (op_inX hu65) (pe_ix (ix_U hu) (pv 1) pe_int (fun _ _ => rfl)) (pv 0) (by rfl)))))))),
    spu_body (N := N_l_is_right) (u := u_l_is_right) (fun _ _ _ h => by rw [len_l_is_right h]; decide) pure_l_is_right (fun H0 G0 P0 => (tr_seq (tr_ifS (tr_or (tr_not (tr_tB (tr_cb tr_isi (tr_cons tr_var (tr_cons tr_ty tr_nil))))) (tr_or (tr_test (tr_op tr_ne (tr_cb tr_len (tr_cons tr_var tr_nil)) tr_int)) (tr_not (tr_tB (tr_callS (tr_cons (tr_op tr_ix tr_var tr_int) tr_nil)))))) (tr_ret tr_bl) tr_next)
  (tr_seq (tr_ifS (tr_or (tr_tB (tr_cb tr_any (tr_cons (tr_lc (tr_iseq tr_var) tr_gF gmono_name (gin_name (by decide)) tr_yes (tr_op tr_eq (tr_op tr_ix tr_var tr_int) (tr_op tr_ix tr_var tr_int))) tr_nil))) (tr_test (tr_op tr_notIn (tr_op tr_ix tr_var tr_int) tr_var))) (tr_ret tr_bl) tr_next)
  (tr_ret (tr_orV (tr_op tr_eq (tr_op tr_ix tr_var tr_int) tr_str) (tr_op tr_in (tr_op tr_ix tr_var tr_int) tr_var)))))) h⟩
abbrev s_l_wrong_rights : Stmt := top 37
theorem sc_l_wrong_rights : FnScope N_l_wrong_rights ["_law_rows", "_law_rights_here"] (defScope s_l_wrong_rights) := ⟨rfl, rfl, rfl, by decide +kernel, rfl, by decide +kernel, by decide +kernel⟩
theorem ok_l_wrong_rights {P : Program} {w : World} {K : PySem.W.Frag} {mg : Str → Option Value} {base : Heap} {f : Addr} {fd : FuncData} {T : List (Addr × Str)} (F : FunD K "_law_wrong_rights" "_law_wrong_rights" (defArgs s_l_wrong_rights) (defBody s_l_wrong_rights) (defScope s_l_wrong_rights) [] [] f fd) (B : Bf mg) (G : GF2 K mg CS NAS KS ITS) (c_l_course : Cal P w K mg base 1 "_law_course" ["_law_rows", "_law_weir"] (SpU K T U_l_course)) (c_l_is_right : Cal P w K mg base 2 "_law_is_right" ["_law_weirs", "_law_entry", "_law_earlier"] (SpU K T U_l_is_right)) :
    FnOk P w K mg base (L2.CX P w) 3 f fd ["_law_rows", "_law_rights_here"] (SpU K T U_l_wrong_rights) := by
  refine F.ok sc_l_wrong_rights (fun vs H Q E h => spu_len (fun _ _ _ => len_l_wrong_rights) h) (fun cdv A outer s H vs Q E hr h => ?_)
  have hu := hu_of hr
  have hu65 := hu65_of hr
  have hu0 := hr.units
  have hu00 := Nat.lt_of_le_of_lt (Nat.le_add_right _ _) hu0
  exact ⟨_, (pss_cons (ps_if (PW.pt (pw_or (pt_not (pt_val (pe_callB call_isi (by rfl) B.isinstance bt_isinstance (pa_cons (pv 1) (pa_cons (pe_ty (T := "list") (by rfl) B.list (by decide +kernel)) pa_nil))))) (pw_or1 (pt_cmpR op_gt (pe_callB cr_lenR (by rfl) B.len bt_len (pa_cons (pv 1) pa_nil)) pe_int (nomark _))))) (pss_one (ps_ret (pe_un un_neg pe_int))) pss_nil)
  (pss_cons (ps_setLc (i := 2) (own := [("_law_weir", 5), ("_law_below", 6)]) (g := (gTup K 2 (gCons (gName 5) (gCons (gName 6) gNil)))) (tt := tYes) (te := (tVar 5)) (by rfl) sc_l_wrong_rights.nd rfl rfl (sw_true rfl rfl rfl (by decide +kernel)) (pi_seq (pv 0)) (blkOk_by (own := [("_law_weir", 5), ("_law_below", 6)]) (N := N_l_wrong_rights) (sc := defScope s_l_wrong_rights) (by decide +kernel)) (fun _ _ _ _ _ => (pg_tup rfl (pgs_cons (pg_name (i := 5) sc_l_wrong_rights.nd rfl (Or.inl rfl)) (pgs_cons (pg_name (i := 6) sc_l_wrong_rights.nd rfl (Or.inl rfl)) pgs_nil)))) (fun _ _ _ _ _ => pts_nil) (fun _ _ _ _ _ => (pv 5)))
  (pss_cons (ps_for (passes_of rfl) rfl (pi_enum rfl B.enumerate (pa_cons (pv 1) pa_nil)) (pg_tup rfl (pgs_cons (pg_name (i := 3) sc_l_wrong_rights.nd rfl (Or.inl rfl)) (pgs_cons (pg_name (i := 4) sc_l_wrong_rights.nd rfl (Or.inl rfl)) pgs_nil))) (pss_one (ps_if (pt_not (pt_val (pe_calS c_l_is_right (hr.mono (by decide)) rfl (takes_of rfl rfl rfl rfl) (pa_cons (pv 2) (pa_cons (pv 4) (pa_cons (pe_slice sl_U (pv 1) po_none (po_some (pv 3))) pa_nil)))))) (pss_one (ps_ret (pv 3))) pss_nil)))
  (pss_cons (ps_for (passes_of rfl) rfl (pi_enum rfl B.enumerate (pa_cons (pv 1) pa_nil)) (pg_tup rfl (pgs_cons (pg_name (i := 3) sc_l_wrong_rights.nd rfl (Or.inl rfl)) (pgs_cons (pg_name (i := 4) sc_l_wrong_rights.nd rfl (Or.inl rfl)) pgs_nil))) (pss_one (ps_if (PW.pt (pw_and (pt_cmpR (op_neU hu0) (pe_ix (ix_U hu) (pv 4) pe_int (fun _ _ => rfl)) pe_str (nomark _)) (pw_and1 (pt_cmpR (op_notInX hu65) (pe_ix (ix_U hu) (pv 4) pe_int (fun _ _ => rfl)) (pe_calS c_l_course (hr.mono (by decide)) rfl (takes_of rfl rfl rfl rfl) (pa_cons (pv 0) (pa_cons (pe_ix (ix_U hu) (pv 4) pe_int (fun _ _ => rfl)) pa_nil))) (by rfl))))) (pss_one (ps_ret (pv 3))) pss_nil)))
  (pss_one (ps_ret pe_non)))))),
    spu_body (N := N_l_wrong_rights) (u := u_l_wrong_rights) (fun _ _ _ h => by rw [len_l_wrong_rights h]; decide) pure_l_wrong_rights (fun H0 G0 P0 => (tr_seq (tr_ifS (tr_or (tr_not (tr_tB (tr_cb tr_isi (tr_cons tr_var (tr_cons tr_ty tr_nil))))) (tr_test (tr_op tr_I0b (tr_cb tr_len (tr_cons tr_var tr_nil)) tr_int))) (tr_ret (tr_un tr_neg tr_int)) tr_next)
  (tr_seq (tr_asg (tr_lc (tr_iseq tr_var) (tr_gtup (tr_gcons tr_gF (tr_gcons tr_gF tr_gnil))) (gmono_tup (gmono_cons gmono_name (gmono_cons gmono_name gmono_nil))) (gin_tup (gin_cons gmono_name (gmono_cons gmono_name gmono_nil) (gin_name (by decide)) (gin_cons gmono_name gmono_nil (gin_name (by decide)) gin_nil))) tr_yes tr_var) tr_gF)
  (tr_seq (tr_for (tr_ienum (tr_cons tr_var tr_nil)) (tr_gtup (tr_gcons tr_gF (tr_gcons tr_gF tr_gnil))) (tr_ifS (tr_not (tr_tB (tr_callS (tr_cons tr_var (tr_cons tr_var (tr_cons (tr_sl tr_var tr_noPart (tr_part tr_var)) tr_nil)))))) (tr_ret tr_var) tr_next))
  (tr_seq (tr_for (tr_ienum (tr_cons tr_var tr_nil)) (tr_gtup (tr_gcons tr_gF (tr_gcons tr_gF tr_gnil))) (tr_ifS (tr_and (tr_test (tr_op tr_ne (tr_op tr_ix tr_var tr_int) tr_str)) (tr_test (tr_op tr_notIn (tr_op tr_ix tr_var tr_int) (tr_callS (tr_cons tr_var (tr_cons (tr_op tr_ix tr_var tr_int) tr_nil)))))) (tr_ret tr_var) tr_next))
  (tr_ret tr_non)))))) h⟩
abbrev s_l_bad_word : Stmt := top 38
theorem sc_l_bad_word : FnScope N_l_bad_word ["_law_bag_here", "_law_word"] (defScope s_l_bad_word) := ⟨rfl, rfl, rfl, by decide +kernel, rfl, by decide +kernel, by decide +kernel⟩
theorem ok_l_bad_word {P : Program} {w : World} {K : PySem.W.Frag} {mg : Str → Option Value} {base : Heap} {f : Addr} {fd : FuncData} {T : List (Addr × Str)} (F : FunD K "_law_bad_word" "_law_bad_word" (defArgs s_l_bad_word) (defBody s_l_bad_word) (defScope s_l_bad_word) [] [] f fd) (B : Bf mg) (G : GF2 K mg CS NAS KS ITS) (c_l_of : Cal P w K mg base 2 "_law_of" ["_law_bag_here", "_law_some"] (SpU K T U_l_of)) :
    FnOk P w K mg base (L2.CX P w) 3 f fd ["_law_bag_here", "_law_word"] (SpU K T U_l_bad_word) := by
  refine F.ok sc_l_bad_word (fun vs H Q E h => spu_len (fun _ _ _ => len_l_bad_word) h) (fun cdv A outer s H vs Q E hr h => ?_)
  have hu := hu_of hr
  have hu65 := hu65_of hr
  have hu0 := hr.units
  have hu00 := Nat.lt_of_le_of_lt (Nat.le_add_right _ _) hu0
  exact ⟨_, (pss_cons (ps_set (i := 2) sc_l_bad_word.nd rfl (Or.inl rfl) (pe_calS c_l_of (hr.mono (by decide)) rfl (takes_of rfl rfl rfl rfl) (pa_cons (pv 0) (pa_cons (pe_lst (pa_cons pe_str (pa_cons (pe_op op_addU (pv 1) pe_str) (pa_cons (pe_op op_addU (pe_slice sl_U (pv 1) po_none (po_some pe_int)) pe_str) (pa_cons (pe_op op_addU (pe_slice sl_U (pv 1) po_none (po_some pe_int)) pe_str) (pa_cons (pe_op op_addU pe_str (pe_slice sl_U (pv 1) po_none (po_some pe_int))) (pa_cons (pe_op op_addU (pe_slice sl_U (pv 1) po_none (po_some pe_int)) pe_str) (pa_cons pe_str pa_nil)))))))) pa_nil))))
  (pss_one (ps_ret (pe_calS c_l_of (hr.mono (by decide)) rfl (takes_of rfl rfl rfl rfl) (pa_cons (pv 0) (pa_cons (pe_lst (pa_cons (pv 2) (pa_cons (pv 2) (pa_cons (pv 2) (pa_cons pe_non (pa_cons pe_int (pa_cons pe_int (pa_cons pe_bl (pa_cons (pe_lst (pa_cons (pv 1) pa_nil)) (pa_cons (pe_tup (pa_cons (pv 1) pa_nil)) (pa_cons pe_str (pa_cons (pe_op op_addU (pe_slice sl_U (pv 1) po_none (po_some pe_int)) pe_str) (pa_cons pe_str (pa_cons (pv 1) pa_nil)))))))))))))) pa_nil)))))),
    spu_body (N := N_l_bad_word) (u := u_l_bad_word) (fun _ _ _ h => by rw [len_l_bad_word h]; decide) pure_l_bad_word (fun H0 G0 P0 => (tr_seq (tr_asg (tr_callS (tr_cons tr_var (tr_cons (tr_lst (tr_cons tr_str (tr_cons (tr_op tr_add tr_var tr_str) (tr_cons (tr_op tr_add (tr_sl tr_var tr_noPart (tr_part tr_int)) tr_str) (tr_cons (tr_op tr_add (tr_sl tr_var tr_noPart (tr_part tr_int)) tr_str) (tr_cons (tr_op tr_add tr_str (tr_sl tr_var tr_noPart (tr_part tr_int))) (tr_cons (tr_op tr_add (tr_sl tr_var tr_noPart (tr_part tr_int)) tr_str) (tr_cons tr_str tr_nil)))))))) tr_nil))) tr_gF)
  (tr_ret (tr_callS (tr_cons tr_var (tr_cons (tr_lst (tr_cons tr_var (tr_cons tr_var (tr_cons tr_var (tr_cons tr_non (tr_cons tr_int (tr_cons tr_int (tr_cons tr_bl (tr_cons (tr_lst (tr_cons tr_var tr_nil)) (tr_cons (tr_tup (tr_cons tr_var tr_nil)) (tr_cons tr_str (tr_cons (tr_op tr_add (tr_sl tr_var tr_noPart (tr_part tr_int)) tr_str) (tr_cons tr_str (tr_cons tr_var tr_nil)))))))))))))) tr_nil)))))) h⟩
abbrev s_l_bad_entry : Stmt := top 39
theorem sc_l_bad_entry : FnScope N_l_bad_entry ["_law_bag_here", "_law_rows", "_law_place"] (defScope s_l_bad_entry) := ⟨rfl, rfl, rfl, by decide +kernel, rfl, by decide +kernel, by decide +kernel⟩
theorem ok_l_bad_entry {P : Program} {w : World} {K : PySem.W.Frag} {mg : Str → Option Value} {base : Heap} {f : Addr} {fd : FuncData} {T : List (Addr × Str)} (F : FunD K "_law_bad_entry" "_law_bad_entry" (defArgs s_l_bad_entry) (defBody s_l_bad_entry) (defScope s_l_bad_entry) [] [] f fd) (B : Bf mg) (G : GF2 K mg CS NAS KS ITS) (c_l_of : Cal P w K mg base 2 "_law_of" ["_law_bag_here", "_law_some"] (SpU K T U_l_of)) :
    FnOk P w K mg base (L2.CX P w) 3 f fd ["_law_bag_here", "_law_rows", "_law_place"] (SpU K T U_l_bad_entry) := by
  refine F.ok sc_l_bad_entry (fun vs H Q E h => spu_len (fun _ _ _ => len_l_bad_entry) h) (fun cdv A outer s H vs Q E hr h => ?_)
  have hu := hu_of hr
  have hu65 := hu65_of hr
  have hu0 := hr.units
  have hu00 := Nat.lt_of_le_of_lt (Nat.le_add_right _ _) hu0
  exact ⟨_, (pss_cons (ps_set (i := 3) sc_l_bad_entry.nd rfl (Or.inl rfl) (pe_ix (ix_U hu) (pv 1) (pv 2) (fun _ _ => rfl)))
  (pss_cons (ps_if (pt_not (pt_val (pe_callB call_isi (by rfl) B.isinstance bt_isinstance (pa_cons (pv 3) (pa_cons (pe_ty (T := "tuple") (by rfl) B.tuple (by decide +kernel)) pa_nil))))) (pss_one (ps_ret pe_non)) pss_nil)
  (pss_one (ps_ret (pe_calS c_l_of (hr.mono (by decide)) rfl (takes_of rfl rfl rfl rfl) (pa_cons (pv 0) (pa_cons (pe_lst (pa_cons pe_non (pa_cons (pe_callTy (cr_listU rfl) (by rfl) B.list bt_list (pa_cons (pv 3) pa_nil)) (pa_cons (pe_slice sl_U (pv 3) po_none (po_some (pe_un un_neg pe_int))) (pa_cons (pe_op op_addU (pv 3) (pe_tup (pa_cons pe_str pa_nil))) (pa_cons (pe_tup pa_nil) (pa_cons pe_str (pa_cons pe_int (pa_cons (pe_tup (pa_cons (pv 3) pa_nil)) (pa_cons (pe_slice sl_U (pv 3) po_none (po_some pe_int)) (pa_cons (pv 3) pa_nil))))))))))) pa_nil))))))),
    spu_body (N := N_l_bad_entry) (u := u_l_bad_entry) (fun _ _ _ h => by rw [len_l_bad_entry h]; decide) pure_l_bad_entry (fun H0 G0 P0 => (tr_seq (tr_asg (tr_op tr_ix tr_var tr_var) tr_gF)
  (tr_seq (tr_ifS (tr_not (tr_tB (tr_cb tr_isi (tr_cons tr_var (tr_cons tr_ty tr_nil))))) (tr_ret tr_non) tr_next)
  (tr_ret (tr_callS (tr_cons tr_var (tr_cons (tr_lst (tr_cons tr_non (tr_cons (tr_cb tr_list (tr_cons tr_var tr_nil)) (tr_cons (tr_sl tr_var tr_noPart (tr_part (tr_un tr_neg tr_int))) (tr_cons (tr_op tr_add tr_var (tr_tup (tr_cons tr_str tr_nil))) (tr_cons (tr_tup tr_nil) (tr_cons tr_str (tr_cons tr_int (tr_cons (tr_tup (tr_cons tr_var tr_nil)) (tr_cons (tr_sl tr_var tr_noPart (tr_part tr_int)) (tr_cons tr_var tr_nil))))))))))) tr_nil))))))) h⟩
end WK
namespace WK
open PySem L2
abbrev s_l_spoilt : Stmt := top 40
theorem sc_l_spoilt : FnScope N_l_spoilt ["_law_bag_here", "_law_rows", "_law_weirs"] (defScope s_l_spoilt) := ⟨rfl, rfl, rfl, by decide +kernel, rfl, by decide +kernel, by decide +kernel⟩
theorem ok_l_spoilt {P : Program} {w : World} {K : PySem.W.Frag} {mg : Str → Option Value} {base : Heap} {f : Addr} {fd : FuncData} {T : List (Addr × Str)} (F : FunD K "_law_spoilt" "_law_spoilt" (defArgs s_l_spoilt) (defBody s_l_spoilt) (defScope s_l_spoilt) [] [] f fd) (B : Bf mg) (G : GF2 K mg CS NAS KS ITS) (c_l_bad_entry : Cal P w K mg base 3 "_law_bad_entry" ["_law_bag_here", "_law_rows", "_law_place"] (SpU K T U_l_bad_entry)) (c_l_bad_word : Cal P w K mg base 3 "_law_bad_word" ["_law_bag_here", "_law_word"] (SpU K T U_l_bad_word)) (c_l_of : Cal P w K mg base 2 "_law_of" ["_law_bag_here", "_law_some"] (SpU K T U_l_of)) (c_l_take : Cal P w K mg base 1 "_law_take" ["_law_bag_here", "_law_many"] (SpU K T U_l_take)) :
    FnOk P w K mg base (L2.CX P w) 4 f fd ["_law_bag_here", "_law_rows", "_law_weirs"] (SpU K T U_l_spoilt) := by
  refine F.ok sc_l_spoilt (fun vs H Q E h => spu_len (fun _ _ _ => len_l_spoilt) h) (fun cdv A outer s H vs Q E hr h => ?_)
  have hu := hu_of hr
  have hu65 := hu65_of hr
  have hu0 := hr.units
  have hu00 := Nat.lt_of_le_of_lt (Nat.le_add_right _ _) hu0
  exact ⟨_, (pss_cons (ps_set (i := 3) sc_l_spoilt.nd rfl (Or.inl rfl) (pe_callTy (cr_listU rfl) (by rfl) B.list bt_list (pa_cons (pv 1) pa_nil)))
  (pss_cons (ps_for (passes_of rfl) rfl (pi_range1 rfl B.range (pa_cons (pe_ifExp (pt_cmpR (op_neU hu0) (pv 3) (pe_lst pa_nil) (nomark _)) (pe_calS c_l_take (hr.mono (by decide)) rfl (takes_of rfl rfl rfl rfl) (pa_cons (pv 0) (pa_cons pe_int pa_nil))) pe_int) pa_nil)) (pg_name (i := 4) sc_l_spoilt.nd rfl (Or.inl rfl)) (pss_cons (ps_par (i := 5) (j := 6) (by rfl) sc_l_spoilt.nd rfl rfl (by decide) rfl rfl (pa_cons (pe_calS c_l_take (hr.mono (by decide)) rfl (takes_of rfl rfl rfl rfl) (pa_cons (pv 0) (pa_cons (pe_callB cr_lenR (by rfl) B.len bt_len (pa_cons (pv 3) pa_nil)) pa_nil))) (pa_cons (pe_calS c_l_of (hr.mono (by decide)) rfl (takes_of rfl rfl rfl rfl) (pa_cons (pv 0) (pa_cons (pv 3) pa_nil))) pa_nil)) (by rfl))
  (pss_cons (ps_par (i := 7) (j := 8) (by rfl) sc_l_spoilt.nd rfl rfl (by decide) rfl rfl (pa_cons (pe_ix (ix_U hu) (pv 3) (pv 5) (fun _ _ => rfl)) (pa_cons (pe_calS c_l_take (hr.mono (by decide)) rfl (takes_of rfl rfl rfl rfl) (pa_cons (pv 0) (pa_cons pe_int pa_nil))) pa_nil)) (by rfl))
  (pss_one (ps_if (PW.pt (pw_or (pt_cmpR (op_eqU hu0) (pv 8) pe_int (nomark _)) (pw_or (pt_not (pt_val (pe_callB call_isi (by rfl) B.isinstance bt_isinstance (pa_cons (pv 7) (pa_cons (pe_ty (T := "tuple") (by rfl) B.tuple (by decide +kernel)) pa_nil))))) (pw_or1 (pt_cmpR op_lt (pe_callB cr_lenR (by rfl) B.len bt_len (pa_cons (pv 7) pa_nil)) pe_int (nomark _)))))) (pss_one (ps_asg (pe_calS c_l_bad_entry (hr.mono (by decide)) rfl (takes_of rfl rfl rfl rfl) (pa_cons (pv 0) (pa_cons (pv 3) (pa_cons (pv 5) pa_nil)))) (pg_sub (pv 3) (pv 5) (set_U hu)))) (pss_one (ps_if (PW.pt (pw_and (pt_cmpR (op_eqU hu0) (pv 8) pe_int (nomark _)) (pw_and (pt_val (pe_callB call_isi (by rfl) B.isinstance bt_isinstance (pa_cons (pv 6) (pa_cons (pe_ty (T := "tuple") (by rfl) B.tuple (by decide +kernel)) pa_nil)))) (pw_and1 (pt_cmpR op_gt (pe_callB cr_lenR (by rfl) B.len bt_len (pa_cons (pv 6) pa_nil)) pe_int (nomark _)))))) (pss_one (ps_asg (pe_op op_addU (pe_slice sl_U (pv 6) po_none (po_some pe_int)) (pe_slice sl_U (pv 7) (po_some pe_int) po_none)) (pg_sub (pv 3) (pv 5) (set_U hu)))) (pss_one (ps_if (pt_cmpR op_lt (pv 8) pe_int (nomark _)) (pss_cons (ps_set (i := 9) sc_l_spoilt.nd rfl (Or.inl rfl) (pe_calS c_l_take (hr.mono (by decide)) rfl (takes_of rfl rfl rfl rfl) (pa_cons (pv 0) (pa_cons (pe_callB cr_lenR (by rfl) B.len bt_len (pa_cons (pv 7) pa_nil)) pa_nil))))
  (pss_cons (ps_set (i := 10) sc_l_spoilt.nd rfl (Or.inl rfl) (pe_ifExp (pt_val (pe_callB call_isi (by rfl) B.isinstance bt_isinstance (pa_cons (pe_ix (ix_U hu) (pv 7) (pv 9) (fun _ _ => rfl)) (pa_cons (pe_ty (T := "str") (by rfl) B.str (by decide +kernel)) pa_nil)))) (pe_ix (ix_U hu) (pv 7) (pv 9) (fun _ _ => rfl)) pe_str))
  (pss_one (ps_asg (pe_op op_addU (pe_op op_addU (pe_slice sl_U (pv 7) po_none (po_some (pv 9))) (pe_tup (pa_cons (pe_calS c_l_bad_word (hr.mono (by decide)) rfl (takes_of rfl rfl rfl rfl) (pa_cons (pv 0) (pa_cons (pv 10) pa_nil))) pa_nil))) (pe_slice sl_U (pv 7) (po_some (pe_op op_addU (pv 9) pe_int)) po_none)) (pg_sub (pv 3) (pv 5) (set_U hu)))))) (pss_one (ps_asg (pe_op op_addU (pe_slice sl_U (pv 7) po_none (po_some (pe_un un_neg pe_int))) (pe_tup (pa_cons (pe_calS c_l_of (hr.mono (by decide)) rfl (takes_of rfl rfl rfl rfl) (pa_cons (pv 0) (pa_cons (pv 2) pa_nil))) pa_nil))) (pg_sub (pv 3) (pv 5) (set_U hu)))))))))))))
  (pss_one (ps_ret (pv 3))))),
    spu_body (N := N_l_spoilt) (u := u_l_spoilt) (fun _ _ _ h => by rw [len_l_spoilt h]; decide) pure_l_spoilt (fun H0 G0 P0 => (tr_seq (tr_asg (tr_cb tr_list (tr_cons tr_var tr_nil)) tr_gO)
  (tr_seq (tr_for (tr_irng1 (tr_cons (tr_if (tr_test (tr_op tr_ne tr_var (tr_lst tr_nil))) (tr_callS (tr_cons tr_var (tr_cons tr_int tr_nil))) tr_int) tr_nil)) tr_gF (tr_seq (tr_par (tr_callS (tr_cons tr_var (tr_cons (tr_cb tr_len (tr_cons tr_var tr_nil)) tr_nil))) (tr_callS (tr_cons tr_var (tr_cons tr_var tr_nil))))
  (tr_seq (tr_par (tr_op tr_ix tr_var tr_var) (tr_callS (tr_cons tr_var (tr_cons tr_int tr_nil))))
  (tr_ifS (tr_or (tr_test (tr_op tr_eq tr_var tr_int)) (tr_or (tr_not (tr_tB (tr_cb tr_isi (tr_cons tr_var (tr_cons tr_ty tr_nil))))) (tr_test (tr_op tr_I0b (tr_cb tr_len (tr_cons tr_var tr_nil)) tr_int)))) (tr_setI (tr_callS (tr_cons tr_var (tr_cons tr_var (tr_cons tr_var tr_nil)))) tr_var tr_var) (tr_ifS (tr_and (tr_test (tr_op tr_eq tr_var tr_int)) (tr_and (tr_tB (tr_cb tr_isi (tr_cons tr_var (tr_cons tr_ty tr_nil)))) (tr_test (tr_op tr_I0b (tr_cb tr_len (tr_cons tr_var tr_nil)) tr_int)))) (tr_setI (tr_op tr_add (tr_sl tr_var tr_noPart (tr_part tr_int)) (tr_sl tr_var (tr_part tr_int) tr_noPart)) tr_var tr_var) (tr_ifS (tr_test (tr_op tr_I0b tr_var tr_int)) (tr_seq (tr_asg (tr_callS (tr_cons tr_var (tr_cons (tr_cb tr_len (tr_cons tr_var tr_nil)) tr_nil))) tr_gF)
  (tr_seq (tr_asg (tr_if (tr_tB (tr_cb tr_isi (tr_cons (tr_op tr_ix tr_var tr_var) (tr_cons tr_ty tr_nil)))) (tr_op tr_ix tr_var tr_var) tr_str) tr_gF)
  (tr_setI (tr_op tr_add (tr_op tr_add (tr_sl tr_var tr_noPart (tr_part tr_var)) (tr_tup (tr_cons (tr_callS (tr_cons tr_var (tr_cons tr_var tr_nil))) tr_nil))) (tr_sl tr_var (tr_part (tr_op tr_add tr_var tr_int)) tr_noPart)) tr_var tr_var))) (tr_setI (tr_op tr_add (tr_sl tr_var tr_noPart (tr_part (tr_un tr_neg tr_int))) (tr_tup (tr_cons (tr_callS (tr_cons tr_var (tr_cons tr_var tr_nil))) tr_nil))) tr_var tr_var)))))))
  (tr_ret tr_var)))) h⟩
abbrev s_l_refusal : Stmt := top 41
theorem sc_l_refusal : FnScope N_l_refusal ["_law_ask"] (defScope s_l_refusal) := ⟨rfl, rfl, rfl, by decide +kernel, rfl, by decide +kernel, by decide +kernel⟩
theorem ok_l_refusal {P : Program} {w : World} {K : PySem.W.Frag} {mg : Str → Option Value} {base : Heap} {f : Addr} {fd : FuncData} {T : List (Addr × Str)} (F : FunD K "_law_refusal" "_law_refusal" (defArgs s_l_refusal) (defBody s_l_refusal) (defScope s_l_refusal) [] [] f fd) (hb_ : L2.Binds K fd ["_law_ask"] []) (gl_ : mg "_law_refusal" = some (.ref f)) (B : Bf mg) (G : GF2 K mg CS NAS KS ITS)  (XF : XFacts K mg XS XFS) :
    AskF P w K mg base T "_law_refusal" 0 (.non) exc_l_refusal := by
  refine ⟨⟨_, [], f, _, _, _, fd, N_l_refusal, F, gl_, hb_, rfl, sc_l_refusal, rfl, .inl rfl, ⟨by decide, by decide⟩, fun X cdv q hP hw hK hm hbs => ?_⟩⟩
  subst hP hw hK hm hbs
  let K := X.K
  exact gives_askN (l := [((.ref (He.ga K "WeirError") : Value), (some 1 : Option Nat), fun a cls d => (tSeq (tIfS (tOr (tNot (tB (tCB (rIsX K XS a cls d) (tCons (tVar 1) (tCons (tC (.ty "ValueError")) tNil))))) (tB (tCB (rIsXT K XS a cls d) (tCons (tVar 1) (tCons (tTup (tCons (tC (.ref (He.ga K "NoRight"))) (tCons (tC (.ref (He.ga K "NotDown"))) (tCons (tC (.ref (He.ga K "NotText"))) (tCons (tC (.ref (He.ga K "NoWeir"))) tNil))))) tNil))))) (tRet (tC (.str "other"))) tNext)
  (tSeq (tIfS (tTest (tOp (rEqU K) (tCB (rIsX K XS a cls d) (tCons (tVar 1) (tCons (tC (.ref (He.ga K "NotRiver"))) tNil))) (tCB (rIsX K XS a cls d) (tCons (tVar 1) (tCons (tC (.ref (He.ga K "NotRights"))) tNil))))) (tRet (tC (.str "base"))) tNext)
  (tSeq (tAsg (tIf (tB (tCB (rIsX K XS a cls d) (tCons (tVar 1) (tCons (tC (.ref (He.ga K "NotRiver"))) tNil)))) (tC (.str "river")) (tC (.str "rights"))) (gName 2))
  (tRet (tTup (tCons (tVar 2) (tCons (tXfM K a cls d ["NotRiver", "NotRights"] "place" (tVar 1)) (tCons (tAndV (tCB (rIsi K) (tCons (tXfM K a cls d ["NotRiver", "NotRights"] "place" (tVar 1)) (tCons (tC (.ty "int")) tNil))) (tNotV (tCB (rIsi K) (tCons (tXfM K a cls d ["NotRiver", "NotRights"] "place" (tVar 1)) (tCons (tC (.ty "bool")) tNil))))) tNil)))))))))]) (ul := ul_l_refusal) 0 2 rfl sc_l_refusal.nd (fun s H hr => have hu := hu_of hr; have hu65 := hu65_of hr; have hu0 := hr.units; have hu00 := Nat.lt_of_le_of_lt (Nat.le_add_right _ _) hu0; by exact (.cons (i := 1) rfl rfl ⟨rfl, by decide, .inl (XF.g "WeirError" (by decide))⟩ (fun a oe cls d pn hz hf => (pss_cons (ps_if (PW.pt (pw_or (pt_not (pt_val (pe_callB (call_isX XF.kit hz hf) (by rfl) B.isinstance bt_isinstance (pa_cons (pv 1) (pa_cons (pe_ty (T := "ValueError") (by rfl) B.ValueError (by decide +kernel)) pa_nil))))) (pw_or1 (pt_val (pe_callB (call_isXT XF.kit hz hf) (by rfl) B.isinstance bt_isinstance (pa_cons (pv 1) (pa_cons (pe_tup (pa_cons (pe_glob (v := .ref (He.ga K "NoRight")) rfl (XF.g "NoRight" (by decide)) rfl) (pa_cons (pe_glob (v := .ref (He.ga K "NotDown")) rfl (XF.g "NotDown" (by decide)) rfl) (pa_cons (pe_glob (v := .ref (He.ga K "NotText")) rfl (XF.g "NotText" (by decide)) rfl) (pa_cons (pe_glob (v := .ref (He.ga K "NoWeir")) rfl (XF.g "NoWeir" (by decide)) rfl) pa_nil))))) pa_nil))))))) (pss_one (ps_ret pe_str)) pss_nil)
  (pss_cons (ps_if (pt_cmpR (op_eqU hu0) (pe_callB (call_isX XF.kit hz hf) (by rfl) B.isinstance bt_isinstance (pa_cons (pv 1) (pa_cons (pe_glob (v := .ref (He.ga K "NotRiver")) rfl (XF.g "NotRiver" (by decide)) rfl) pa_nil))) (pe_callB (call_isX XF.kit hz hf) (by rfl) B.isinstance bt_isinstance (pa_cons (pv 1) (pa_cons (pe_glob (v := .ref (He.ga K "NotRights")) rfl (XF.g "NotRights" (by decide)) rfl) pa_nil))) (nomark _)) (pss_one (ps_ret pe_str)) pss_nil)
  (pss_cons (ps_set (i := 2) sc_l_refusal.nd rfl (Or.inl rfl) (pe_ifExp (pt_val (pe_callB (call_isX XF.kit hz hf) (by rfl) B.isinstance bt_isinstance (pa_cons (pv 1) (pa_cons (pe_glob (v := .ref (He.ga K "NotRiver")) rfl (XF.g "NotRiver" (by decide)) rfl) pa_nil)))) pe_str pe_str))
  (pss_one (ps_ret (pe_tup (pa_cons (pv 2) (pa_cons (pe_xfM (ks := ["NotRiver", "NotRights"]) (fun c hc => XF.xf c ((by decide +kernel : ∀ c ∈ (["NotRiver", "NotRights"] : List Str), c ∈ XS) c hc)) (fun c hc => XF.no c "place" ((by decide +kernel : ∀ c ∈ (["NotRiver", "NotRights"] : List Str), (c, ("place" : Str)) ∈ XFS) c hc)) hz hf (pv 1)) (pa_cons (pe_and (pe_callB call_isi (by rfl) B.isinstance bt_isinstance (pa_cons (pe_xfM (ks := ["NotRiver", "NotRights"]) (fun c hc => XF.xf c ((by decide +kernel : ∀ c ∈ (["NotRiver", "NotRights"] : List Str), c ∈ XS) c hc)) (fun c hc => XF.no c "place" ((by decide +kernel : ∀ c ∈ (["NotRiver", "NotRights"] : List Str), (c, ("place" : Str)) ∈ XFS) c hc)) hz hf (pv 1)) (pa_cons (pe_ty (T := "int") (by rfl) B.int (by decide +kernel)) pa_nil))) (pe_one (pe_not (pe_callB call_isi (by rfl) B.isinstance bt_isinstance (pa_cons (pe_xfM (ks := ["NotRiver", "NotRights"]) (fun c hc => XF.xf c ((by decide +kernel : ∀ c ∈ (["NotRiver", "NotRights"] : List Str), c ∈ XS) c hc)) (fun c hc => XF.no c "place" ((by decide +kernel : ∀ c ∈ (["NotRiver", "NotRights"] : List Str), (c, ("place" : Str)) ∈ XFS) c hc)) hz hf (pv 1)) (pa_cons (pe_ty (T := "bool") (by rfl) B.bool (by decide +kernel)) pa_nil)))))) pa_nil)))))))))) .nil)) (fun H0 G0 P0 => (.cons (fun a dd x => (tr_seq (tr_ifS (tr_or (tr_not (tr_tB (tr_cb (tr_isX XF.kit) (tr_cons tr_var (tr_cons tr_ty tr_nil))))) (tr_tB (tr_cb (tr_isXT XF.kit) (tr_cons tr_var (tr_cons (tr_tup (tr_cons tr_cls (tr_cons tr_cls (tr_cons tr_cls (tr_cons tr_cls tr_nil))))) tr_nil))))) (tr_ret tr_str) tr_next)
  (tr_seq (tr_ifS (tr_test (tr_op tr_eq (tr_cb (tr_isX XF.kit) (tr_cons tr_var (tr_cons tr_cls tr_nil))) (tr_cb (tr_isX XF.kit) (tr_cons tr_var (tr_cons tr_cls tr_nil))))) (tr_ret tr_str) tr_next)
  (tr_seq (tr_asg (tr_if (tr_tB (tr_cb (tr_isX XF.kit) (tr_cons tr_var (tr_cons tr_cls tr_nil)))) tr_str tr_str) tr_gF)
  (tr_ret (tr_tup (tr_cons tr_var (tr_cons (tr_xfM tr_var) (tr_cons (tr_andV (tr_cb tr_isi (tr_cons (tr_xfM tr_var) (tr_cons tr_ty tr_nil))) (tr_notV (tr_cb tr_isi (tr_cons (tr_xfM tr_var) (tr_cons tr_ty tr_nil))))) tr_nil))))))))) (XF.yes (c := "WeirError") (by decide)) (XF.not (c := "WeirError") (by decide)) .nil)) (fun s H => (pss_one (ps_ret pe_non))) pureA_l_refusal
abbrev s_l_due : Stmt := top 42
theorem sc_l_due : FnScope N_l_due ["_law_sort", "_law_place"] (defScope s_l_due) := ⟨rfl, rfl, rfl, by decide +kernel, rfl, by decide +kernel, by decide +kernel⟩
theorem ok_l_due {P : Program} {w : World} {K : PySem.W.Frag} {mg : Str → Option Value} {base : Heap} {f : Addr} {fd : FuncData} {T : List (Addr × Str)} (F : FunD K "_law_due" "_law_due" (defArgs s_l_due) (defBody s_l_due) (defScope s_l_due) [] [] f fd) (B : Bf mg) (G : GF2 K mg CS NAS KS ITS)  :
    FnOk P w K mg base (L2.CX P w) 1 f fd ["_law_sort", "_law_place"] (SpU K T U_l_due) := by
  refine F.ok sc_l_due (fun vs H Q E h => spu_len (fun _ _ _ => len_l_due) h) (fun cdv A outer s H vs Q E hr h => ?_)
  have hu := hu_of hr
  have hu65 := hu65_of hr
  have hu0 := hr.units
  have hu00 := Nat.lt_of_le_of_lt (Nat.le_add_right _ _) hu0
  exact ⟨_, (pss_one (ps_ret (pe_ifExp (pt_cmpR op_isNn (pv 1) pe_non (nomark _)) pe_non (pe_tup (pa_cons (pv 0) (pa_cons (pv 1) (pa_cons pe_bl pa_nil))))))),
    spu_body (N := N_l_due) (u := u_l_due) (fun _ _ _ h => by rw [len_l_due h]; decide) pure_l_due (fun H0 G0 P0 => (tr_ret (tr_if (tr_test (tr_op tr_isN tr_var tr_non)) tr_non (tr_tup (tr_cons tr_var (tr_cons tr_var (tr_cons tr_bl tr_nil))))))) h⟩
abbrev s_l_words_right : Stmt := top 45
theorem sc_l_words_right : FnScope N_l_words_right ["_law_bag_here", "_law_word"] (defScope s_l_words_right) := ⟨rfl, rfl, rfl, by decide +kernel, rfl, by decide +kernel, by decide +kernel⟩
theorem ok_l_words_right {P : Program} {w : World} {K : PySem.W.Frag} {mg : Str → Option Value} {base : Heap} {f : Addr} {fd : FuncData} {T : List (Addr × Str)} (F : FunD K "_law_words_right" "_law_words_right" (defArgs s_l_words_right) (defBody s_l_words_right) (defScope s_l_words_right) [] [] f fd) (B : Bf mg) (G : GF2 K mg CS NAS KS ITS) (c_l_bad_word : Cal P w K mg base 3 "_law_bad_word" ["_law_bag_here", "_law_word"] (SpU K T U_l_bad_word)) (c_l_is_name : Cal P w K mg base 1 "_law_is_name" ["_law_word"] (SpU K T U_l_is_name)) (c_is_name : Cal P w K mg base 1 "is_name" ["value"] (SpU K T U_is_name)) :
    FnOk P w K mg base (L2.CX P w) 4 f fd ["_law_bag_here", "_law_word"] (SpU K T U_l_words_right) := by
  refine F.ok sc_l_words_right (fun vs H Q E h => spu_len (fun _ _ _ => len_l_words_right) h) (fun cdv A outer s H vs Q E hr h => ?_)
  have hu := hu_of hr
  have hu65 := hu65_of hr
  have hu0 := hr.units
  have hu00 := Nat.lt_of_le_of_lt (Nat.le_add_right _ _) hu0
  exact ⟨_, (pss_cons (ps_for (passes_of rfl) rfl (pi_range1 rfl B.range (pa_cons pe_int pa_nil)) (pg_name (i := 2) sc_l_words_right.nd rfl (Or.inl rfl)) (pss_cons (ps_set (i := 3) sc_l_words_right.nd rfl (Or.inl rfl) (pe_calS c_l_bad_word (hr.mono (by decide)) rfl (takes_of rfl rfl rfl rfl) (pa_cons (pv 0) (pa_cons (pv 1) pa_nil))))
  (pss_cons (ps_set (i := 4) sc_l_words_right.nd rfl (Or.inl rfl) (pe_calS c_is_name (hr.mono (by decide)) rfl (takes_of rfl rfl rfl rfl) (pa_cons (pv 3) pa_nil)))
  (pss_one (ps_if (PW.pt (pw_or (pt_not (pt_val (pe_callB call_isi (by rfl) B.isinstance bt_isinstance (pa_cons (pv 4) (pa_cons (pe_ty (T := "bool") (by rfl) B.bool (by decide +kernel)) pa_nil))))) (pw_or1 (pt_cmpR (op_neU hu0) (pv 4) (pe_calS c_l_is_name (hr.mono (by decide)) rfl (takes_of rfl rfl rfl rfl) (pa_cons (pv 3) pa_nil)) (nomark _))))) (pss_one (ps_ret pe_bl)) pss_nil)))))
  (pss_one (ps_ret (pe_and (pe_cmpR op_isBl (pe_calS c_is_name (hr.mono (by decide)) rfl (takes_of rfl rfl rfl rfl) (pa_cons (pv 1) pa_nil)) pe_bl (nomark _)) (pe_one (pe_cmpR op_isBl (pe_calS c_is_name (hr.mono (by decide)) rfl (takes_of rfl rfl rfl rfl) (pa_cons pe_str pa_nil)) pe_bl (nomark _))))))),
    spu_body (N := N_l_words_right) (u := u_l_words_right) (fun _ _ _ h => by rw [len_l_words_right h]; decide) pure_l_words_right (fun H0 G0 P0 => (tr_seq (tr_for (tr_irng1 (tr_cons tr_int tr_nil)) tr_gF (tr_seq (tr_asg (tr_callS (tr_cons tr_var (tr_cons tr_var tr_nil))) tr_gF)
  (tr_seq (tr_asg (tr_callS (tr_cons tr_var tr_nil)) tr_gF)
  (tr_ifS (tr_or (tr_not (tr_tB (tr_cb tr_isi (tr_cons tr_var (tr_cons tr_ty tr_nil))))) (tr_test (tr_op tr_ne tr_var (tr_callS (tr_cons tr_var tr_nil))))) (tr_ret tr_bl) tr_next))))
  (tr_ret (tr_andV (tr_op tr_isB (tr_callS (tr_cons tr_var tr_nil)) tr_bl) (tr_op tr_isB (tr_callS (tr_cons tr_str tr_nil)) tr_bl))))) h⟩
end WK
namespace WK
open PySem L2
abbrev s_l_rivers_right : Stmt := top 43
theorem sc_l_rivers_right : FnScope N_l_rivers_right ["_law_bag_here", "_law_rows"] (defScope s_l_rivers_right) := ⟨rfl, rfl, rfl, by decide +kernel, rfl, by decide +kernel, by decide +kernel⟩
theorem ok_l_rivers_right {P : Program} {w : World} {K : PySem.W.Frag} {mg : Str → Option Value} {base : Heap} {f : Addr} {fd : FuncData} {T : List (Addr × Str)} (F : FunD K "_law_rivers_right" "_law_rivers_right" (defArgs s_l_rivers_right) (defBody s_l_rivers_right) (defScope s_l_rivers_right) [] [] f fd) (B : Bf mg) (G : GF2 K mg CS NAS KS ITS) {cl_ tb_ : Addr} (hc_ : fd.code = .ref cl_) (TB_ : LamX.TabB base mg cl_ tb_) (mT_ : (tb_, lamN "_law_rivers_right") ∈ T) (uT_ : ∀ p ∈ T, p.1 = tb_ → p.2 = lamN "_law_rivers_right") (a_l_refusal : AskF P w K mg base T "_law_refusal" 0 (.non) exc_l_refusal) (c_River__init_ : ICal P w K mg base 4 "River" ["self", "rows"] (SpU K T U_River__init_)) (c_l_due : Cal P w K mg base 1 "_law_due" ["_law_sort", "_law_place"] (SpU K T U_l_due)) (c_l_spoilt : Cal P w K mg base 4 "_law_spoilt" ["_law_bag_here", "_law_rows", "_law_weirs"] (SpU K T U_l_spoilt)) (c_l_wrong_river : Cal P w K mg base 3 "_law_wrong_river" ["_law_rows"] (SpU K T U_l_wrong_river)) :
    FnOk P w K mg base (L2.CX P w) 9 f fd ["_law_bag_here", "_law_rows"] (SpU K T U_l_rivers_right) := by
  refine FunD_okC F hc_ sc_l_rivers_right (fun vs H Q E h => spu_len (fun _ _ _ => len_l_rivers_right) h) (fun A outer s H vs Q E hr h => ?_)
  have hu := hu_of hr
  have hu65 := hu65_of hr
  have hu0 := hr.units
  have hu00 := Nat.lt_of_le_of_lt (Nat.le_add_right _ _) hu0
  exact ⟨_, (pss_cons (ps_setLc (i := 2) (own := [("_law_weir", 7), ("_law_below", 8)]) (g := (gTup K 2 (gCons (gName 7) (gCons (gName 8) gNil)))) (tt := tYes) (te := (tVar 7)) (by rfl) sc_l_rivers_right.nd rfl rfl (sw_true rfl rfl rfl (by decide +kernel)) (pi_seq (pv 1)) (blkOk_by (own := [("_law_weir", 7), ("_law_below", 8)]) (N := N_l_rivers_right) (sc := defScope s_l_rivers_right) (by decide +kernel)) (fun _ _ _ _ _ => (pg_tup rfl (pgs_cons (pg_name (i := 7) sc_l_rivers_right.nd rfl (Or.inl rfl)) (pgs_cons (pg_name (i := 8) sc_l_rivers_right.nd rfl (Or.inl rfl)) pgs_nil)))) (fun _ _ _ _ _ => pts_nil) (fun _ _ _ _ _ => (pv 7)))
  (pss_cons (ps_for (passes_of rfl) rfl (pi_range1 rfl B.range (pa_cons pe_int pa_nil)) (pg_name (i := 3) sc_l_rivers_right.nd rfl (Or.inl rfl)) (pss_cons (ps_set (i := 4) sc_l_rivers_right.nd rfl (Or.inr rfl) (pe_calS c_l_spoilt (hr.mono (by decide)) rfl (takes_of rfl rfl rfl rfl) (pa_cons (pv 0) (pa_cons (pv 1) (pa_cons (pv 2) pa_nil)))))
  (pss_cons (ps_set (i := 5) sc_l_rivers_right.nd rfl (Or.inl rfl) (pe_callTy (cr_listU rfl) (by rfl) B.list bt_list (pa_cons (pv 4) pa_nil)))
  (pss_one (ps_if (PW.pt (pw_or (pt_cmpR (op_neU hu0) (pe_ask (k := 5) (t := fun EX => (tMakeS (He.ga K "River") (SpU K T U_River__init_) (WE fun cls d _ H => EX cls d H) (tCons (tVar 4) tNil))) a_l_refusal rfl TB_ rfl mT_ uT_ (hr.mono (by decide)) (LamX.lamS_by (show LamX.lamSB (defScope s_l_rivers_right) _ = true from by decide +kernel)) pa_nil (fun A_ outer_ s_ H_ EX f_ c_ hr => have hu := hu_of hr; have hu65 := hu65_of hr; have hu0 := hr.units; have hu00 := Nat.lt_of_le_of_lt (Nat.le_add_right _ _) hu0; by exact (pe_makS c_River__init_ (hr.mono (by decide)) rfl (takes_of rfl rfl rfl rfl) (pa_cons (pv 4) pa_nil)))) (pe_calS c_l_due (hr.mono (by decide)) rfl (takes_of rfl rfl rfl rfl) (pa_cons pe_str (pa_cons (pe_calS c_l_wrong_river (hr.mono (by decide)) rfl (takes_of rfl rfl rfl rfl) (pa_cons (pv 4) pa_nil)) pa_nil))) (nomark _)) (pw_or1 (pt_cmpR (op_neU hu0) (pv 4) (pv 5) (nomark _))))) (pss_one (ps_ret pe_bl)) pss_nil)))))
  (pss_cons (ps_for (passes_of rfl) rfl (pi_seq (pe_lst (pa_cons (pe_lst pa_nil) (pa_cons (pe_callTy call_tuple_of (by rfl) B.tuple bt_tuple (pa_cons (pv 1) pa_nil)) (pa_cons pe_non (pa_cons pe_bl (pa_cons (pe_ix (ix_U hu) (pv 2) pe_int (fun _ _ => rfl)) (pa_cons pe_int pa_nil)))))))) (pg_name (i := 6) sc_l_rivers_right.nd rfl (Or.inr rfl)) (pss_one (ps_if (pt_cmpR (op_neU hu0) (pe_ask (k := 5) (t := fun EX => (tMakeS (He.ga K "River") (SpU K T U_River__init_) (WE fun cls d _ H => EX cls d H) (tCons (tVar 6) tNil))) a_l_refusal rfl TB_ rfl mT_ uT_ (hr.mono (by decide)) (LamX.lamS_by (show LamX.lamSB (defScope s_l_rivers_right) _ = true from by decide +kernel)) pa_nil (fun A_ outer_ s_ H_ EX f_ c_ hr => have hu := hu_of hr; have hu65 := hu65_of hr; have hu0 := hr.units; have hu00 := Nat.lt_of_le_of_lt (Nat.le_add_right _ _) hu0; by exact (pe_makS c_River__init_ (hr.mono (by decide)) rfl (takes_of rfl rfl rfl rfl) (pa_cons (pv 6) pa_nil)))) (pe_tup (pa_cons pe_str (pa_cons (pe_un un_neg pe_int) (pa_cons pe_bl pa_nil)))) (nomark _)) (pss_one (ps_ret pe_bl)) pss_nil)))
  (pss_one (ps_ret (pe_cmpR (op_eqU hu0) (pe_ask (k := 5) (t := fun EX => (tMakeS (He.ga K "River") (SpU K T U_River__init_) (WE fun cls d _ H => EX cls d H) (tCons (tVar 1) tNil))) a_l_refusal rfl TB_ rfl mT_ uT_ (hr.mono (by decide)) (LamX.lamS_by (show LamX.lamSB (defScope s_l_rivers_right) _ = true from by decide +kernel)) pa_nil (fun A_ outer_ s_ H_ EX f_ c_ hr => have hu := hu_of hr; have hu65 := hu65_of hr; have hu0 := hr.units; have hu00 := Nat.lt_of_le_of_lt (Nat.le_add_right _ _) hu0; by exact (pe_makS c_River__init_ (hr.mono (by decide)) rfl (takes_of rfl rfl rfl rfl) (pa_cons (pv 1) pa_nil)))) (pe_calS c_l_due (hr.mono (by decide)) rfl (takes_of rfl rfl rfl rfl) (pa_cons pe_str (pa_cons (pe_calS c_l_wrong_river (hr.mono (by decide)) rfl (takes_of rfl rfl rfl rfl) (pa_cons (pv 1) pa_nil)) pa_nil))) (nomark _))))))),
    spu_body (N := N_l_rivers_right) (u := u_l_rivers_right) (fun _ _ _ h => by rw [len_l_rivers_right h]; decide) pure_l_rivers_right (fun H0 G0 P0 => (tr_seq (tr_asg (tr_lc (tr_iseq tr_var) (tr_gtup (tr_gcons tr_gF (tr_gcons tr_gF tr_gnil))) (gmono_tup (gmono_cons gmono_name (gmono_cons gmono_name gmono_nil))) (gin_tup (gin_cons gmono_name (gmono_cons gmono_name gmono_nil) (gin_name (by decide)) (gin_cons gmono_name gmono_nil (gin_name (by decide)) gin_nil))) tr_yes tr_var) tr_gF)
  (tr_seq (tr_for (tr_irng1 (tr_cons tr_int tr_nil)) tr_gF (tr_seq (tr_asg (tr_callS (tr_cons tr_var (tr_cons tr_var (tr_cons tr_var tr_nil)))) tr_gF)
  (tr_seq (tr_asg (tr_cb tr_list (tr_cons tr_var tr_nil)) tr_gF)
  (tr_ifS (tr_or (tr_test (tr_op tr_ne (tr_askN (rd := .non) (fun _ => .non) tr_nil (fun EX => (tr_makeS (tr_cons tr_var tr_nil)))) (tr_callS (tr_cons tr_str (tr_cons (tr_callS (tr_cons tr_var tr_nil)) tr_nil))))) (tr_test (tr_op tr_ne tr_var tr_var))) (tr_ret tr_bl) tr_next))))
  (tr_seq (tr_for (tr_iseq (tr_lst (tr_cons (tr_lst tr_nil) (tr_cons (tr_cb tr_tuple (tr_cons tr_var tr_nil)) (tr_cons tr_non (tr_cons tr_bl (tr_cons (tr_op tr_ix tr_var tr_int) (tr_cons tr_int tr_nil)))))))) tr_gF (tr_ifS (tr_test (tr_op tr_ne (tr_askN (rd := .non) (fun _ => .non) tr_nil (fun EX => (tr_makeS (tr_cons tr_var tr_nil)))) (tr_tup (tr_cons tr_str (tr_cons (tr_un tr_neg tr_int) (tr_cons tr_bl tr_nil)))))) (tr_ret tr_bl) tr_next))
  (tr_ret (tr_op tr_eq (tr_askN (rd := .non) (fun _ => .non) tr_nil (fun EX => (tr_makeS (tr_cons tr_var tr_nil)))) (tr_callS (tr_cons tr_str (tr_cons (tr_callS (tr_cons tr_var tr_nil)) tr_nil))))))))) h⟩
end WK
namespace WK
open PySem L2
abbrev s_l_rights_right : Stmt := top 44
theorem sc_l_rights_right : FnScope N_l_rights_right ["_law_bag_here", "_law_rows", "_law_rights_here"] (defScope s_l_rights_right) := ⟨rfl, rfl, rfl, by decide +kernel, rfl, by decide +kernel, by decide +kernel⟩
theorem ok_l_rights_right {P : Program} {w : World} {K : PySem.W.Frag} {mg : Str → Option Value} {base : Heap} {f : Addr} {fd : FuncData} {T : List (Addr × Str)} (F : FunD K "_law_rights_right" "_law_rights_right" (defArgs s_l_rights_right) (defBody s_l_rights_right) (defScope s_l_rights_right) [] [] f fd) (B : Bf mg) (G : GF2 K mg CS NAS KS ITS) {cl_ tb_ : Addr} (hc_ : fd.code = .ref cl_) (TB_ : LamX.TabB base mg cl_ tb_) (mT_ : (tb_, lamN "_law_rights_right") ∈ T) (uT_ : ∀ p ∈ T, p.1 = tb_ → p.2 = lamN "_law_rights_right") (a_l_refusal : AskF P w K mg base T "_law_refusal" 0 (.non) exc_l_refusal) (c_Rights__init_ : ICal P w K mg base 6 "Rights" ["self", "river", "rows"] (SpU K T U_Rights__init_)) (c_Rights__len_ : MCal P w K mg base 1 "Rights" "__len__" ["self"] (SpU K T U_Rights__len_)) (c_Rights_joined : MCal P w K mg base 8 "Rights" "joined" ["self", "row"] (SpU K T U_Rights_joined)) (c_River__init_ : ICal P w K mg base 4 "River" ["self", "rows"] (SpU K T U_River__init_)) (c_l_due : Cal P w K mg base 1 "_law_due" ["_law_sort", "_law_place"] (SpU K T U_l_due)) (c_l_spoilt : Cal P w K mg base 4 "_law_spoilt" ["_law_bag_here", "_law_rows", "_law_weirs"] (SpU K T U_l_spoilt)) (c_l_wrong_rights : Cal P w K mg base 3 "_law_wrong_rights" ["_law_rows", "_law_rights_here"] (SpU K T U_l_wrong_rights)) :
    FnOk P w K mg base (L2.CX P w) 12 f fd ["_law_bag_here", "_law_rows", "_law_rights_here"] (SpU K T U_l_rights_right) := by
  refine FunD_okC F hc_ sc_l_rights_right (fun vs H Q E h => spu_len (fun _ _ _ => len_l_rights_right) h) (fun A outer s H vs Q E hr h => ?_)
  have hu := hu_of hr
  have hu65 := hu65_of hr
  have hu0 := hr.units
  have hu00 := Nat.lt_of_le_of_lt (Nat.le_add_right _ _) hu0
  exact ⟨_, (pss_cons (ps_asg (pe_tup (pa_cons (pe_lc (own := [("_law_weir", 11), ("_law_below", 12)]) (g := (gTup K 2 (gCons (gName 11) (gCons (gName 12) gNil)))) (tt := tYes) (te := (tVar 11)) (by rfl) sc_l_rights_right.nd (pi_seq (pv 1)) (blkOk_by (own := [("_law_weir", 11), ("_law_below", 12)]) (N := N_l_rights_right) (sc := defScope s_l_rights_right) (by decide +kernel)) (fun _ _ _ _ _ => (pg_tup rfl (pgs_cons (pg_name (i := 11) sc_l_rights_right.nd rfl (Or.inl rfl)) (pgs_cons (pg_name (i := 12) sc_l_rights_right.nd rfl (Or.inl rfl)) pgs_nil)))) (fun _ _ _ _ _ => pts_nil) (fun _ _ _ _ _ => (pv 11))) (pa_cons (pe_makS c_River__init_ (hr.mono (by decide)) rfl (takes_of rfl rfl rfl rfl) (pa_cons (pv 1) pa_nil)) pa_nil))) (pg_tup rfl (pgs_cons (pg_name (i := 3) sc_l_rights_right.nd rfl (Or.inl rfl)) (pgs_cons (pg_name (i := 4) sc_l_rights_right.nd rfl (Or.inr rfl)) pgs_nil))))
  (pss_cons (ps_for (passes_of rfl) rfl (pi_range1 rfl B.range (pa_cons pe_int pa_nil)) (pg_name (i := 5) sc_l_rights_right.nd rfl (Or.inl rfl)) (pss_cons (ps_set (i := 6) sc_l_rights_right.nd rfl (Or.inr rfl) (pe_calS c_l_spoilt (hr.mono (by decide)) rfl (takes_of rfl rfl rfl rfl) (pa_cons (pv 0) (pa_cons (pv 2) (pa_cons (pv 3) pa_nil)))))
  (pss_cons (ps_par (i := 7) (j := 8) (by rfl) sc_l_rights_right.nd rfl rfl (by decide) rfl rfl (pa_cons (pe_callTy (cr_listU rfl) (by rfl) B.list bt_list (pa_cons (pv 6) pa_nil)) (pa_cons (pe_calS c_l_due (hr.mono (by decide)) rfl (takes_of rfl rfl rfl rfl) (pa_cons pe_str (pa_cons (pe_calS c_l_wrong_rights (hr.mono (by decide)) rfl (takes_of rfl rfl rfl rfl) (pa_cons (pv 1) (pa_cons (pv 6) pa_nil))) pa_nil))) pa_nil)) (by rfl))
  (pss_cons (ps_if (PW.pt (pw_or (pt_cmpR (op_neU hu0) (pe_ask (k := 8) (t := fun EX => (tMakeS (He.ga K "Rights") (SpU K T U_Rights__init_) (WE fun cls d _ H => EX cls d H) (tCons (tVar 4) (tCons (tVar 6) tNil)))) a_l_refusal rfl TB_ rfl mT_ uT_ (hr.mono (by decide)) (LamX.lamS_by (show LamX.lamSB (defScope s_l_rights_right) _ = true from by decide +kernel)) pa_nil (fun A_ outer_ s_ H_ EX f_ c_ hr => have hu := hu_of hr; have hu65 := hu65_of hr; have hu0 := hr.units; have hu00 := Nat.lt_of_le_of_lt (Nat.le_add_right _ _) hu0; by exact (pe_makS c_Rights__init_ (hr.mono (by decide)) rfl (takes_of rfl rfl rfl rfl) (pa_cons (pv 4) (pa_cons (pv 6) pa_nil))))) (pv 8) (nomark _)) (pw_or1 (pt_cmpR (op_neU hu0) (pv 6) (pv 7) (nomark _))))) (pss_one (ps_ret pe_bl)) pss_nil)
  (pss_one (ps_if (PW.pt (pw_and (pt_cmpR (op_neU hu0) (pv 6) (pe_lst pa_nil) (nomark _)) (pw_and1 (pt_cmpR op_isNn (pe_calS c_l_wrong_rights (hr.mono (by decide)) rfl (takes_of rfl rfl rfl rfl) (pa_cons (pv 1) (pa_cons (pe_slice sl_U (pv 6) po_none (po_some (pe_un un_neg pe_int))) pa_nil))) pe_non (nomark _))))) (pss_cons (ps_set (i := 9) sc_l_rights_right.nd rfl (Or.inr rfl) (pe_makS c_Rights__init_ (hr.mono (by decide)) rfl (takes_of rfl rfl rfl rfl) (pa_cons (pv 4) (pa_cons (pe_slice sl_U (pv 6) po_none (po_some (pe_un un_neg pe_int))) pa_nil))))
  (pss_one (ps_if (PW.pt (pw_or (pt_cmpR (op_neU hu0) (pe_ask (k := 8) (t := fun EX => (tMethS (He.ga K "Rights") "joined" (SpU K T U_Rights_joined) (WE fun cls d _ H => EX cls d H) (tVar 9) (tCons (tOp (rIxU K) (tVar 6) (tUn (rU fun i => .int (-i)) (tC (.int 1)))) tNil))) a_l_refusal rfl TB_ rfl mT_ uT_ (hr.mono (by decide)) (LamX.lamS_by (show LamX.lamSB (defScope s_l_rights_right) _ = true from by decide +kernel)) pa_nil (fun A_ outer_ s_ H_ EX f_ c_ hr => have hu := hu_of hr; have hu65 := hu65_of hr; have hu0 := hr.units; have hu00 := Nat.lt_of_le_of_lt (Nat.le_add_right _ _) hu0; by exact (pe_mcalS (pv 9) c_Rights_joined (G.cl (i := 1) rfl) (hr.mono (by decide)) (takes_of rfl rfl rfl rfl) (pa_cons (pe_ix (ix_U hu) (pv 6) (pe_un un_neg pe_int) (fun _ _ => rfl)) pa_nil)))) (pv 8) (nomark _)) (pw_or1 (pt_cmpR (op_neU hu0) (pe_callB (cr_lenOwn c_Rights__len_ (hr.mono (by decide))) (by rfl) B.len bt_len (pa_cons (pv 9) pa_nil)) (pe_op op_sub (pe_callB cr_lenR (by rfl) B.len bt_len (pa_cons (pv 6) pa_nil)) pe_int) (nomark _))))) (pss_one (ps_ret pe_bl)) pss_nil))) pss_nil))))))
  (pss_cons (ps_for (passes_of rfl) rfl (pi_seq (pe_lst (pa_cons (pe_callTy call_tuple_of (by rfl) B.tuple bt_tuple (pa_cons (pv 2) pa_nil)) (pa_cons pe_non (pa_cons (pe_ix (ix_U hu) (pv 3) pe_int (fun _ _ => rfl)) (pa_cons pe_int pa_nil)))))) (pg_name (i := 10) sc_l_rights_right.nd rfl (Or.inr rfl)) (pss_one (ps_if (pt_cmpR (op_neU hu0) (pe_ask (k := 8) (t := fun EX => (tMakeS (He.ga K "Rights") (SpU K T U_Rights__init_) (WE fun cls d _ H => EX cls d H) (tCons (tVar 4) (tCons (tVar 10) tNil)))) a_l_refusal rfl TB_ rfl mT_ uT_ (hr.mono (by decide)) (LamX.lamS_by (show LamX.lamSB (defScope s_l_rights_right) _ = true from by decide +kernel)) pa_nil (fun A_ outer_ s_ H_ EX f_ c_ hr => have hu := hu_of hr; have hu65 := hu65_of hr; have hu0 := hr.units; have hu00 := Nat.lt_of_le_of_lt (Nat.le_add_right _ _) hu0; by exact (pe_makS c_Rights__init_ (hr.mono (by decide)) rfl (takes_of rfl rfl rfl rfl) (pa_cons (pv 4) (pa_cons (pv 10) pa_nil))))) (pe_tup (pa_cons pe_str (pa_cons (pe_un un_neg pe_int) (pa_cons pe_bl pa_nil)))) (nomark _)) (pss_one (ps_ret pe_bl)) pss_nil)))
  (pss_one (ps_ret (pe_cmpR (op_eqU hu0) (pe_ask (k := 8) (t := fun EX => (tMakeS (He.ga K "Rights") (SpU K T U_Rights__init_) (WE fun cls d _ H => EX cls d H) (tCons (tVar 4) (tCons (tVar 2) tNil)))) a_l_refusal rfl TB_ rfl mT_ uT_ (hr.mono (by decide)) (LamX.lamS_by (show LamX.lamSB (defScope s_l_rights_right) _ = true from by decide +kernel)) pa_nil (fun A_ outer_ s_ H_ EX f_ c_ hr => have hu := hu_of hr; have hu65 := hu65_of hr; have hu0 := hr.units; have hu00 := Nat.lt_of_le_of_lt (Nat.le_add_right _ _) hu0; by exact (pe_makS c_Rights__init_ (hr.mono (by decide)) rfl (takes_of rfl rfl rfl rfl) (pa_cons (pv 4) (pa_cons (pv 2) pa_nil))))) (pe_calS c_l_due (hr.mono (by decide)) rfl (takes_of rfl rfl rfl rfl) (pa_cons pe_str (pa_cons (pe_calS c_l_wrong_rights (hr.mono (by decide)) rfl (takes_of rfl rfl rfl rfl) (pa_cons (pv 1) (pa_cons (pv 2) pa_nil))) pa_nil))) (nomark _))))))),
    spu_body (N := N_l_rights_right) (u := u_l_rights_right) (fun _ _ _ h => by rw [len_l_rights_right h]; decide) pure_l_rights_right (fun H0 G0 P0 => (tr_seq (tr_parT (tr_lc (tr_iseq tr_var) (tr_gtup (tr_gcons tr_gF (tr_gcons tr_gF tr_gnil))) (gmono_tup (gmono_cons gmono_name (gmono_cons gmono_name gmono_nil))) (gin_tup (gin_cons gmono_name (gmono_cons gmono_name gmono_nil) (gin_name (by decide)) (gin_cons gmono_name gmono_nil (gin_name (by decide)) gin_nil))) tr_yes tr_var) (tr_makeS (tr_cons tr_var tr_nil)))
  (tr_seq (tr_for (tr_irng1 (tr_cons tr_int tr_nil)) tr_gF (tr_seq (tr_asg (tr_callS (tr_cons tr_var (tr_cons tr_var (tr_cons tr_var tr_nil)))) tr_gF)
  (tr_seq (tr_par (tr_cb tr_list (tr_cons tr_var tr_nil)) (tr_callS (tr_cons tr_str (tr_cons (tr_callS (tr_cons tr_var (tr_cons tr_var tr_nil))) tr_nil))))
  (tr_seq (tr_ifS (tr_or (tr_test (tr_op tr_ne (tr_askN (rd := .non) (fun _ => .non) tr_nil (fun EX => (tr_makeS (tr_cons tr_var (tr_cons tr_var tr_nil))))) tr_var)) (tr_test (tr_op tr_ne tr_var tr_var))) (tr_ret tr_bl) tr_next)
  (tr_ifS (tr_and (tr_test (tr_op tr_ne tr_var (tr_lst tr_nil))) (tr_test (tr_op tr_isN (tr_callS (tr_cons tr_var (tr_cons (tr_sl tr_var tr_noPart (tr_part (tr_un tr_neg tr_int))) tr_nil))) tr_non))) (tr_seq (tr_asg (tr_makeS (tr_cons tr_var (tr_cons (tr_sl tr_var tr_noPart (tr_part (tr_un tr_neg tr_int))) tr_nil))) tr_gF)
  (tr_ifS (tr_or (tr_test (tr_op tr_ne (tr_askN (rd := .non) (fun _ => .non) tr_nil (fun EX => (tr_methS tr_var (tr_cons (tr_op tr_ix tr_var (tr_un tr_neg tr_int)) tr_nil)))) tr_var)) (tr_test (tr_op tr_ne (tr_cb tr_lenOwn (tr_cons tr_var tr_nil)) (tr_op tr_I0i (tr_cb tr_len (tr_cons tr_var tr_nil)) tr_int)))) (tr_ret tr_bl) tr_next)) tr_next)))))
  (tr_seq (tr_for (tr_iseq (tr_lst (tr_cons (tr_cb tr_tuple (tr_cons tr_var tr_nil)) (tr_cons tr_non (tr_cons (tr_op tr_ix tr_var tr_int) (tr_cons tr_int tr_nil)))))) tr_gF (tr_ifS (tr_test (tr_op tr_ne (tr_askN (rd := .non) (fun _ => .non) tr_nil (fun EX => (tr_makeS (tr_cons tr_var (tr_cons tr_var tr_nil))))) (tr_tup (tr_cons tr_str (tr_cons (tr_un tr_neg tr_int) (tr_cons tr_bl tr_nil)))))) (tr_ret tr_bl) tr_next))
  (tr_ret (tr_op tr_eq (tr_askN (rd := .non) (fun _ => .non) tr_nil (fun EX => (tr_makeS (tr_cons tr_var (tr_cons tr_var tr_nil))))) (tr_callS (tr_cons tr_str (tr_cons (tr_callS (tr_cons tr_var (tr_cons tr_var tr_nil))) tr_nil))))))))) h⟩
abbrev s_law : Stmt := top 46
theorem sc_law : FnScope N_law ["_law_script"] (defScope s_law) := ⟨rfl, rfl, rfl, by decide +kernel, rfl, by decide +kernel, by decide +kernel⟩
theorem ok_law {P : Program} {w : World} {K : PySem.W.Frag} {mg : Str → Option Value} {base : Heap} {f : Addr} {fd : FuncData} {T : List (Addr × Str)} (F : FunD K "law" "law" (defArgs s_law) (defBody s_law) (defScope s_law) [] [] f fd) (B : Bf mg) (G : GF2 K mg CS NAS KS ITS) (c_l_bag : Cal P w K mg base 1 "_law_bag" ["_law_script", "_law_at", "_law_salt"] (SpU K T U_l_bag)) (c_l_of : Cal P w K mg base 2 "_law_of" ["_law_bag_here", "_law_some"] (SpU K T U_l_of)) (c_l_rights : Cal P w K mg base 5 "_law_rights" ["_law_bag_here", "_law_rows", "_law_many"] (SpU K T U_l_rights)) (c_l_rights_right : Cal P w K mg base 12 "_law_rights_right" ["_law_bag_here", "_law_rows", "_law_rights_here"] (SpU K T U_l_rights_right)) (c_l_river : Cal P w K mg base 4 "_law_river" ["_law_bag_here", "_law_many"] (SpU K T U_l_river)) (c_l_rivers_right : Cal P w K mg base 9 "_law_rivers_right" ["_law_bag_here", "_law_rows"] (SpU K T U_l_rivers_right)) (c_l_words_right : Cal P w K mg base 4 "_law_words_right" ["_law_bag_here", "_law_word"] (SpU K T U_l_words_right)) :
    FnOk P w K mg base (L2.CX P w) 13 f fd ["_law_script"] (SpU K T U_law) := by
  refine F.ok sc_law (fun vs H Q E h => spu_len (fun _ _ _ => len_law) h) (fun cdv A outer s H vs Q E hr h => ?_)
  have hu := hu_of hr
  have hu65 := hu65_of hr
  have hu0 := hr.units
  have hu00 := Nat.lt_of_le_of_lt (Nat.le_add_right _ _) hu0
  exact ⟨_, (pss_cons (ps_for (passes_of rfl) rfl (pi_range1 rfl B.range (pa_cons (pe_callB (call_max2 rfl) (by rfl) B.max bt_max (pa_cons pe_int (pa_cons (pe_callB (call_min2 rfl) (by rfl) B.min bt_min (pa_cons pe_int (pa_cons (pe_callB cr_lenR (by rfl) B.len bt_len (pa_cons (pv 0) pa_nil)) pa_nil))) pa_nil))) pa_nil)) (pg_name (i := 1) sc_law.nd rfl (Or.inl rfl)) (pss_cons (ps_set (i := 2) sc_law.nd rfl (Or.inl rfl) (pe_calS c_l_bag (hr.mono (by decide)) rfl (takes_of rfl rfl rfl rfl) (pa_cons (pv 0) (pa_cons (pv 1) (pa_cons pe_int pa_nil)))))
  (pss_cons (ps_set (i := 3) sc_law.nd rfl (Or.inl rfl) (pe_calS c_l_river (hr.mono (by decide)) rfl (takes_of rfl rfl rfl rfl) (pa_cons (pv 2) (pa_cons (pe_calS c_l_of (hr.mono (by decide)) rfl (takes_of rfl rfl rfl rfl) (pa_cons (pv 2) (pa_cons (pe_lst (pa_cons pe_int (pa_cons pe_int (pa_cons pe_int (pa_cons pe_int (pa_cons pe_int (pa_cons pe_int (pa_cons pe_int (pa_cons pe_int (pa_cons pe_int (pa_cons pe_int (pa_cons pe_int (pa_cons pe_int (pa_cons pe_int pa_nil)))))))))))))) pa_nil))) pa_nil))))
  (pss_cons (ps_if (PW.pt (pw_or (pt_not (pt_val (pe_calS c_l_rivers_right (hr.mono (by decide)) rfl (takes_of rfl rfl rfl rfl) (pa_cons (pv 2) (pa_cons (pv 3) pa_nil))))) (pw_or1 (pt_not (pt_val (pe_calS c_l_words_right (hr.mono (by decide)) rfl (takes_of rfl rfl rfl rfl) (pa_cons (pv 2) (pa_cons (pe_ix (ix_U hu) (pe_ix (ix_U hu) (pv 3) pe_int (fun _ _ => rfl)) pe_int (fun _ _ => rfl)) pa_nil)))))))) (pss_one (ps_ret pe_bl)) pss_nil)
  (pss_cons (ps_set (i := 3) sc_law.nd rfl (Or.inl rfl) (pe_ifExp (pt_cmpR op_lt (pe_callB cr_lenR (by rfl) B.len bt_len (pa_cons (pv 3) pa_nil)) pe_int (nomark _)) (pv 3) (pe_lst (pa_cons (pe_tup (pa_cons pe_str (pa_cons pe_str pa_nil))) pa_nil))))
  (pss_cons (ps_set (i := 4) sc_law.nd rfl (Or.inl rfl) (pe_calS c_l_rights (hr.mono (by decide)) rfl (takes_of rfl rfl rfl rfl) (pa_cons (pv 2) (pa_cons (pv 3) (pa_cons (pe_calS c_l_of (hr.mono (by decide)) rfl (takes_of rfl rfl rfl rfl) (pa_cons (pv 2) (pa_cons (pe_lst (pa_cons pe_int (pa_cons pe_int (pa_cons pe_int (pa_cons pe_int (pa_cons pe_int (pa_cons pe_int (pa_cons pe_int (pa_cons pe_int (pa_cons pe_int (pa_cons pe_int (pa_cons pe_int (pa_cons pe_int pa_nil))))))))))))) pa_nil))) pa_nil)))))
  (pss_one (ps_if (pt_not (pt_val (pe_calS c_l_rights_right (hr.mono (by decide)) rfl (takes_of rfl rfl rfl rfl) (pa_cons (pv 2) (pa_cons (pv 3) (pa_cons (pv 4) pa_nil)))))) (pss_one (ps_ret pe_bl)) pss_nil))))))))
  (pss_one (ps_ret pe_bl))),
    spu_body (N := N_law) (u := u_law) (fun _ _ _ h => by rw [len_law h]; decide) pure_law (fun H0 G0 P0 => (tr_seq (tr_for (tr_irng1 (tr_cons (tr_cb tr_mx2 (tr_cons tr_int (tr_cons (tr_cb tr_mn2 (tr_cons tr_int (tr_cons (tr_cb tr_len (tr_cons tr_var tr_nil)) tr_nil))) tr_nil))) tr_nil)) tr_gF (tr_seq (tr_asg (tr_callS (tr_cons tr_var (tr_cons tr_var (tr_cons tr_int tr_nil)))) tr_gO)
  (tr_seq (tr_asg (tr_callS (tr_cons tr_var (tr_cons (tr_callS (tr_cons tr_var (tr_cons (tr_lst (tr_cons tr_int (tr_cons tr_int (tr_cons tr_int (tr_cons tr_int (tr_cons tr_int (tr_cons tr_int (tr_cons tr_int (tr_cons tr_int (tr_cons tr_int (tr_cons tr_int (tr_cons tr_int (tr_cons tr_int (tr_cons tr_int tr_nil)))))))))))))) tr_nil))) tr_nil))) tr_gF)
  (tr_seq (tr_ifS (tr_or (tr_not (tr_tB (tr_callS (tr_cons tr_var (tr_cons tr_var tr_nil))))) (tr_not (tr_tB (tr_callS (tr_cons tr_var (tr_cons (tr_op tr_ix (tr_op tr_ix tr_var tr_int) tr_int) tr_nil)))))) (tr_ret tr_bl) tr_next)
  (tr_seq (tr_asg (tr_if (tr_test (tr_op tr_I0b (tr_cb tr_len (tr_cons tr_var tr_nil)) tr_int)) tr_var (tr_lst (tr_cons (tr_tup (tr_cons tr_str (tr_cons tr_str tr_nil))) tr_nil))) tr_gF)
  (tr_seq (tr_asg (tr_callS (tr_cons tr_var (tr_cons tr_var (tr_cons (tr_callS (tr_cons tr_var (tr_cons (tr_lst (tr_cons tr_int (tr_cons tr_int (tr_cons tr_int (tr_cons tr_int (tr_cons tr_int (tr_cons tr_int (tr_cons tr_int (tr_cons tr_int (tr_cons tr_int (tr_cons tr_int (tr_cons tr_int (tr_cons tr_int tr_nil))))))))))))) tr_nil))) tr_nil)))) tr_gF)
  (tr_ifS (tr_not (tr_tB (tr_callS (tr_cons tr_var (tr_cons tr_var (tr_cons tr_var tr_nil)))))) (tr_ret tr_bl) tr_next)))))))
  (tr_ret tr_bl))) h⟩
end WK
namespace WK
open PySem PySem.Spec PySem.W PyProof.Rows L2
abbrev s_NotRiver__init_ : Stmt := inClass (top 3) 0
theorem sc_NotRiver__init_ : FnScope ["self", "place"] ["self", "place"] (defScope s_NotRiver__init_) := ⟨rfl, rfl, rfl, by decide +kernel, rfl, by decide +kernel, by decide +kernel⟩
theorem ok_NotRiver__init_ {P : Program} {w : World} {K : PySem.W.Frag} {mg : Str → Option Value} {base : Heap} {f : Addr} {fd : FuncData} (F : FunD K "__init__" "NotRiver.__init__" (defArgs s_NotRiver__init_) (defBody s_NotRiver__init_) (defScope s_NotRiver__init_) [] [] f fd) (GX : GExL K "NotRiver" ["place"]) :
    FnOk P w K mg base (L2.CX P w) 1 f fd ["self", "place"] (sp_xL "NotRiver" ["place"] K) := by
  refine F.ok sc_NotRiver__init_ (fun vs H Q E h => (len_xL h).trans rfl) (fun cdv A outer s H vs Q E hr h => ⟨t_xL K ["place"] 1, PSs.nox ?_, pure_xL GX (by simp) (by decide) rfl vs H Q E h⟩)
  exact pss_one (ps_ost (pv 0) (pv 1))
abbrev s_NoWeir__init_ : Stmt := inClass (top 6) 0
theorem sc_NoWeir__init_ : FnScope ["self", "name"] ["self", "name"] (defScope s_NoWeir__init_) := ⟨rfl, rfl, rfl, by decide +kernel, rfl, by decide +kernel, by decide +kernel⟩
theorem ok_NoWeir__init_ {P : Program} {w : World} {K : PySem.W.Frag} {mg : Str → Option Value} {base : Heap} {f : Addr} {fd : FuncData} (F : FunD K "__init__" "NoWeir.__init__" (defArgs s_NoWeir__init_) (defBody s_NoWeir__init_) (defScope s_NoWeir__init_) [] [] f fd) (GX : GExL K "NoWeir" ["name"]) :
    FnOk P w K mg base (L2.CX P w) 1 f fd ["self", "name"] (sp_xL "NoWeir" ["name"] K) := by
  refine F.ok sc_NoWeir__init_ (fun vs H Q E h => (len_xL h).trans rfl) (fun cdv A outer s H vs Q E hr h => ⟨t_xL K ["name"] 1, PSs.nox ?_, pure_xL GX (by simp) (by decide) rfl vs H Q E h⟩)
  exact pss_one (ps_ost (pv 0) (pv 1))
abbrev s_NotDown__init_ : Stmt := inClass (top 8) 0
theorem sc_NotDown__init_ : FnScope ["self", "high", "low"] ["self", "high", "low"] (defScope s_NotDown__init_) := ⟨rfl, rfl, rfl, by decide +kernel, rfl, by decide +kernel, by decide +kernel⟩
theorem ok_NotDown__init_ {P : Program} {w : World} {K : PySem.W.Frag} {mg : Str → Option Value} {base : Heap} {f : Addr} {fd : FuncData} (F : FunD K "__init__" "NotDown.__init__" (defArgs s_NotDown__init_) (defBody s_NotDown__init_) (defScope s_NotDown__init_) [] [] f fd) (GX : GExL K "NotDown" ["high", "low"]) :
    FnOk P w K mg base (L2.CX P w) 1 f fd ["self", "high", "low"] (sp_xL "NotDown" ["high", "low"] K) := by
  refine F.ok sc_NotDown__init_ (fun vs H Q E h => (len_xL h).trans rfl) (fun cdv A outer s H vs Q E hr h => ⟨t_xL K ["high", "low"] 1, PSs.nox ?_, pure_xL GX (by simp) (by decide) rfl vs H Q E h⟩)
  exact pss_cons (ps_ost (pv 0) (pv 1)) (pss_one (ps_ost (pv 0) (pv 2)))
abbrev s_NotRights__init_ : Stmt := inClass (top 4) 0
theorem sc_NotRights__init_ : FnScope ["self", "place"] ["self", "place"] (defScope s_NotRights__init_) := ⟨rfl, rfl, rfl, by decide +kernel, rfl, by decide +kernel, by decide +kernel⟩
theorem ok_NotRights__init_ {P : Program} {w : World} {K : PySem.W.Frag} {mg : Str → Option Value} {base : Heap} {f : Addr} {fd : FuncData} (F : FunD K "__init__" "NotRights.__init__" (defArgs s_NotRights__init_) (defBody s_NotRights__init_) (defScope s_NotRights__init_) [] [] f fd) (GX : GExL K "NotRights" ["place"]) :
    FnOk P w K mg base (L2.CX P w) 1 f fd ["self", "place"] (sp_xL "NotRights" ["place"] K) := by
  refine F.ok sc_NotRights__init_ (fun vs H Q E h => (len_xL h).trans rfl) (fun cdv A outer s H vs Q E hr h => ⟨t_xL K ["place"] 1, PSs.nox ?_, pure_xL GX (by simp) (by decide) rfl vs H Q E h⟩)
  exact pss_one (ps_ost (pv 0) (pv 1))
def htq : List (He.Defn × Str) := [(("_law_rivers_right", none), lamN "_law_rivers_right"), (("_law_rights_right", none), lamN "_law_rights_right")]
def TKs (K : PySem.W.Frag) : List (Addr × Str) := htq.map fun x => ((He.cT K x.1).2, x.2)
theorem dist_inj {α : Type} {f : α → Addr} : ∀ {l : List α}, distB (l.map f) = true → ∀ {x y : α}, x ∈ l → y ∈ l → f x = f y → x = y
  | [], _, x, _, hx, _, _ => nomatch hx
  | a :: l, h, x, y, hx, hy, e => by
    rw [List.map_cons, distB, Bool.and_eq_true, List.all_eq_true] at h
    have ne : ∀ z ∈ l, f a ≠ f z := fun z hz q => by
      have := h.1 (f z) (List.mem_map.mpr ⟨z, hz, rfl⟩)
      rw [q] at this
      simp at this
    rcases List.mem_cons.mp hx with rfl | hx2 <;> rcases List.mem_cons.mp hy with rfl | hy2
    · rfl
    · exact absurd e (ne y hy2)
    · exact absurd e.symm (ne x hx2)
    · exact dist_inj h.2 hx2 hy2 e
theorem tk_uniq {K : PySem.W.Frag} (hd : distB (htf.map fun d => (He.cT K d).2) = true) {d : He.Defn} {q : Str} (hm : (d, q) ∈ htq) : ∀ p ∈ TKs K, p.1 = (He.cT K d).2 → p.2 = q := fun p hp e => by
  obtain ⟨x, hx, rfl⟩ := List.mem_map.mp hp
  have hd2 : distB (htq.map fun x => (He.cT K x.1).2) = true := hd
  have := dist_inj (f := fun x : He.Defn × Str => (He.cT K x.1).2) hd2 hx hm e
  rw [this]
theorem facts {P : Program} {w : World} {K : PySem.W.Frag} {h : Heap} {mg : Str → Option Value} {f : Addr} (X : K.In h) (G : h.Ns mainGlobals mg) (hfa_ : mg ("law" : Str) = some (.ref f)) (cq : SaysQ hfa hfn htf hex hpr hds w h K) :
    ∃ fd : FuncData, (∀ (s : Shared) (v : Value), BindsTo s fd ⟨[v], []⟩ [("_law_script", v)]) ∧ ∀ base : Heap, K.In base → base.Ns mainGlobals mg → (∀ p ∈ htf, LamX.TabB base mg (He.cT K p).1 (He.cT K p).2) → FnOk P w K mg base (L2.CX P w) 13 f fd ["_law_script"] (SpU K (TKs K) U_law) := by
  have c := cq.x
  have cp := cq.p
  obtain ⟨fd_l_bag, F_l_bag⟩ := c.t.d.def_ 0 (d := dd_l_bag) rfl
  have b_l_bag : L2.Binds K fd_l_bag ["_law_script", "_law_at", "_law_salt"] [] := FunD.bindsN F_l_bag fun _ _ _ _ _ _ us hl => match us, hl with | [_, _, _], _ => rfl
  obtain ⟨fd_l_take, F_l_take⟩ := c.t.d.def_ 1 (d := dd_l_take) rfl
  have b_l_take : L2.Binds K fd_l_take ["_law_bag_here", "_law_many"] [] := FunD.bindsN F_l_take fun _ _ _ _ _ _ us hl => match us, hl with | [_, _], _ => rfl
  obtain ⟨fd_l_of, F_l_of⟩ := c.t.d.def_ 2 (d := dd_l_of) rfl
  have b_l_of : L2.Binds K fd_l_of ["_law_bag_here", "_law_some"] [] := FunD.bindsN F_l_of fun _ _ _ _ _ _ us hl => match us, hl with | [_, _], _ => rfl
  obtain ⟨fd_l_mixed, F_l_mixed⟩ := c.t.d.def_ 3 (d := dd_l_mixed) rfl
  have b_l_mixed : L2.Binds K fd_l_mixed ["_law_bag_here", "_law_some"] [] := FunD.bindsN F_l_mixed fun _ _ _ _ _ _ us hl => match us, hl with | [_, _], _ => rfl
  obtain ⟨fd_l_names, F_l_names⟩ := c.t.d.def_ 4 (d := dd_l_names) rfl
  have b_l_names : L2.Binds K fd_l_names ["_law_bag_here", "_law_many"] [] := FunD.bindsN F_l_names fun _ _ _ _ _ _ us hl => match us, hl with | [_, _], _ => rfl
  obtain ⟨fd_l_river, F_l_river⟩ := c.t.d.def_ 5 (d := dd_l_river) rfl
  have b_l_river : L2.Binds K fd_l_river ["_law_bag_here", "_law_many"] [] := FunD.bindsN F_l_river fun _ _ _ _ _ _ us hl => match us, hl with | [_, _], _ => rfl
  obtain ⟨fd_l_course, F_l_course⟩ := c.t.d.def_ 6 (d := dd_l_course) rfl
  have b_l_course : L2.Binds K fd_l_course ["_law_rows", "_law_weir"] [] := FunD.bindsN F_l_course fun _ _ _ _ _ _ us hl => match us, hl with | [_, _], _ => rfl
  obtain ⟨fd_is_name, F_is_name⟩ := c.t.d.def_ 7 (d := dd_is_name) rfl
  have b_is_name : L2.Binds K fd_is_name ["value"] [] := FunD.bindsN F_is_name fun _ _ _ _ _ _ us hl => match us, hl with | [_], _ => rfl
  obtain ⟨fd_is_wrong_row, F_is_wrong_row⟩ := c.t.d.def_ 8 (d := dd_is_wrong_row) rfl
  have b_is_wrong_row : L2.Binds K fd_is_wrong_row ["entry", "earlier"] [] := FunD.bindsN F_is_wrong_row fun _ _ _ _ _ _ us hl => match us, hl with | [_, _], _ => rfl
  obtain ⟨fd_reaches_sea, F_reaches_sea⟩ := c.t.d.def_ 9 (d := dd_reaches_sea) rfl
  have b_reaches_sea : L2.Binds K fd_reaches_sea ["weir", "lower"] [] := FunD.bindsN F_reaches_sea fun _ _ _ _ _ _ us hl => match us, hl with | [_, _], _ => rfl
  obtain ⟨fd_river_fault, F_river_fault⟩ := c.t.d.def_ 10 (d := dd_river_fault) rfl
  have b_river_fault : L2.Binds K fd_river_fault ["rows"] [] := FunD.bindsN F_river_fault fun _ _ _ _ _ _ us hl => match us, hl with | [_], _ => rfl
  obtain ⟨fd_course_of, F_course_of⟩ := c.t.d.def_ 11 (d := dd_course_of) rfl
  have b_course_of : L2.Binds K fd_course_of ["weir", "lower"] [] := FunD.bindsN F_course_of fun _ _ _ _ _ _ us hl => match us, hl with | [_, _], _ => rfl
  obtain ⟨fd_River__init_, F_River__init_⟩ := c.t.d.def_ 12 (d := dd_River__init_) rfl
  have b_River__init_ : L2.Binds K fd_River__init_ ["self", "rows"] [] := FunD.bindsN F_River__init_ fun _ _ _ _ _ _ us hl => match us, hl with | [_, _], _ => rfl
  obtain ⟨fd_River_need, F_River_need⟩ := c.t.d.def_ 13 (d := dd_River_need) rfl
  have b_River_need : L2.Binds K fd_River_need ["self", "weir"] [] := FunD.bindsN F_River_need fun _ _ _ _ _ _ us hl => match us, hl with | [_, _], _ => rfl
  obtain ⟨fd_River_is_down, F_River_is_down⟩ := c.t.d.def_ 14 (d := dd_River_is_down) rfl
  have b_River_is_down : L2.Binds K fd_River_is_down ["self", "high", "low"] [] := FunD.bindsN F_River_is_down fun _ _ _ _ _ _ us hl => match us, hl with | [_, _, _], _ => rfl
  obtain ⟨fd_River_way, F_River_way⟩ := c.t.d.def_ 15 (d := dd_River_way) rfl
  have b_River_way : L2.Binds K fd_River_way ["self", "intake", "last"] [] := FunD.bindsN F_River_way fun _ _ _ _ _ _ us hl => match us, hl with | [_, _, _], _ => rfl
  obtain ⟨fd_is_wrong_right, F_is_wrong_right⟩ := c.t.d.def_ 16 (d := dd_is_wrong_right) rfl
  have b_is_wrong_right : L2.Binds K fd_is_wrong_right ["river", "entry", "earlier"] [] := FunD.bindsN F_is_wrong_right fun _ _ _ _ _ _ us hl => match us, hl with | [_, _, _], _ => rfl
  obtain ⟨fd_rights_fault, F_rights_fault⟩ := c.t.d.def_ 17 (d := dd_rights_fault) rfl
  have b_rights_fault : L2.Binds K fd_rights_fault ["river", "rows"] [] := FunD.bindsN F_rights_fault fun _ _ _ _ _ _ us hl => match us, hl with | [_, _], _ => rfl
  obtain ⟨fd_Rights__init_, F_Rights__init_⟩ := c.t.d.def_ 18 (d := dd_Rights__init_) rfl
  have b_Rights__init_ : L2.Binds K fd_Rights__init_ ["self", "river", "rows"] [] := FunD.bindsN F_Rights__init_ fun _ _ _ _ _ _ us hl => match us, hl with | [_, _, _], _ => rfl
  obtain ⟨fd_Rights__len_, F_Rights__len_⟩ := c.t.d.def_ 19 (d := dd_Rights__len_) rfl
  have b_Rights__len_ : L2.Binds K fd_Rights__len_ ["self"] [] := FunD.bindsN F_Rights__len_ fun _ _ _ _ _ _ us hl => match us, hl with | [_], _ => rfl
  obtain ⟨fd_Rights_rows, F_Rights_rows⟩ := c.t.d.def_ 20 (d := dd_Rights_rows) rfl
  have b_Rights_rows : L2.Binds K fd_Rights_rows ["self"] [] := FunD.bindsN F_Rights_rows fun _ _ _ _ _ _ us hl => match us, hl with | [_], _ => rfl
  obtain ⟨fd_Rights_joined, F_Rights_joined⟩ := c.t.d.def_ 21 (d := dd_Rights_joined) rfl
  have b_Rights_joined : L2.Binds K fd_Rights_joined ["self", "row"] [] := FunD.bindsN F_Rights_joined fun _ _ _ _ _ _ us hl => match us, hl with | [_, _], _ => rfl
  obtain ⟨fd_l_right_names, F_l_right_names⟩ := c.t.d.def_ 22 (d := dd_l_right_names) rfl
  have b_l_right_names : L2.Binds K fd_l_right_names ["_law_bag_here", "_law_rows", "_law_many"] [] := FunD.bindsN F_l_right_names fun _ _ _ _ _ _ us hl => match us, hl with | [_, _, _], _ => rfl
  obtain ⟨fd_l_rights, F_l_rights⟩ := c.t.d.def_ 23 (d := dd_l_rights) rfl
  have b_l_rights : L2.Binds K fd_l_rights ["_law_bag_here", "_law_rows", "_law_many"] [] := FunD.bindsN F_l_rights fun _ _ _ _ _ _ us hl => match us, hl with | [_, _, _], _ => rfl
  obtain ⟨fd_l_is_name, F_l_is_name⟩ := c.t.d.def_ 24 (d := dd_l_is_name) rfl
  have b_l_is_name : L2.Binds K fd_l_is_name ["_law_word"] [] := FunD.bindsN F_l_is_name fun _ _ _ _ _ _ us hl => match us, hl with | [_], _ => rfl
  obtain ⟨fd_l_is_pair, F_l_is_pair⟩ := c.t.d.def_ 25 (d := dd_l_is_pair) rfl
  have b_l_is_pair : L2.Binds K fd_l_is_pair ["_law_entry", "_law_earlier"] [] := FunD.bindsN F_l_is_pair fun _ _ _ _ _ _ us hl => match us, hl with | [_, _], _ => rfl
  obtain ⟨fd_l_wrong_river, F_l_wrong_river⟩ := c.t.d.def_ 26 (d := dd_l_wrong_river) rfl
  have b_l_wrong_river : L2.Binds K fd_l_wrong_river ["_law_rows"] [] := FunD.bindsN F_l_wrong_river fun _ _ _ _ _ _ us hl => match us, hl with | [_], _ => rfl
  obtain ⟨fd_l_is_right, F_l_is_right⟩ := c.t.d.def_ 27 (d := dd_l_is_right) rfl
  have b_l_is_right : L2.Binds K fd_l_is_right ["_law_weirs", "_law_entry", "_law_earlier"] [] := FunD.bindsN F_l_is_right fun _ _ _ _ _ _ us hl => match us, hl with | [_, _, _], _ => rfl
  obtain ⟨fd_l_wrong_rights, F_l_wrong_rights⟩ := c.t.d.def_ 28 (d := dd_l_wrong_rights) rfl
  have b_l_wrong_rights : L2.Binds K fd_l_wrong_rights ["_law_rows", "_law_rights_here"] [] := FunD.bindsN F_l_wrong_rights fun _ _ _ _ _ _ us hl => match us, hl with | [_, _], _ => rfl
  obtain ⟨fd_l_bad_word, F_l_bad_word⟩ := c.t.d.def_ 29 (d := dd_l_bad_word) rfl
  have b_l_bad_word : L2.Binds K fd_l_bad_word ["_law_bag_here", "_law_word"] [] := FunD.bindsN F_l_bad_word fun _ _ _ _ _ _ us hl => match us, hl with | [_, _], _ => rfl
  obtain ⟨fd_l_bad_entry, F_l_bad_entry⟩ := c.t.d.def_ 30 (d := dd_l_bad_entry) rfl
  have b_l_bad_entry : L2.Binds K fd_l_bad_entry ["_law_bag_here", "_law_rows", "_law_place"] [] := FunD.bindsN F_l_bad_entry fun _ _ _ _ _ _ us hl => match us, hl with | [_, _, _], _ => rfl
  obtain ⟨fd_l_spoilt, F_l_spoilt⟩ := c.t.d.def_ 31 (d := dd_l_spoilt) rfl
  have b_l_spoilt : L2.Binds K fd_l_spoilt ["_law_bag_here", "_law_rows", "_law_weirs"] [] := FunD.bindsN F_l_spoilt fun _ _ _ _ _ _ us hl => match us, hl with | [_, _, _], _ => rfl
  obtain ⟨fd_l_refusal, F_l_refusal⟩ := c.t.d.def_ 32 (d := dd_l_refusal) rfl
  have b_l_refusal : L2.Binds K fd_l_refusal ["_law_ask"] [] := FunD.bindsN F_l_refusal fun _ _ _ _ _ _ us hl => match us, hl with | [_], _ => rfl
  obtain ⟨fd_l_due, F_l_due⟩ := c.t.d.def_ 33 (d := dd_l_due) rfl
  have b_l_due : L2.Binds K fd_l_due ["_law_sort", "_law_place"] [] := FunD.bindsN F_l_due fun _ _ _ _ _ _ us hl => match us, hl with | [_, _], _ => rfl
  obtain ⟨fd_l_rivers_right, F_l_rivers_right⟩ := c.t.d.def_ 34 (d := dd_l_rivers_right) rfl
  have b_l_rivers_right : L2.Binds K fd_l_rivers_right ["_law_bag_here", "_law_rows"] [] := FunD.bindsN F_l_rivers_right fun _ _ _ _ _ _ us hl => match us, hl with | [_, _], _ => rfl
  obtain ⟨fd_l_rights_right, F_l_rights_right⟩ := c.t.d.def_ 35 (d := dd_l_rights_right) rfl
  have b_l_rights_right : L2.Binds K fd_l_rights_right ["_law_bag_here", "_law_rows", "_law_rights_here"] [] := FunD.bindsN F_l_rights_right fun _ _ _ _ _ _ us hl => match us, hl with | [_, _, _], _ => rfl
  obtain ⟨fd_l_words_right, F_l_words_right⟩ := c.t.d.def_ 36 (d := dd_l_words_right) rfl
  have b_l_words_right : L2.Binds K fd_l_words_right ["_law_bag_here", "_law_word"] [] := FunD.bindsN F_l_words_right fun _ _ _ _ _ _ us hl => match us, hl with | [_, _], _ => rfl
  obtain ⟨fd_law, F_law⟩ := c.t.d.def_ 37 (d := dd_law) rfl
  have b_law : L2.Binds K fd_law ["_law_script"] [] := FunD.bindsN F_law fun _ _ _ _ _ _ us hl => match us, hl with | [_], _ => rfl
  obtain ⟨fd_NotRiver__init_, F_NotRiver__init_⟩ := c.t.d.def_ 38 (d := dd_NotRiver__init_) rfl
  have b_NotRiver__init_ : L2.Binds K fd_NotRiver__init_ ["self", "place"] [] := FunD.bindsN F_NotRiver__init_ fun _ _ _ _ _ _ us hl => match us, hl with | [_, _], _ => rfl
  obtain ⟨fd_NoWeir__init_, F_NoWeir__init_⟩ := c.t.d.def_ 39 (d := dd_NoWeir__init_) rfl
  have b_NoWeir__init_ : L2.Binds K fd_NoWeir__init_ ["self", "name"] [] := FunD.bindsN F_NoWeir__init_ fun _ _ _ _ _ _ us hl => match us, hl with | [_, _], _ => rfl
  obtain ⟨fd_NotDown__init_, F_NotDown__init_⟩ := c.t.d.def_ 40 (d := dd_NotDown__init_) rfl
  have b_NotDown__init_ : L2.Binds K fd_NotDown__init_ ["self", "high", "low"] [] := FunD.bindsN F_NotDown__init_ fun _ _ _ _ _ _ us hl => match us, hl with | [_, _, _], _ => rfl
  obtain ⟨fd_NotRights__init_, F_NotRights__init_⟩ := c.t.d.def_ 41 (d := dd_NotRights__init_) rfl
  have b_NotRights__init_ : L2.Binds K fd_NotRights__init_ ["self", "place"] [] := FunD.bindsN F_NotRights__init_ fun _ _ _ _ _ _ us hl => match us, hl with | [_, _], _ => rfl
  have B : Bf mg := ⟨He.free_ok X G (c.t.d.fact 39 (f := .free "len") rfl), He.free_ok X G (c.t.d.fact 40 (f := .free "abs") rfl), He.free_ok X G (c.t.d.fact 41 (f := .free "max") rfl), He.free_ok X G (c.t.d.fact 42 (f := .free "min") rfl), He.free_ok X G (c.t.d.fact 43 (f := .free "int") rfl), He.free_ok X G (c.t.d.fact 44 (f := .free "bool") rfl), He.free_ok X G (c.t.d.fact 45 (f := .free "str") rfl), He.free_ok X G (c.t.d.fact 46 (f := .free "list") rfl), He.free_ok X G (c.t.d.fact 47 (f := .free "tuple") rfl), He.free_ok X G (c.t.d.fact 48 (f := .free "dict") rfl), He.free_ok X G (c.t.d.fact 49 (f := .free "isinstance") rfl), He.free_ok X G (c.t.d.fact 50 (f := .free "all") rfl), He.free_ok X G (c.t.d.fact 51 (f := .free "any") rfl), He.free_ok X G (c.t.d.fact 52 (f := .free "sum") rfl), He.free_ok X G (c.t.d.fact 53 (f := .free "iter") rfl), He.free_ok X G (c.t.d.fact 54 (f := .free "sorted") rfl), He.free_ok X G (c.t.d.fact 55 (f := .free "range") rfl), He.free_ok X G (c.t.d.fact 56 (f := .free "enumerate") rfl), He.free_ok X G (c.t.d.fact 57 (f := .free "zip") rfl), He.free_ok X G (c.t.d.fact 58 (f := .free "ValueError") rfl), He.free_ok X G (c.t.d.fact 59 (f := .free "set") rfl)⟩
  have hx := c.more
  have hgl : allB (glbL K) = true := allB_at hx 0
  have hcl : ∀ c ∈ CS, Cls K (He.ga K c) := (List.forall_mem_cons.mpr ⟨He.cls_ok (c.t.d.fact 63 (f := .cls "River") rfl), (List.forall_mem_cons.mpr ⟨He.cls_ok (c.t.d.fact 64 (f := .cls "Rights") rfl), (List.forall_mem_nil _)⟩)⟩)
  have hits : ∀ p ∈ ITS, p.1 ∈ CS ∧ NoAttr K (He.ga K p.1) p.2 := (List.forall_mem_nil _)
  have GG : GF2 K mg CS NAS KS ITS := gf2_of (List.forall_mem_cons.mpr ⟨He.glo_ok X G (c.t.d.fact 30 (f := .glo "River") rfl), (List.forall_mem_cons.mpr ⟨He.glo_ok X G (c.t.d.fact 31 (f := .glo "Rights") rfl), (List.forall_mem_nil _)⟩)⟩) hcl (List.forall_mem_cons.mpr ⟨He.noat_ok (c.t.d.fact 67 (f := .noat "River" "weirs") rfl), (List.forall_mem_cons.mpr ⟨He.noat_ok (c.t.d.fact 68 (f := .noat "River" "lower") rfl), (List.forall_mem_cons.mpr ⟨He.noat_ok (c.t.d.fact 69 (f := .noat "River" "courses") rfl), (List.forall_mem_cons.mpr ⟨He.noat_ok (c.t.d.fact 70 (f := .noat "Rights" "river") rfl), (List.forall_mem_cons.mpr ⟨He.noat_ok (c.t.d.fact 71 (f := .noat "Rights" "names") rfl), (List.forall_mem_cons.mpr ⟨He.noat_ok (c.t.d.fact 72 (f := .noat "Rights" "entries") rfl), (List.forall_mem_cons.mpr ⟨He.noat_ok (c.t.d.fact 73 (f := .noat "Rights" "ways") rfl), (List.forall_mem_cons.mpr ⟨He.noat_ok (c.t.d.fact 74 (f := .noat "Rights" "stops") rfl), (List.forall_mem_nil _)⟩)⟩)⟩)⟩)⟩)⟩)⟩)⟩) (List.forall_mem_cons.mpr ⟨(by obtain ⟨t, e⟩ := He.str_ok X G (c.t.d.fact 60 (f := .str "LETTERS" "abcdefghijklmnopqrstuvwxyz") rfl); exact ⟨_, e, t, rfl⟩), (List.forall_mem_cons.mpr ⟨(by obtain ⟨t, e⟩ := He.int_ok X G (c.t.d.fact 61 (f := .int "MOST_WEIRS" 40) rfl); exact ⟨_, e, t, rfl⟩), (List.forall_mem_cons.mpr ⟨(by obtain ⟨t, e⟩ := He.int_ok X G (c.t.d.fact 62 (f := .int "MOST_RIGHTS" 40) rfl); exact ⟨_, e, t, rfl⟩), (List.forall_mem_nil _)⟩)⟩)⟩) hgl (allB_at hx 1) (allB_at hx 2) hits
  have hxs : (XS.all fun c => allB (excL K XS c)) = true := allB_at hx 3
  have hxi : (([("NotRiver" : Str), ("NoWeir" : Str), ("NotDown" : Str), ("NotRights" : Str)] : List Str).all fun c => allB (xinL K c)) = true := allB_at hx 4
  have XF : XFacts K mg XS XFS := xfacts_of (List.forall_mem_cons.mpr ⟨He.glo_ok X G (c.t.d.fact 32 (f := .glo "WeirError") rfl), (List.forall_mem_cons.mpr ⟨He.glo_ok X G (c.t.d.fact 33 (f := .glo "NotRiver") rfl), (List.forall_mem_cons.mpr ⟨He.glo_ok X G (c.t.d.fact 34 (f := .glo "NotRights") rfl), (List.forall_mem_cons.mpr ⟨He.glo_ok X G (c.t.d.fact 35 (f := .glo "NotText") rfl), (List.forall_mem_cons.mpr ⟨He.glo_ok X G (c.t.d.fact 36 (f := .glo "NoWeir") rfl), (List.forall_mem_cons.mpr ⟨He.glo_ok X G (c.t.d.fact 37 (f := .glo "NoRight") rfl), (List.forall_mem_cons.mpr ⟨He.glo_ok X G (c.t.d.fact 38 (f := .glo "NotDown") rfl), (List.forall_mem_nil _)⟩)⟩)⟩)⟩)⟩)⟩)⟩) hgl hxs (List.forall_mem_cons.mpr ⟨He.noat_ok (c.t.d.fact 75 (f := .noat "NotRiver" "place") rfl), (List.forall_mem_cons.mpr ⟨He.noat_ok (c.t.d.fact 76 (f := .noat "NotRights" "place") rfl), (List.forall_mem_cons.mpr ⟨He.noat_ok (c.t.d.fact 77 (f := .noat "NotText" "line") rfl), (List.forall_mem_cons.mpr ⟨He.noat_ok (c.t.d.fact 78 (f := .noat "NoWeir" "name") rfl), (List.forall_mem_cons.mpr ⟨He.noat_ok (c.t.d.fact 79 (f := .noat "NoRight" "name") rfl), (List.forall_mem_cons.mpr ⟨He.noat_ok (c.t.d.fact 80 (f := .noat "NotDown" "high") rfl), (List.forall_mem_cons.mpr ⟨He.noat_ok (c.t.d.fact 81 (f := .noat "NotDown" "low") rfl), (List.forall_mem_nil _)⟩)⟩)⟩)⟩)⟩)⟩)⟩)
  have e_ := hfa_.symm.trans (He.glo_ok X G (c.t.d.fact 29 (f := .glo "law") rfl))
  cases e_
  refine ⟨fd_law, fun s v => FunD.bindsA (ps := ["_law_script"]) F_law (fun _ _ _ _ _ _ us hl => match us, hl with | [_], _ => rfl) s [v] rfl, fun base hB hG hTB => ?_⟩
  have hdist : distB (htf.map fun d => (He.cT K d).2) = true := allB_at hx 5
  have x_NotRiver : XCal P w K mg base 1 "NotRiver" ["self", "place"] (sp_xL "NotRiver" ["place"] K) := ⟨⟨_, ok_NotRiver__init_ F_NotRiver__init_ ⟨oex_of hxs (by decide +kernel), (List.forall_mem_cons.mpr ⟨He.noat_ok (c.t.d.fact 75 (f := .noat "NotRiver" "place") rfl), (List.forall_mem_nil _)⟩)⟩, b_NotRiver__init_⟩, oex_of hxs (by decide +kernel), eB_ok (allB_at (all_at hxi (x := ("NotRiver" : Str)) (by decide +kernel)) 0), of_decide_eq_true (allB_at (all_at hxi (x := ("NotRiver" : Str)) (by decide +kernel)) 1), He.glo_ok X G (c.t.d.fact 33 (f := .glo "NotRiver") rfl)⟩
  have x_NoWeir : XCal P w K mg base 1 "NoWeir" ["self", "name"] (sp_xL "NoWeir" ["name"] K) := ⟨⟨_, ok_NoWeir__init_ F_NoWeir__init_ ⟨oex_of hxs (by decide +kernel), (List.forall_mem_cons.mpr ⟨He.noat_ok (c.t.d.fact 78 (f := .noat "NoWeir" "name") rfl), (List.forall_mem_nil _)⟩)⟩, b_NoWeir__init_⟩, oex_of hxs (by decide +kernel), eB_ok (allB_at (all_at hxi (x := ("NoWeir" : Str)) (by decide +kernel)) 0), of_decide_eq_true (allB_at (all_at hxi (x := ("NoWeir" : Str)) (by decide +kernel)) 1), He.glo_ok X G (c.t.d.fact 36 (f := .glo "NoWeir") rfl)⟩
  have x_NotDown : XCal P w K mg base 1 "NotDown" ["self", "high", "low"] (sp_xL "NotDown" ["high", "low"] K) := ⟨⟨_, ok_NotDown__init_ F_NotDown__init_ ⟨oex_of hxs (by decide +kernel), (List.forall_mem_cons.mpr ⟨He.noat_ok (c.t.d.fact 80 (f := .noat "NotDown" "high") rfl), (List.forall_mem_cons.mpr ⟨He.noat_ok (c.t.d.fact 81 (f := .noat "NotDown" "low") rfl), (List.forall_mem_nil _)⟩)⟩)⟩, b_NotDown__init_⟩, oex_of hxs (by decide +kernel), eB_ok (allB_at (all_at hxi (x := ("NotDown" : Str)) (by decide +kernel)) 0), of_decide_eq_true (allB_at (all_at hxi (x := ("NotDown" : Str)) (by decide +kernel)) 1), He.glo_ok X G (c.t.d.fact 38 (f := .glo "NotDown") rfl)⟩
  have x_NotRights : XCal P w K mg base 1 "NotRights" ["self", "place"] (sp_xL "NotRights" ["place"] K) := ⟨⟨_, ok_NotRights__init_ F_NotRights__init_ ⟨oex_of hxs (by decide +kernel), (List.forall_mem_cons.mpr ⟨He.noat_ok (c.t.d.fact 76 (f := .noat "NotRights" "place") rfl), (List.forall_mem_nil _)⟩)⟩, b_NotRights__init_⟩, oex_of hxs (by decide +kernel), eB_ok (allB_at (all_at hxi (x := ("NotRights" : Str)) (by decide +kernel)) 0), of_decide_eq_true (allB_at (all_at hxi (x := ("NotRights" : Str)) (by decide +kernel)) 1), He.glo_ok X G (c.t.d.fact 34 (f := .glo "NotRights") rfl)⟩
  have c_l_bag : Cal P w K mg base 1 "_law_bag" ["_law_script", "_law_at", "_law_salt"] (SpU K (TKs K) U_l_bag) := ⟨⟨_, ok_l_bag F_l_bag B GG, b_l_bag⟩, He.glo_ok X G (c.t.d.fact 0 (f := .glo "_law_bag") rfl), F_l_bag.kp⟩
  have c_l_take : Cal P w K mg base 1 "_law_take" ["_law_bag_here", "_law_many"] (SpU K (TKs K) U_l_take) := ⟨⟨_, ok_l_take F_l_take B GG, b_l_take⟩, He.glo_ok X G (c.t.d.fact 1 (f := .glo "_law_take") rfl), F_l_take.kp⟩
  have c_l_course : Cal P w K mg base 1 "_law_course" ["_law_rows", "_law_weir"] (SpU K (TKs K) U_l_course) := ⟨⟨_, ok_l_course F_l_course B GG, b_l_course⟩, He.glo_ok X G (c.t.d.fact 6 (f := .glo "_law_course") rfl), F_l_course.kp⟩
  have c_is_name : Cal P w K mg base 1 "is_name" ["value"] (SpU K (TKs K) U_is_name) := ⟨⟨_, ok_is_name F_is_name B GG, b_is_name⟩, He.glo_ok X G (c.t.d.fact 7 (f := .glo "is_name") rfl), F_is_name.kp⟩
  have c_reaches_sea : Cal P w K mg base 1 "reaches_sea" ["weir", "lower"] (SpU K (TKs K) U_reaches_sea) := ⟨⟨_, ok_reaches_sea F_reaches_sea B GG, b_reaches_sea⟩, He.glo_ok X G (c.t.d.fact 9 (f := .glo "reaches_sea") rfl), F_reaches_sea.kp⟩
  have c_course_of : Cal P w K mg base 1 "course_of" ["weir", "lower"] (SpU K (TKs K) U_course_of) := ⟨⟨_, ok_course_of F_course_of B GG, b_course_of⟩, He.glo_ok X G (c.t.d.fact 11 (f := .glo "course_of") rfl), F_course_of.kp⟩
  have c_Rights__len_ : MCal P w K mg base 1 "Rights" "__len__" ["self"] (SpU K (TKs K) U_Rights__len_) := ⟨⟨_, ok_Rights__len_ F_Rights__len_ B GG, b_Rights__len_⟩, He.meth_ok (c.t.d.fact 85 (f := .meth "Rights" "__len__") rfl)⟩
  have c_Rights_rows : MCal P w K mg base 1 "Rights" "rows" ["self"] (SpU K (TKs K) U_Rights_rows) := ⟨⟨_, ok_Rights_rows F_Rights_rows B GG, b_Rights_rows⟩, He.meth_ok (c.t.d.fact 86 (f := .meth "Rights" "rows") rfl)⟩
  have c_l_is_name : Cal P w K mg base 1 "_law_is_name" ["_law_word"] (SpU K (TKs K) U_l_is_name) := ⟨⟨_, ok_l_is_name F_l_is_name B GG, b_l_is_name⟩, He.glo_ok X G (c.t.d.fact 16 (f := .glo "_law_is_name") rfl), F_l_is_name.kp⟩
  have a_l_refusal : AskF P w K mg base (TKs K) "_law_refusal" 0 (.non) exc_l_refusal := ok_l_refusal F_l_refusal b_l_refusal (He.glo_ok X G (c.t.d.fact 24 (f := .glo "_law_refusal") rfl)) B GG XF
  have c_l_due : Cal P w K mg base 1 "_law_due" ["_law_sort", "_law_place"] (SpU K (TKs K) U_l_due) := ⟨⟨_, ok_l_due F_l_due B GG, b_l_due⟩, He.glo_ok X G (c.t.d.fact 25 (f := .glo "_law_due") rfl), F_l_due.kp⟩
  have c_l_of : Cal P w K mg base 2 "_law_of" ["_law_bag_here", "_law_some"] (SpU K (TKs K) U_l_of) := ⟨⟨_, ok_l_of F_l_of B GG c_l_take, b_l_of⟩, He.glo_ok X G (c.t.d.fact 2 (f := .glo "_law_of") rfl), F_l_of.kp⟩
  have c_l_mixed : Cal P w K mg base 2 "_law_mixed" ["_law_bag_here", "_law_some"] (SpU K (TKs K) U_l_mixed) := ⟨⟨_, ok_l_mixed F_l_mixed B GG c_l_take, b_l_mixed⟩, He.glo_ok X G (c.t.d.fact 3 (f := .glo "_law_mixed") rfl), F_l_mixed.kp⟩
  have c_is_wrong_row : Cal P w K mg base 2 "is_wrong_row" ["entry", "earlier"] (SpU K (TKs K) U_is_wrong_row) := ⟨⟨_, ok_is_wrong_row F_is_wrong_row B GG c_is_name, b_is_wrong_row⟩, He.glo_ok X G (c.t.d.fact 8 (f := .glo "is_wrong_row") rfl), F_is_wrong_row.kp⟩
  have c_is_wrong_right : Cal P w K mg base 2 "is_wrong_right" ["river", "entry", "earlier"] (SpU K (TKs K) U_is_wrong_right) := ⟨⟨_, ok_is_wrong_right F_is_wrong_right B GG c_is_name, b_is_wrong_right⟩, He.glo_ok X G (c.t.d.fact 12 (f := .glo "is_wrong_right") rfl), F_is_wrong_right.kp⟩
  have c_l_is_pair : Cal P w K mg base 2 "_law_is_pair" ["_law_entry", "_law_earlier"] (SpU K (TKs K) U_l_is_pair) := ⟨⟨_, ok_l_is_pair F_l_is_pair B GG c_l_is_name, b_l_is_pair⟩, He.glo_ok X G (c.t.d.fact 17 (f := .glo "_law_is_pair") rfl), F_l_is_pair.kp⟩
  have c_l_is_right : Cal P w K mg base 2 "_law_is_right" ["_law_weirs", "_law_entry", "_law_earlier"] (SpU K (TKs K) U_l_is_right) := ⟨⟨_, ok_l_is_right F_l_is_right B GG c_l_is_name, b_l_is_right⟩, He.glo_ok X G (c.t.d.fact 19 (f := .glo "_law_is_right") rfl), F_l_is_right.kp⟩
  have c_l_names : Cal P w K mg base 3 "_law_names" ["_law_bag_here", "_law_many"] (SpU K (TKs K) U_l_names) := ⟨⟨_, ok_l_names F_l_names B GG c_l_of c_l_take, b_l_names⟩, He.glo_ok X G (c.t.d.fact 4 (f := .glo "_law_names") rfl), F_l_names.kp⟩
  have c_river_fault : Cal P w K mg base 3 "river_fault" ["rows"] (SpU K (TKs K) U_river_fault) := ⟨⟨_, ok_river_fault F_river_fault B GG c_is_wrong_row c_reaches_sea, b_river_fault⟩, He.glo_ok X G (c.t.d.fact 10 (f := .glo "river_fault") rfl), F_river_fault.kp⟩
  have c_River_need : MCal P w K mg base 3 "River" "need" ["self", "weir"] (SpU K (TKs K) U_River_need) := ⟨⟨_, ok_River_need F_River_need B GG x_NoWeir, b_River_need⟩, He.meth_ok (c.t.d.fact 82 (f := .meth "River" "need") rfl)⟩
  have c_l_wrong_river : Cal P w K mg base 3 "_law_wrong_river" ["_law_rows"] (SpU K (TKs K) U_l_wrong_river) := ⟨⟨_, ok_l_wrong_river F_l_wrong_river B GG c_l_is_pair, b_l_wrong_river⟩, He.glo_ok X G (c.t.d.fact 18 (f := .glo "_law_wrong_river") rfl), F_l_wrong_river.kp⟩
  have c_l_wrong_rights : Cal P w K mg base 3 "_law_wrong_rights" ["_law_rows", "_law_rights_here"] (SpU K (TKs K) U_l_wrong_rights) := ⟨⟨_, ok_l_wrong_rights F_l_wrong_rights B GG c_l_course c_l_is_right, b_l_wrong_rights⟩, He.glo_ok X G (c.t.d.fact 20 (f := .glo "_law_wrong_rights") rfl), F_l_wrong_rights.kp⟩
  have c_l_bad_word : Cal P w K mg base 3 "_law_bad_word" ["_law_bag_here", "_law_word"] (SpU K (TKs K) U_l_bad_word) := ⟨⟨_, ok_l_bad_word F_l_bad_word B GG c_l_of, b_l_bad_word⟩, He.glo_ok X G (c.t.d.fact 21 (f := .glo "_law_bad_word") rfl), F_l_bad_word.kp⟩
  have c_l_bad_entry : Cal P w K mg base 3 "_law_bad_entry" ["_law_bag_here", "_law_rows", "_law_place"] (SpU K (TKs K) U_l_bad_entry) := ⟨⟨_, ok_l_bad_entry F_l_bad_entry B GG c_l_of, b_l_bad_entry⟩, He.glo_ok X G (c.t.d.fact 22 (f := .glo "_law_bad_entry") rfl), F_l_bad_entry.kp⟩
  have c_l_river : Cal P w K mg base 4 "_law_river" ["_law_bag_here", "_law_many"] (SpU K (TKs K) U_l_river) := ⟨⟨_, ok_l_river F_l_river B GG c_l_mixed c_l_names c_l_take, b_l_river⟩, He.glo_ok X G (c.t.d.fact 5 (f := .glo "_law_river") rfl), F_l_river.kp⟩
  have c_River__init_ : ICal P w K mg base 4 "River" ["self", "rows"] (SpU K (TKs K) U_River__init_) := ⟨⟨_, ok_River__init_ F_River__init_ B GG c_course_of c_river_fault x_NotRiver, b_River__init_⟩, He.mkr_ok (c.t.d.fact 65 (f := .mkr "River") rfl), He.glo_ok X G (c.t.d.fact 30 (f := .glo "River") rfl)⟩
  have c_River_is_down : MCal P w K mg base 4 "River" "is_down" ["self", "high", "low"] (SpU K (TKs K) U_River_is_down) := ⟨⟨_, ok_River_is_down F_River_is_down B GG c_River_need, b_River_is_down⟩, He.meth_ok (c.t.d.fact 83 (f := .meth "River" "is_down") rfl)⟩
  have c_River_way : MCal P w K mg base 4 "River" "way" ["self", "intake", "last"] (SpU K (TKs K) U_River_way) := ⟨⟨_, ok_River_way F_River_way B GG c_River_need x_NotDown, b_River_way⟩, He.meth_ok (c.t.d.fact 84 (f := .meth "River" "way") rfl)⟩
  have c_l_right_names : Cal P w K mg base 4 "_law_right_names" ["_law_bag_here", "_law_rows", "_law_many"] (SpU K (TKs K) U_l_right_names) := ⟨⟨_, ok_l_right_names F_l_right_names B GG c_l_mixed c_l_names c_l_take, b_l_right_names⟩, He.glo_ok X G (c.t.d.fact 14 (f := .glo "_law_right_names") rfl), F_l_right_names.kp⟩
  have c_l_spoilt : Cal P w K mg base 4 "_law_spoilt" ["_law_bag_here", "_law_rows", "_law_weirs"] (SpU K (TKs K) U_l_spoilt) := ⟨⟨_, ok_l_spoilt F_l_spoilt B GG c_l_bad_entry c_l_bad_word c_l_of c_l_take, b_l_spoilt⟩, He.glo_ok X G (c.t.d.fact 23 (f := .glo "_law_spoilt") rfl), F_l_spoilt.kp⟩
  have c_l_words_right : Cal P w K mg base 4 "_law_words_right" ["_law_bag_here", "_law_word"] (SpU K (TKs K) U_l_words_right) := ⟨⟨_, ok_l_words_right F_l_words_right B GG c_l_bad_word c_l_is_name c_is_name, b_l_words_right⟩, He.glo_ok X G (c.t.d.fact 28 (f := .glo "_law_words_right") rfl), F_l_words_right.kp⟩
  have c_rights_fault : Cal P w K mg base 5 "rights_fault" ["river", "rows"] (SpU K (TKs K) U_rights_fault) := ⟨⟨_, ok_rights_fault F_rights_fault B GG c_River_is_down c_is_wrong_right, b_rights_fault⟩, He.glo_ok X G (c.t.d.fact 13 (f := .glo "rights_fault") rfl), F_rights_fault.kp⟩
  have c_l_rights : Cal P w K mg base 5 "_law_rights" ["_law_bag_here", "_law_rows", "_law_many"] (SpU K (TKs K) U_l_rights) := ⟨⟨_, ok_l_rights F_l_rights B GG c_l_course c_l_of c_l_right_names c_l_take, b_l_rights⟩, He.glo_ok X G (c.t.d.fact 15 (f := .glo "_law_rights") rfl), F_l_rights.kp⟩
  have c_Rights__init_ : ICal P w K mg base 6 "Rights" ["self", "river", "rows"] (SpU K (TKs K) U_Rights__init_) := ⟨⟨_, ok_Rights__init_ F_Rights__init_ B GG c_River_way c_rights_fault x_NotRights, b_Rights__init_⟩, He.mkr_ok (c.t.d.fact 66 (f := .mkr "Rights") rfl), He.glo_ok X G (c.t.d.fact 31 (f := .glo "Rights") rfl)⟩
  have c_Rights_joined : MCal P w K mg base 8 "Rights" "joined" ["self", "row"] (SpU K (TKs K) U_Rights_joined) := ⟨⟨_, ok_Rights_joined F_Rights_joined B GG c_Rights__init_ c_Rights_rows, b_Rights_joined⟩, He.meth_ok (c.t.d.fact 87 (f := .meth "Rights" "joined") rfl)⟩
  have c_l_rivers_right : Cal P w K mg base 9 "_law_rivers_right" ["_law_bag_here", "_law_rows"] (SpU K (TKs K) U_l_rivers_right) := ⟨⟨_, ok_l_rivers_right F_l_rivers_right B GG (FunD_code F_l_rivers_right) (hTB ("_law_rivers_right", none) (show _ ∈ htf from List.mem_cons_self)) (List.mem_map.mpr ⟨(("_law_rivers_right", none), lamN "_law_rivers_right"), (show _ ∈ htq from List.mem_cons_self), rfl⟩) (tk_uniq (d := ("_law_rivers_right", none)) (q := lamN "_law_rivers_right") hdist (show _ ∈ htq from List.mem_cons_self)) a_l_refusal c_River__init_ c_l_due c_l_spoilt c_l_wrong_river, b_l_rivers_right⟩, He.glo_ok X G (c.t.d.fact 26 (f := .glo "_law_rivers_right") rfl), F_l_rivers_right.kp⟩
  have c_l_rights_right : Cal P w K mg base 12 "_law_rights_right" ["_law_bag_here", "_law_rows", "_law_rights_here"] (SpU K (TKs K) U_l_rights_right) := ⟨⟨_, ok_l_rights_right F_l_rights_right B GG (FunD_code F_l_rights_right) (hTB ("_law_rights_right", none) (show _ ∈ htf from (List.mem_cons_of_mem _ List.mem_cons_self))) (List.mem_map.mpr ⟨(("_law_rights_right", none), lamN "_law_rights_right"), (show _ ∈ htq from (List.mem_cons_of_mem _ List.mem_cons_self)), rfl⟩) (tk_uniq (d := ("_law_rights_right", none)) (q := lamN "_law_rights_right") hdist (show _ ∈ htq from (List.mem_cons_of_mem _ List.mem_cons_self))) a_l_refusal c_Rights__init_ c_Rights__len_ c_Rights_joined c_River__init_ c_l_due c_l_spoilt c_l_wrong_rights, b_l_rights_right⟩, He.glo_ok X G (c.t.d.fact 27 (f := .glo "_law_rights_right") rfl), F_l_rights_right.kp⟩
  exact ok_law F_law B GG c_l_bag c_l_of c_l_rights c_l_rights_right c_l_river c_l_rivers_right c_l_words_right
end WK
namespace WK
open PySem PySem.Spec PyProof.Rows L2
def noT (H : Hp) : Hp := fun b => match H b with
  | some (.tbl _) => none
  | o => o
theorem noT_some {H : Hp} {b : Addr} {o : HO} (h : noT H b = some o) : H b = some o ∧ NT o := by
  unfold noT at h
  cases e : H b with
  | none => rw [e] at h; cases h
  | some u =>
    rw [e] at h
    cases u <;> first | cases h; done | (cases h; exact ⟨rfl, fun ps q => by cases q⟩)
theorem noT_of {H : Hp} {b : Addr} {o : HO} (h : H b = some o) (n : NT o) : noT H b = some o := by
  unfold noT
  rw [h]
  cases o <;> first | rfl | exact absurd rfl (n _)
theorem sqL_noT {K : PySem.W.Frag} {H : Hp} {a : Addr} {xs : List V} (h : SqL K H a xs) : SqL K (noT H) a xs := by
  rcases h with (h | ⟨o, h⟩) | h
  · exact .inl (.inl (noT_of h fun ps q => by cases q))
  · exact .inl (.inr ⟨o, noT_of h fun ps q => by cases q⟩)
  · exact .inr h
theorem spU_script {K : PySem.W.Frag} {T : List (Addr × Str)} {U : UP} {H : Hp} {a : Addr} {ns : List Int} (hS : SqL K H a (ns.map V.int)) (hTb : LamX.Tabs T H) (hU : ∀ (Q : Pv → List Sl → Prop) (X : Xn → List Sl → Prop), Q (.fz (.bl true)) [.fz (.scr ns)] → U [.fz (.scr ns)] Q X) :
    SpU K T U [.ref a] H (fun v _ => v = .bl true) fun _ _ _ => False := by
  refine ⟨noT H, [.fz (.scr ns)], fun p _ => p = .fz (.bl true), fun _ _ => False, ⟨fun b o h => (noT_some h).1, fun b o h => (noT_some h).2, hTb, rfl, fun i s v h1 h2 => ?_, fun i j b d e h1 => ?_⟩, hU _ _ rfl, fun r ss' v H' G' hr _ hR => ?_, fun _ _ _ _ _ _ h => h.elim⟩
  · match i, h1, h2 with
    | 0, h1, h2 =>
      cases h1; cases h2
      exact .scr (sqL_noT hS)
    | i + 1, h1, _ => cases h1
  · match i, h1 with
    | 0, h1 => cases h1
    | i + 1, h1 => cases h1
  · subst hr
    cases hR
    rfl
end WK
open PySem PySem.W PySem.Calls PyProof.Rows
theorem PySem.Challenge.cw_weirkeepers_k01_rows_refused_holds : PySem.Challenge.rw_weirkeepers_k01_rows_refused.Holds := by
  refine WK.finI ?hc
  case hc =>
    refine LamX.walk_ofTsE (l := PySem.Challenge.rw_weirkeepers_k01_rows_refused) (n := 63) (k := 13) (x := "_law_script") (CX := fun w => L2.CX (PySem.Challenge.rw_weirkeepers_k01_rows_refused).prog w) rfl (by decide) (by kernel_rfl) ⟨rfl, by decide, by decide⟩ ?F ?C
    case F =>
      intro w mg fa h Y G hmg0
      obtain ⟨K, KX, c⟩ := Y
      have hmg : mg ("law" : PySem.Str) = some (.ref fa) := by
        rw [← WK.hdName]
        exact hmg0
      obtain ⟨fd, hb, hF⟩ := WK.facts (P := (PySem.Challenge.rw_weirkeepers_k01_rows_refused).prog) (w := w) KX G hmg c
      refine ⟨K, KX, fd, WK.htf.map (He.cT K), WK.SpU K (WK.TKs K) WK.U_law, ?_, ?_, ?_, hb, ?_, ?_⟩
      · intro p hp
        obtain ⟨d, hd, e⟩ := List.mem_map.mp hp
        rw [← e]; exact c.x.empty d hd
      · intro p hp
        obtain ⟨d, hd, e⟩ := List.mem_map.mp hp
        rw [← e]; exact c.x.out d hd
      · intro p hp
        obtain ⟨d, hd, e⟩ := List.mem_map.mp hp
        rw [← e]; exact PySem.W.codeHd_of_K KX (c.x.hd d hd)
      · intro H a ns hl _ hT hS
        refine WK.spU_script hS (fun p hp => ?_) fun Q X q => ⟨ns, rfl, by omega, q⟩
        have hp2 : ∃ d ∈ WK.htf, p.1 = (He.cT K d).2 := by
          obtain ⟨x, hx, rfl⟩ := List.mem_map.mp hp
          exact ⟨x.1, (show x.1 ∈ WK.htq.map (·.1) from List.mem_map.mpr ⟨x, hx, rfl⟩), rfl⟩
        obtain ⟨d, hd, e⟩ := hp2
        exact LamX.TabS.nil (by rw [e]; exact hT _ (List.mem_map.mpr ⟨d, hd, rfl⟩))
      · intro base hB hG TB
        exact hF base hB hG fun d hd => TB _ (List.mem_map.mpr ⟨d, hd, rfl⟩)
    case C =>
      intro w H s e s' z
      obtain ⟨_, _, _, _, _, _, _, _, _, _, _, _, q⟩ := z
      exact q
