import PyProof.Rows.All
import Wide.All
import OpenK.AllK
import HandS.HeadHook4
import HandS.ExcField
import HandS.Head0
import HandS.Head1
import HandS.Head2
import HandS.HeadEnd
import HandS.HeadHook1
import HandS.HeadHook2
import HandS.HeadHook3
import HandS.HeadWalk
import HandS.Property
import PySem.Challenge.RW_dealtpowers_k08_schemas_refused
import Wide.FinOn
import KE.KStateDown
import HandS.ForMost
import HandS.ForExc
import HandS.IsInst
import HandS.Zip
import HandS.Defaults
import HandS.MakeKw
import HandS.MakeKwOnly
import HandS.Star
import HandS.ClsMeth
import HandS.OwnEq
import HandS.FStr
import HandS.Flow
import HandS.TupMul
import HandS.TupAny
import HandS.Strs
import HandS.WideBits
import HandS.Wide
import HandS.Walk
import HandS.Style
import HandS.SetTxt0
import KE.GoesEnum
import OpenK.KMeth
import OpenK.KOps
import KE.KFmtOwn
import PyProof.Rows.StrStep
import HandS.Exc
import HandS.ExcInit
import HandS.WordsExc
import HandS.TryMany
import KE.KTryMore
import KE.KExcHand
import HandS.Nested
import HandS.HotCalls
import HandS.DictTup
import HandS.TupLen
import HandS.TupSets
import HandS.Conv
import KE.SortData
import HandS.More
import HandS.Dict
import HandS.Deep
import KE.SortKeyHeap
import HandS.SortKw
import HandS.DictComp
import KE.KDictItemsList
import KE.KEqDict
import HandS.Replace
import KE.GoesMore
import KE.KxIndex
import KE.KStrOpen
set_option Elab.async false
set_option linter.all false
set_option maxRecDepth 100000
set_option maxHeartbeats 0
set_option exponentiation.threshold 256
namespace Y
open PySem PySem.Spec PyProof.Rows L2
def oexB (K : PySem.W.Frag) (C : Addr) : Bool := (match K.lookup C with
  | some ⟨.type t, _, .cls cd, sl⟩ => t == "type" && (match cd.mro, sl.toList with
    | .ref C' :: bm, [_, _, _, _, some (.builtin n), _] => C' == C && (PySem.HandSPX.refsVE bm && (n == "ValueError.__new__" && (cd.hasDict && !cd.hasDel)))
    | _, _ => false)
  | _ => false) && (decide (PySem.W.findIn K (.ref C) "__setattr__" = some (some (.builtin "object.__setattr__"))) && (decide (PySem.W.subIn K (.ref C) (.type "BaseException") = some true) && (decide (PySem.W.typeIn K (.ref C) = some (.type "type")) && PySem.W.keepIn K (.ref C))))
def errB (K : PySem.W.Frag) (C fI : Addr) (f : Str) : Bool := oexB K C && (xfB K C && (He.eqO (PySem.W.findIn K (.ref C) f) (some none) && (He.eqO (PySem.W.findIn K (.ref C) "code") (some none) && (He.eqO (PySem.W.findIn K (.ref C) "__init__") (some (some (.ref fI))) && decide (PySem.W.typeIn K (.ref fI) = some (.type "function"))))))
def errB0 (K : PySem.W.Frag) (C fI : Addr) : Bool := oexB K C && (xfB K C && (He.eqO (PySem.W.findIn K (.ref C) "code") (some none) && (He.eqO (PySem.W.findIn K (.ref C) "__init__") (some (some (.ref fI))) && decide (PySem.W.typeIn K (.ref fI) = some (.type "function")))))
end Y
namespace K08
open PySem PySem.Spec PyProof.Rows L2
/-! ## the head's facts: K with the statics, without the empty tables; getters of properties -/
/-- what an object names, as far as the facts want it (not behind a code object) -/
def refsS (o : Obj) : List Addr := match o.data with
  | .seq its _ => its.toList.flatMap He.refV
  | .dict es _ => es.toList.flatMap fun e => He.refV e.val
  | .func fd => He.refV fd.code ++ (He.refV fd.defaults ++ He.refV fd.kwdefaults)
  | .cls cd => cd.ns :: cd.mro.flatMap He.refV
  | .fields vs => (match Nat.ble vs.size 8 with
    | true => vs.toList.flatMap He.refV
    | false => [])
  | _ => []
/-- what the module's names reach in n steps, each once (m: those met, as bits), and the statics -/
def addN : List Addr → Nat → List Addr → List Addr × Nat
  | [], m, acc => (acc, m)
  | r :: rs, m, acc => match Nat.beq (Nat.mod (Nat.shiftRight m r) 2) 1 with
    | true => addN rs m acc
    | false => HandSHeadRun.frNat (Nat.lor m (Nat.shiftLeft 1 r)) fun m2 => addN rs m2 (r :: acc)
def growN (g : Addr → Option Obj) : List Addr → Nat → List Addr → List Addr × Nat
  | [], m, acc => (acc, m)
  | a :: fr, m, acc => match addN (match g a with
      | some o => refsS o
      | none => []) m acc with
    | (acc2, m2) => growN g fr m2 acc2
def asN (g : Addr → Option Obj) : Nat → List Addr → Nat → List Addr
  | 0, fr, _ => fr
  | n + 1, fr, m => match growN g fr m [] with
    | (new, m2) => fr ++ asN g n new m2
def asE (g : Addr → Option Obj) (n : Nat) : List Addr := asN g n [mainGlobals] (Nat.shiftLeft 1 mainGlobals) ++ [cStatics]
def gtA (K : PySem.W.Frag) (p : He.Defn) : Addr := match PySem.W.recIn K (He.fAd K p) "property" with
  | some (.ref g :: _) => g
  | _ => 0
def gtW (K : PySem.W.Frag) (p : He.Defn) : He.FnW := match K.lookup (gtA K p) with
  | some ⟨_, _, .func fd, _⟩ => some (fd.name, fd.qualname, fd.params, fd.body, fd.scope, fd.globals, fd.closure, fd.builtins)
  | _ => none
def gtB (K : PySem.W.Frag) (d : He.DefD) : Bool :=
  (He.eqO (PySem.W.findIn K (.ref (He.ga K d.at_.1)) d.name) (some (some (.ref (He.fAd K d.at_)))) && (He.eqO (PySem.W.specialIn K (.ref (He.fAd K d.at_)) "__get__") (some (some (.builtin "property.__get__"))) && (decide (PySem.W.takesIn K (.ref (He.fAd K d.at_)) = some true) && (match PySem.W.recIn K (He.fAd K d.at_) "property" with
  | some (.ref _ :: _) => true
  | _ => false)))) && (PySem.W.keepIn K (.ref (gtA K d.at_)) && match K.lookup (gtA K d.at_) with
  | some ⟨_, _, .func fd, _⟩ => PySem.W.codeIn K fd.code d.qual && (He.dflB K fd.defaults [] && He.kwdB K fd.kwdefaults [])
  | _ => false)
/-- a staticmethod's def -/
def stA (K : PySem.W.Frag) (p : He.Defn) : Addr := match PySem.W.recIn K (He.fAd K p) "staticmethod" with
  | some (.ref g :: _) => g
  | _ => 0
def stW (K : PySem.W.Frag) (p : He.Defn) : He.FnW := match K.lookup (stA K p) with
  | some ⟨_, _, .func fd, _⟩ => some (fd.name, fd.qualname, fd.params, fd.body, fd.scope, fd.globals, fd.closure, fd.builtins)
  | _ => none
def stB (K : PySem.W.Frag) (d : He.DefD) : Bool :=
  ((match PySem.W.findCls K (.ref (He.ga K d.at_.1)) (.type "type") d.name with
    | some (.get (.builtin g) (.ref p) .none (.ref D)) => decide (g = "staticmethod.__get__") && (decide (p = He.fAd K d.at_) && decide (D = He.ga K d.at_.1))
    | _ => false) && (match PySem.W.recIn K (He.fAd K d.at_) "staticmethod" with
    | some (.ref _ :: _) => true
    | _ => false)) && (PySem.W.keepIn K (.ref (stA K d.at_)) && match K.lookup (stA K d.at_) with
  | some ⟨_, _, .func fd, _⟩ => PySem.W.codeIn K fd.code d.qual && (He.dflB K fd.defaults (d.dvs K) && He.kwdB K fd.kwdefaults (d.kws K))
  | _ => false)
abbrev AlP := ((He.AlD × Bool) × List He.FnW) × List He.FnW
structure SaysG (fa : List He.Fa) (fn pn sn : List He.DefD) (tf : List He.Defn) (ex : PySem.W.Frag → Bool) (h : Heap) (K : PySem.W.Frag) : Prop where
  d : He.SaysD fa fn K
  more : ex K = true
  tab : ∀ p ∈ tf, PySem.W.codeHdIn K (He.cT K p).1 (He.cT K p).2 = true ∧ K.lookup (He.cT K p).2 = none ∧ h.get? (He.cT K p).2 = some { cls := .none, data := .fields #[] }
  gets : ∀ d ∈ pn, gtB K d = true ∧ gtW K d.at_ = He.DefD.val d
  stats : ∀ d ∈ sn, stB K d = true ∧ stW K d.at_ = He.DefD.val d
def obsG (n : Nat) (fa : List He.Fa) (fn pn sn : List He.DefD) (tf : List He.Defn) (ex : PySem.W.Frag → Bool) (g : Addr → Option Obj) : AlP :=
  (((He.obsD fa fn (He.frT g (asE g n)), ((ex (He.frT g (asE g n)) && pn.all fun d => gtB (He.frT g (asE g n)) d) && sn.all fun d => stB (He.frT g (asE g n)) d) && He.tabsB g tf (He.frT g (asE g n))), pn.map fun d => gtW (He.frT g (asE g n)) d.at_), sn.map fun d => stW (He.frT g (asE g n)) d.at_)
theorem saysG_of {n : Nat} {fa : List He.Fa} {fn pn sn : List He.DefD} {tf : List He.Defn} {ex : PySem.W.Frag → Bool} {h : Heap} (e : obsG n fa fn pn sn tf ex h.get? = (((He.valD fn, true), pn.map He.DefD.val), sn.map He.DefD.val)) : SaysG fa fn pn sn tf ex h (He.frT h.get? (asE h.get? n)) := by
  have e2 : (((ex (He.frT h.get? (asE h.get? n)) && pn.all fun d => gtB (He.frT h.get? (asE h.get? n)) d) && sn.all fun d => stB (He.frT h.get? (asE h.get? n)) d) && He.tabsB h.get? tf (He.frT h.get? (asE h.get? n))) = true := congrArg (fun z : AlP => z.1.1.2) e
  have e4 : pn.map (fun d => gtW (He.frT h.get? (asE h.get? n)) d.at_) = pn.map He.DefD.val := congrArg (fun z : AlP => z.1.2) e
  have e5 : sn.map (fun d => stW (He.frT h.get? (asE h.get? n)) d.at_) = sn.map He.DefD.val := congrArg (fun z : AlP => z.2) e
  rw [Bool.and_eq_true, Bool.and_eq_true, Bool.and_eq_true] at e2
  refine ⟨congrArg (fun z : AlP => z.1.1.1) e, e2.1.1.1, fun p hp => ?_, fun d hd => ⟨List.all_eq_true.mp e2.1.1.2 d hd, List.map_inj_left.mp e4 d hd⟩, fun d hd => ⟨List.all_eq_true.mp e2.1.2 d hd, List.map_inj_left.mp e5 d hd⟩⟩
  have e3 := List.all_eq_true.mp e2.2 p hp
  rw [Bool.and_eq_true] at e3
  cases q : h.get? (He.cT (He.frT h.get? (asE h.get? n)) p).2 with
  | none => rw [q] at e3; exact absurd e3.2 Bool.false_ne_true
  | some o =>
    rw [q] at e3
    exact ⟨e3.1, He.frT_none q e3.2, by rw [He.emptyTab_eq e3.2]⟩
def hookG (n : Nat) (fa : List He.Fa) (fn pn sn : List He.DefD) (tf : List He.Defn) (ex : PySem.W.Frag → Bool) : PySem.W.Hook where
  α := AlP
  obs := fun s => obsG n fa fn pn sn tf ex s.heap.get?
  val := fun _ => (((He.valD fn, true), pn.map He.DefD.val), sn.map He.DefD.val)
  says := fun _ h => ∃ K : PySem.W.Frag, K.In h ∧ SaysG fa fn pn sn tf ex h K
  of := fun _ _ e => ⟨_, He.frT_in, saysG_of e⟩
  keeps := fun _ _ _ ⟨K, hK, c⟩ k => ⟨K, PySem.W.Frag.In.keeps hK k, ⟨c.d, c.more, fun p hp => ⟨(c.tab p hp).1, (c.tab p hp).2.1, k _ _ (c.tab p hp).2.2⟩, c.gets, c.stats⟩⟩
theorem obsG_eq {n : Nat} {fa : List He.Fa} {fn pn sn : List He.DefD} {tf : List He.Defn} {ex : PySem.W.Frag → Bool} {g : Addr → Option Obj} {s : Shared} (h : ∀ a, g a = s.heap.get? a) : obsG n fa fn pn sn tf ex g = (hookG n fa fn pn sn tf ex).obs s := by
  have e : g = s.heap.get? := funext h
  rw [e] <;> rfl
def top (i : Nat) : Stmt := PySem.Challenge.pw_dealtpowers_k08_schemas_refused.main.body.getD i (.Pass ⟨0, 0, 0, 0⟩)
abbrev sInvalidColumns____init__ : Stmt := inClass (top 5) 0
def dInvalidColumns____init__ : He.DefD := ⟨("InvalidColumns", some "__init__"), "__init__", "InvalidColumns.__init__", defArgs sInvalidColumns____init__, defBody sInvalidColumns____init__, defScope sInvalidColumns____init__, [], []⟩
abbrev sInvalidFact____init__ : Stmt := inClass (top 6) 0
def dInvalidFact____init__ : He.DefD := ⟨("InvalidFact", some "__init__"), "__init__", "InvalidFact.__init__", defArgs sInvalidFact____init__, defBody sInvalidFact____init__, defScope sInvalidFact____init__, [], []⟩
abbrev sInvalidExponent____init__ : Stmt := inClass (top 7) 0
def dInvalidExponent____init__ : He.DefD := ⟨("InvalidExponent", some "__init__"), "__init__", "InvalidExponent.__init__", defArgs sInvalidExponent____init__, defBody sInvalidExponent____init__, defScope sInvalidExponent____init__, [], []⟩
abbrev sInvalidText____init__ : Stmt := inClass (top 8) 0
def dInvalidText____init__ : He.DefD := ⟨("InvalidText", some "__init__"), "__init__", "InvalidText.__init__", defArgs sInvalidText____init__, defBody sInvalidText____init__, defScope sInvalidText____init__, [], []⟩
abbrev sTooMany____init__ : Stmt := inClass (top 9) 0
def dTooMany____init__ : He.DefD := ⟨("TooMany", some "__init__"), "__init__", "TooMany.__init__", defArgs sTooMany____init__, defBody sTooMany____init__, defScope sTooMany____init__, [], []⟩
abbrev sis_number : Stmt := top 12
def dis_number : He.DefD := ⟨("is_number", none), "is_number", "is_number", defArgs sis_number, defBody sis_number, defScope sis_number, [], []⟩
abbrev scheck_columns : Stmt := top 29
def dcheck_columns : He.DefD := ⟨("check_columns", none), "check_columns", "check_columns", defArgs scheck_columns, defBody scheck_columns, defScope scheck_columns, [], []⟩
abbrev sis_exponent : Stmt := top 30
def dis_exponent : He.DefD := ⟨("is_exponent", none), "is_exponent", "is_exponent", defArgs sis_exponent, defBody sis_exponent, defScope sis_exponent, [], []⟩
abbrev smonomial_text : Stmt := top 35
def dmonomial_text : He.DefD := ⟨("monomial_text", none), "monomial_text", "monomial_text", defArgs smonomial_text, defBody smonomial_text, defScope smonomial_text, [], []⟩
abbrev sread_monomial : Stmt := top 36
def dread_monomial : He.DefD := ⟨("read_monomial", none), "read_monomial", "read_monomial", defArgs sread_monomial, defBody sread_monomial, defScope sread_monomial, [], []⟩
abbrev sSchema____init__ : Stmt := inClass (top 38) 1
def dSchema____init__ : He.DefD := ⟨("Schema", some "__init__"), "__init__", "Schema.__init__", defArgs sSchema____init__, defBody sSchema____init__, defScope sSchema____init__, [.adr (He.dflAt ("Schema", some "__init__") 0)], []⟩
abbrev sSchema__is_exponent : Stmt := inClass (top 38) 5
def dSchema__is_exponent : He.DefD := ⟨("Schema", some "is_exponent"), "is_exponent", "Schema.is_exponent", defArgs sSchema__is_exponent, defBody sSchema__is_exponent, defScope sSchema__is_exponent, [], []⟩
abbrev sSchema__check_exponents : Stmt := inClass (top 38) 8
def dSchema__check_exponents : He.DefD := ⟨("Schema", some "check_exponents"), "check_exponents", "Schema.check_exponents", defArgs sSchema__check_exponents, defBody sSchema__check_exponents, defScope sSchema__check_exponents, [], []⟩
abbrev sSchema__follows : Stmt := inClass (top 38) 9
def dSchema__follows : He.DefD := ⟨("Schema", some "follows"), "follows", "Schema.follows", defArgs sSchema__follows, defBody sSchema__follows, defScope sSchema__follows, [], []⟩
abbrev sSchema__reason : Stmt := inClass (top 38) 10
def dSchema__reason : He.DefD := ⟨("Schema", some "reason"), "reason", "Schema.reason", defArgs sSchema__reason, defBody sSchema__reason, defScope sSchema__reason, [], []⟩
abbrev sSchema__equal_sums : Stmt := inClass (top 38) 11
def dSchema__equal_sums : He.DefD := ⟨("Schema", some "equal_sums"), "equal_sums", "Schema.equal_sums", defArgs sSchema__equal_sums, defBody sSchema__equal_sums, defScope sSchema__equal_sums, [], []⟩
abbrev sSchema__with_facts : Stmt := inClass (top 38) 12
def dSchema__with_facts : He.DefD := ⟨("Schema", some "with_facts"), "with_facts", "Schema.with_facts", defArgs sSchema__with_facts, defBody sSchema__with_facts, defScope sSchema__with_facts, [], []⟩
abbrev sSchema__read_fact : Stmt := inClass (top 38) 14
def dSchema__read_fact : He.DefD := ⟨("Schema", some "read_fact"), "read_fact", "Schema.read_fact", defArgs sSchema__read_fact, defBody sSchema__read_fact, defScope sSchema__read_fact, [], []⟩
abbrev sL_open : Stmt := top 40
def dL_open : He.DefD := ⟨("_law_open", none), "_law_open", "_law_open", defArgs sL_open, defBody sL_open, defScope sL_open, [], []⟩
abbrev sL_take : Stmt := top 41
def dL_take : He.DefD := ⟨("_law_take", none), "_law_take", "_law_take", defArgs sL_take, defBody sL_take, defScope sL_take, [], []⟩
abbrev sL_one : Stmt := top 42
def dL_one : He.DefD := ⟨("_law_one", none), "_law_one", "_law_one", defArgs sL_one, defBody sL_one, defScope sL_one, [], []⟩
abbrev sL_kind : Stmt := top 43
def dL_kind : He.DefD := ⟨("_law_kind", none), "_law_kind", "_law_kind", defArgs sL_kind, defBody sL_kind, defScope sL_kind, [], []⟩
abbrev sL_same : Stmt := top 44
def dL_same : He.DefD := ⟨("_law_same", none), "_law_same", "_law_same", defArgs sL_same, defBody sL_same, defScope sL_same, [], []⟩
abbrev sL_field : Stmt := top 45
def dL_field : He.DefD := ⟨("_law_field", none), "_law_field", "_law_field", defArgs sL_field, defBody sL_field, defScope sL_field, [], []⟩
abbrev sL_try : Stmt := top 46
def dL_try : He.DefD := ⟨("_law_try", none), "_law_try", "_law_try", defArgs sL_try, defBody sL_try, defScope sL_try, [], []⟩
abbrev sL_tries : Stmt := top 47
def dL_tries : He.DefD := ⟨("_law_tries", none), "_law_tries", "_law_tries", defArgs sL_tries, defBody sL_tries, defScope sL_tries, [], []⟩
abbrev sL_odd : Stmt := top 48
def dL_odd : He.DefD := ⟨("_law_odd", none), "_law_odd", "_law_odd", defArgs sL_odd, defBody sL_odd, defScope sL_odd, [], []⟩
abbrev sL_letters : Stmt := top 49
def dL_letters : He.DefD := ⟨("_law_letters", none), "_law_letters", "_law_letters", defArgs sL_letters, defBody sL_letters, defScope sL_letters, [], []⟩
abbrev sL_exp : Stmt := top 50
def dL_exp : He.DefD := ⟨("_law_exp", none), "_law_exp", "_law_exp", defArgs sL_exp, defBody sL_exp, defScope sL_exp, [], []⟩
abbrev slaw : Stmt := top 51
def dlaw : He.DefD := ⟨("law", none), "law", "law", defArgs slaw, defBody slaw, defScope slaw, [], []⟩
def fn : List He.DefD := [dInvalidColumns____init__, dInvalidFact____init__, dInvalidExponent____init__, dInvalidText____init__, dTooMany____init__, dis_number, dcheck_columns, dis_exponent, dmonomial_text, dread_monomial, dSchema____init__, dSchema__is_exponent, dSchema__check_exponents, dSchema__follows, dSchema__reason, dSchema__equal_sums, dSchema__with_facts, dSchema__read_fact, dL_open, dL_take, dL_one, dL_kind, dL_same, dL_field, dL_try, dL_tries, dL_odd, dL_letters, dL_exp, dlaw]
def pn : List He.DefD := []
def sn : List He.DefD := []
def fa : List He.Fa := [.glo "is_number", .glo "check_columns", .glo "is_exponent_schemas", .glo "is_exponent", .glo "monomial_text", .glo "read_monomial", .glo "Schema", .glo "_law_open", .glo "_law_take", .glo "_law_one", .glo "_law_kind", .glo "_law_same", .glo "_law_odd", .glo "_law_exp", .glo "_law_letters", .glo "_law_field", .glo "_law_try", .glo "_law_tries", .glo "law", .glo "DealError", .glo "Missing", .glo "NothingLeft", .glo "InvalidColumns", .glo "InvalidFact", .glo "InvalidExponent", .glo "TooMany", .glo "InvalidText", .free "isinstance", .free "bool", .free "int", .free "str", .free "list", .free "tuple", .free "len", .free "all", .free "zip", .free "range", .free "set", .free "enumerate", .int "MOST_EXPONENT" 6, .cls "Schema", .mkr "Schema", .noat "Schema" "columns", .noat "Schema" "width", .noat "Schema" "_facts", .meth "Schema" "is_exponent", .meth "Schema" "with_facts", .meth "Schema" "check_exponents", .meth "Schema" "follows", .meth "Schema" "reason", .meth "Schema" "equal_sums", .meth "Schema" "read_fact"]
def nm0 : List PySem.Str := ["_wall", "__name__", "DealError", "Missing", "InvalidSystem", "InvalidColumns", "InvalidFact", "InvalidExponent", "InvalidText", "TooMany", "NothingLeft", "is_number", "power_of", "lowest", "copied", "Outcome", "Solution", "Mirror", "is_whole", "check_system", "Tableau", "mixed", "point_of", "mirror_of", "solve", "MOST_EXPONENT", "check_columns", "is_exponent", "is_exponent_schemas", "is_direction"]
def nm1 : List PySem.Str := ["dot", "monomial", "monomial_text", "read_monomial", "candidate_rays", "Schema", "_law_open", "_law_take", "_law_one", "_law_kind", "_law_same", "_law_field", "_law_try", "_law_tries", "_law_odd", "_law_letters", "_law_exp"]
def nms : List PySem.Str := nm0 ++ nm1
def ex : PySem.W.Frag → Bool := fun K => (match K.lookup (He.dflAt ("Schema", some "__init__") 0 K) with
  | some ⟨.type "tuple", _, .seq its _, _⟩ => its.isEmpty
  | _ => false) && (decide (He.ga K "is_exponent_schemas" = He.ga K "is_exponent") && (PySem.W.readsIn K (He.ga K "Schema") (.type "type") && (He.eqO (PySem.W.specialIn K (.ref (He.ga K "Schema")) "__getattribute__") (some (some (.builtin "type.__getattribute__"))) && ((match PySem.W.findCls K (.ref (He.ga K "Schema")) (.type "type") "MOST" with
  | some (.val (.int 4 _)) => true
  | _ => false) && (Y.errB K (He.ga K "InvalidColumns") (He.fAd K ("InvalidColumns", some "__init__")) "given" && (Y.errB K (He.ga K "InvalidFact") (He.fAd K ("InvalidFact", some "__init__")) "at" && (Y.errB K (He.ga K "InvalidExponent") (He.fAd K ("InvalidExponent", some "__init__")) "given" && (Y.errB K (He.ga K "TooMany") (He.fAd K ("TooMany", some "__init__")) "most" && (Y.errB0 K (He.ga K "InvalidText") (He.fAd K ("InvalidText", some "__init__")) && (decide (PySem.W.exmAny K (.ref (He.ga K "InvalidColumns")) [.ref (He.ga K "DealError"), .ref (He.ga K "Missing"), .ref (He.ga K "NothingLeft")] = some true) && (decide (PySem.W.exmAny K (.ref (He.ga K "InvalidFact")) [.ref (He.ga K "DealError"), .ref (He.ga K "Missing"), .ref (He.ga K "NothingLeft")] = some true) && (decide (PySem.W.exmAny K (.ref (He.ga K "InvalidExponent")) [.ref (He.ga K "DealError"), .ref (He.ga K "Missing"), .ref (He.ga K "NothingLeft")] = some true) && (decide (PySem.W.exmAny K (.ref (He.ga K "TooMany")) [.ref (He.ga K "DealError"), .ref (He.ga K "Missing"), .ref (He.ga K "NothingLeft")] = some true) && (decide (PySem.W.exmAny K (.ref (He.ga K "InvalidText")) [.ref (He.ga K "DealError"), .ref (He.ga K "Missing"), .ref (He.ga K "NothingLeft")] = some true)))))))))))))))
abbrev R : PySem.W.OpenRow := PySem.W.OpenLaw.row PySem.Challenge.rw_dealtpowers_k08_schemas_refused
def tf : List He.Defn := [("law", none)]
abbrev hk : PySem.W.Hook := hookG 5 fa fn pn sn tf ex
def ob (s : PySem.W.SharedT) : AlP := obsG 5 fa fn pn sn tf ex (HandSHeadRun.getT s)
theorem ob_eq (s : PySem.W.SharedT) : ob s = hk.obs s.abs := obsG_eq (HandSHeadRun.getT_eq s)
theorem run (w : World) : HandSHeadRun.RunEq R (PySem.W.view R.prog [51]) hk ob 20000 nms w := by
  intro os
  kernel_rfl
end K08
namespace Z
open PySem PySem.Spec PyProof.Rows L2
/-! ## 1. judgements by the best reading -/
def HE (X : Cx) (e : Expr) (σ : L2.St) (H : Hp) (Q : VK) : Prop := ∀ (pins : List (Addr × Obj)) (s : Shared), Inv X pins σ H s → wpAny (model X.prog X.w) X.A (eval e X.env) (EP X pins σ Q) X.xe s
def HT (X : Cx) (e : Expr) (σ : L2.St) (H : Hp) (Q : Bool → Hp → Prop) : Prop := ∀ (pins : List (Addr × Obj)) (s : Shared), Inv X pins σ H s → wpAny (model X.prog X.w) X.A (isTrue e X.env (eval e X.env)) (TP X pins σ Q) X.xe s
def HW (X : Cx) (e : Expr) (σ : L2.St) (H : Hp) (Q : Bool → Hp → Prop) : Prop := ∀ (whole : Sem Value) (pins : List (Addr × Obj)) (s : Shared), Inv X pins σ H s → wpAny (model X.prog X.w) X.A (isTrue e X.env whole) (TP X pins σ Q) X.xe s
def HA (X : Cx) (es : List Expr) (σ : L2.St) (H : Hp) (Q : List V → Hp → Prop) : Prop := ∀ (pos : Pos) (pins : List (Addr × Obj)) (s : Shared), Inv X pins σ H s → wpAny (model X.prog X.w) X.A (spliced (backTo pos (starEach es X.env))) (AP X pins σ Q) X.xe s
def HS (X : Cx) (D : Ends) (st : List Stmt) (σ : L2.St) (H : Hp) : Prop := ∀ (pins : List (Addr × Obj)) (s : Shared), Inv X pins σ H s → wpAny (model X.prog X.w) X.A (execs st X.env) (SP X pins D) X.xe s
def HG (X : Cx) (tg : Expr) (v : V) (σ : L2.St) (H : Hp) (Q : L2.St → Hp → Prop) : Prop := ∀ (pins : List (Addr × Obj)) (s : Shared) (u : Value), Inv X pins σ H s → RelV v u →
    wpAny (model X.prog X.w) X.A (assign tg X.env u) (fun _ s' => ∃ σ' H', Inv X pins σ' H' s' ∧ Q σ' H') X.xe s
def HI (X : Cx) (tg iter : Expr) (σ : L2.St) (H : Hp) (R : It → Hp → Prop) : Prop := ∀ (pins : List (Addr × Obj)) (s : Shared), Inv X pins σ H s →
    wpAny (model X.prog X.w) X.A (eval iter X.env) (fun v s1 => wpAny (model X.prog X.w) X.A (pyIter v) (PIE X pins σ tg R) X.xe s1) X.xe s
def bE (X : Cx) (e : Expr) : TE := fun σ H Q => HE X e σ H Q
def bT (X : Cx) (e : Expr) : TT := fun σ H Q => HT X e σ H Q
def bW (X : Cx) (e : Expr) : TT := fun σ H Q => HW X e σ H Q
def bA (X : Cx) (es : List Expr) : TA := fun σ H Q => HA X es σ H Q
def bS (X : Cx) (st : List Stmt) : TS := fun D σ H => HS X D st σ H
def bG (X : Cx) (tg : Expr) : TG := fun v σ H Q => HG X tg v σ H Q
def bI (X : Cx) (tg iter : Expr) : TI := fun σ H R => HI X tg iter σ H R
section
variable {X : Cx} {e : Expr} {σ : L2.St} {H : Hp}
theorem peb : PE X e (bE X e) := ⟨fun pins s _ _ _ I h => h pins s I⟩
theorem ptb : PT X e (bT X e) := ⟨fun pins s _ _ _ I h => h pins s I⟩
theorem pwb : PW X e (bW X e) := ⟨fun whole pins s _ _ _ I h => h whole pins s I⟩
theorem pab {es : List Expr} : PA X es (bA X es) := ⟨fun pos pins s _ _ _ I h => h pos pins s I⟩
theorem psb {st : List Stmt} : PSs X st (bS X st) := ⟨fun pins s _ _ _ I h => h pins s I⟩
theorem pgb {tg : Expr} : PG X tg (bG X tg) := ⟨fun pins s _ _ _ u _ I r h => h pins s u I r⟩
theorem pib {tg iter : Expr} : PI X tg iter (bI X tg iter) := ⟨fun pins s _ _ _ I h => h pins s I⟩
theorem he_of {t : TE} {Q : VK} (h : PE X e t) (q : t σ H Q) : HE X e σ H Q := fun pins s I => h.run pins s σ H Q I q
theorem ht_of {t : TT} {Q : Bool → Hp → Prop} (h : PT X e t) (q : t σ H Q) : HT X e σ H Q := fun pins s I => h.run pins s σ H Q I q
theorem hw_of {t : TT} {Q : Bool → Hp → Prop} (h : PW X e t) (q : t σ H Q) : HW X e σ H Q := fun whole pins s I => h.run whole pins s σ H Q I q
theorem ha_of {es : List Expr} {t : TA} {Q : List V → Hp → Prop} (h : PA X es t) (q : t σ H Q) : HA X es σ H Q := fun pos pins s I => h.run pos pins s σ H Q I q
theorem hs_of {st : List Stmt} {t : TS} {D : Ends} (h : PSs X st t) (q : t D σ H) : HS X D st σ H := fun pins s I => h.run pins s σ H D I q
theorem hg_of {tg : Expr} {t : TG} {v : V} {Q : L2.St → Hp → Prop} (h : PG X tg t) (q : t v σ H Q) : HG X tg v σ H Q := fun pins s u I r => h.run pins s σ H v u Q I r q
theorem hi_of {tg iter : Expr} {t : TI} {R : It → Hp → Prop} (h : PI X tg iter t) (q : t σ H R) : HI X tg iter σ H R := fun pins s I => h.run pins s σ H R I q
end
/-! ## 2. what stays under growth -/
class Mn (P : V → Hp → Prop) : Prop where
  up : ∀ {v : V} {H H' : Hp}, Same H H' → P v H → P v H'
theorem Same.new {H : Hp} {p : Addr} {o : HO} (h : H p = none) : Same H (upd H p o) := fun a u e => by
  rw [upd_ne (ne_of_none e h)]
  exact e
/-- an object that H does not know may change -/
theorem Same.mut {H H' : Hp} {p : Addr} {o : HO} (e : Same H H') (h : H p = none) : Same H (upd H' p o) := fun a u ha => by
  rw [upd_ne (ne_of_none ha h)]
  exact e a u ha
theorem same_rd {H H' : Hp} {a : Addr} {u : HO} (e : Same H H') (h : Rd H a u) : Rd H' a u := by
  rcases h with h | ⟨o, h⟩
  · exact Or.inl (e a _ h)
  · exact Or.inr ⟨o, e a _ h⟩
theorem sql_up {K : PySem.W.Frag} {H H' : Hp} {a : Addr} {xs : List V} (e : Same H H') (h : SqL K H a xs) : SqL K H' a xs := by
  rcases h with h | h
  · exact Or.inl (same_rd e h)
  · exact Or.inr h
theorem sqt_up {K : PySem.W.Frag} {H H' : Hp} {a : Addr} {xs : List V} (e : Same H H') (h : SqT K H a xs) : SqT K H' a xs := by
  rcases h with h | h
  · exact Or.inl (same_rd e h)
  · exact Or.inr h
theorem sql_of {K : PySem.W.Frag} {H : Hp} {a : Addr} {xs : List V} (h : H a = some (.lst xs)) : SqL K H a xs := Or.inl (Or.inl h)
theorem sqt_of {K : PySem.W.Frag} {H : Hp} {a : Addr} {xs : List V} (h : H a = some (.tup xs)) : SqT K H a xs := Or.inl (Or.inl h)
/-! ## 3. data -/
/-- a tuple of the heap; the empty one may stand in K -/
def TuS (K : PySem.W.Frag) (H : Hp) (a : Addr) (xs : List V) : Prop := H a = some (.tup xs) ∨ (xs = [] ∧ SqT K H a xs)
theorem TuS.sq {K : PySem.W.Frag} {H : Hp} {a : Addr} {xs : List V} (h : TuS K H a xs) : SqT K H a xs := h.elim sqt_of fun z => z.2
theorem TuS.up {K : PySem.W.Frag} {H H' : Hp} {a : Addr} {xs : List V} (e : Same H H') (h : TuS K H a xs) : TuS K H' a xs := h.elim (fun z => .inl (e _ _ z)) fun z => .inr ⟨z.1, sqt_up e z.2⟩
theorem tus_of {K : PySem.W.Frag} {H : Hp} {a : Addr} {xs : List V} (h : H a = some (.tup xs)) : TuS K H a xs := .inl h
/-- a value that is data: None, bools, ints, texts, lists that are tracked, tuples -/
inductive Dt (K : PySem.W.Frag) : PyData → V → Hp → Prop
  | non {H : Hp} : Dt K .none .non H
  | bl {H : Hp} (b : Bool) : Dt K (.bool b) (.bl b) H
  | int {H : Hp} (i : Int) : Dt K (.int i) (.int i) H
  | str {H : Hp} (x : Str) : Dt K (.str x) (.str x) H
  | lst {H : Hp} {a : Addr} {xs : List V} {ds : List PyData} : H a = some (.lst xs) → xs.length = ds.length → xs.length ≤ sizeLine → (∀ (i : Nat) (x : V) (d : PyData), xs[i]? = some x → ds[i]? = some d → Dt K d x H) → Dt K (.list ds) (.ref a) H
  | tup {H : Hp} {a : Addr} {xs : List V} {ds : List PyData} : TuS K H a xs → xs.length = ds.length → xs.length ≤ sizeLine → (∀ (i : Nat) (x : V) (d : PyData), xs[i]? = some x → ds[i]? = some d → Dt K d x H) → Dt K (.tuple ds) (.ref a) H
theorem Dt.up {K : PySem.W.Frag} {d : PyData} {v : V} {H H' : Hp} (e : Same H H') (h : Dt K d v H) : Dt K d v H' := by
  induction h with
  | non => exact .non
  | bl b => exact .bl b
  | int i => exact .int i
  | str x => exact .str x
  | lst h l z _ ih => exact .lst (e _ _ h) l z fun i x d hx hd => ih i x d hx hd e
  | tup h l z _ ih => exact .tup (h.up e) l z fun i x d hx hd => ih i x d hx hd e
instance {K : PySem.W.Frag} {d : PyData} : Mn (Dt K d) := ⟨fun e h => h.up e⟩
/-- the values of a sequence's items -/
def Dts (K : PySem.W.Frag) (ds : List PyData) (xs : List V) (H : Hp) : Prop := xs.length = ds.length ∧ ∀ (i : Nat) (x : V) (d : PyData), xs[i]? = some x → ds[i]? = some d → Dt K d x H
theorem Dts.up {K : PySem.W.Frag} {ds : List PyData} {xs : List V} {H H' : Hp} (e : Same H H') (h : Dts K ds xs H) : Dts K ds xs H' := ⟨h.1, fun i x d hx hd => (h.2 i x d hx hd).up e⟩
theorem Dts.nil {K : PySem.W.Frag} {H : Hp} : Dts K [] [] H := ⟨rfl, fun i x d hx _ => by simp at hx⟩
theorem Dts.cons {K : PySem.W.Frag} {d : PyData} {ds : List PyData} {x : V} {xs : List V} {H : Hp} (h : Dt K d x H) (r : Dts K ds xs H) : Dts K (d :: ds) (x :: xs) H := by
  refine ⟨by simp [r.1], fun i y e hy he => ?_⟩
  cases i with
  | zero => simp at hy he; subst hy; subst he; exact h
  | succ i => exact r.2 i y e (by simpa using hy) (by simpa using he)
theorem Dts.get {K : PySem.W.Frag} {ds : List PyData} {xs : List V} {H : Hp} (h : Dts K ds xs H) {i : Nat} {d : PyData} (e : ds[i]? = some d) : ∃ x, xs[i]? = some x ∧ Dt K d x H := by
  have hi : i < xs.length := by rw [h.1]; exact (List.getElem?_eq_some_iff.mp e).1
  exact ⟨xs[i], List.getElem?_eq_getElem hi, h.2 i _ d (List.getElem?_eq_getElem hi) e⟩
theorem Dts.append {K : PySem.W.Frag} {ds es : List PyData} {xs ys : List V} {H : Hp} (h : Dts K ds xs H) (g : Dts K es ys H) : Dts K (ds ++ es) (xs ++ ys) H := by
  refine ⟨by simp [h.1, g.1], fun i y e hy he => ?_⟩
  by_cases hi : i < xs.length
  · rw [List.getElem?_append_left hi] at hy
    rw [List.getElem?_append_left (by rw [← h.1]; exact hi)] at he
    exact h.2 i y e hy he
  · rw [List.getElem?_append_right (by omega)] at hy
    rw [List.getElem?_append_right (by rw [← h.1]; omega), ← h.1] at he
    exact g.2 _ y e hy he
theorem Dts.snoc {K : PySem.W.Frag} {ds : List PyData} {xs : List V} {H : Hp} {d : PyData} {x : V} (h : Dts K ds xs H) (g : Dt K d x H) : Dts K (ds ++ [d]) (xs ++ [x]) H := h.append (Dts.cons g .nil)
theorem Dts.dp {K : PySem.W.Frag} {H : Hp} : ∀ {ds : List PyData} {xs : List V}, xs.length = ds.length → (∀ (i : Nat) (x : V) (d : PyData), xs[i]? = some x → ds[i]? = some d → Dp K H x d) → DpAll K H xs ds
  | [], [], _, _ => .nil
  | [], _ :: _, h, _ => by simp at h
  | _ :: _, [], h, _ => by simp at h
  | d :: ds, x :: xs, h, f => .cons (f 0 x d rfl rfl) (Dts.dp (by simpa using h) fun i y e hy he => f (i + 1) y e (by simpa using hy) (by simpa using he))
theorem Dt.dp {K : PySem.W.Frag} {d : PyData} {v : V} {H : Hp} (h : Dt K d v H) : Dp K H v d := by
  induction h with
  | non => exact .non
  | bl b => exact .bl b
  | int i => exact .int i
  | str x => exact .str x
  | lst h l z _ ih => exact .lst (sql_of h) (Dts.dp l fun i x d hx hd => ih i x d hx hd)
  | tup h l z _ ih => exact .tup h.sq (Dts.dp l fun i x d hx hd => ih i x d hx hd)
theorem Dt.int_inv {K : PySem.W.Frag} {i : Int} {v : V} {H : Hp} (h : Dt K (.int i) v H) : v = .int i := by cases h; rfl
theorem Dt.bl_inv {K : PySem.W.Frag} {b : Bool} {v : V} {H : Hp} (h : Dt K (.bool b) v H) : v = .bl b := by cases h; rfl
theorem Dt.str_inv {K : PySem.W.Frag} {x : Str} {v : V} {H : Hp} (h : Dt K (.str x) v H) : v = .str x := by cases h; rfl
theorem Dt.lst_inv {K : PySem.W.Frag} {ds : List PyData} {v : V} {H : Hp} (h : Dt K (.list ds) v H) : ∃ a xs, v = .ref a ∧ H a = some (.lst xs) ∧ Dts K ds xs H ∧ xs.length ≤ sizeLine := by
  cases h with
  | lst h l z f => exact ⟨_, _, rfl, h, ⟨l, f⟩, z⟩
theorem Dt.tup_inv {K : PySem.W.Frag} {ds : List PyData} {v : V} {H : Hp} (h : Dt K (.tuple ds) v H) : ∃ a xs, v = .ref a ∧ SqT K H a xs ∧ Dts K ds xs H ∧ xs.length ≤ sizeLine := by
  cases h with
  | tup h l z f => exact ⟨_, _, rfl, h.sq, ⟨l, f⟩, z⟩
theorem Dt.tup_invS {K : PySem.W.Frag} {ds : List PyData} {v : V} {H : Hp} (h : Dt K (.tuple ds) v H) : ∃ a xs, v = .ref a ∧ TuS K H a xs ∧ Dts K ds xs H ∧ xs.length ≤ sizeLine := by
  cases h with
  | tup h l z f => exact ⟨_, _, rfl, h, ⟨l, f⟩, z⟩
theorem Dt.lst_mk {K : PySem.W.Frag} {ds : List PyData} {a : Addr} {xs : List V} {H : Hp} (h : H a = some (.lst xs)) (g : Dts K ds xs H) (z : xs.length ≤ sizeLine) : Dt K (.list ds) (.ref a) H := .lst h g.1 z g.2
theorem Dt.tup_mk {K : PySem.W.Frag} {ds : List PyData} {a : Addr} {xs : List V} {H : Hp} (h : TuS K H a xs) (g : Dts K ds xs H) (z : xs.length ≤ sizeLine) : Dt K (.tuple ds) (.ref a) H := .tup h g.1 z g.2
/-! ## 4. growth: S what is known to stay, H the whole -/
def NT (o : HO) : Prop := ∀ xs, o ≠ .tup xs
structure Gr (S H S' H' : Hp) : Prop where
  st : Same S S'
  sub : Same S' H'
  hh : Same H H'
  old : ∀ a o, H a = some o → NT o → S' a = S a
theorem Gr.refl {S H : Hp} (s : Same S H) : Gr S H S H := ⟨Same.refl S, s, Same.refl H, fun _ _ _ _ => rfl⟩
theorem Gr.trans {S H S1 H1 S2 H2 : Hp} (a : Gr S H S1 H1) (b : Gr S1 H1 S2 H2) : Gr S H S2 H2 :=
  ⟨a.st.trans b.st, b.sub, a.hh.trans b.hh, fun x o h n => (b.old x o (a.hh x o h) n).trans (a.old x o h n)⟩
theorem Gr.new {S H : Hp} {p : Addr} {o : HO} (s : Same S H) (h : H p = none) : Gr S H (upd S p o) (upd H p o) := by
  refine ⟨Same.new (s.free h), fun a u e => ?_, Same.new h, fun a u e _ => upd_ne (ne_of_none e h)⟩
  by_cases ha : a = p
  · subst ha; rw [upd_same] at e ⊢; exact e
  · rw [upd_ne ha] at e ⊢; exact s a u e
/-- S grown by T -/
def uniS (S T : Hp) : Hp := fun a => match S a with
  | some o => some o
  | none => T a
theorem uni_l {S T : Hp} : Same S (uniS S T) := fun a o h => by unfold uniS; rw [h]
/-- from a smaller S to a greater one -/
theorem Gr.uni {S T H S' H' : Hp} (st : Same S T) (th : Same T H) (g : Gr S H S' H') : Gr T H (uniS S' T) H' := by
  have key : ∀ a o, H a = some o → NT o → uniS S' T a = T a := fun a o h n => by
    have e := g.old a o h n
    unfold uniS
    rw [e]
    cases q : S a with
    | none => rfl
    | some u => rw [st a u q]
  have key2 : ∀ a o, T a = some o → uniS S' T a = some o := fun a o h => by
    unfold uniS
    cases q : S' a with
    | none => exact h
    | some u =>
      have e1 := g.sub a u q
      rw [g.hh a o (th a o h)] at e1
      exact e1.symm
  refine ⟨key2, fun a o h => ?_, g.hh, key⟩
  unfold uniS at h
  cases q : S' a with
  | some u => rw [q] at h; cases h; exact g.sub a _ q
  | none => rw [q] at h; exact g.hh a o (th a o h)
/-! ## 5. pure evaluation: e gives a P, and all that stood stands -/
def EE (X : Cx) (σ : L2.St) (S : Hp) (e : Expr) (P : V → Hp → Prop) : Prop := ∀ H, Same S H → ∀ Q : VK, (∀ v S' H', Gr S H S' H' → P v S' → Q v H') → HE X e σ H Q
def ET (X : Cx) (σ : L2.St) (S : Hp) (e : Expr) (b : Bool) : Prop := ∀ H, Same S H → ∀ Q : Bool → Hp → Prop, (∀ S' H', Gr S H S' H' → Q b H') → HT X e σ H Q
def EW (X : Cx) (σ : L2.St) (S : Hp) (e : Expr) (b : Bool) : Prop := ∀ H, Same S H → ∀ Q : Bool → Hp → Prop, (∀ S' H', Gr S H S' H' → Q b H') → HW X e σ H Q
/-- the values vs have the Ps, one by one -/
inductive Al : List (V → Hp → Prop) → List V → Hp → Prop
  | nil {H : Hp} : Al [] [] H
  | cons {P : V → Hp → Prop} {Ps : List (V → Hp → Prop)} {v : V} {vs : List V} {H : Hp} : P v H → Al Ps vs H → Al (P :: Ps) (v :: vs) H
inductive Mns : List (V → Hp → Prop) → Prop
  | nil : Mns []
  | cons {P : V → Hp → Prop} {Ps : List (V → Hp → Prop)} : Mn P → Mns Ps → Mns (P :: Ps)
theorem Al.up {Ps : List (V → Hp → Prop)} {vs : List V} {H H' : Hp} (m : Mns Ps) (s : Same H H') (h : Al Ps vs H) : Al Ps vs H' := by
  induction h with
  | nil => exact .nil
  | cons p _ ih => cases m with
    | cons m1 m2 => exact .cons (m1.up s p) (ih m2 s)
def EA (X : Cx) (σ : L2.St) (S : Hp) (es : List Expr) (Ps : List (V → Hp → Prop)) : Prop := Mns Ps ∧ ∀ H, Same S H → ∀ Q : List V → Hp → Prop, (∀ vs S' H', Gr S H S' H' → Al Ps vs S' → Q vs H') → HA X es σ H Q
section
variable {X : Cx} {σ : L2.St} {S S' : Hp} {e a b c : Expr} {P P' : V → Hp → Prop} {pos : Pos}
theorem EE.up [Mn P] (s : Same S S') (h : EE X σ S e P) : EE X σ S' e P := fun H a Q q => h H (s.trans a) Q fun v S2 H2 g p => q v (uniS S2 S') H2 (g.uni s a) (Mn.up uni_l p)
theorem ET.up {k : Bool} (s : Same S S') (h : ET X σ S e k) : ET X σ S' e k := fun H a Q q => h H (s.trans a) Q fun S2 H2 g => q (uniS S2 S') H2 (g.uni s a)
theorem EW.up {k : Bool} (s : Same S S') (h : EW X σ S e k) : EW X σ S' e k := fun H a Q q => h H (s.trans a) Q fun S2 H2 g => q (uniS S2 S') H2 (g.uni s a)
theorem EA.up {es : List Expr} {Ps : List (V → Hp → Prop)} (s : Same S S') (h : EA X σ S es Ps) : EA X σ S' es Ps := ⟨h.1, fun H a Q q => h.2 H (s.trans a) Q fun v S2 H2 g p => q v (uniS S2 S') H2 (g.uni s a) (p.up h.1 uni_l)⟩
theorem EE.imp (h : EE X σ S e P) (f : ∀ v H', P v H' → P' v H') : EE X σ S e P' := fun H1 s Q q => h H1 s Q fun v S2 H2 s2 p => q v S2 H2 s2 (f v S2 p)
theorem EE.is (h : EE X σ S e P) (f : P = P') : EE X σ S e P' := f ▸ h
theorem ET.is {k k' : Bool} (h : ET X σ S e k) (f : k = k') : ET X σ S e k' := f ▸ h
theorem ea_nil : EA X σ S [] [] := ⟨.nil, fun H1 s Q q => ha_of pa_nil (q [] S H1 (Gr.refl s) .nil)⟩
theorem ea_cons [m : Mn P] {es : List Expr} {Ps : List (V → Hp → Prop)} (h : EE X σ S e P) (r : EA X σ S es Ps) (hs : starEach (e :: es) X.env = (false, eval e X.env) :: starEach es X.env := by rfl) : EA X σ S (e :: es) (P :: Ps) := ⟨.cons m r.1, fun H1 s Q q => by
  refine ha_of (pa_cons (te := bE X e) (t := bA X es) peb pab hs) ?_
  refine h H1 s _ fun v S2 H2 g2 p => ?_
  exact (r.up g2.st).2 H2 g2.sub _ fun vs S3 H3 g3 al => q (v :: vs) S3 H3 (g2.trans g3) (.cons (Mn.up g3.st p) al)⟩
end
end Z
namespace Z
open PySem PySem.Spec PyProof.Rows L2
/-! ## 6. expressions -/
section
variable {X : Cx} {σ : L2.St} {S S' : Hp} {e a b c : Expr} {P Pa Pb R : V → Hp → Prop} {pos p : Pos} {i j : Int} {d d1 d2 : PyData} {k k1 k2 : Bool}
theorem EE.isd {d' : PyData} (h : EE X σ S e (Dt X.K d)) (f : d = d') : EE X σ S e (Dt X.K d') := f ▸ h
theorem ee_var (i : Nat) {x : Str} {v : V} (hv : σ[i]? = some (some v)) (h : P v S) (hN : X.N[i]? = some x := by rfl) (hvis : Vis X.env.scope x := by first | exact Or.inl rfl | exact Or.inr (Or.inl rfl) | exact Or.inr (Or.inr rfl)) (hd : (x == ("__debug__" : Str)) = false := by decide)
    (hcd : (x == ("__classdict__" : Str)) = false := by decide) : EE X σ S (.Name x pos) P := fun H s Q q => he_of (pv i hN hvis hd hcd) ⟨v, hv, q v S H (Gr.refl s) h⟩
theorem ee_cst {v : V} (he : PE X e (tC v)) (h : P v S) : EE X σ S e P := fun H s Q q => he_of he (q v S H (Gr.refl s) h)
theorem ee_int {n} : EE X σ S (.Constant (.int i) n pos) (Dt X.K (.int i)) := ee_cst pe_int (.int i)
theorem ee_bl {n} : EE X σ S (.Constant (.bool k) n pos) (Dt X.K (.bool k)) := ee_cst pe_bl (.bl k)
theorem ee_non {n} : EE X σ S (.Constant .none n pos) (Dt X.K .none) := ee_cst pe_non .non
theorem ee_str {x n} : EE X σ S (.Constant (.str x) n pos) (Dt X.K (.str x)) := ee_cst pe_str (.str x)
theorem ee_glob {x : Str} {v : V} {u : Value} (hm : X.mg x = some u) (r : RelV v u) (h : P v S) (hg : Gl X x := by rfl) (hd : (x == ("__debug__" : Str)) = false := by decide) : EE X σ S (.Name x pos) P := ee_cst (pe_glob hg hm r hd) h
theorem ee_bltn {x : Str} {v : V} {u : Value} (hm : X.mg x = none) (hv : bootBuiltins x = some u) (r : RelV v u) (h : P v S) (hg : Gl X x := by rfl) (hn : x ≠ "__name__" := by decide) (hd : (x == ("__debug__" : Str)) = false := by decide) : EE X σ S (.Name x pos) P := ee_cst (pe_bltn hg hm hv r hn hd) h
theorem ee_globI {x : Str} {t : Tok} (hm : X.mg x = some (.int i t)) (hg : Gl X x := by rfl) (hd : (x == ("__debug__" : Str)) = false := by decide) : EE X σ S (.Name x pos) (Dt X.K (.int i)) := ee_glob (v := .int i) hm ⟨t, rfl⟩ (.int i) hg hd
/-- what a two-place operation gives -/
def OpE (r : R2) (S : Hp) (Pa Pb R : V → Hp → Prop) : Prop := ∀ x y S1 H1, Same S S1 → Same S1 H1 → Pa x S1 → Pb y S1 → ∀ Q : VK, (∀ v S2 H2, Gr S1 H1 S2 H2 → R v S2 → Q v H2) → r x y H1 Q
theorem ee_2 {t : R2} [Mn Pa] [Mn Pb] (hp : PE X e (tOp t (bE X a) (bE X b))) (ha : EE X σ S a Pa) (hb : EE X σ S b Pb) (hr : OpE t S Pa Pb R) : EE X σ S e R := fun H s Q q =>
  he_of hp (ha H s _ fun x S1 H1 g1 px => (hb.up g1.st) H1 g1.sub _ fun y S2 H2 g2 py => hr x y S2 H2 (g1.st.trans g2.st) g2.sub (Mn.up g2.st px) py Q fun v S3 H3 g3 rv => q v S3 H3 ((g1.trans g2).trans g3) rv)
theorem ee_op {op : Operator} {t : R2} [Mn Pa] [Mn Pb] (ho : OpR X (binaryOp op) t) (ha : EE X σ S a Pa) (hb : EE X σ S b Pb) (hr : OpE t S Pa Pb R) : EE X σ S (.BinOp a op b pos) R := ee_2 (pe_op ho peb peb) ha hb hr
theorem ee_cmp {op : CmpOp} {t : R2} [Mn Pa] [Mn Pb] (ho : OpR X (compareOp op) t) (ha : EE X σ S a Pa) (hb : EE X σ S b Pb) (hr : OpE t S Pa Pb R) (hm : behindInMarks op b = false) : EE X σ S (.Compare a [op] [b] pos) R := ee_2 (pe_cmpR ho peb peb hm) ha hb hr
theorem opE_I0 {K : PySem.W.Frag} {g : Int → Int → V} {d : PyData} (h : ∀ S, Dt K d (g i j) S) : OpE (rI0 g) S (Dt K (.int i)) (Dt K (.int j)) (Dt K d) := fun x y S1 H1 _ s px py Q q => by
  cases px; cases py
  exact ⟨i, j, rfl, rfl, q _ S1 H1 (Gr.refl s) (h S1)⟩
theorem opE_I {K : PySem.W.Frag} {C : Int → Int → Prop} {g : Int → Int → V} {d : PyData} (hc : C i j) (h : ∀ S, Dt K d (g i j) S) : OpE (rI C g) S (Dt K (.int i)) (Dt K (.int j)) (Dt K d) := fun x y S1 H1 _ s px py Q q => by
  cases px; cases py
  exact ⟨i, j, rfl, rfl, hc, q _ S1 H1 (Gr.refl s) (h S1)⟩
theorem ee_add (ha : EE X σ S a (Dt X.K (.int i))) (hb : EE X σ S b (Dt X.K (.int j))) : EE X σ S (.BinOp a .Add b pos) (Dt X.K (.int (i + j))) := ee_op op_add ha hb (opE_I0 fun _ => .int _)
theorem ee_fdiv (hc : CDivW i j) (ha : EE X σ S a (Dt X.K (.int i))) (hb : EE X σ S b (Dt X.K (.int j))) : EE X σ S (.BinOp a .FloorDiv b pos) (Dt X.K (.int (i / j))) := ee_op op_fdivW ha hb (opE_I hc fun _ => .int _)
theorem ee_mod (hc : 0 < j) (ha : EE X σ S a (Dt X.K (.int i))) (hb : EE X σ S b (Dt X.K (.int j))) : EE X σ S (.BinOp a .Mod b pos) (Dt X.K (.int (i % j))) := ee_op op_mod ha hb (opE_I hc fun _ => .int _)
theorem ee_pow (hc : CPow i j) (ha : EE X σ S a (Dt X.K (.int i))) (hb : EE X σ S b (Dt X.K (.int j))) : EE X σ S (.BinOp a .Pow b pos) (Dt X.K (.int (i ^ j.toNat))) := ee_op op_pow ha hb (opE_I hc fun _ => .int _)
theorem ee_le (ha : EE X σ S a (Dt X.K (.int i))) (hb : EE X σ S b (Dt X.K (.int j))) : EE X σ S (.Compare a [.LtE] [b] pos) (Dt X.K (.bool (decide (i ≤ j)))) := ee_cmp op_le ha hb (opE_I0 fun _ => .bl _) (nomark _)
theorem ee_ge (ha : EE X σ S a (Dt X.K (.int i))) (hb : EE X σ S b (Dt X.K (.int j))) : EE X σ S (.Compare a [.GtE] [b] pos) (Dt X.K (.bool (decide (j ≤ i)))) := ee_cmp op_ge ha hb (opE_I0 fun _ => .bl _) (nomark _)
/-- == and != of data -/
theorem ee_eq {u : Nat} (hr : Room u X.A) (h1 : SeqAt.shaped d1 = true) (h2 : SeqAt.shaped d2 = true) (ha : EE X σ S a (Dt X.K d1)) (hb : EE X σ S b (Dt X.K d2)) : EE X σ S (.Compare a [.Eq] [b] pos) (Dt X.K (.bool (PyData.eqv d1 d2))) :=
  ee_cmp (op_eqD hr.units) ha hb (fun x y S1 H1 _ s px py Q q => ⟨d1, d2, (px.up s).dp, (py.up s).dp, h1, h2, q _ S1 H1 (Gr.refl s) (.bl _)⟩) (nomark _)
/-- == of two ints, of two texts -/
theorem ee_eqI (ha : EE X σ S a (Dt X.K (.int i))) (hb : EE X σ S b (Dt X.K (.int j))) : EE X σ S (.Compare a [.Eq] [b] pos) (Dt X.K (.bool (decide (i = j)))) :=
  ee_cmp op_eq ha hb (fun x y S1 H1 _ s px py Q q => by
    cases px; cases py
    refine ⟨rfl, ?_⟩
    have e : decide (V.int i = V.int j) = decide (i = j) := by simp
    rw [e]
    exact q _ S1 H1 (Gr.refl s) (.bl _)) (nomark _)
theorem ee_eqS {x y : Str} (ha : EE X σ S a (Dt X.K (.str x))) (hb : EE X σ S b (Dt X.K (.str y))) : EE X σ S (.Compare a [.Eq] [b] pos) (Dt X.K (.bool (decide (x = y)))) :=
  ee_cmp op_eq ha hb (fun v w S1 H1 _ s px py Q q => by
    cases px; cases py
    refine ⟨rfl, ?_⟩
    have e : decide (V.str x = V.str y) = decide (x = y) := by simp
    rw [e]
    exact q _ S1 H1 (Gr.refl s) (.bl _)) (nomark _)
/-- x is None -/
theorem ee_isN {v : V} (ha : EE X σ S a (fun w _ => w = v)) {n p2} : EE X σ S (.Compare a [.Is] [.Constant .none n p2] pos) (Dt X.K (.bool (decide (v = .non)))) := by
  haveI : Mn (fun (w : V) (_ : Hp) => w = v) := ⟨fun _ h => h⟩
  exact ee_cmp op_isN ha (ee_non (n := n) (pos := p2)) (fun x y S1 H1 _ s px py Q q => by
    cases py
    subst px
    exact ⟨rfl, q _ S1 H1 (Gr.refl s) (.bl _)⟩) (nomark _)
theorem ee_neg (ha : EE X σ S a (Dt X.K (.int i))) : EE X σ S (.UnaryOp .USub a pos) (Dt X.K (.int (-i))) := fun H s Q q =>
  he_of (pe_un un_neg peb) (ha H s _ fun x S1 H1 g1 px => by cases px; exact ⟨i, rfl, q _ S1 H1 g1 (.int _)⟩)
/-! ### and, or, not, if -/
theorem ee_not (ha : EE X σ S a (Dt X.K (.bool k))) : EE X σ S (.UnaryOp .Not a pos) (Dt X.K (.bool (!k))) := fun H s Q q =>
  he_of (pe_not peb) (ha H s _ fun x S1 H1 g1 px => by cases px; exact ⟨k, rfl, q _ S1 H1 g1 (.bl _)⟩)
theorem ee_one {op} (ha : EE X σ S a P) : EE X σ S (.BoolOp op [a] pos) P := fun H s Q q => he_of (pe_one peb) (ha H s Q q)
theorem ee_and {rest : List Expr} (ha : EE X σ S a (Dt X.K (.bool k1))) (hb : k1 = true → EE X σ S (.BoolOp .And (b :: rest) pos) (Dt X.K (.bool k2))) : EE X σ S (.BoolOp .And (a :: b :: rest) pos) (Dt X.K (.bool (k1 && k2))) := fun H s Q q =>
  he_of (pe_and peb peb) (ha H s _ fun x S1 H1 g1 px => by
    cases px
    refine ⟨k1, rfl, ?_⟩
    cases k1 with
    | false => exact iteF (q _ S1 H1 g1 (.bl _))
    | true => exact iteT (((hb rfl).up g1.st) H1 g1.sub _ fun y S2 H2 g2 py => q y S2 H2 (g1.trans g2) py))
/-- tests -/
theorem et_val (ha : EE X σ S e (Dt X.K (.bool k))) (he : ∀ whole, isTrue e X.env whole = (do let v ← whole; standAt e.pos; holding [v] (truthy v)) := by intro _; rfl) : ET X σ S e k := fun H s Q q =>
  ht_of (pt_val peb he) (ha H s _ fun x S1 H1 g1 px => by cases px; exact ⟨k, rfl, q S1 H1 g1⟩)
theorem et_cmp {op : CmpOp} {t : R2} [Mn Pa] [Mn Pb] (ho : OpR X (compareOp op) t) (ha : EE X σ S a Pa) (hb : EE X σ S b Pb) (hr : OpE t S Pa Pb (Dt X.K (.bool k))) (hm : behindInMarks op b = false) : ET X σ S (.Compare a [op] [b] pos) k := fun H s Q q =>
  ht_of (pt_cmpR ho peb peb hm) (ha H s _ fun x S1 H1 g1 px => (hb.up g1.st) H1 g1.sub _ fun y S2 H2 g2 py => hr x y S2 H2 (g1.st.trans g2.st) g2.sub (Mn.up g2.st px) py _ fun v S3 H3 g3 rv => by
    cases rv; exact ⟨k, rfl, q S3 H3 ((g1.trans g2).trans g3)⟩)
theorem et_lt (ha : EE X σ S a (Dt X.K (.int i))) (hb : EE X σ S b (Dt X.K (.int j))) : ET X σ S (.Compare a [.Lt] [b] pos) (decide (i < j)) := et_cmp op_lt ha hb (opE_I0 fun _ => .bl _) (nomark _)
theorem et_gt (ha : EE X σ S a (Dt X.K (.int i))) (hb : EE X σ S b (Dt X.K (.int j))) : ET X σ S (.Compare a [.Gt] [b] pos) (decide (j < i)) := et_cmp op_gt ha hb (opE_I0 fun _ => .bl _) (nomark _)
theorem et_ge (ha : EE X σ S a (Dt X.K (.int i))) (hb : EE X σ S b (Dt X.K (.int j))) : ET X σ S (.Compare a [.GtE] [b] pos) (decide (j ≤ i)) := et_cmp op_ge ha hb (opE_I0 fun _ => .bl _) (nomark _)
theorem et_eqI (ha : EE X σ S a (Dt X.K (.int i))) (hb : EE X σ S b (Dt X.K (.int j))) : ET X σ S (.Compare a [.Eq] [b] pos) (decide (i = j)) :=
  et_cmp op_eq ha hb (fun x y S1 H1 _ s px py Q q => by
    cases px; cases py
    refine ⟨rfl, ?_⟩
    have e : decide (V.int i = V.int j) = decide (i = j) := by simp
    rw [e]
    exact q _ S1 H1 (Gr.refl s) (.bl _)) (nomark _)
theorem et_neI (ha : EE X σ S a (Dt X.K (.int i))) (hb : EE X σ S b (Dt X.K (.int j))) : ET X σ S (.Compare a [.NotEq] [b] pos) (!decide (i = j)) :=
  et_cmp op_ne ha hb (fun x y S1 H1 _ s px py Q q => by
    cases px; cases py
    refine ⟨rfl, ?_⟩
    have e : decide (V.int i = V.int j) = decide (i = j) := by simp
    rw [e]
    exact q _ S1 H1 (Gr.refl s) (.bl _)) (nomark _)
theorem et_eqS {x y : Str} (ha : EE X σ S a (Dt X.K (.str x))) (hb : EE X σ S b (Dt X.K (.str y))) : ET X σ S (.Compare a [.Eq] [b] pos) (decide (x = y)) :=
  et_cmp op_eq ha hb (fun v w S1 H1 _ s px py Q q => by
    cases px; cases py
    refine ⟨rfl, ?_⟩
    have e : decide (V.str x = V.str y) = decide (x = y) := by simp
    rw [e]
    exact q _ S1 H1 (Gr.refl s) (.bl _)) (nomark _)
theorem et_not (ha : ET X σ S a k) : ET X σ S (.UnaryOp .Not a pos) (!k) := fun H s Q q => ht_of (pt_not ptb) (ha H s _ fun S1 H1 g1 => q S1 H1 g1)
theorem et_w (ha : EW X σ S a k) : ET X σ S a k := fun H s Q q => ht_of (PW.pt pwb) (ha H s Q q)
theorem ew_and1 (ha : ET X σ S a k) : EW X σ S (.BoolOp .And [a] pos) k := fun H s Q q => hw_of (pw_and1 ptb) (ha H s Q q)
theorem ew_or1 (ha : ET X σ S a k) : EW X σ S (.BoolOp .Or [a] pos) k := fun H s Q q => hw_of (pw_or1 ptb) (ha H s Q q)
theorem ew_and {rest : List Expr} (ha : ET X σ S a k1) (hb : k1 = true → EW X σ S (.BoolOp .And (b :: rest) pos) k2) : EW X σ S (.BoolOp .And (a :: b :: rest) pos) (k1 && k2) := fun H s Q q =>
  hw_of (pw_and ptb pwb) (ha H s _ fun S1 H1 g1 => by
    cases k1 with
    | false => exact iteF (q S1 H1 g1)
    | true => exact iteT (((hb rfl).up g1.st) H1 g1.sub _ fun S2 H2 g2 => q S2 H2 (g1.trans g2)))
theorem ew_or {rest : List Expr} (ha : ET X σ S a k1) (hb : k1 = false → EW X σ S (.BoolOp .Or (b :: rest) pos) k2) : EW X σ S (.BoolOp .Or (a :: b :: rest) pos) (k1 || k2) := fun H s Q q =>
  hw_of (pw_or ptb pwb) (ha H s _ fun S1 H1 g1 => by
    cases k1 with
    | true => exact iteT (q S1 H1 g1)
    | false => exact iteF (((hb rfl).up g1.st) H1 g1.sub _ fun S2 H2 g2 => q S2 H2 (g1.trans g2)))
theorem ee_if {Q' : V → Hp → Prop} [Mn Q'] (hc : ET X σ S c k) (ha : k = true → EE X σ S a Q') (hb : k = false → EE X σ S b Q') : EE X σ S (.IfExp c a b pos) Q' := fun H s Q q =>
  he_of (pe_ifExp ptb peb peb) (hc H s _ fun S1 H1 g1 => by
    cases k with
    | false => exact iteF (((hb rfl).up g1.st) H1 g1.sub _ fun y S2 H2 g2 py => q y S2 H2 (g1.trans g2) py)
    | true => exact iteT (((ha rfl).up g1.st) H1 g1.sub _ fun y S2 H2 g2 py => q y S2 H2 (g1.trans g2) py))
/-- truth of a value -/
def truD : PyData → Bool
  | .none => false
  | .bool b => b
  | .int i => i != 0
  | .str x => (x.length : Int) != 0
  | .list xs => !xs.isEmpty
  | .tuple xs => !xs.isEmpty
  | .dict kvs => !kvs.isEmpty
theorem isEmpty_len {α β : Type} {xs : List α} {ys : List β} (h : xs.length = ys.length) : xs.isEmpty = ys.isEmpty := by
  cases xs <;> cases ys <;> simp_all
theorem truV_of {K : PySem.W.Frag} {v : V} {H : Hp} (h : Dt K d v H) (hs : ∀ x, d = .str x → x.length ≤ sizeLine) : TruV K v H (truD d) := by
  cases h with
  | non => rfl
  | bl b => rfl
  | int i => rfl
  | str x => exact ⟨hs x rfl, rfl⟩
  | lst h l z f => exact .inl ⟨_, sql_of h, by show (!_) = _; rw [isEmpty_len l]⟩
  | tup h l z f => exact .inr (.inl ⟨_, h.sq, by show (!_) = _; rw [isEmpty_len l]⟩)
theorem et_tru (ha : EE X σ S a (Dt X.K d)) (hs : ∀ x, d = .str x → x.length ≤ sizeLine) (he : ∀ whole, isTrue a X.env whole = (do let v ← whole; standAt a.pos; holding [v] (truthy v)) := by intro _; rfl) : ET X σ S a (truD d) := fun H s Q q =>
  ht_of (pt_truth peb he) (ha H s _ fun x S1 H1 g1 px => ⟨_, truV_of (px.up g1.sub) hs, q S1 H1 g1⟩)
/-! ### displays -/
theorem ee_tupA {es : List Expr} {x1} {vsP : List V → Hp → Prop} (h : ∀ H, Same S H → ∀ Q : List V → Hp → Prop, (∀ vs S' H', Gr S H S' H' → vsP vs S' → Q vs H') → HA X es σ H Q) (hz : ∀ vs S', vsP vs S' → vs.length ≤ sizeLine)
    (hR : ∀ vs S' p, Same S S' → S' p = none → vsP vs S' → R (.ref p) (upd S' p (.tup vs))) : EE X σ S (.Tuple es x1 pos) R := fun H s Q q =>
  he_of (pe_tup pab) (h H s _ fun vs S1 H1 g1 al => ⟨hz vs S1 al, fun p hp => q _ _ _ (g1.trans (Gr.new g1.sub hp)) (hR vs S1 p g1.st (g1.sub.free hp) al)⟩)
theorem ee_lstA {es : List Expr} {vsP : List V → Hp → Prop} (h : ∀ H, Same S H → ∀ Q : List V → Hp → Prop, (∀ vs S' H', Gr S H S' H' → vsP vs S' → Q vs H') → HA X es σ H Q) (hz : ∀ vs S', vsP vs S' → vs.length ≤ sizeLine)
    (hR : ∀ vs S' p, Same S S' → S' p = none → vsP vs S' → R (.ref p) (upd S' p (.lst vs))) : EE X σ S (.List es pos) R := fun H s Q q =>
  he_of (pe_lst pab) (h H s _ fun vs S1 H1 g1 al => ⟨hz vs S1 al, fun p hp => q _ _ _ (g1.trans (Gr.new g1.sub hp)) (hR vs S1 p g1.st (g1.sub.free hp) al)⟩)
def Ds (K : PySem.W.Frag) (ds : List PyData) : List (V → Hp → Prop) := ds.map (Dt K)
theorem al_dts {K : PySem.W.Frag} : ∀ {ds : List PyData} {vs : List V} {H : Hp}, Al (Ds K ds) vs H → Dts K ds vs H
  | [], _, _, h => by cases h; exact .nil
  | d :: ds, _, _, h => by cases h with
    | cons p r => exact .cons p (al_dts r)
theorem dts_al {K : PySem.W.Frag} : ∀ {ds : List PyData} {vs : List V} {H : Hp}, Dts K ds vs H → Al (Ds K ds) vs H
  | [], [], _, h => .nil
  | [], _ :: _, _, h => by have := h.1; simp at this
  | _ :: _, [], _, h => by have := h.1; simp at this
  | d :: ds, v :: vs, _, h => .cons (h.2 0 v d rfl rfl) (dts_al ⟨by have := h.1; simpa using this, fun i x d hx hd => h.2 (i + 1) x d (by simpa using hx) (by simpa using hd)⟩)
theorem ee_tup {es : List Expr} {x1} {ds : List PyData} (h : EA X σ S es (Ds X.K ds)) (hz : ds.length ≤ sizeLine := by show _ ≤ 16777216; exact Nat.le_of_ble_eq_true rfl) : EE X σ S (.Tuple es x1 pos) (Dt X.K (.tuple ds)) :=
  ee_tupA (vsP := Al (Ds X.K ds)) h.2 (fun vs S' al => by rw [(al_dts al).1]; exact hz) fun vs S' p _ hp al => Dt.tup_mk (tus_of upd_same) ((al_dts al).up (Same.new hp)) (by rw [(al_dts al).1]; exact hz)
theorem ee_lst {es : List Expr} {ds : List PyData} (h : EA X σ S es (Ds X.K ds)) (hz : ds.length ≤ sizeLine := by show _ ≤ 16777216; exact Nat.le_of_ble_eq_true rfl) : EE X σ S (.List es pos) (Dt X.K (.list ds)) :=
  ee_lstA (vsP := Al (Ds X.K ds)) h.2 (fun vs S' al => by rw [(al_dts al).1]; exact hz) fun vs S' p _ hp al => Dt.lst_mk upd_same ((al_dts al).up (Same.new hp)) (by rw [(al_dts al).1]; exact hz)
end
end Z
namespace Z
open PySem PySem.Spec PyProof.Rows L2
/-! ## 7. calls of built-ins, sequences -/
theorem dts_int {K : PySem.W.Frag} : ∀ {ns : List Int} {xs : List V} {H : Hp}, Dts K (ns.map PyData.int) xs H → xs = ns.map V.int
  | [], [], _, _ => rfl
  | [], _ :: _, _, h => by have := h.1; simp at this
  | _ :: _, [], _, h => by have := h.1; simp at this
  | n :: ns, x :: xs, _, h => by
    have e1 := (h.2 0 x (.int n) rfl rfl).int_inv
    have e2 := dts_int (ns := ns) (xs := xs) ⟨by have := h.1; simpa using this, fun i y d hy hd => h.2 (i + 1) y d (by simpa using hy) (by simpa using hd)⟩
    rw [e1, e2]; rfl
theorem dts_bl {K : PySem.W.Frag} : ∀ {ns : List Bool} {xs : List V} {H : Hp}, Dts K (ns.map PyData.bool) xs H → xs = ns.map V.bl
  | [], [], _, _ => rfl
  | [], _ :: _, _, h => by have := h.1; simp at this
  | _ :: _, [], _, h => by have := h.1; simp at this
  | n :: ns, x :: xs, _, h => by
    have e1 := (h.2 0 x (.bool n) rfl rfl).bl_inv
    have e2 := dts_bl (ns := ns) (xs := xs) ⟨by have := h.1; simpa using this, fun i y d hy hd => h.2 (i + 1) y d (by simpa using hy) (by simpa using hd)⟩
    rw [e1, e2]; rfl
theorem dts_str {K : PySem.W.Frag} : ∀ {ns : List Str} {xs : List V} {H : Hp}, Dts K (ns.map PyData.str) xs H → xs = ns.map V.str
  | [], [], _, _ => rfl
  | [], _ :: _, _, h => by have := h.1; simp at this
  | _ :: _, [], _, h => by have := h.1; simp at this
  | n :: ns, x :: xs, _, h => by
    have e1 := (h.2 0 x (.str n) rfl rfl).str_inv
    have e2 := dts_str (ns := ns) (xs := xs) ⟨by have := h.1; simpa using this, fun i y d hy hd => h.2 (i + 1) y d (by simpa using hy) (by simpa using hd)⟩
    rw [e1, e2]; rfl
theorem int_dts {K : PySem.W.Frag} (ns : List Int) (H : Hp) : Dts K (ns.map PyData.int) (ns.map V.int) H := by
  refine ⟨by simp, fun i x d hx hd => ?_⟩
  rw [List.getElem?_map] at hx hd
  cases e : ns[i]? with
  | none => rw [e] at hx; cases hx
  | some n => rw [e] at hx hd; cases hx; cases hd; exact .int n
def tyN : PyData → String
  | .none => "NoneType"
  | .bool _ => "bool"
  | .int _ => "int"
  | .str _ => "str"
  | .list _ => "list"
  | .tuple _ => "tuple"
  | .dict _ => "dict"
theorem tyX_of {K : PySem.W.Frag} {d : PyData} {v : V} {S H : Hp} (h : Dt K d v S) (s : Same S H) : TyX K H v (.type (tyN d)) := by
  cases h with
  | non => exact .base .non
  | bl b => exact .base (.bl b)
  | int i => exact .base (.int i)
  | str x => exact .base (.str x)
  | lst h l z f => exact .base (.lst (s _ _ h))
  | tup h l z f =>
    have h := h.sq
    rcases h with (h | ⟨o, h⟩) | ⟨o, its, n, h, c, _⟩
    · exact .base (.tup (s _ _ h))
    · exact .fTuple (s _ _ h)
    · exact .kTuple h c
/-- what isinstance says of data -/
def isN (t T : String) : Bool := t == T || (t == "bool" && T == "int")
theorem kit_tab : (["NoneType", "bool", "int", "str", "list", "tuple", "dict"].all fun t => ["int", "bool", "str", "list", "tuple"].all fun T => decide (kitB t T = some (isN t T))) = true := by decide +kernel
def isD (d : PyData) (T : String) : Bool := isN (tyN d) T
theorem isD_ok (d : PyData) {T : String} (hT : T ∈ ["int", "bool", "str", "list", "tuple"]) : kitB (tyN d) T = some (isD d T) := by
  have h := List.all_eq_true.mp (List.all_eq_true.mp kit_tab (tyN d) (by cases d <;> simp [tyN])) T hT
  exact of_decide_eq_true h
theorem isDi (d : PyData) : isD d "int" = (match d with | .int _ => true | .bool _ => true | _ => false) := by cases d <;> rfl
theorem isDb (d : PyData) : isD d "bool" = (match d with | .bool _ => true | _ => false) := by cases d <;> rfl
theorem isDs (d : PyData) : isD d "str" = (match d with | .str _ => true | _ => false) := by cases d <;> rfl
theorem isDt (d : PyData) : isD d "tuple" = (match d with | .tuple _ => true | _ => false) := by cases d <;> rfl
section
variable {X : Cx} {σ : L2.St} {S S' : Hp} {e a b c : Expr} {es : List Expr} {P Pa Pb R : V → Hp → Prop} {Ps : List (V → Hp → Prop)} {pos p : Pos} {i j : Int} {d d1 d2 : PyData} {ds ds1 ds2 : List PyData} {k : Bool} {x : Str} {id T : String}
def ClE (r : List V → Hp → VK → Prop) (S : Hp) (Ps : List (V → Hp → Prop)) (R : V → Hp → Prop) : Prop := ∀ vs S1 H1, Same S S1 → Same S1 H1 → Al Ps vs S1 → ∀ Q : VK, (∀ v S2 H2, Gr S1 H1 S2 H2 → R v S2 → Q v H2) → r vs H1 Q
theorem ee_callA {t : List V → Hp → VK → Prop} (hp : PE X e (tCB t (bA X es))) (ha : EA X σ S es Ps) (hr : ClE t S Ps R) : EE X σ S e R := fun H s Q q =>
  he_of hp (ha.2 H s _ fun vs S1 H1 g1 al => hr vs S1 H1 g1.st g1.sub al Q fun v S2 H2 g2 rv => q v S2 H2 (g1.trans g2) rv)
theorem ee_callB {t : List V → Hp → VK → Prop} (hc : CallR X (.builtin id) t) (hm : X.mg x = none) (hv : bootBuiltins x = some (.builtin id)) (ha : EA X σ S (e :: es) Ps) (hr : ClE t S Ps R) (hg : Gl X x := by rfl) (hn : x ≠ "__name__" := by decide) (hdb : (x == ("__debug__" : Str)) = false := by decide)
    (he : starEach (e :: es) X.env = (false, eval e X.env) :: starEach es X.env := by rfl) (hpl : (backTo pos (starEach es X.env)).any (·.1) = false := by rfl) : EE X σ S (.Call (.Name x p) (e :: es) [] pos) R :=
  ee_callA (pe_callB hc hg hm hv pab hn hdb he hpl) ha hr
theorem ee_callTy {t : List V → Hp → VK → Prop} (hc : CallR X (.type T) t) (hm : X.mg x = none) (hv : bootBuiltins x = some (.type T)) (ha : EA X σ S (e :: es) Ps) (hr : ClE t S Ps R) (hg : Gl X x := by rfl) (hn : x ≠ "__name__" := by decide) (hdb : (x == ("__debug__" : Str)) = false := by decide)
    (he : starEach (e :: es) X.env = (false, eval e X.env) :: starEach es X.env := by rfl) (hpl : (backTo pos (starEach es X.env)).any (·.1) = false := by rfl) : EE X σ S (.Call (.Name x p) (e :: es) [] pos) R :=
  ee_callA (pe_callTy hc hg hm hv pab hn hdb he hpl) ha hr
theorem ea_1 [Mn P] (h : EE X σ S e P) (hs : starEach [e] X.env = (false, eval e X.env) :: starEach [] X.env := by rfl) : EA X σ S [e] [P] := ea_cons h ea_nil hs
theorem ea_2 [Mn Pa] [Mn Pb] (h : EE X σ S a Pa) (h2 : EE X σ S b Pb) (hs : starEach [a, b] X.env = (false, eval a X.env) :: starEach [b] X.env := by rfl) (hs2 : starEach [b] X.env = (false, eval b X.env) :: starEach [] X.env := by rfl) : EA X σ S [a, b] [Pa, Pb] := ea_cons h (ea_cons h2 ea_nil hs2) hs
theorem Al.one {Pa : V → Hp → Prop} {vs : List V} {H : Hp} (h : Al [Pa] vs H) : ∃ v, vs = [v] ∧ Pa v H := by
  cases h with
  | cons p r => cases r; exact ⟨_, rfl, p⟩
theorem Al.two {Pa Pb : V → Hp → Prop} {vs : List V} {H : Hp} (h : Al [Pa, Pb] vs H) : ∃ v w, vs = [v, w] ∧ Pa v H ∧ Pb w H := by
  cases h with
  | cons p r => cases r with
    | cons p2 r2 => cases r2; exact ⟨_, _, rfl, p, p2⟩
theorem Al.three {Pa Pb Pc : V → Hp → Prop} {vs : List V} {H : Hp} (h : Al [Pa, Pb, Pc] vs H) : ∃ v w u, vs = [v, w, u] ∧ Pa v H ∧ Pb w H ∧ Pc u H := by
  cases h with
  | cons p r => obtain ⟨w, u, rfl, q1, q2⟩ := Al.two r; exact ⟨_, _, _, rfl, p, q1, q2⟩
theorem ee_isi {cn : Str} {T : String} (hk : kitB (tyN d) T = some k) (hm : X.mg "isinstance" = none) (hmT : X.mg cn = none) (hv : bootBuiltins cn = some (.type T)) (ha : EE X σ S a (Dt X.K d)) {p2 : Pos} (hg : Gl X "isinstance" := by rfl) (hgT : Gl X cn := by rfl) (hn : cn ≠ "__name__" := by decide) (hdb : (cn == ("__debug__" : Str)) = false := by decide)
    (hs : starEach [a, .Name cn p2] X.env = (false, eval a X.env) :: starEach [.Name cn p2] X.env := by rfl) : EE X σ S (.Call (.Name "isinstance" p) [a, .Name cn p2] [] pos) (Dt X.K (.bool k)) := by
  haveI : Mn (fun (w : V) (_ : Hp) => w = .ty T) := ⟨fun _ h => h⟩
  refine ee_callB call_isi hm boot_isinstance (ea_2 ha (ee_bltn (P := fun w _ => w = .ty T) (v := .ty T) (u := .type T) hmT hv rfl rfl hgT hn hdb) hs rfl) (fun vs S1 H1 _ s al Q q => ?_) hg (he := hs) (hpl := by rfl)
  obtain ⟨v, w, rfl, pv, pw⟩ := al.two
  subst pw
  exact ⟨v, .ty T, .type (tyN d), .type T, k, rfl, .ty T, tyX_of pv s, kit_ty hk, q _ S1 H1 (Gr.refl s) (.bl k)⟩
/-- len -/
def lenD : PyData → Option Nat
  | .str x => some x.length
  | .list xs => some xs.length
  | .tuple xs => some xs.length
  | _ => none
theorem ee_len {n : Nat} (hm : X.mg "len" = none) (hl : lenD d = some n) (ha : EE X σ S a (Dt X.K d)) (hz : ∀ x, d = .str x → x.length ≤ sizeLine := by intro _ h; cases h) (hg : Gl X "len" := by rfl)
    (hs : starEach [a] X.env = (false, eval a X.env) :: starEach [] X.env := by rfl) : EE X σ S (.Call (.Name "len" p) [a] [] pos) (Dt X.K (.int n)) :=
  ee_callB call_len hm boot_len (ea_1 ha hs) (fun vs S1 H1 _ s al Q q => by
    obtain ⟨v, rfl, pv⟩ := al.one
    refine ⟨v, n, rfl, ?_, q _ S1 H1 (Gr.refl s) (.int _)⟩
    cases pv with
    | non => cases hl
    | bl b => cases hl
    | int i => cases hl
    | str x => cases hl; exact ⟨hz x rfl, rfl⟩
    | lst h l z f => cases hl; exact .inl ⟨_, sql_of (s _ _ h), l.symm⟩
    | tup h l z f => cases hl; exact .inr ⟨_, sqt_up s h.sq, l.symm⟩) hg (he := hs) (hpl := by rfl)
theorem ee_list (hm : X.mg "list" = none) (hd : d = .list ds ∨ d = .tuple ds) (ha : EE X σ S a (Dt X.K d)) (hg : Gl X "list" := by rfl)
    (hs : starEach [a] X.env = (false, eval a X.env) :: starEach [] X.env := by rfl) : EE X σ S (.Call (.Name "list" p) [a] [] pos) (Dt X.K (.list ds)) :=
  ee_callTy call_list_of hm boot_list (ea_1 ha hs) (fun vs S1 H1 _ s al Q q => by
    obtain ⟨v, rfl, pv⟩ := al.one
    rcases hd with rfl | rfl
    · obtain ⟨l, xs, rfl, hl, hx, z⟩ := pv.lst_inv
      exact ⟨l, xs, rfl, .inl (sql_of (s _ _ hl)), fun t ht => q _ _ _ (Gr.new s ht) (Dt.lst_mk upd_same (hx.up (Same.new (s.free ht))) z)⟩
    · obtain ⟨l, xs, rfl, hl, hx, z⟩ := pv.tup_inv
      exact ⟨l, xs, rfl, .inr (sqt_up s hl), fun t ht => q _ _ _ (Gr.new s ht) (Dt.lst_mk upd_same (hx.up (Same.new (s.free ht))) z)⟩) hg (he := hs) (hpl := by rfl)
theorem ee_tupleOf (hm : X.mg "tuple" = none) (ha : EE X σ S a (Dt X.K (.list ds))) (hg : Gl X "tuple" := by rfl)
    (hs : starEach [a] X.env = (false, eval a X.env) :: starEach [] X.env := by rfl) : EE X σ S (.Call (.Name "tuple" p) [a] [] pos) (Dt X.K (.tuple ds)) :=
  ee_callTy call_tuple_of hm boot_tuple (ea_1 ha hs) (fun vs S1 H1 _ s al Q q => by
    obtain ⟨v, rfl, pv⟩ := al.one
    obtain ⟨l, xs, rfl, hl, hx, z⟩ := pv.lst_inv
    exact ⟨l, xs, rfl, .inl ⟨sql_of (s _ _ hl), fun t ht => q _ _ _ (Gr.new s ht) (Dt.tup_mk (tus_of upd_same) (hx.up (Same.new (s.free ht))) z)⟩⟩) hg (he := hs) (hpl := by rfl)
theorem ee_all {bs : List Bool} (hc : X.calm = true) (hm : X.mg "all" = none) (ha : EE X σ S a (Dt X.K (.list (bs.map .bool)))) (hg : Gl X "all" := by rfl)
    (hs : starEach [a] X.env = (false, eval a X.env) :: starEach [] X.env := by rfl) : EE X σ S (.Call (.Name "all" p) [a] [] pos) (Dt X.K (.bool (bs.all fun b => b))) :=
  ee_callB (cr_all hc) hm boot_all (ea_1 ha hs) (fun vs S1 H1 _ s al Q q => by
    obtain ⟨v, rfl, pv⟩ := al.one
    obtain ⟨l, xs, rfl, hl, hx, z⟩ := pv.lst_inv
    rw [dts_bl hx] at hl
    exact ⟨l, bs, rfl, sql_of (s _ _ hl), q _ S1 H1 (Gr.refl s) (.bl _)⟩) hg (he := hs) (hpl := by rfl)
theorem ee_intOf (hm : X.mg "int" = none) (ha : EE X σ S a (Dt X.K (.int i))) (hg : Gl X "int" := by rfl)
    (hs : starEach [a] X.env = (false, eval a X.env) :: starEach [] X.env := by rfl) : EE X σ S (.Call (.Name "int" p) [a] [] pos) (Dt X.K (.int i)) :=
  ee_callTy call_int1 hm boot_int (ea_1 ha hs) (fun vs S1 H1 _ s al Q q => by
    obtain ⟨v, rfl, pv⟩ := al.one
    cases pv
    exact .inl ⟨i, rfl, q _ S1 H1 (Gr.refl s) (.int _)⟩) hg (he := hs) (hpl := by rfl)
/-! ### subscripts -/
theorem atI_dts {K : PySem.W.Frag} {xs : List V} {H : Hp} (h : Dts K ds xs H) (e : atI ds i = some d) : ∃ x, atI xs i = some x ∧ Dt K d x H := by
  unfold atI at e ⊢
  rw [h.1]
  cases q : ixN ds.length i with
  | none => rw [q] at e; cases e
  | some k =>
    rw [q] at e
    exact h.get (i := k) e
theorem ee_ixL (he : atI ds i = some d) (ha : EE X σ S a (Dt X.K (.list ds))) (hb : EE X σ S b (Dt X.K (.int i))) (hs : PlainIx b := by exact fun _ _ => rfl) : EE X σ S (.Subscript a b pos) (Dt X.K d) :=
  ee_2 (pe_ix ix_list peb peb hs) ha hb fun x y S1 H1 _ s px py Q q => by
    cases py
    obtain ⟨l, xs, rfl, hl, hx, z⟩ := px.lst_inv
    obtain ⟨x, h1, h2⟩ := atI_dts hx he
    exact ⟨l, xs, i, x, rfl, rfl, sql_of (s _ _ hl), h1, q _ S1 H1 (Gr.refl s) h2⟩
theorem ee_ixT (he : atI ds i = some d) (ha : EE X σ S a (Dt X.K (.tuple ds))) (hb : EE X σ S b (Dt X.K (.int i))) (hs : PlainIx b := by exact fun _ _ => rfl) : EE X σ S (.Subscript a b pos) (Dt X.K d) :=
  ee_2 (pe_ix ix_tup peb peb hs) ha hb fun x y S1 H1 _ s px py Q q => by
    cases py
    obtain ⟨l, xs, rfl, hl, hx, z⟩ := px.tup_inv
    obtain ⟨x, h1, h2⟩ := atI_dts hx he
    exact ⟨l, xs, i, x, rfl, rfl, sqt_up s hl, h1, q _ S1 H1 (Gr.refl s) h2⟩
theorem ee_ixS {z : Str} {c : Nat} (hz : z.length ≤ sizeLine) (he : atI z.cps.toList i = some c) (ha : EE X σ S a (Dt X.K (.str z))) (hb : EE X σ S b (Dt X.K (.int i))) (hs : PlainIx b := by exact fun _ _ => rfl) : EE X σ S (.Subscript a b pos) (Dt X.K (.str ⟨#[c]⟩)) :=
  ee_2 (pe_ix ix_str peb peb hs) ha hb fun x y S1 H1 _ s px py Q q => by
    cases px; cases py
    exact ⟨z, i, c, rfl, rfl, hz, he, q _ S1 H1 (Gr.refl s) (.str _)⟩
/-- slices -/
def EO (X : Cx) (σ : L2.St) (S : Hp) (e : Option Expr) (o : Option Int) : Prop := ∀ H, Same S H → ∀ Q : Option Int → Hp → Prop, (∀ S' H', Gr S H S' H' → Q o H') → ∃ t, PO X e t ∧ t σ H Q
def tOb (X : Cx) (e : Option Expr) : TO := fun σ H Q => ∃ t, PO X e t ∧ t σ H Q
theorem pob {e : Option Expr} : PO X e (tOb X e) := ⟨fun pins s σ H Q I ⟨t, ht, h⟩ => ht.run pins s σ H Q I h⟩
theorem eo_none : EO X σ S none none := fun H s Q q => ⟨_, po_none, q S H (Gr.refl s)⟩
theorem eo_some (h : EE X σ S e (Dt X.K (.int i))) : EO X σ S (some e) (some i) := fun H s Q q => ⟨_, po_some peb, h H s _ fun v S1 H1 g1 pv => by cases pv; exact ⟨i, rfl, q S1 H1 g1⟩⟩
theorem EO.up {o : Option Int} {oe : Option Expr} (s : Same S S') (h : EO X σ S oe o) : EO X σ S' oe o := fun H a Q q => h H (s.trans a) Q fun S2 H2 g => q (uniS S2 S') H2 (g.uni s a)
def cutD {α : Type} (xs : List α) (lo hi : Option Int) : List α := (xs.drop (HT.sIx xs.length 0 lo)).take (HT.sIx xs.length xs.length hi - HT.sIx xs.length 0 lo)
theorem cut_dts {K : PySem.W.Frag} {xs : List V} {H : Hp} {lo hi : Option Int} (h : Dts K ds xs H) : Dts K (cutD ds lo hi) (cutV xs lo hi) H := by
  unfold cutD cutV
  rw [h.1]
  refine ⟨by simp [List.length_take, List.length_drop, h.1], fun i x d hx hd => ?_⟩
  rw [List.getElem?_take] at hx hd
  split at hx
  · rename_i hlt
    rw [if_pos hlt, List.getElem?_drop] at hd
    rw [List.getElem?_drop] at hx
    exact h.2 _ x d hx hd
  · cases hx
theorem ee_slL {lo hi : Option Expr} {l u : Option Int} {p2 : Pos} (ha : EE X σ S a (Dt X.K (.list ds))) (hl : EO X σ S lo l) (hu : EO X σ S hi u) : EE X σ S (.Subscript a (.Slice lo hi none p2) pos) (Dt X.K (.list (cutD ds l u))) := fun H s Q q =>
  he_of (pe_slice sl_list peb pob pob) (ha H s _ fun v S1 H1 g1 pv => (hl.up g1.st) H1 g1.sub _ fun S2 H2 g2 => (hu.up (g1.st.trans g2.st)) H2 g2.sub _ fun S3 H3 g3 => by
    obtain ⟨l, xs, rfl, hl, hx, z⟩ := ((pv.up g2.st).up g3.st).lst_inv
    exact ⟨l, xs, rfl, sql_of (g3.sub _ _ hl), fun t ht => q _ _ _ (((g1.trans g2).trans g3).trans (Gr.new g3.sub ht)) (Dt.lst_mk upd_same ((cut_dts hx).up (Same.new (g3.sub.free ht))) (Nat.le_trans (cutV_length _ _ _) z))⟩)
theorem cutD_whole {α : Type} {xs : List α} {lo hi : Option Int} (h : HT.sIx xs.length 0 lo = 0 ∧ HT.sIx xs.length xs.length hi = xs.length) : cutD xs lo hi = xs := by
  unfold cutD
  rw [h.1, h.2]
  simp
theorem ee_slT {lo hi : Option Expr} {l u : Option Int} {p2 : Pos} (ha : EE X σ S a (Dt X.K (.tuple ds))) (hl : EO X σ S lo l) (hu : EO X σ S hi u) : EE X σ S (.Subscript a (.Slice lo hi none p2) pos) (Dt X.K (.tuple (cutD ds l u))) := fun H s Q q =>
  he_of (pe_slice sl_tupA peb pob pob) (ha H s _ fun v S1 H1 g1 pv => (hl.up g1.st) H1 g1.sub _ fun S2 H2 g2 => (hu.up (g1.st.trans g2.st)) H2 g2.sub _ fun S3 H3 g3 => by
    have pv3 := (pv.up g2.st).up g3.st
    obtain ⟨l, xs, rfl, hl, hx, z⟩ := pv3.tup_inv
    refine ⟨l, xs, rfl, sqt_up g3.sub hl, fun hw => ?_, fun _ t ht => q _ _ _ (((g1.trans g2).trans g3).trans (Gr.new g3.sub ht)) (Dt.tup_mk (tus_of upd_same) ((cut_dts hx).up (Same.new (g3.sub.free ht))) (Nat.le_trans (cutV_length _ _ _) z))⟩
    rw [hx.1] at hw
    rw [cutD_whole hw] at q
    exact q _ _ _ ((g1.trans g2).trans g3) pv3)
/-! ### + and * of sequences -/
theorem ee_catL (hz : ds1.length + ds2.length ≤ sizeLine) (ha : EE X σ S a (Dt X.K (.list ds1))) (hb : EE X σ S b (Dt X.K (.list ds2))) : EE X σ S (.BinOp a .Add b pos) (Dt X.K (.list (ds1 ++ ds2))) :=
  ee_op op_cat ha hb fun x y S1 H1 _ s px py Q q => by
    obtain ⟨l, xs, rfl, hl, hx, _⟩ := px.lst_inv
    obtain ⟨m, ys, rfl, hm, hy, _⟩ := py.lst_inv
    have hz' : xs.length + ys.length ≤ sizeLine := by rw [hx.1, hy.1]; exact hz
    exact ⟨l, m, xs, ys, rfl, rfl, s _ _ hl, s _ _ hm, hz', fun t ht => q _ _ _ (Gr.new s ht) (Dt.lst_mk upd_same ((hx.append hy).up (Same.new (s.free ht))) (by rw [List.length_append]; exact hz'))⟩
theorem dts_nil_iff {K : PySem.W.Frag} {xs : List V} {H : Hp} (h : Dts K ds xs H) : xs = [] ↔ ds = [] := by
  have := h.1
  constructor
  · intro e; subst e; exact List.length_eq_zero_iff.mp (by simpa using this.symm)
  · intro e; subst e; exact List.length_eq_zero_iff.mp (by simpa using this)
theorem ee_catT (hz : ds1.length + ds2.length ≤ sizeLine) (ha : EE X σ S a (Dt X.K (.tuple ds1))) (hb : EE X σ S b (Dt X.K (.tuple ds2))) : EE X σ S (.BinOp a .Add b pos) (Dt X.K (.tuple (ds1 ++ ds2))) :=
  ee_op op_catA ha hb fun x y S1 H1 _ s px py Q q => by
    have px0 := px
    have py0 := py
    obtain ⟨l, xs, rfl, hl, hx, _⟩ := px.tup_inv
    obtain ⟨m, ys, rfl, hm, hy, _⟩ := py.tup_inv
    have hz' : xs.length + ys.length ≤ sizeLine := by rw [hx.1, hy.1]; exact hz
    refine ⟨l, m, xs, ys, rfl, rfl, sqt_up s hl, sqt_up s hm, hz', fun e => ?_, fun _ e => ?_, fun _ _ t ht => q _ _ _ (Gr.new s ht) (Dt.tup_mk (tus_of upd_same) ((hx.append hy).up (Same.new (s.free ht))) (by rw [List.length_append]; exact hz'))⟩
    · rw [(dts_nil_iff hx).mp e] at q
      exact q _ _ _ (Gr.refl s) py0
    · rw [(dts_nil_iff hy).mp e, List.append_nil] at q
      exact q _ _ _ (Gr.refl s) px0
theorem ee_catS {x y : Str} (hz : x.length + y.length ≤ sizeLine) (ha : EE X σ S a (Dt X.K (.str x))) (hb : EE X σ S b (Dt X.K (.str y))) : EE X σ S (.BinOp a .Add b pos) (Dt X.K (.str (x ++ y))) :=
  ee_op op_add_str ha hb fun v w S1 H1 _ s px py Q q => by
    cases px; cases py
    exact ⟨x, y, rfl, rfl, hz, q _ S1 H1 (Gr.refl s) (.str _)⟩
theorem flat_dts {K : PySem.W.Frag} {xs : List V} {H : Hp} (f : List.replicate 0 d = []) (h : Dts K ds xs H) : ∀ (n : Nat), Dts K (List.replicate n ds).flatten (List.replicate n xs).flatten H
  | 0 => .nil
  | n + 1 => by
    rw [List.replicate_succ, List.flatten_cons, List.replicate_succ, List.flatten_cons]
    exact h.append (flat_dts f h n)
theorem flatten_len {α : Type} (xs : List α) : ∀ n : Nat, (List.replicate n xs).flatten.length = xs.length * n
  | 0 => by simp
  | n + 1 => by rw [List.replicate_succ, List.flatten_cons, List.length_append, flatten_len xs n, Nat.mul_succ]; omega
theorem ee_repL (h1 : -(2 ^ 63) ≤ i) (h2 : i < 2 ^ 63) (hz : ds.length * i.toNat ≤ sizeLine) (ha : EE X σ S a (Dt X.K (.list ds))) (hb : EE X σ S b (Dt X.K (.int i))) : EE X σ S (.BinOp a .Mult b pos) (Dt X.K (.list (List.replicate i.toNat ds).flatten)) :=
  ee_op op_rep ha hb fun x y S1 H1 _ s px py Q q => by
    cases py
    obtain ⟨l, xs, rfl, hl, hx, _⟩ := px.lst_inv
    have hz' : xs.length * i.toNat ≤ sizeLine := by rw [hx.1]; exact hz
    exact ⟨l, i, xs, rfl, rfl, s _ _ hl, h1, h2, hz', fun t ht => q _ _ _ (Gr.new s ht) (Dt.lst_mk upd_same ((flat_dts (d := .none) rfl hx _).up (Same.new (s.free ht))) (by rw [flatten_len]; exact hz'))⟩
end
end Z
namespace Z
open PySem PySem.Spec PyProof.Rows L2
/-! ## 8. what is walked -/
/-- an iterator that gives, one by one, values that have the Ps; while B stands -/
def ItP (J : It) (B : Hp) (Ps : List (V → Hp → Prop)) : Prop := Walk J Ps.length (fun H => Same B H) (fun i H x H' => ∀ S, Same B S → Same S H → ∃ S', Gr S H S' H' ∧ ∃ P, Ps[i]? = some P ∧ P x S')
def EI (X : Cx) (σ : L2.St) (S : Hp) (tg iter : Expr) (Ps : List (V → Hp → Prop)) : Prop := ∀ H, Same S H → ∀ R : It → Hp → Prop, (∀ J S' H', Gr S H S' H' → ItP J S' Ps → R J H') → HI X tg iter σ H R
section
variable {X : Cx} {σ : L2.St} {S S' : Hp} {e a b tg : Expr} {pos p : Pos} {d d1 d2 : PyData} {ds ds1 ds2 : List PyData}
theorem EI.up {Ps : List (V → Hp → Prop)} {it : Expr} (s : Same S S') (h : EI X σ S tg it Ps) : EI X σ S' tg it Ps := fun H a R q => h H (s.trans a) R fun J S2 H2 g w => q J (uniS S2 S') H2 (g.uni s a)
  ⟨fun i H hi hs => w.goes i H hi (uni_l.trans hs), fun H hs => w.stops H (uni_l.trans hs), fun i H x H' hi hs y T st th => w.yields i H x H' hi (uni_l.trans hs) y T (uni_l.trans st) th⟩
theorem ds_get {K : PySem.W.Frag} {i : Nat} (h : ds[i]? = some d) : (Ds K ds)[i]? = some (Dt K d) := by unfold Ds; rw [List.getElem?_map, h]; rfl
theorem ds_len {K : PySem.W.Frag} : (Ds K ds).length = ds.length := by unfold Ds; simp
theorem ei_list (ha : EE X σ S e (Dt X.K (.list ds))) : EI X σ S tg e (Ds X.K ds) := fun H s R q =>
  hi_of (pi_list peb) (ha H s _ fun v S1 H1 g1 pv => by
    obtain ⟨l, xs, rfl, hl, hx, z⟩ := pv.lst_inv
    refine ⟨l, rfl, ⟨xs, sql_of (g1.sub _ _ hl)⟩, q _ S1 H1 g1 ⟨fun i H hi hs => ?_, fun H hs => ?_, fun i H x H' hi hs y T st th => ?_⟩⟩
    · rw [ds_len, ← hx.1] at hi
      exact (walk_list (K := X.K) (a := l) (xs := xs)).goes i H hi (sql_of (hs _ _ hl))
    · rw [ds_len, ← hx.1]
      exact (walk_list (K := X.K) (a := l) (xs := xs)).stops H (sql_of (hs _ _ hl))
    · rw [ds_len, ← hx.1] at hi
      obtain ⟨rfl, hy⟩ := (walk_list (K := X.K) (a := l) (xs := xs)).yields i H x H' hi (sql_of (hs _ _ hl)) y
      have hi2 : i < ds.length := by rw [← hx.1]; exact hi
      exact ⟨T, Gr.refl th, _, ds_get (List.getElem?_eq_getElem hi2), (hx.2 i x _ hy (List.getElem?_eq_getElem hi2)).up st⟩)
theorem ei_tup (ha : EE X σ S e (Dt X.K (.tuple ds))) : EI X σ S tg e (Ds X.K ds) := fun H s R q =>
  hi_of (pi_tup peb) (ha H s _ fun v S1 H1 g1 pv => by
    obtain ⟨l, xs, rfl, hl, hx, z⟩ := pv.tup_inv
    refine ⟨l, rfl, ⟨xs, sqt_up g1.sub hl⟩, q _ S1 H1 g1 ⟨fun i H hi hs => ?_, fun H hs => ?_, fun i H x H' hi hs y T st th => ?_⟩⟩
    · rw [ds_len, ← hx.1] at hi
      exact (walk_tup (K := X.K) (a := l) (xs := xs)).goes i H hi (sqt_up hs hl)
    · rw [ds_len, ← hx.1]
      exact (walk_tup (K := X.K) (a := l) (xs := xs)).stops H (sqt_up hs hl)
    · rw [ds_len, ← hx.1] at hi
      obtain ⟨rfl, hy⟩ := (walk_tup (K := X.K) (a := l) (xs := xs)).yields i H x H' hi (sqt_up hs hl) y
      have hi2 : i < ds.length := by rw [← hx.1]; exact hi
      exact ⟨T, Gr.refl th, _, ds_get (List.getElem?_eq_getElem hi2), (hx.2 i x _ hy (List.getElem?_eq_getElem hi2)).up st⟩)
/-- 0, 1, .. below n -/
def upto (n : Nat) : List PyData := (List.range n).map fun i => .int (i : Nat)
theorem upto_get {n i : Nat} (h : i < n) : (upto n)[i]? = some (.int (i : Nat)) := by unfold upto; rw [List.getElem?_map, List.getElem?_range h]; rfl
theorem upto_len {n : Nat} : (upto n).length = n := by unfold upto; simp
theorem ei_range {n : Nat} (hm : X.mg "range" = none) (hn : (n : Int) < 2 ^ 62) (ha : EE X σ S a (Dt X.K (.int (n : Nat)))) (hg : Gl X "range" := by rfl) (hs : starEach [a] X.env = [(false, eval a X.env)] := by rfl) : EI X σ S tg (.Call (.Name "range" p) [a] [] pos) (Ds X.K (upto n)) := fun H s R q =>
  hi_of (pi_range1 hg hm pab hs) ((ea_1 ha (by rw [hs]; rfl)).2 H s _ fun vs S1 H1 g1 al => by
    obtain ⟨v, rfl, pv⟩ := al.one
    cases pv
    refine ⟨(n : Int), rfl, by omega, hn, q _ S1 H1 g1 ⟨fun i H hi hs => ?_, fun H hs => ?_, fun i H x H' hi hs y T st th => ?_⟩⟩
    · rw [ds_len, upto_len] at hi
      show i < ((n : Int)).toNat
      omega
    · rw [ds_len, upto_len]
      show ((n : Int)).toNat ≤ n
      omega
    · rw [ds_len, upto_len] at hi
      obtain ⟨rfl, rfl⟩ : H' = H ∧ x = .int (0 + (i : Int)) := y
      rw [Int.zero_add]
      exact ⟨T, Gr.refl th, _, ds_get (upto_get hi), .int _⟩)
/-- pairs -/
def zipD (xs ys : List PyData) : List PyData := List.zipWith (fun x y => .tuple [x, y]) xs ys
theorem zipD_get {i : Nat} {x y : PyData} (h1 : ds1[i]? = some x) (h2 : ds2[i]? = some y) : (zipD ds1 ds2)[i]? = some (.tuple [x, y]) := by
  unfold zipD
  rw [List.getElem?_zipWith, h1, h2]
theorem pair_new {K : PySem.W.Frag} {T H : Hp} {x y : V} {t : Addr} (th : Same T H) (ht : H t = none) (h1 : Dt K d1 x T) (h2 : Dt K d2 y T) : Dt K (.tuple [d1, d2]) (.ref t) (upd T t (.tup [x, y])) :=
  Dt.tup_mk (tus_of upd_same) ((Dts.cons h1 (Dts.cons h2 .nil)).up (Same.new (th.free ht))) (by show 2 ≤ 16777216; decide)
theorem ei_zipT {elts : List Expr} {kk : Nat} {tpos : Pos} (hm : X.mg "zip" = none) (ha : EE X σ S a (Dt X.K (.tuple ds1))) (hb : EE X σ S b (Dt X.K (.tuple ds2))) (hg : Gl X "zip" := by rfl)
    (hs : starEach [a, b] X.env = (false, eval a X.env) :: starEach [b] X.env := by rfl) (hs2 : starEach [b] X.env = (false, eval b X.env) :: starEach [] X.env := by rfl) (hpl : (backTo pos (starEach [b] X.env)).any (·.1) = false := by rfl) :
    EI X σ S (.Tuple elts kk tpos) (.Call (.Name "zip" p) [a, b] [] pos) (Ds X.K (zipD ds1 ds2)) := fun H s R q =>
  hi_of (RZ.pi_zipA hg hm pab hs hpl) ((ea_2 ha hb hs hs2).2 H s _ fun vs S1 H1 g1 al => by
    obtain ⟨v, w, rfl, pv, pw⟩ := al.two
    obtain ⟨l, xs, rfl, hl, hx, _⟩ := pv.tup_inv
    obtain ⟨m, ys, rfl, hm, hy, _⟩ := pw.tup_inv
    have hlen : (Ds X.K (zipD ds1 ds2)).length = min xs.length ys.length := by rw [ds_len]; unfold zipD; rw [List.length_zipWith, hx.1, hy.1]
    refine ⟨l, m, xs, ys, rfl, .inr ⟨sqt_up g1.sub hl, sqt_up g1.sub hm, q _ S1 H1 g1 ⟨fun i H hi hs => ?_, fun H hs => ?_, fun i H x H' hi hs y T st th => ?_⟩⟩⟩
    · rw [hlen] at hi
      exact ⟨xs, ys, xs[i]'(by omega), ys[i]'(by omega), sqt_up hs hl, sqt_up hs hm, by simp [show i < xs.length by omega], by simp [show i < ys.length by omega]⟩
    · rw [hlen]
      exact ⟨xs, ys, sqt_up hs hl, sqt_up hs hm, by omega⟩
    · rw [hlen] at hi
      obtain ⟨t, x1, y1, rfl, ht, rfl, k1, k2⟩ := y
      have i1 : i < ds1.length := by rw [← hx.1]; omega
      have i2 : i < ds2.length := by rw [← hy.1]; omega
      exact ⟨_, Gr.new th ht, _, ds_get (zipD_get (List.getElem?_eq_getElem i1) (List.getElem?_eq_getElem i2)), pair_new th ht ((hx.2 i _ _ (k1 xs (sqt_up hs hl)) (List.getElem?_eq_getElem i1)).up st) ((hy.2 i _ _ (k2 ys (sqt_up hs hm)) (List.getElem?_eq_getElem i2)).up st)⟩)
theorem ei_zipL {elts : List Expr} {kk : Nat} {tpos : Pos} (hm : X.mg "zip" = none) (ha : EE X σ S a (Dt X.K (.list ds1))) (hb : EE X σ S b (Dt X.K (.list ds2))) (hg : Gl X "zip" := by rfl)
    (hs : starEach [a, b] X.env = (false, eval a X.env) :: starEach [b] X.env := by rfl) (hs2 : starEach [b] X.env = (false, eval b X.env) :: starEach [] X.env := by rfl) (hpl : (backTo pos (starEach [b] X.env)).any (·.1) = false := by rfl) :
    EI X σ S (.Tuple elts kk tpos) (.Call (.Name "zip" p) [a, b] [] pos) (Ds X.K (zipD ds1 ds2)) := fun H s R q =>
  hi_of (RZ.pi_zipA hg hm pab hs hpl) ((ea_2 ha hb hs hs2).2 H s _ fun vs S1 H1 g1 al => by
    obtain ⟨v, w, rfl, pv, pw⟩ := al.two
    obtain ⟨l, xs, rfl, hl, hx, _⟩ := pv.lst_inv
    obtain ⟨m, ys, rfl, hm, hy, _⟩ := pw.lst_inv
    have hlen : (Ds X.K (zipD ds1 ds2)).length = min xs.length ys.length := by rw [ds_len]; unfold zipD; rw [List.length_zipWith, hx.1, hy.1]
    refine ⟨l, m, xs, ys, rfl, .inl ⟨sql_of (g1.sub _ _ hl), sql_of (g1.sub _ _ hm), q _ S1 H1 g1 ⟨fun i H hi hs => ?_, fun H hs => ?_, fun i H x H' hi hs y T st th => ?_⟩⟩⟩
    · rw [hlen] at hi
      exact ⟨xs, ys, xs[i]'(by omega), ys[i]'(by omega), sql_of (hs _ _ hl), sql_of (hs _ _ hm), by simp [show i < xs.length by omega], by simp [show i < ys.length by omega]⟩
    · rw [hlen]
      exact ⟨xs, ys, sql_of (hs _ _ hl), sql_of (hs _ _ hm), by omega⟩
    · rw [hlen] at hi
      obtain ⟨t, x1, y1, rfl, ht, rfl, k1, k2⟩ := y
      have i1 : i < ds1.length := by rw [← hx.1]; omega
      have i2 : i < ds2.length := by rw [← hy.1]; omega
      exact ⟨_, Gr.new th ht, _, ds_get (zipD_get (List.getElem?_eq_getElem i1) (List.getElem?_eq_getElem i2)), pair_new th ht ((hx.2 i _ _ (k1 xs (sql_of (hs _ _ hl))) (List.getElem?_eq_getElem i1)).up st) ((hy.2 i _ _ (k2 ys (sql_of (hs _ _ hm))) (List.getElem?_eq_getElem i2)).up st)⟩)
def enumD (xs : List PyData) : List PyData := zipD (upto xs.length) xs
theorem ei_enumL {elts : List Expr} {kk : Nat} {tpos : Pos} (hm : X.mg "enumerate" = none) (ha : EE X σ S a (Dt X.K (.list ds))) (hg : Gl X "enumerate" := by rfl) (hs : starEach [a] X.env = [(false, eval a X.env)] := by rfl) :
    EI X σ S (.Tuple elts kk tpos) (.Call (.Name "enumerate" p) [a] [] pos) (Ds X.K (enumD ds)) := fun H s R q =>
  hi_of (pi_enum hg hm pab hs) ((ea_1 ha (by rw [hs]; rfl)).2 H s _ fun vs S1 H1 g1 al => by
    obtain ⟨v, rfl, pv⟩ := al.one
    obtain ⟨l, xs, rfl, hl, hx, _⟩ := pv.lst_inv
    have hlen : (Ds X.K (enumD ds)).length = xs.length := by rw [ds_len]; unfold enumD zipD; rw [List.length_zipWith, upto_len, hx.1]; omega
    refine ⟨l, xs, rfl, sql_of (g1.sub _ _ hl), q _ S1 H1 g1 ⟨fun i H hi hs => ?_, fun H hs => ?_, fun i H x H' hi hs y T st th => ?_⟩⟩
    · rw [hlen] at hi
      exact ⟨xs, xs[i], sql_of (hs _ _ hl), by simp [hi]⟩
    · rw [hlen]
      exact ⟨xs, sql_of (hs _ _ hl), Nat.le_refl _⟩
    · rw [hlen] at hi
      obtain ⟨t, x1, rfl, ht, rfl, k1⟩ := y
      have i1 : i < ds.length := by rw [← hx.1]; omega
      exact ⟨_, Gr.new th ht, _, ds_get (zipD_get (upto_get i1) (List.getElem?_eq_getElem i1)), pair_new th ht (.int _) ((hx.2 i _ _ (k1 xs (sql_of (hs _ _ hl))) (List.getElem?_eq_getElem i1)).up st)⟩)
def strD (z : Str) : List PyData := z.cps.toList.map fun c => .str ⟨#[c]⟩
theorem ei_str {z : Str} (ha : EE X σ S e (Dt X.K (.str z))) (he : PI X tg e (iStr (bE X e)) := by exact pi_str peb) : EI X σ S tg e (Ds X.K (strD z)) := fun H s R q =>
  hi_of he (ha H s _ fun v S1 H1 g1 pv => by
    cases pv
    have hlen : (Ds X.K (strD z)).length = z.cps.size := by rw [ds_len]; unfold strD; simp
    refine ⟨z, rfl, q _ S1 H1 g1 ⟨fun i H hi hs => ?_, fun H hs => ?_, fun i H x H' hi hs y T st th => ?_⟩⟩
    · rw [hlen] at hi; exact hi
    · rw [hlen]; exact Nat.le_refl _
    · rw [hlen] at hi
      obtain ⟨rfl, c, hc, rfl⟩ := y
      refine ⟨T, Gr.refl th, _, ds_get (d := .str ⟨#[c]⟩) ?_, .str _⟩
      unfold strD
      rw [List.getElem?_map, Array.getElem?_toList, hc]
      rfl)
end
/-! ## 9. list comprehensions -/
def Ex (K : PySem.W.Frag) (F : PyData → Prop) : V → Hp → Prop := fun v S => ∃ d, F d ∧ Dt K d v S
instance {K : PySem.W.Frag} {F : PyData → Prop} : Mn (Ex K F) := ⟨fun s ⟨d, f, h⟩ => ⟨d, f, h.up s⟩⟩
def HTs (X : Cx) (ifs : List Expr) (σ : L2.St) (H : Hp) (Q : Bool → Hp → Prop) : Prop := ∀ (pins : List (Addr × Obj)) (s : Shared), Inv X pins σ H s →
    wpAny (model X.prog X.w) X.A (forIn ifs true fun c r => if r = true then do let ok ← isTrue c X.env (eval c X.env); pure (ForInStep.yield ok) else pure (ForInStep.yield r)) (TP X pins σ Q) X.xe s
def ETs (X : Cx) (σ : L2.St) (S : Hp) (ifs : List Expr) (b : Bool) : Prop := ∀ H, Same S H → ∀ Q : Bool → Hp → Prop, (∀ S' H', Gr S H S' H' → Q b H') → HTs X ifs σ H Q
theorem ets_nil {X : Cx} {σ : L2.St} {S : Hp} : ETs X σ S [] true := fun H s Q q pins sh I => pts_nil.run pins sh σ H Q I (q S H (Gr.refl s))
theorem ets_one {X : Cx} {σ : L2.St} {S : Hp} {c : Expr} {b : Bool} (h : ET X σ S c b) : ETs X σ S [c] b := fun H s Q q pins sh I => (pts_one ptb).run pins sh σ H Q I (h H s Q q)
/-- a target that takes the value: the slots behind -/
def EG (X : Cx) (S : Hp) (tg : Expr) (v : V) (σ τ : L2.St) : Prop := ∀ H, Same S H → ∀ Q : L2.St → Hp → Prop, Q τ H → HG X tg v σ H Q
theorem eg_name {X : Cx} {S : Hp} {v : V} {σ : L2.St} {i : Nat} {x : Str} {pos : Pos} (hN : X.N.Nodup) (hi : X.N[i]? = some x) (hx : Loc X.env.scope x) (hf : X.fn x = true ∨ X.env.scope.names.lookup x = some .local := by first | exact .inl rfl | exact .inr rfl | assumption) : EG X S (.Name x pos) v σ (σ.set i (some v)) := fun H _ Q q => hg_of (pg_name hN hi hx hf) q
/-- two names from a pair -/
theorem eg_pair {X : Cx} {S : Hp} {d1 d2 : PyData} {v : V} {σ : L2.St} {i j : Nat} {x y : Str} {px py pos : Pos} {kk : Nat} (hc : X.calm = true) (hN : X.N.Nodup) (hi : X.N[i]? = some x) (hj : X.N[j]? = some y) (hx : Loc X.env.scope x) (hy : Loc X.env.scope y) (h : Dt X.K (.tuple [d1, d2]) v S)
    (hfx : X.fn x = true ∨ X.env.scope.names.lookup x = some .local := by first | exact .inl rfl | exact .inr rfl) (hfy : X.fn y = true ∨ X.env.scope.names.lookup y = some .local := by first | exact .inl rfl | exact .inr rfl)
    (hn : (assignEach [.Name x px, .Name y py] X.env).length = 2 := by rfl) (hst : (assignEach [.Name x px, .Name y py] X.env).findIdx? (·.1) = none := by rfl)
    (h1 : (assignEach [.Name x px, .Name y py] X.env).map (·.2) = assign (.Name x px) X.env :: (assignEach [.Name y py] X.env).map (·.2) := by rfl) (h2 : (assignEach [.Name y py] X.env).map (·.2) = assign (.Name y py) X.env :: (assignEach [] X.env).map (·.2) := by rfl) :
    ∃ v1 v2, Dt X.K d1 v1 S ∧ Dt X.K d2 v2 S ∧ EG X S (.Tuple [.Name x px, .Name y py] kk pos) v σ ((σ.set i (some v1)).set j (some v2)) := by
  obtain ⟨l, xs, rfl, hl, hx', _⟩ := h.tup_inv
  obtain ⟨v1, e1, p1⟩ := hx'.get (i := 0) rfl
  obtain ⟨v2, e2, p2⟩ := hx'.get (i := 1) rfl
  have hxs : xs = [v1, v2] := by
    have hl2 := hx'.1
    match xs, hl2 with
    | [u, w], _ => simp at e1 e2; rw [e1, e2]
  subst hxs
  exact ⟨v1, v2, p1, p2, fun H s Q q => hg_of (pg_tup hc (pgs_cons (pg_name hN hi hx hfx) (pgs_cons (pg_name hN hj hy hfy) pgs_nil h2) h1) hn hst) ⟨l, _, rfl, sqt_up s hl, rfl, _, _, rfl, _, _, rfl, rfl, q⟩⟩
theorem paired_snoc {α β : Type} {G : α → β → Prop} : ∀ {l : List α} {r : List β} {x : α} {y : β}, Paired G l r → G x y → Paired G (l ++ [x]) (r ++ [y])
  | _, _, _, _, .nil, h => .cons h .nil
  | _, _, _, _, .cons g t, h => .cons g (paired_snoc t h)
theorem paired_map {α β : Type} {f : α → β} : ∀ {l : List α} {r : List β}, Paired (fun a b => b = f a) l r → r = l.map f
  | _, _, .nil => rfl
  | _, _, .cons g t => by rw [g, paired_map t]; rfl
theorem take_snoc {α : Type} {l : List α} {i : Nat} {x : α} (h : l[i]? = some x) : l.take (i + 1) = l.take i ++ [x] := by
  rw [List.take_add_one, h]
  rfl
def gBlk (X : Cx) (scope : Scope) (tg : Expr) : TG := fun v σ' H' Q' => ∀ (s : Shared) (H0 : Hp) (C : Addr) (cl : List (Str × Addr)) (fp : List Addr), HG (X.blk s H0 scope (compEnvC scope cl C X.env) fp) tg v σ' H' Q'
def tBlk (X : Cx) (scope : Scope) (ifs : List Expr) : TT := fun σ' H' Q' => ∀ (s : Shared) (H0 : Hp) (C : Addr) (cl : List (Str × Addr)) (fp : List Addr), HTs (X.blk s H0 scope (compEnvC scope cl C X.env) fp) ifs σ' H' Q'
def eBlk (X : Cx) (scope : Scope) (e : Expr) : TE := fun σ' H' Q' => ∀ (s : Shared) (H0 : Hp) (C : Addr) (cl : List (Str × Addr)) (fp : List Addr), HE (X.blk s H0 scope (compEnvC scope cl C X.env) fp) e σ' H' Q'
section
variable {X : Cx} {σ : L2.St} {S : Hp} {elt tg iter : Expr} {ifs : List Expr} {scope : Scope} {own : List (Str × Nat)} {pos : Pos} {ds : List PyData} {p : PyData → Bool} {G : PyData → PyData → Prop}
theorem lc_loopG (hz : ds.length ≤ sizeLine)
    (hel : ∀ d ∈ ds, ∀ v S', Same S S' → Dt X.K d v S' → ∃ τ, wipe τ (own.map (·.2)) = wipe σ (own.map (·.2)) ∧ ∀ (s : Shared) (H0 : Hp) (C : Addr) (cl : List (Str × Addr)) (fp : List Addr),
      EG (X.blk s H0 scope (compEnvC scope cl C X.env) fp) S' tg v (wipe σ (own.map (·.2))) τ ∧ ETs (X.blk s H0 scope (compEnvC scope cl C X.env) fp) τ S' ifs (p d) ∧ (p d = true → EE (X.blk s H0 scope (compEnvC scope cl C X.env) fp) τ S' elt (Ex X.K (G d)))) {H : Hp} (Q : VK) (q : ∀ v S' H', Gr S H S' H' → (∃ rs, Paired G (ds.filter p) rs ∧ Dt X.K (.list rs) v S') → Q v H') {J : It} {S1 H1 : Hp} (g1 : Gr S H S1 H1) (it : ItP J S1 (Ds X.K ds)) :
    ∀ D, H1 D = none → ∃ W : Nat → Nat → Hp → Prop, (∃ m, W 0 m (upd H1 D (.lst []))) ∧ ∀ i m H, W i m H →
      (J.stop i H ∧ Q (.ref D) H) ∨ (J.go i H ∧ ∃ Nx : Hp → Prop, (∀ H', Nx H' → ∃ m', m' < m ∧ W (i + 1) m' H') ∧ ∀ x H', J.yld i H x H' → gBlk X scope tg x (wipe σ (own.map (·.2))) H' fun σ2 H2 => wipe σ2 (own.map (·.2)) = wipe σ (own.map (·.2)) ∧ tBlk X scope ifs σ2 H2 fun b H3 =>
        if b = true then eBlk X scope elt σ2 H3 fun y H4 => ∃ acc, H4 D = some (.lst acc) ∧ acc.length < sizeLine ∧ Nx (upd H4 D (.lst (acc ++ [y]))) else Nx H3) := by
  intro D hD
  have hD1 : S1 D = none := g1.sub.free hD
  have hlen : (Ds X.K ds).length = ds.length := ds_len
  refine lc_it (g := gBlk X scope tg) (tt := tBlk X scope ifs) (te := eBlk X scope elt) (vs := own.map (·.2)) (σ := σ) (Qd := Q (.ref D)) it (fun i H' => ∃ S' xs rs, Same S1 S' ∧ Same S' H' ∧ Same H1 H' ∧ (∀ a o, H1 a = some o → NT o → S' a = S1 a) ∧ S' D = none ∧ H' D = some (.lst xs) ∧ Paired G ((ds.take i).filter p) rs ∧ Dts X.K rs xs S' ∧ xs.length ≤ i)
    ⟨S1, [], [], Same.refl _, Same.mut g1.sub hD1, Same.new hD, fun _ _ _ _ => rfl, hD1, upd_same, .nil, .nil, Nat.le_refl _⟩ (fun i H' _ ⟨S', _, _, a, b, _⟩ => a.trans b) ?_ ?_
  · intro i x H2 H3 hi2 ⟨S2, xs, rs, k1, k2, k3, k4, k5, k6, k7, k8, k9⟩ y
    rw [hlen] at hi2
    obtain ⟨S3, g3, P, hP, px⟩ := y S2 k1 k2
    obtain ⟨d, hd⟩ : ∃ d, ds[i]? = some d := ⟨ds[i], List.getElem?_eq_getElem hi2⟩
    rw [ds_get hd] at hP
    obtain rfl := Option.some.inj hP
    have sS3 : Same S S3 := g1.st.trans (k1.trans g3.st)
    obtain ⟨τ, hw, hb⟩ := hel d (List.mem_of_getElem? hd) x S3 sS3 px
    have hf : ∀ q, p d = q → (ds.take (i + 1)).filter p = (ds.take i).filter p ++ (if q = true then [d] else []) := fun q hq => by
      rw [take_snoc hd, List.filter_append]
      cases q with
      | true => simp [hq]
      | false => simp [hq]
    intro sh H0 C cl fp
    refine (hb sh H0 C cl fp).1 H3 g3.sub _ ⟨hw, ?_⟩
    intro sh' H0' C' cl' fp'
    refine (hb sh' H0' C' cl' fp').2.1 H3 g3.sub _ fun S4 H4 g4 => ?_
    have g34 := g3.trans g4
    cases hpd : p d with
    | false =>
      refine iteF ⟨S4, xs, rs, k1.trans g34.st, g34.sub, k3.trans g34.hh, fun a o h n => (g34.old a o (k3 a o h) n).trans (k4 a o h n), (g34.old D _ k6 (fun _ z => nomatch z)).trans k5, g34.hh _ _ k6, ?_, k8.up g34.st, by omega⟩
      rw [hf false hpd]
      simpa using k7
    | true =>
      refine iteT ?_
      intro sh'' H0'' C'' cl'' fp''
      refine ((hb sh'' H0'' C'' cl'' fp'').2.2 hpd).up g4.st H4 g4.sub _ fun w S5 H5 g5 ⟨r, hr, hrw⟩ => ?_
      have g := g34.trans g5
      have hD5 : S5 D = none := (g.old D _ k6 (fun _ z => nomatch z)).trans k5
      refine ⟨xs, g.hh _ _ k6, Nat.lt_of_le_of_lt k9 (Nat.lt_of_lt_of_le hi2 hz), S5, xs ++ [w], rs ++ [r], k1.trans g.st, Same.mut g.sub hD5, fun a o h => ?_, fun a o h n => (g.old a o (k3 a o h) n).trans (k4 a o h n), hD5, upd_same, ?_, (k8.up g.st).snoc hrw, by rw [List.length_append]; show xs.length + 1 ≤ i + 1; omega⟩
      · rw [upd_ne (ne_of_none h hD)]; exact g.hh _ _ (k3 a o h)
      · rw [hf true hpd]
        exact paired_snoc k7 hr
  · intro H2 ⟨S2, xs, rs, k1, k2, k3, k4, k5, k6, k7, k8, k9⟩
    rw [hlen] at k7 k9
    rw [List.take_length] at k7
    refine q _ (upd S2 D (.lst xs)) H2 (g1.trans ⟨k1.trans (Same.new k5), fun a o h => ?_, k3, fun a o h n => by rw [upd_ne (ne_of_none h hD)]; exact k4 a o h n⟩) ⟨rs, k7, Dt.lst_mk upd_same (k8.up (Same.new k5)) (Nat.le_trans k9 hz)⟩
    by_cases ha : a = D
    · subst ha; rw [upd_same] at h; rw [k6]; exact h
    · rw [upd_ne ha] at h; exact k2 a o h
theorem lc_readG (hi : EI X σ S tg iter (Ds X.K ds)) (hz : ds.length ≤ sizeLine)
    (hel : ∀ d ∈ ds, ∀ v S', Same S S' → Dt X.K d v S' → ∃ τ, wipe τ (own.map (·.2)) = wipe σ (own.map (·.2)) ∧ ∀ (s : Shared) (H0 : Hp) (C : Addr) (cl : List (Str × Addr)) (fp : List Addr),
      EG (X.blk s H0 scope (compEnvC scope cl C X.env) fp) S' tg v (wipe σ (own.map (·.2))) τ ∧ ETs (X.blk s H0 scope (compEnvC scope cl C X.env) fp) τ S' ifs (p d) ∧ (p d = true → EE (X.blk s H0 scope (compEnvC scope cl C X.env) fp) τ S' elt (Ex X.K (G d)))) {H : Hp} (s : Same S H) (Q : VK) (q : ∀ v S' H', Gr S H S' H' → (∃ rs, Paired G (ds.filter p) rs ∧ Dt X.K (.list rs) v S') → Q v H') :
    tLc (bI X tg iter) (gBlk X scope tg) (tBlk X scope ifs) (eBlk X scope elt) (own.map (·.2)) σ H Q := hi H s _ fun J S1 H1 g1 it => lc_loopG hz hel Q q g1 it
theorem ee_lcG (hc : X.calm = true) (hN : X.N.Nodup) (ok : BlkOk X.N X.env.scope scope own) (hi : EI X σ S tg iter (Ds X.K ds)) (hz : ds.length ≤ sizeLine)
    (hel : ∀ d ∈ ds, ∀ v S', Same S S' → Dt X.K d v S' → ∃ τ, wipe τ (own.map (·.2)) = wipe σ (own.map (·.2)) ∧ ∀ (s : Shared) (H0 : Hp) (C : Addr) (cl : List (Str × Addr)) (fp : List Addr),
      EG (X.blk s H0 scope (compEnvC scope cl C X.env) fp) S' tg v (wipe σ (own.map (·.2))) τ ∧ ETs (X.blk s H0 scope (compEnvC scope cl C X.env) fp) τ S' ifs (p d) ∧ (p d = true → EE (X.blk s H0 scope (compEnvC scope cl C X.env) fp) τ S' elt (Ex X.K (G d))))
    (hs : ∀ x, foldedSetIterable iter X.env x = pure x := by intro _; rfl) :
    EE X σ S (.ListComp elt [⟨tg, iter, ifs, 0⟩] scope pos) (fun v S' => ∃ rs, Paired G (ds.filter p) rs ∧ Dt X.K (.list rs) v S') := fun H s Q q =>
  he_of (pe_lc (own := own) (wi := bI X tg iter) (g := gBlk X scope tg) (tt := tBlk X scope ifs) (te := eBlk X scope elt) hc hN pib ok
    (fun s H0 C cl fp => ⟨fun pins sh σ' H' v u Q' I r h => h s H0 C cl fp pins sh u I r⟩) (fun s H0 C cl fp => ⟨fun pins sh σ' H' Q' I h => h s H0 C cl fp pins sh I⟩) (fun s H0 C cl fp => ⟨fun pins sh σ' H' Q' I h => h s H0 C cl fp pins sh I⟩) hs) (lc_readG hi hz hel s Q q)
/-- name = [..] on one line, the name a local -/
theorem hs_setLcG {D : Ends} {rest : List Stmt} {i : Nat} {y : Str} {py spos : Pos} {H : Hp} (hc : X.calm = true) (hN : X.N.Nodup) (hy : X.N[i]? = some y) (hyl : X.env.scope.names.lookup y = some .local)
    (hsw : swapsWith (.ListComp elt [⟨tg, iter, ifs, 0⟩] scope pos) (some (.Name y py)) spos.line X.env = pure true) (ok : BlkOk X.N X.env.scope scope own) (hi : EI X σ S tg iter (Ds X.K ds)) (hz : ds.length ≤ sizeLine)
    (hel : ∀ d ∈ ds, ∀ v S', Same S S' → Dt X.K d v S' → ∃ τ, wipe τ (own.map (·.2)) = wipe σ (own.map (·.2)) ∧ ∀ (s : Shared) (H0 : Hp) (C : Addr) (cl : List (Str × Addr)) (fp : List Addr),
      EG (X.blk s H0 scope (compEnvC scope cl C X.env) fp) S' tg v (wipe σ (own.map (·.2))) τ ∧ ETs (X.blk s H0 scope (compEnvC scope cl C X.env) fp) τ S' ifs (p d) ∧ (p d = true → EE (X.blk s H0 scope (compEnvC scope cl C X.env) fp) τ S' elt (Ex X.K (G d)))) (s : Same S H)
    (q : ∀ v S' H', Gr S H S' H' → (∃ rs, Paired G (ds.filter p) rs ∧ Dt X.K (.list rs) v S') → HS X D rest (σ.set i (some v)) H')
    (hs : ∀ x, foldedSetIterable iter X.env x = pure x := by intro _; rfl) : HS X D (.Assign [.Name y py] (.ListComp elt [⟨tg, iter, ifs, 0⟩] scope pos) spos :: rest) σ H :=
  hs_of (pss_cons (ps_setLc (i := i) (own := own) (wi := bI X tg iter) (g := gBlk X scope tg) (tt := tBlk X scope ifs) (te := eBlk X scope elt) hc hN hy hyl hsw pib ok
    (fun s H0 C cl fp => ⟨fun pins sh σ' H' v u Q' I r h => h s H0 C cl fp pins sh u I r⟩) (fun s H0 C cl fp => ⟨fun pins sh σ' H' Q' I h => h s H0 C cl fp pins sh I⟩) (fun s H0 C cl fp => ⟨fun pins sh σ' H' Q' I h => h s H0 C cl fp pins sh I⟩) hs) psb) (lc_readG hi hz hel s _ q)
/-- each item by a function, under a test -/
theorem fun_of_G {f : PyData → PyData} {v : V} {S' : Hp} {K : PySem.W.Frag} (h : ∃ rs, Paired (fun d r => r = f d) (ds.filter p) rs ∧ Dt K (.list rs) v S') : Dt K (.list ((ds.filter p).map f)) v S' := by
  obtain ⟨rs, h1, h2⟩ := h
  rw [paired_map h1] at h2
  exact h2
end
end Z
namespace Z
open PySem PySem.Spec PyProof.Rows L2
/-! ## 10. statements -/
section
variable {X : Cx} {σ : L2.St} {S H : Hp} {e a b c : Expr} {P : V → Hp → Prop} {pos p : Pos} {D : Ends} {rest body orelse : List Stmt} {k : Bool} {st : Stmt} {d d1 d2 : PyData} {ds : List PyData}
theorem hs_cons {t : TS} (h : PS X st t) (q : t { D with nx := fun σ' H' => HS X D rest σ' H' } σ H) : HS X D (st :: rest) σ H := hs_of (pss_cons h psb) q
theorem hs_nil (q : D.nx σ H) : HS X D [] σ H := hs_of pss_nil q
theorem hs_set {i : Nat} {x : Str} {pos' : Pos} (h : EE X σ S e P) (s : Same S H) (hN : X.N.Nodup) (q : ∀ v S' H', Gr S H S' H' → P v S' → HS X D rest (σ.set i (some v)) H') (hi : X.N[i]? = some x := by rfl) (hx : Loc X.env.scope x := by first | exact Or.inl rfl | exact Or.inr rfl)
    (hs : swapsWith e (some (.Name x pos')) pos.line X.env = pure false := by rfl) (hf : X.fn x = true ∨ X.env.scope.names.lookup x = some .local := by first | exact .inl rfl | exact .inr rfl | assumption) : HS X D (.Assign [.Name x pos'] e pos :: rest) σ H :=
  hs_cons (ps_set hN hi hx peb hs hf) (h H s _ fun v S' H' g pv => q v S' H' g pv)
theorem hs_ret (h : EE X σ S e P) (s : Same S H) (q : ∀ v S' H', Gr S H S' H' → P v S' → D.rt v H') : HS X D (.Return (some e) pos :: rest) σ H := hs_cons (ps_ret peb) (h H s _ q)
theorem hs_expr (h : EE X σ S e P) (s : Same S H) (q : ∀ v S' H', Gr S H S' H' → P v S' → HS X D rest σ H') (hs : swapsWith e none pos.line X.env = pure false := by rfl) : HS X D (.Expr e pos :: rest) σ H := hs_cons (ps_expr peb hs) (h H s _ q)
/-- the ends of a block that stands ahead of rest -/
def Dn (X : Cx) (D : Ends) (rest : List Stmt) : Ends := { D with nx := fun σ' H' => HS X D rest σ' H' }
theorem hs_if (h : ET X σ S c k) (s : Same S H) (qt : k = true → ∀ S' H', Gr S H S' H' → HS X (Dn X D rest) body σ H') (qf : k = false → ∀ S' H', Gr S H S' H' → HS X (Dn X D rest) orelse σ H') : HS X D (.If c body orelse pos :: rest) σ H :=
  hs_cons (ps_if ptb psb psb) (h H s _ fun S' H' g => by
    cases k with
    | true => exact iteT (qt rfl S' H' g)
    | false => exact iteF (qf rfl S' H' g))
theorem hs_ifT (h : ET X σ S c true) (s : Same S H) (q : ∀ S' H', Gr S H S' H' → HS X (Dn X D rest) body σ H') : HS X D (.If c body orelse pos :: rest) σ H := hs_if h s (fun _ => q) (fun z => nomatch z)
/-- not taken, and there is no else -/
theorem hs_ifN (h : ET X σ S c false) (s : Same S H) (q : ∀ S' H', Gr S H S' H' → HS X D rest σ H') : HS X D (.If c body [] pos :: rest) σ H := hs_if h s (fun z => nomatch z) (fun _ S' H' g => hs_nil (q S' H' g))
theorem mn_eq {v : V} : Mn (fun (w : V) (_ : Hp) => w = v) := ⟨fun _ h => h⟩
theorem hs_mono {D' : Ends} {st : List Stmt} (h : HS X D st σ H) (h1 : ∀ σ H, D.nx σ H → D'.nx σ H) (h2 : ∀ v H, D.rt v H → D'.rt v H) (h3 : ∀ σ H, D.bk σ H → D'.bk σ H) (h4 : ∀ σ H, D.ct σ H → D'.ct σ H) : HS X D' st σ H := fun pins s I => thn (h pins s I) fun f s' q => by
  cases f with
  | next => obtain ⟨σ', H', I', z⟩ := q; exact ⟨σ', H', I', h1 _ _ z⟩
  | brk => obtain ⟨σ', H', I', z⟩ := q; exact ⟨σ', H', I', h3 _ _ z⟩
  | cont => obtain ⟨σ', H', I', z⟩ := q; exact ⟨σ', H', I', h4 _ _ z⟩
  | ret u => obtain ⟨v, σ', H', I', r, z⟩ := q; exact ⟨v, σ', H', I', r, h2 _ _ z⟩
/-- the ends of a turn: Iv again behind it -/
def Dl (X : Cx) (D : Ends) (rest : List Stmt) (S H : Hp) (Iv : L2.St → Hp → Prop) : Ends :=
  { D with nx := fun σ' H' => ∃ S', Gr S H S' H' ∧ Iv σ' S', ct := fun σ' H' => ∃ S', Gr S H S' H' ∧ Iv σ' S', bk := fun σ' H' => HS X D rest σ' H' }
/-- for, nothing that stands is changed -/
theorem hs_for {tg iter : Expr} {Ps : List (V → Hp → Prop)} (Iv : Nat → L2.St → Hp → Prop) (hp : PassesOwn (model X.prog X.w) X.A X.env X.xe) (hc : X.calm = true) (hi : EI X σ S tg iter Ps) (s : Same S H) (h0 : ∀ S' H', Gr S H S' H' → Iv 0 σ S')
    (step : ∀ i P σ1 S1 H1 x S2 H2, Ps[i]? = some P → Gr S H S1 H1 → Iv i σ1 S1 → Gr S1 H1 S2 H2 → P x S2 → HG X tg x σ1 H2 fun σ3 H3 => HS X (Dl X D rest S2 H2 (Iv (i + 1))) body σ3 H3)
    (done : ∀ σ1 S1 H1, Gr S H S1 H1 → Iv Ps.length σ1 S1 → HS X D rest σ1 H1)
    (hs : ∀ x, foldedSetIterable iter X.env x = pure x := by intro _; rfl) : HS X D (.For tg iter body [] pos :: rest) σ H :=
  hs_cons (ps_for hp hc pib pgb psb hs) (hi H s _ fun J S1 H1 g1 it => for_it (g := bG X tg) (tb := bS X body) it (fun i σ' H' => ∃ S', Gr S1 H1 S' H' ∧ Iv i σ' S') ⟨S1, Gr.refl g1.sub, h0 S1 H1 g1⟩ (fun i σ' H' _ ⟨S', g, _⟩ => g.st.trans g.sub)
    (fun i x σ' H2 H3 hlt ⟨S2, g2, iv⟩ y => by
      obtain ⟨S3, g3, P, hP, px⟩ := y S2 g2.st g2.sub
      intro pins sh u I r
      refine thn ((step i P σ' S2 H2 x S3 H3 hP (g1.trans g2) iv g3 px) pins sh u I r) fun _ s' ⟨σ4, H4, I4, q4⟩ => ⟨σ4, H4, I4, ?_⟩
      exact hs_mono q4 (fun σ5 H5 ⟨S5, g5, iv5⟩ => ⟨S5, g2.trans (g3.trans g5), iv5⟩) (fun _ _ z => z) (fun _ _ z => z) (fun σ5 H5 ⟨S5, g5, iv5⟩ => ⟨S5, g2.trans (g3.trans g5), iv5⟩)) (fun σ' H' ⟨S', g, iv⟩ => done σ' S' H' (g1.trans g) iv))
end
/-! ## 11. defs -/
/-- a def that is known: where it stands, what it promises (no exception leaves it) -/
structure KD (P : Program) (w : World) (K : PySem.W.Frag) (mg : Str → Option Value) (base : Heap) (x : Str) (k : Nat) (sp : Sp) : Prop where
  ex : ∃ f fd ps, FnOk P w K mg base CX0 k f fd ps sp ∧ mg x = some (.ref f) ∧ PySem.W.keepIn K (.ref f) = true ∧ Binds K fd ps []
theorem KD.mono {P : Program} {w : World} {K : PySem.W.Frag} {mg : Str → Option Value} {base : Heap} {x : Str} {j k : Nat} {sp : Sp} (h : KD P w K mg base x j sp) (hk : j ≤ k) : KD P w K mg base x k sp := by
  obtain ⟨f, fd, ps, F, r⟩ := h.ex
  exact ⟨f, fd, ps, F.mono hk, r⟩
section
variable {X : Cx} {σ : L2.St} {S S' : Hp} {e a b c : Expr} {es : List Expr} {P R : V → Hp → Prop} {Ps : List (V → Hp → Prop)} {pos p : Pos} {k : Nat} {x : Str} {sp : Sp} {d : PyData} {ds : List PyData}
def SpE (sp : Sp) (S : Hp) (Ps : List (V → Hp → Prop)) (R : V → Hp → Prop) : Prop := ∀ vs S1 H1, Same S S1 → Same S1 H1 → Al Ps vs S1 → ∀ Q : VK, (∀ v S2 H2, Gr S1 H1 S2 H2 → R v S2 → Q v H2) → sp vs H1 Q E0
theorem ee_call (D : KD X.prog X.w X.K X.mg X.base x k sp) (hr : Room k X.A) (ha : EA X σ S (e :: es) Ps) (hsp : SpE sp S Ps R) (hg : Gl X x := by rfl) (hdb : (x == ("__debug__" : Str)) = false := by decide)
    (he : starEach (e :: es) X.env = (false, eval e X.env) :: starEach es X.env := by rfl) (hpl : (backTo pos (starEach es X.env)).any (·.1) = false := by rfl) : EE X σ S (.Call (.Name x p) (e :: es) [] pos) R := fun H s Q q => by
  obtain ⟨f, fd, ps, F, hm, hk, hb⟩ := D.ex
  refine he_of (pe_call F hr hg hm hk hb .nil pass0 pab hdb he hpl) (ha.2 H s _ fun vs S1 H1 g1 al => ?_)
  rw [List.append_nil]
  exact hsp vs S1 H1 g1.st g1.sub al Q fun v S2 H2 g2 rv => q v S2 H2 (g1.trans g2) rv
/-- a def of data: F tells what it gives -/
def spD (K : PySem.W.Frag) (F : List PyData → PyData → Prop) : Sp := fun vs H Q _ => ∃ S ds d, Same S H ∧ Dts K ds vs S ∧ F ds d ∧ ∀ v S' H', Gr S H S' H' → Dt K d v S' → Q v H'
theorem spD_E {F : List PyData → PyData → Prop} (hF : F ds d) : SpE (spD X.K F) S (Ds X.K ds) (Dt X.K d) := fun vs S1 H1 _ s al Q q => ⟨S1, ds, d, s, al_dts al, hF, q⟩
theorem ee_callD {F : List PyData → PyData → Prop} (D : KD X.prog X.w X.K X.mg X.base x k (spD X.K F)) (hr : Room k X.A) (hF : F ds d) (ha : EA X σ S (e :: es) (Ds X.K ds)) (hg : Gl X x := by rfl) (hdb : (x == ("__debug__" : Str)) = false := by decide)
    (he : starEach (e :: es) X.env = (false, eval e X.env) :: starEach es X.env := by rfl) (hpl : (backTo pos (starEach es X.env)).any (·.1) = false := by rfl) : EE X σ S (.Call (.Name x p) (e :: es) [] pos) (Dt X.K d) :=
  ee_call D hr ha (spD_E hF) hg hdb he hpl
end
section
variable {P : Program} {w : World} {K : PySem.W.Frag} {mg : Str → Option Value} {base : Heap} {x qual : Str} {params : Arguments} {body : List Stmt} {scope : Scope} {dvs : List V} {kws : List (Str × V)} {f : Addr} {fd : FuncData} {N ps : List Str} {k : Nat} {sp : Sp}
/-- a def by its body -/
theorem fn_hs (F : FunD K x qual params body scope dvs kws f fd) (Sc : FnScope N ps scope) (len : ∀ vs H Q E, sp vs H Q E → vs.length = ps.length)
    (hb : ∀ (cdv : Value) (A : Around) (outer : List Env) (s : Shared) (H : Hp) (vs : List V) (Q : VK) (E : XK), Room k (A.deeper (envOfC qual scope s.heap.objs.size f cdv)) → sp vs H Q E →
      HS (cxOf CX0 P w K mg base N qual scope f cdv A outer s H E).nox { nx := fun _ H' => Q .non H', rt := Q } body (start N vs) H) : FnOk P w K mg base CX0 (k + 1) f fd ps sp :=
  F.ok Sc len fun cdv A outer s H vs Q E hr h => ⟨_, PSs.nox psb, hb cdv A outer s H vs Q E hr h⟩
theorem kd_mk (F : FunD K x qual params body scope [] kws f fd) (G : FnOk P w K mg base CX0 k f fd ps sp) (hm : mg x = some (.ref f)) (hb : Binds K fd ps []) : KD P w K mg base x k sp := ⟨f, fd, ps, G, hm, F.kp, hb⟩
end
end Z
namespace Z
open PySem PySem.Spec PyProof.Rows L2
theorem Dts.one {K : PySem.W.Frag} {d : PyData} {vs : List V} {S : Hp} (h : Dts K [d] vs S) : ∃ v, vs = [v] ∧ Dt K d v S := (dts_al h).one
theorem Dts.two {K : PySem.W.Frag} {d e : PyData} {vs : List V} {S : Hp} (h : Dts K [d, e] vs S) : ∃ v w, vs = [v, w] ∧ Dt K d v S ∧ Dt K e w S := (dts_al h).two
theorem Dts.three {K : PySem.W.Frag} {d e g : PyData} {vs : List V} {S : Hp} (h : Dts K [d, e, g] vs S) : ∃ v w u, vs = [v, w, u] ∧ Dt K d v S ∧ Dt K e w S ∧ Dt K g u S := (dts_al h).three
end Z
namespace Z
open PySem PySem.Spec PyProof.Rows L2
/-! ## 12. comprehensions in short -/
def tupP (q : PyData × PyData) : PyData := .tuple [q.1, q.2]
theorem zipD_eq (xs ys : List PyData) : zipD xs ys = (xs.zip ys).map tupP := by
  unfold zipD
  rw [List.zip_eq_zipWith, List.map_zipWith]
  rfl
section
variable {X : Cx} {σ : L2.St} {S : Hp} {elt iter : Expr} {ifs : List Expr} {scope : Scope} {pos px py tp : Pos} {ds : List PyData} {ps : List (PyData × PyData)} {α : Type} {enc : α → PyData} {i j kk : Nat} {x y : Str}
theorem wipe1 {σ : L2.St} {i : Nat} {v : Option V} : wipe ((wipe σ [i]).set i v) [i] = wipe σ [i] := by
  show (((σ.set i none).set i v).set i none) = σ.set i none
  rw [List.set_set, List.set_set]
theorem filter_true {α : Type} (l : List α) : l.filter (fun _ => true) = l := by
  induction l with
  | nil => rfl
  | cons a l ih => rw [List.filter_cons]; simp
/-- [elt for x in iter if t] -/
theorem ee_lcf {p : PyData → Bool} {f : PyData → α} (hc : X.calm = true) (hN : X.N.Nodup) (ok : BlkOk X.N X.env.scope scope [(x, i)]) (hi : EI X σ S (.Name x px) iter (Ds X.K ds)) (hz : ds.length ≤ sizeLine)
    (hel : ∀ d ∈ ds, ∀ v S', Same S S' → Dt X.K d v S' → ∀ (s : Shared) (H0 : Hp) (C : Addr) (cl : List (Str × Addr)) (fp : List Addr),
      ETs (X.blk s H0 scope (compEnvC scope cl C X.env) fp) ((wipe σ [i]).set i (some v)) S' ifs (p d) ∧ (p d = true → EE (X.blk s H0 scope (compEnvC scope cl C X.env) fp) ((wipe σ [i]).set i (some v)) S' elt (Dt X.K (enc (f d)))))
    (hix : X.N[i]? = some x := by rfl) (hx : ∀ (s : Shared) (H0 : Hp) (C : Addr) (cl : List (Str × Addr)) (fp : List Addr), Loc (X.blk s H0 scope (compEnvC scope cl C X.env) fp).env.scope x ∧ ((X.blk s H0 scope (compEnvC scope cl C X.env) fp).fn x = true ∨ (X.blk s H0 scope (compEnvC scope cl C X.env) fp).env.scope.names.lookup x = some .local) := by
      intros; exact ⟨by first | exact Or.inl rfl | exact Or.inr rfl, by first | exact .inl rfl | exact .inr rfl⟩)
    (hs : ∀ x, foldedSetIterable iter X.env x = pure x := by intro _; rfl) :
    EE X σ S (.ListComp elt [⟨.Name x px, iter, ifs, 0⟩] scope pos) (Dt X.K (.list (((ds.filter p).map f).map enc))) := by
  refine (ee_lcG (own := [(x, i)]) (p := p) (G := fun d r => r = enc (f d)) hc hN ok hi hz (fun d hd v S' s hv => ⟨(wipe σ [i]).set i (some v), wipe1, fun sh H0 C cl fp => ?_⟩) hs).imp fun v S' h => ?_
  · obtain ⟨h1, h2⟩ := hel d hd v S' s hv sh H0 C cl fp
    obtain ⟨k1, k2⟩ := hx sh H0 C cl fp
    exact ⟨eg_name hN hix k1 k2, h1, fun hp => (h2 hp).imp fun w S2 hw => ⟨_, rfl, hw⟩⟩
  · have e : (ds.filter p).map (fun d => enc (f d)) = ((ds.filter p).map f).map enc := by rw [List.map_map]; rfl
    rw [← e]
    exact fun_of_G h
/-- [elt for x in iter] -/
theorem ee_lc {f : PyData → α} (hc : X.calm = true) (hN : X.N.Nodup) (ok : BlkOk X.N X.env.scope scope [(x, i)]) (hi : EI X σ S (.Name x px) iter (Ds X.K ds)) (hz : ds.length ≤ sizeLine)
    (hel : ∀ d ∈ ds, ∀ v S', Same S S' → Dt X.K d v S' → ∀ (s : Shared) (H0 : Hp) (C : Addr) (cl : List (Str × Addr)) (fp : List Addr), EE (X.blk s H0 scope (compEnvC scope cl C X.env) fp) ((wipe σ [i]).set i (some v)) S' elt (Dt X.K (enc (f d))))
    (hix : X.N[i]? = some x := by rfl) (hx : ∀ (s : Shared) (H0 : Hp) (C : Addr) (cl : List (Str × Addr)) (fp : List Addr), Loc (X.blk s H0 scope (compEnvC scope cl C X.env) fp).env.scope x ∧ ((X.blk s H0 scope (compEnvC scope cl C X.env) fp).fn x = true ∨ (X.blk s H0 scope (compEnvC scope cl C X.env) fp).env.scope.names.lookup x = some .local) := by
      intros; exact ⟨by first | exact Or.inl rfl | exact Or.inr rfl, by first | exact .inl rfl | exact .inr rfl⟩)
    (hs : ∀ x, foldedSetIterable iter X.env x = pure x := by intro _; rfl) :
    EE X σ S (.ListComp elt [⟨.Name x px, iter, [], 0⟩] scope pos) (Dt X.K (.list ((ds.map f).map enc))) :=
  (ee_lcf (p := fun _ => true) hc hN ok hi hz (fun d hd v S' s hv sh H0 C cl fp => ⟨ets_nil, fun _ => hel d hd v S' s hv sh H0 C cl fp⟩) hix hx hs).is (by rw [filter_true])
/-- [elt for x in iter], elements that are not fixed -/
theorem ee_lcN {F : PyData → PyData → Prop} (hc : X.calm = true) (hN : X.N.Nodup) (ok : BlkOk X.N X.env.scope scope [(x, i)]) (hi : EI X σ S (.Name x px) iter (Ds X.K ds)) (hz : ds.length ≤ sizeLine)
    (hel : ∀ d ∈ ds, ∀ v S', Same S S' → Dt X.K d v S' → ∀ (s : Shared) (H0 : Hp) (C : Addr) (cl : List (Str × Addr)) (fp : List Addr), EE (X.blk s H0 scope (compEnvC scope cl C X.env) fp) ((wipe σ [i]).set i (some v)) S' elt (Ex X.K (F d)))
    (hix : X.N[i]? = some x := by rfl) (hx : ∀ (s : Shared) (H0 : Hp) (C : Addr) (cl : List (Str × Addr)) (fp : List Addr), Loc (X.blk s H0 scope (compEnvC scope cl C X.env) fp).env.scope x ∧ ((X.blk s H0 scope (compEnvC scope cl C X.env) fp).fn x = true ∨ (X.blk s H0 scope (compEnvC scope cl C X.env) fp).env.scope.names.lookup x = some .local) := by
      intros; exact ⟨by first | exact Or.inl rfl | exact Or.inr rfl, by first | exact .inl rfl | exact .inr rfl⟩)
    (hs : ∀ x, foldedSetIterable iter X.env x = pure x := by intro _; rfl) :
    EE X σ S (.ListComp elt [⟨.Name x px, iter, [], 0⟩] scope pos) (Ex X.K fun d => ∃ rs, d = .list rs ∧ Paired F ds rs) := by
  refine (ee_lcG (own := [(x, i)]) (p := fun _ => true) (G := F) hc hN ok hi hz (fun d hd v S' s hv => ⟨(wipe σ [i]).set i (some v), wipe1, fun sh H0 C cl fp => ?_⟩) hs).imp fun v S' h => ?_
  · obtain ⟨k1, k2⟩ := hx sh H0 C cl fp
    exact ⟨eg_name hN hix k1 k2, ets_nil, fun _ => hel d hd v S' s hv sh H0 C cl fp⟩
  · obtain ⟨rs, h1, h2⟩ := h
    rw [filter_true] at h1
    exact ⟨_, ⟨rs, rfl, h1⟩, h2⟩
theorem wipe2 {σ : L2.St} {i j : Nat} {v w : Option V} (hij : i ≠ j) : wipe (((wipe σ [i, j]).set i v).set j w) [i, j] = wipe σ [i, j] := by
  show ((((((σ.set j none).set i none).set i v).set j w).set j none).set i none) = ((σ.set j none).set i none)
  rw [List.set_set, List.set_set, List.set_comm _ _ hij, List.set_set, List.set_set]
/-- [elt for x, y in iter if t] -/
theorem ee_lc2f {p : PyData × PyData → Bool} {f : PyData × PyData → α} (hc : X.calm = true) (hN : X.N.Nodup) (ok : BlkOk X.N X.env.scope scope [(x, i), (y, j)]) (hi : EI X σ S (.Tuple [.Name x px, .Name y py] kk tp) iter (Ds X.K (ps.map tupP))) (hz : ps.length ≤ sizeLine)
    (hel : ∀ q ∈ ps, ∀ v w S', Same S S' → Dt X.K q.1 v S' → Dt X.K q.2 w S' → ∀ (s : Shared) (H0 : Hp) (C : Addr) (cl : List (Str × Addr)) (fp : List Addr),
      ETs (X.blk s H0 scope (compEnvC scope cl C X.env) fp) (((wipe σ [i, j]).set i (some v)).set j (some w)) S' ifs (p q) ∧ (p q = true → EE (X.blk s H0 scope (compEnvC scope cl C X.env) fp) (((wipe σ [i, j]).set i (some v)).set j (some w)) S' elt (Dt X.K (enc (f q)))))
    (hij : i ≠ j := by decide) (hix : X.N[i]? = some x := by rfl) (hjy : X.N[j]? = some y := by rfl) (hx : ∀ (s : Shared) (H0 : Hp) (C : Addr) (cl : List (Str × Addr)) (fp : List Addr), (Loc (X.blk s H0 scope (compEnvC scope cl C X.env) fp).env.scope x ∧ ((X.blk s H0 scope (compEnvC scope cl C X.env) fp).fn x = true ∨ (X.blk s H0 scope (compEnvC scope cl C X.env) fp).env.scope.names.lookup x = some .local)) ∧
      (Loc (X.blk s H0 scope (compEnvC scope cl C X.env) fp).env.scope y ∧ ((X.blk s H0 scope (compEnvC scope cl C X.env) fp).fn y = true ∨ (X.blk s H0 scope (compEnvC scope cl C X.env) fp).env.scope.names.lookup y = some .local)) := by
      intros; exact ⟨⟨by first | exact Or.inl rfl | exact Or.inr rfl, by first | exact .inl rfl | exact .inr rfl⟩, ⟨by first | exact Or.inl rfl | exact Or.inr rfl, by first | exact .inl rfl | exact .inr rfl⟩⟩)
    (ha : ∀ (s : Shared) (H0 : Hp) (C : Addr) (cl : List (Str × Addr)) (fp : List Addr), (assignEach [.Name x px, .Name y py] (X.blk s H0 scope (compEnvC scope cl C X.env) fp).env).length = 2 ∧ (assignEach [.Name x px, .Name y py] (X.blk s H0 scope (compEnvC scope cl C X.env) fp).env).findIdx? (·.1) = none ∧
      (assignEach [.Name x px, .Name y py] (X.blk s H0 scope (compEnvC scope cl C X.env) fp).env).map (·.2) = assign (.Name x px) (X.blk s H0 scope (compEnvC scope cl C X.env) fp).env :: (assignEach [.Name y py] (X.blk s H0 scope (compEnvC scope cl C X.env) fp).env).map (·.2) ∧ (assignEach [.Name y py] (X.blk s H0 scope (compEnvC scope cl C X.env) fp).env).map (·.2) = assign (.Name y py) (X.blk s H0 scope (compEnvC scope cl C X.env) fp).env :: (assignEach [] (X.blk s H0 scope (compEnvC scope cl C X.env) fp).env).map (·.2) := by intros; exact ⟨rfl, rfl, rfl, rfl⟩)
    (hs : ∀ x, foldedSetIterable iter X.env x = pure x := by intro _; rfl) :
    EE X σ S (.ListComp elt [⟨.Tuple [.Name x px, .Name y py] kk tp, iter, ifs, 0⟩] scope pos) (Dt X.K (.list (((ps.filter p).map f).map enc))) := by
  have e0 : ∀ q ∈ ps.map tupP, ∃ r ∈ ps, q = tupP r := fun q hq => by
    obtain ⟨r, h1, h2⟩ := List.mem_map.mp hq
    exact ⟨r, h1, h2.symm⟩
  let un : PyData → PyData × PyData := fun d => match d with
    | .tuple [a, b] => (a, b)
    | _ => (.none, .none)
  have un_t : ∀ q, un (tupP q) = q := fun q => rfl
  refine (ee_lcG (own := [(x, i), (y, j)]) (p := fun d => p (un d)) (G := fun d r => r = enc (f (un d))) hc hN ok hi (by rw [List.length_map]; exact hz) (fun d hd v S' s hv => ?_) hs).imp fun v S' h => ?_
  · obtain ⟨q, hq, rfl⟩ := e0 d hd
    obtain ⟨l, xs, rfl, hl, hx', _⟩ := hv.tup_inv
    obtain ⟨v1, e1, p1⟩ := hx'.get (i := 0) (d := q.1) rfl
    obtain ⟨v2, e2, p2⟩ := hx'.get (i := 1) (d := q.2) rfl
    have hxs : xs = [v1, v2] := by
      have hl2 := hx'.1
      match xs, hl2 with
      | [u, w], _ => simp at e1 e2; rw [e1, e2]
    subst hxs
    refine ⟨((wipe σ [i, j]).set i (some v1)).set j (some v2), wipe2 hij, fun sh H0 C cl fp => ?_⟩
    obtain ⟨h1, h2⟩ := hel q hq v1 v2 S' s p1 p2 sh H0 C cl fp
    obtain ⟨⟨k1, k2⟩, ⟨k3, k4⟩⟩ := hx sh H0 C cl fp
    obtain ⟨a1, a2, a3, a4⟩ := ha sh H0 C cl fp
    refine ⟨fun H s2 Q qq => ?_, h1, fun hp => (h2 hp).imp fun w S2 hw => ⟨_, rfl, hw⟩⟩
    exact hg_of (pg_tup hc (pgs_cons (pg_name hN hix k1 k2) (pgs_cons (pg_name hN hjy k3 k4) pgs_nil a4) a3) a1 a2) ⟨l, _, rfl, sqt_up s2 hl, rfl, _, _, rfl, _, _, rfl, rfl, qq⟩
  · have h3 := fun_of_G (f := fun d => enc (f (un d))) (p := fun d => p (un d)) h
    have e : ((ps.map tupP).filter fun d => p (un d)).map (fun d => enc (f (un d))) = ((ps.filter p).map f).map enc := by
      rw [List.filter_map, List.map_map, List.map_map]
      rfl
    rw [← e]
    exact h3
/-- [elt for x, y in iter] -/
theorem ee_lc2 {f : PyData × PyData → α} (hc : X.calm = true) (hN : X.N.Nodup) (ok : BlkOk X.N X.env.scope scope [(x, i), (y, j)]) (hi : EI X σ S (.Tuple [.Name x px, .Name y py] kk tp) iter (Ds X.K (ps.map tupP))) (hz : ps.length ≤ sizeLine)
    (hel : ∀ q ∈ ps, ∀ v w S', Same S S' → Dt X.K q.1 v S' → Dt X.K q.2 w S' → ∀ (s : Shared) (H0 : Hp) (C : Addr) (cl : List (Str × Addr)) (fp : List Addr), EE (X.blk s H0 scope (compEnvC scope cl C X.env) fp) (((wipe σ [i, j]).set i (some v)).set j (some w)) S' elt (Dt X.K (enc (f q))))
    (hij : i ≠ j := by decide) (hix : X.N[i]? = some x := by rfl) (hjy : X.N[j]? = some y := by rfl) (hx : ∀ (s : Shared) (H0 : Hp) (C : Addr) (cl : List (Str × Addr)) (fp : List Addr), (Loc (X.blk s H0 scope (compEnvC scope cl C X.env) fp).env.scope x ∧ ((X.blk s H0 scope (compEnvC scope cl C X.env) fp).fn x = true ∨ (X.blk s H0 scope (compEnvC scope cl C X.env) fp).env.scope.names.lookup x = some .local)) ∧
      (Loc (X.blk s H0 scope (compEnvC scope cl C X.env) fp).env.scope y ∧ ((X.blk s H0 scope (compEnvC scope cl C X.env) fp).fn y = true ∨ (X.blk s H0 scope (compEnvC scope cl C X.env) fp).env.scope.names.lookup y = some .local)) := by
      intros; exact ⟨⟨by first | exact Or.inl rfl | exact Or.inr rfl, by first | exact .inl rfl | exact .inr rfl⟩, ⟨by first | exact Or.inl rfl | exact Or.inr rfl, by first | exact .inl rfl | exact .inr rfl⟩⟩)
    (ha : ∀ (s : Shared) (H0 : Hp) (C : Addr) (cl : List (Str × Addr)) (fp : List Addr), (assignEach [.Name x px, .Name y py] (X.blk s H0 scope (compEnvC scope cl C X.env) fp).env).length = 2 ∧ (assignEach [.Name x px, .Name y py] (X.blk s H0 scope (compEnvC scope cl C X.env) fp).env).findIdx? (·.1) = none ∧
      (assignEach [.Name x px, .Name y py] (X.blk s H0 scope (compEnvC scope cl C X.env) fp).env).map (·.2) = assign (.Name x px) (X.blk s H0 scope (compEnvC scope cl C X.env) fp).env :: (assignEach [.Name y py] (X.blk s H0 scope (compEnvC scope cl C X.env) fp).env).map (·.2) ∧ (assignEach [.Name y py] (X.blk s H0 scope (compEnvC scope cl C X.env) fp).env).map (·.2) = assign (.Name y py) (X.blk s H0 scope (compEnvC scope cl C X.env) fp).env :: (assignEach [] (X.blk s H0 scope (compEnvC scope cl C X.env) fp).env).map (·.2) := by intros; exact ⟨rfl, rfl, rfl, rfl⟩)
    (hs : ∀ x, foldedSetIterable iter X.env x = pure x := by intro _; rfl) :
    EE X σ S (.ListComp elt [⟨.Tuple [.Name x px, .Name y py] kk tp, iter, [], 0⟩] scope pos) (Dt X.K (.list ((ps.map f).map enc))) :=
  (ee_lc2f (p := fun _ => true) hc hN ok hi hz (fun q hq v w S' s hv hw sh H0 C cl fp => ⟨ets_nil, fun _ => hel q hq v w S' s hv hw sh H0 C cl fp⟩) hij hix hjy hx ha hs).is (by rw [filter_true])
end
end Z
namespace Z
open PySem PySem.Spec PyProof.Rows L2
/-! ## 13. the law's box: an object known by what holds of it alone -/
def Stab (b : Addr) (φ : Heap → Prop) : Prop := ∀ h1 h2 : Heap, φ h1 → (∀ o, h1.get? b = some o → h2.get? b = some o) → φ h2
section
variable {P : Program} {w : World} {H : Hp} {h : Heap} {b : Addr} {φ : Heap → Prop} {xs : List V}
theorem hok_swap {o o' : HO} (x : HOk P w H h) (hb : H b = some o) (no : ∀ a, o ≠ .own a) (nt : ∀ xs, o ≠ .tup xs) (new : ObjOk P w (upd H b o') h b o') : HOk P w (upd H b o') h := fun a u e => by
  by_cases ha : a = b
  · subst ha; rw [upd_same] at e; cases e; exact new
  · rw [upd_ne ha] at e
    refine (x a u e).stay (fun _ _ _ q => q) (fun c q => ?_) fun c ys q => ?_
    · rw [upd_ne (fun z => by subst z; rw [hb] at q; exact no a (Option.some.inj q))]; exact q
    · rw [upd_ne (fun z => by subst z; rw [hb] at q; exact nt ys (Option.some.inj q))]; exact q
end
theorem un_swap {fs ex : List Addr} {H H1 H2 H3 : Hp} {h h' : Heap} (u : Un fs ex H1 H2 h h') (k1 : ∀ a, H a = none → H1 a = none) (k2 : ∀ a, H a = none → H2 a = none → H3 a = none)
    (kt : ∀ a xs, H a = some (.tup xs) → H3 a = some (.tup xs)) (kf : ∀ a o x, H a = some (.frz o x) → H3 a = some (.frz o x)) (kb : ∀ a ps, H a = some (.tbl ps) → ∃ more, H3 a = some (.tbl (ps ++ more))) : Un fs ex H H3 h h' where
  keep := fun a o q n => u.keep a o q (k1 a n)
  slot := fun a o q n => u.slot a o q (k1 a n)
  free := fun a o q n x => k2 a n (u.free a o q (k1 a n) x)
  there := u.there
  tups := kt
  frzs := kf
  tbls := kb
section
variable {P : Program} {w : World} {K : PySem.W.Frag} {mg : Str → Option Value} {base : Heap} {k : Nat} {f : Addr} {fd : FuncData} {ps : List Str} {sp0 sp : Sp}
/-- a def over the list at b, for callers that know b by φ -/
theorem FnOk.box (F : FnOk P w K mg base CX0 k f fd ps sp0) (len : ∀ vs H Q E, sp vs H Q E → vs.length = ps.length)
    (hc : ∀ vs H Q E, sp vs H Q E → ∃ (b : Addr) (φ : Heap → Prop), H b = some (.ext φ) ∧ ∀ h, φ h → ∃ xs, ObjOk P w H h b (.lst xs) ∧
      sp0 vs (upd H b (.lst xs)) (fun v H' => ∃ ys, H' b = some (.lst ys) ∧ (∀ h', ObjOk P w H' h' b (.lst ys) → φ h') ∧ (∀ a o, H a = some o → a ≠ b → H' a = some o) ∧ Q v (upd H' b (.ext φ))) E0) : FnOk P w K mg base CX0 k f fd ps sp := by
  refine ⟨len, fun A outer s H args us vs Q E hr e0 hb rv hsp => ?_⟩
  obtain ⟨b, φ, hbo, hc⟩ := hc vs H Q E hsp
  obtain ⟨p, ⟨ob, hob⟩, st⟩ := e0.hok b _ hbo
  obtain ⟨xs, hx, hs0⟩ := hc s.heap p
  have ne : ∀ a, H a = none → a ≠ b := fun a n z => by rw [z, hbo] at n; cases n
  have e1 : Env0 P w K mg base A outer s (upd H b (.lst xs)) := ⟨e0.frames, e0.mod, fun a o q => ⟨(e0.bs a o q).1, by rw [upd_ne (ne a (e0.bs a o q).2)]; exact (e0.bs a o q).2⟩, e0.bsz, e0.funs, fun a ha => by rw [upd_ne (ne a (e0.frf a ha))]; exact e0.frf a ha,
    hok_swap e0.hok hbo (fun _ z => nomatch z) (fun _ z => nomatch z) hx, e0.bare⟩
  refine codeAny_mono (F.run A outer s _ args us vs _ E0 hr e1 hb rv hs0) fun r s' hq => ?_
  cases r with
  | error e => exact hq
  | ok fl =>
    cases fl with
    | ret u =>
      obtain ⟨v, H', os, bare, un, hok, r, ys, hy, hφ, hsm, q⟩ := hq
      refine ⟨v, upd H' b (.ext φ), os, bare, ?_, ?_, r, q⟩
      · refine un_swap un (fun a n => by rw [upd_ne (ne a n)]; exact n) (fun a n n2 => by rw [upd_ne (ne a n)]; exact n2) (fun a ys e => ?_) (fun a o x e => ?_) fun a ps e => ?_
        · have hne : a ≠ b := fun z => by rw [z, hbo] at e; cases e
          rw [upd_ne hne]; exact hsm a _ e hne
        · have hne : a ≠ b := fun z => by rw [z, hbo] at e; cases e
          rw [upd_ne hne]; exact hsm a _ e hne
        · have hne : a ≠ b := fun z => by rw [z, hbo] at e; cases e
          refine ⟨#[], ?_⟩
          rw [upd_ne hne, Array.append_empty]; exact hsm a _ e hne
      · have ox := hok b _ hy
        refine hok_swap hok hy (fun _ z => nomatch z) (fun _ z => nomatch z) ⟨hφ _ ox, ?_, st⟩
        obtain ⟨_, its, n, _, e⟩ := ox
        exact ⟨_, e⟩
    | next => exact hq
    | brk => exact hq
    | cont => exact hq
/-- a def that hands back a new list, for callers that know it by φ -/
theorem FnOk.close (F : FnOk P w K mg base CX0 k f fd ps sp0) (len : ∀ vs H Q E, sp vs H Q E → vs.length = ps.length)
    (hc : ∀ vs H Q E, sp vs H Q E → sp0 vs H (fun v H' => ∃ b ys φ, H b = none ∧ H' b = some (.lst ys) ∧ Same H H' ∧ (∀ h', ObjOk P w H' h' b (.lst ys) → φ h') ∧ Stab b φ ∧ Q v (upd H' b (.ext φ))) E0) : FnOk P w K mg base CX0 k f fd ps sp := by
  refine ⟨len, fun A outer s H args us vs Q E hr e0 hb rv hsp => ?_⟩
  refine codeAny_mono (F.run A outer s _ args us vs _ E0 hr e0 hb rv (hc vs H Q E hsp)) fun r s' hq => ?_
  cases r with
  | error e => exact hq
  | ok fl =>
    cases fl with
    | ret u =>
      obtain ⟨v, H', os, bare, un, hok, r, b, ys, φ, hn, hy, hs, hφ, st, q⟩ := hq
      refine ⟨v, upd H' b (.ext φ), os, bare, ?_, ?_, r, q⟩
      · refine un_swap un (fun _ n => n) (fun a n n2 => by rw [upd_ne (fun z => by rw [z, hy] at n2; cases n2)]; exact n2) (fun a ys e => ?_) (fun a o x e => ?_) fun a ps e => ?_
        · rw [upd_ne (ne_of_none e hn)]; exact hs _ _ e
        · rw [upd_ne (ne_of_none e hn)]; exact hs _ _ e
        · refine ⟨#[], ?_⟩
          rw [upd_ne (ne_of_none e hn), Array.append_empty]; exact hs _ _ e
      · have ox := hok b _ hy
        refine hok_swap hok hy (fun _ z => nomatch z) (fun _ z => nomatch z) ⟨hφ _ ox, ?_, st⟩
        obtain ⟨_, its, n, _, e⟩ := ox
        exact ⟨_, e⟩
    | next => exact hq
    | brk => exact hq
    | cont => exact hq
end
/-- what the box holds: the cells, the place, a great rest, a mixed number, a count -/
structure BoxV (c : Addr) (xs : List V) : Prop where
  ex : ∃ i g m k : Int, xs = [.ref c, .int i, .int g, .int m, .int k] ∧ 0 ≤ i ∧ 0 ≤ g ∧ 0 ≤ m ∧ m < 2147483648 ∧ 0 ≤ k
def boxPhi (b c : Addr) : Heap → Prop := fun h => ∃ (xs : List V) (its : List Value) (n : Nat), BoxV c xs ∧ Vals xs its ∧ h.get? b = some { cls := .type "list", data := .seq its.toArray n }
theorem box_stab {b c : Addr} : Stab b (boxPhi b c) := fun h1 h2 ⟨xs, its, n, hx, r, e⟩ k => ⟨xs, its, n, hx, r, k _ e⟩
theorem box_of {P : Program} {w : World} {H : Hp} {h : Heap} {b c : Addr} {xs : List V} (hx : BoxV c xs) (o : ObjOk P w H h b (.lst xs)) : boxPhi b c h := by
  obtain ⟨_, its, n, r, e⟩ := o
  exact ⟨xs, its, n, hx, r, e⟩
theorem of_box {P : Program} {w : World} {H : Hp} {h : Heap} {b c : Addr} (p : boxPhi b c h) : ∃ xs, BoxV c xs ∧ ObjOk P w H h b (.lst xs) := by
  obtain ⟨xs, its, n, hx, r, e⟩ := p
  refine ⟨xs, hx, ?_, its, n, r, e⟩
  obtain ⟨i, g, m, k, rfl, _⟩ := hx.ex
  show 5 ≤ 16777216
  decide
/-- v is a box -/
def BX : V → Hp → Prop := fun v S => ∃ (b c : Addr) (ns : List Int), v = .ref b ∧ b ≠ c ∧ S b = some (.ext (boxPhi b c)) ∧ S c = some (.lst (ns.map V.int)) ∧ ns.length ≤ 63
instance : Mn BX := ⟨fun s ⟨b, c, ns, e, n, h1, h2, l⟩ => ⟨b, c, ns, e, n, s _ _ h1, s _ _ h2, l⟩⟩
/-- a def over the box and data: any of what G tells may come back -/
def spB (K : PySem.W.Frag) (F : List PyData → (PyData → Prop) → Prop) : Sp := fun vs H Q _ => ∃ S v ws ds G, vs = v :: ws ∧ Same S H ∧ BX v S ∧ Dts K ds ws S ∧ F ds G ∧ ∀ d, G d → ∀ u S' H', Gr S H S' H' → Dt K d u S' → Q u H'
section
variable {X : Cx} {σ : L2.St} {S S' : Hp} {e a b c : Expr} {es : List Expr} {P R : V → Hp → Prop} {Ps : List (V → Hp → Prop)} {pos p : Pos} {k : Nat} {x : Str} {sp : Sp} {d : PyData} {ds : List PyData}
theorem spB_E {F : List PyData → (PyData → Prop) → Prop} {G : PyData → Prop} (hF : F ds G) : SpE (spB X.K F) S (BX :: Ds X.K ds) (Ex X.K G) := fun vs S1 H1 _ s al Q q => by
  cases al with
  | cons p r => exact ⟨S1, _, _, ds, G, rfl, s, p, al_dts r, hF, fun d hd u S' H' g pd => q u S' H' g ⟨d, hd, pd⟩⟩
theorem ee_callBx {F : List PyData → (PyData → Prop) → Prop} {G : PyData → Prop} (D : KD X.prog X.w X.K X.mg X.base x k (spB X.K F)) (hr : Room k X.A) (hF : F ds G) (ha : EA X σ S (e :: es) (BX :: Ds X.K ds)) (hg : Gl X x := by rfl) (hdb : (x == ("__debug__" : Str)) = false := by decide)
    (he : starEach (e :: es) X.env = (false, eval e X.env) :: starEach es X.env := by rfl) (hpl : (backTo pos (starEach es X.env)).any (·.1) = false := by rfl) : EE X σ S (.Call (.Name x p) (e :: es) [] pos) (Ex X.K G) :=
  ee_call D hr ha (spB_E hF) hg hdb he hpl
/-! ### what is not fixed, taken on -/
theorem ex_imp {K : PySem.W.Frag} {F G : PyData → Prop} {v : V} {S : Hp} (h : Ex K F v S) (f : ∀ d, F d → G d) : Ex K G v S := by
  obtain ⟨d, hd, p⟩ := h
  exact ⟨d, f d hd, p⟩
theorem EE.ex {F : PyData → Prop} (h : EE X σ S e (Dt X.K d)) (f : F d) : EE X σ S e (Ex X.K F) := h.imp fun v S' p => ⟨d, f, p⟩
theorem EE.exi {F G : PyData → Prop} (h : EE X σ S e (Ex X.K F)) (f : ∀ d, F d → G d) : EE X σ S e (Ex X.K G) := h.imp fun v S' p => ex_imp p f
/-- + of numbers that are not fixed -/
theorem ee_addE {F G : Int → Prop} (ha : EE X σ S a (Ex X.K fun d => ∃ i, d = .int i ∧ F i)) (hb : EE X σ S b (Ex X.K fun d => ∃ i, d = .int i ∧ G i)) : EE X σ S (.BinOp a .Add b pos) (Ex X.K fun d => ∃ i, d = .int i ∧ ∃ x y, F x ∧ G y ∧ i = x + y) :=
  ee_op op_add ha hb fun v w S1 H1 _ s ⟨d, ⟨i, e, fi⟩, pv⟩ ⟨d', ⟨j, e', gj⟩, pw⟩ Q q => by
    subst e; subst e'
    cases pv; cases pw
    exact ⟨i, j, rfl, rfl, q _ S1 H1 (Gr.refl s) ⟨_, ⟨_, rfl, i, j, fi, gj, rfl⟩, .int _⟩⟩
theorem ee_tupleE {F : List PyData → Prop} (hm : X.mg "tuple" = none) (ha : EE X σ S a (Ex X.K fun d => ∃ rs, d = .list rs ∧ F rs)) (hg : Gl X "tuple" := by rfl)
    (hs : starEach [a] X.env = (false, eval a X.env) :: starEach [] X.env := by rfl) : EE X σ S (.Call (.Name "tuple" p) [a] [] pos) (Ex X.K fun d => ∃ rs, d = .tuple rs ∧ F rs) :=
  ee_callTy call_tuple_of hm boot_tuple (ea_1 ha hs) (fun vs S1 H1 _ s al Q q => by
    obtain ⟨v, rfl, d, ⟨rs, rfl, hf⟩, pv⟩ := al.one
    obtain ⟨l, xs, rfl, hl, hx, z⟩ := pv.lst_inv
    exact ⟨l, xs, rfl, .inl ⟨sql_of (s _ _ hl), fun t ht => q _ _ _ (Gr.new s ht) ⟨_, ⟨rs, rfl, hf⟩, Dt.tup_mk (tus_of upd_same) (hx.up (Same.new (s.free ht))) z⟩⟩⟩) hg (he := hs) (hpl := by rfl)
/-- displays of data that is not fixed -/
def Exs (K : PySem.W.Frag) (Fs : List (PyData → Prop)) : List (V → Hp → Prop) := Fs.map (Ex K)
inductive AllF : List (PyData → Prop) → List PyData → Prop
  | nil : AllF [] []
  | cons {F : PyData → Prop} {Fs : List (PyData → Prop)} {d : PyData} {ds : List PyData} : F d → AllF Fs ds → AllF (F :: Fs) (d :: ds)
theorem AllF.len {Fs : List (PyData → Prop)} {ds : List PyData} (h : AllF Fs ds) : ds.length = Fs.length := by
  induction h with
  | nil => rfl
  | cons _ _ ih => simp [ih]
theorem al_exs {K : PySem.W.Frag} : ∀ {Fs : List (PyData → Prop)} {vs : List V} {H : Hp}, Al (Exs K Fs) vs H → ∃ ds, AllF Fs ds ∧ Dts K ds vs H
  | [], _, _, h => by cases h; exact ⟨[], .nil, .nil⟩
  | F :: Fs, _, _, h => by cases h with
    | cons p r =>
      obtain ⟨ds, h1, h2⟩ := al_exs r
      obtain ⟨d, hd, pd⟩ := p
      exact ⟨d :: ds, .cons hd h1, .cons pd h2⟩
theorem ee_tupE {es : List Expr} {x1} {Fs : List (PyData → Prop)} (h : EA X σ S es (Exs X.K Fs)) (hz : Fs.length ≤ sizeLine := by show _ ≤ 16777216; exact Nat.le_of_ble_eq_true rfl) : EE X σ S (.Tuple es x1 pos) (Ex X.K fun d => ∃ ds, d = .tuple ds ∧ AllF Fs ds) :=
  ee_tupA (vsP := fun vs S' => ∃ ds, AllF Fs ds ∧ Dts X.K ds vs S') (fun H s Q q => h.2 H s Q fun vs S' H' g al => q vs S' H' g (al_exs al)) (fun vs S' ⟨ds, h1, h2⟩ => by rw [h2.1, h1.len]; exact hz)
    fun vs S' p _ hp ⟨ds, h1, h2⟩ => ⟨_, ⟨ds, rfl, h1⟩, Dt.tup_mk (tus_of upd_same) (h2.up (Same.new hp)) (by rw [h2.1, h1.len]; exact hz)⟩
end
end Z
namespace Z
open PySem PySem.Spec PyProof.Rows L2
/-! ### lists that change -/
section
variable {X : Cx} {σ : L2.St} {S H : Hp} {e o i : Expr} {P : V → Hp → Prop} {pos pos' : Pos} {D : Ends} {rest : List Stmt} {b : Addr} {xs : List V} {k : Int} {j : Nat} {v : V}
/-- o[i] = e -/
theorem hs_setL [Mn P] (he : EE X σ H e P) (ho : EE X σ H o (fun w _ => w = .ref b)) (hi : EE X σ H i (Dt X.K (.int k))) (hb : H b = some (.lst xs)) (hk : ixN xs.length k = some j)
    (q : ∀ v H', Same H H' → P v H' → HS X D rest σ (upd H' b (.lst (xs.set j v))))
    (ha : ∀ v, assign (.Subscript o i pos') X.env v = (do
      let ov ← holding [v] (eval o X.env)
      let iv ← holding [v, ov] (eval i X.env)
      standAt pos'
      holding [v, ov, iv] (setItem ov iv v)
      release [v, ov, iv] []) := by intro _; rfl)
    (hs : swapsWithSole [.Subscript o i pos'] e pos.line X.env = pure false := by rfl) (hw : swappedStores [.Subscript o i pos'] e X.env = pure none := by rfl)
    (h1 : (assignEach [.Subscript o i pos'] X.env).map (·.2) = [assign (.Subscript o i pos') X.env] := by rfl) : HS X D (.Assign [.Subscript o i pos'] e pos :: rest) σ H :=
  hs_cons (ps_asg peb (pg_sub peb peb set_list ha) hs hw h1) (he H (Same.refl H) _ fun v S1 H1 g1 pv => ho H1 g1.hh _ fun w S2 H2 g2 pw => hi H2 (g1.hh.trans g2.hh) _ fun u S3 H3 g3 pu => by
    subst pw
    cases pu
    have s3 := (g1.hh.trans g2.hh).trans g3.hh
    exact ⟨b, xs, k, j, rfl, rfl, s3 _ _ hb, hk, q v H3 s3 (Mn.up (g1.sub.trans (g2.hh.trans g3.hh)) pv)⟩)
/-- an item of such a list -/
theorem ee_ixB (hb : S b = some (.lst xs)) (ho : EE X σ S o (fun w _ => w = .ref b)) (hi : EE X σ S i (Dt X.K (.int k))) (hx : atI xs k = some v) (hp : ∀ S', Same S S' → P v S') (hs : PlainIx i := by exact fun _ _ => rfl) : EE X σ S (.Subscript o i pos) P := by
  haveI := mn_eq (v := .ref b)
  exact ee_2 (pe_ix ix_list peb peb hs) ho hi fun x y S1 H1 s0 s px py Q q => by
    subst px
    cases py
    exact ⟨b, xs, k, v, rfl, rfl, sql_of (s _ _ (s0 _ _ hb)), hx, q _ S1 H1 (Gr.refl s) (hp S1 s0)⟩
end
end Z
namespace Z
open PySem PySem.Spec PyProof.Rows L2
/-- an if whose ways meet in M, told of the whole heap -/
theorem hs_ifR {X : Cx} {σ : L2.St} {S H : Hp} {c : Expr} {pos : Pos} {D : Ends} {rest body orelse : List Stmt} {k : Bool} (M : L2.St → Hp → Prop) (h : ET X σ S c k) (s : Same S H) (qt : k = true → ∀ S' H', Gr S H S' H' → HS X { D with nx := M } body σ H') (qf : k = false → ∀ S' H', Gr S H S' H' → HS X { D with nx := M } orelse σ H')
    (h2 : ∀ σ' H', M σ' H' → HS X D rest σ' H') : HS X D (.If c body orelse pos :: rest) σ H :=
  hs_cons (ps_if ptb psb psb) (h H s _ fun S' H' g => by
    have key : ∀ st, HS X { D with nx := M } st σ H' → HS X (Dn X D rest) st σ H' := fun st z => hs_mono z (fun σ' H2 m => h2 σ' H2 m) (fun _ _ z => z) (fun _ _ z => z) (fun _ _ z => z)
    cases k with
    | true => exact iteT (key _ (qt rfl S' H' g))
    | false => exact iteF (key _ (qf rfl S' H' g)))
theorem ee_mulS {X : Cx} {σ : L2.St} {S : Hp} {a b : Expr} {pos : Pos} {i j : Int} (hc : CMul i j) (ha : EE X σ S a (Dt X.K (.int i))) (hb : EE X σ S b (Dt X.K (.int j))) : EE X σ S (.BinOp a .Mult b pos) (Dt X.K (.int (i * j))) := ee_op op_mul ha hb (opE_I hc fun _ => .int _)
end Z
namespace Z
open PySem PySem.Spec PyProof.Rows L2
/-! ## 14. more rules -/
section
variable {X : Cx} {σ : L2.St} {S S' : Hp} {e a b c o elt tg iter : Expr} {es : List Expr} {P R : V → Hp → Prop} {Ps : List (V → Hp → Prop)} {pos p px : Pos} {k : Bool} {x y : Str} {d d1 d2 : PyData} {ds ds1 ds2 : List PyData} {i j : Nat} {n : Int} {scope : Scope} {own : List (Str × Nat)} {D : Ends} {rest : List Stmt}
/-- xs[i], i any place of the list -/
theorem atI_nat {xs : List PyData} {n : Int} (h0 : 0 ≤ n) (h1 : n < (xs.length : Int)) : ∃ d, d ∈ xs ∧ atI xs n = some d := by
  refine ⟨xs[n.toNat]'(by omega), List.getElem_mem _, ?_⟩
  unfold atI ixN
  rw [if_pos h0, if_pos h1]
  exact List.getElem?_eq_getElem _
theorem ee_ixE (ha : EE X σ S a (Dt X.K (.list ds))) (hb : EE X σ S b (Ex X.K fun d => ∃ n, d = .int n ∧ 0 ≤ n ∧ n < (ds.length : Int))) (hs : PlainIx b := by exact fun _ _ => rfl) : EE X σ S (.Subscript a b pos) (Ex X.K fun d => d ∈ ds) :=
  ee_2 (pe_ix ix_list peb peb hs) ha hb fun x y S1 H1 _ s px ⟨d, ⟨n, e, n0, n1⟩, py⟩ Q q => by
    subst e
    cases py
    obtain ⟨l, xs, rfl, hl, hx, z⟩ := px.lst_inv
    obtain ⟨d, hd, he⟩ := atI_nat n0 n1
    obtain ⟨x, h1, h2⟩ := atI_dts hx he
    exact ⟨l, xs, n, x, rfl, rfl, sql_of (s _ _ hl), h1, q _ S1 H1 (Gr.refl s) ⟨d, hd, h2⟩⟩
/-- n in (a, b, ..) -/
theorem inV_int (n : Int) : ∀ ns : List Int, inV (.int n) (ns.map V.int) = ns.contains n
  | [] => rfl
  | m :: ns => by
    unfold inV
    rw [List.map_cons, List.any_cons]
    have h := inV_int n ns
    unfold inV at h
    rw [h, List.contains_cons]
    show (m == n || _) = _
    rw [show (m == n) = (n == m) by
      by_cases e : m = n
      · rw [e]
      · rw [beq_false_of_ne e, beq_false_of_ne (Ne.symm e)]]
theorem flat_ints (ns : List Int) : (ns.map V.int).all flatV = true := by
  induction ns with
  | nil => rfl
  | cons n ns ih => rw [List.map_cons, List.all_cons, ih]; rfl
theorem opE_inT {K : PySem.W.Frag} {ns : List Int} : OpE (rIn K false) S (Dt K (.int n)) (Dt K (.tuple (ns.map .int))) (Dt K (.bool (ns.contains n))) := fun v w S1 H1 _ s pv pw Q q => by
  cases pv
  obtain ⟨l, xs, rfl, hl, hx, z⟩ := pw.tup_inv
  rw [dts_int hx] at hl
  refine ⟨l, ns.map V.int, rfl, .inr (sqt_up s hl), rfl, flat_ints ns, ?_⟩
  rw [if_neg Bool.false_ne_true, inV_int]
  exact q _ S1 H1 (Gr.refl s) (.bl _)
theorem et_inT {ns : List Int} (ha : EE X σ S a (Dt X.K (.int n))) (hb : EE X σ S b (Dt X.K (.tuple (ns.map .int)))) (hm : behindInMarks .In b = false := by rfl) : ET X σ S (.Compare a [.In] [b] pos) (ns.contains n) := et_cmp op_in_seq ha hb opE_inT hm
/-- e.index(True) of a list of bools -/
theorem ee_indexT {bs : List Bool} {j : Nat} {apos : Pos} (hj : bs[j]? = some true) (hno : ∀ m, m < j → bs[m]? = some false) (ha : EE X σ S a (Dt X.K (.list (bs.map .bool)))) (hb : EE X σ S b (Dt X.K (.bool true)))
    (hbase : attributeBase a "index" X.env (eval a X.env) = eval a X.env := by rfl)
    (hfew : ((backTo pos (starEach [b] X.env)).all (fun x => !x.1) && (backToKw pos (keywordEach [] X.env)).all (fun x => x.1.isSome) && decide (([b] : List Expr).length + ([] : List Keyword).length + (if ([] : List Keyword).isEmpty then 0 else 1) < 30)) = true := by rfl)
    (hline : (apos.endLine == pos.line) = true := by rfl) (hs : starEach [b] X.env = (false, eval b X.env) :: starEach [] X.env := by rfl) (hplain : (backTo pos (starEach [] X.env)).any (·.1) = false := by rfl) :
    EE X σ S (.Call (.Attribute a "index" apos) [b] [] pos) (Dt X.K (.int (j : Nat))) := fun H s Q q =>
  he_of (pe_bm PySem.F.plainAttrs_list PySem.F.slot_list_index PySem.F.type_list_index mt_index peb pab hbase hfew hline hs hplain) (ha H s _ fun v S1 H1 g1 pv => by
    obtain ⟨l, xs, rfl, hl, hx, z⟩ := pv.lst_inv
    have e := dts_bl hx
    subst e
    refine ⟨.inl ⟨rfl, _, sql_of (g1.sub _ _ hl)⟩, ((ea_1 hb hs).up g1.st).2 H1 g1.sub _ fun vs S2 H2 g2 al => ?_⟩
    obtain ⟨w, rfl, pw⟩ := al.one
    cases pw
    refine ⟨l, bs.map V.bl, .bl true, j, .bl true, rfl, rfl, sql_of (g2.hh _ _ (g1.sub _ _ hl)), rfl, ?_, ?_, rfl, fun m z' hm hz => ?_, q _ S2 H2 (g1.trans g2) (.int _)⟩
    · rw [List.all_map]; exact List.all_eq_true.mpr fun b _ => rfl
    · rw [List.getElem?_map, hj]; rfl
    · rw [List.getElem?_map, hno m hm] at hz
      cases hz
      rfl)
/-- a, b = e, e a pair that is not fixed -/
theorem hs_unpackE {H : Hp} {F G : PyData → Prop} {px py pt : Pos} {kt : Nat} (hc : X.calm = true) (hN : X.N.Nodup) (ha : EE X σ S e (Ex X.K fun d => ∃ d1 d2, d = .tuple [d1, d2] ∧ F d1 ∧ G d2)) (s : Same S H)
    (q : ∀ d1 d2 v w S' H', F d1 → G d2 → Gr S H S' H' → Dt X.K d1 v S' → Dt X.K d2 w S' → HS X D rest ((σ.set i (some v)).set j (some w)) H')
    (hi : X.N[i]? = some x := by rfl) (hj : X.N[j]? = some y := by rfl) (hx : Loc X.env.scope x := by first | exact Or.inl rfl | exact Or.inr rfl) (hy : Loc X.env.scope y := by first | exact Or.inl rfl | exact Or.inr rfl)
    (hfx : X.fn x = true ∨ X.env.scope.names.lookup x = some .local := by first | exact .inl rfl | exact .inr rfl) (hfy : X.fn y = true ∨ X.env.scope.names.lookup y = some .local := by first | exact .inl rfl | exact .inr rfl)
    (hn : (assignEach [.Name x px, .Name y py] X.env).length = 2 := by rfl) (hst : (assignEach [.Name x px, .Name y py] X.env).findIdx? (·.1) = none := by rfl)
    (h1 : (assignEach [.Name x px, .Name y py] X.env).map (·.2) = assign (.Name x px) X.env :: (assignEach [.Name y py] X.env).map (·.2) := by rfl) (h2 : (assignEach [.Name y py] X.env).map (·.2) = assign (.Name y py) X.env :: (assignEach [] X.env).map (·.2) := by rfl)
    (hss : swapsWithSole [.Tuple [.Name x px, .Name y py] kt pt] e pos.line X.env = pure false := by rfl) (hw : swappedStores [.Tuple [.Name x px, .Name y py] kt pt] e X.env = pure none := by rfl)
    (h3 : (assignEach [.Tuple [.Name x px, .Name y py] kt pt] X.env).map (·.2) = [assign (.Tuple [.Name x px, .Name y py] kt pt) X.env] := by rfl) : HS X D (.Assign [.Tuple [.Name x px, .Name y py] kt pt] e pos :: rest) σ H :=
  hs_cons (ps_asg peb pgb hss hw h3) (ha H s _ fun v S' H' g ⟨d, ⟨d1, d2, e, f1, f2⟩, pv⟩ => by
    subst e
    obtain ⟨v1, v2, p1, p2, hg⟩ := eg_pair (σ := σ) (px := px) (py := py) (pos := pt) (kk := kt) hc hN hi hj hx hy pv hfx hfy hn hst h1 h2
    exact hg H' g.sub _ (q d1 d2 v1 v2 S' H' f1 f2 g p1 p2))
theorem AllF.one {F : PyData → Prop} {ds : List PyData} (h : AllF [F] ds) : ∃ d, ds = [d] ∧ F d := by
  cases h with
  | cons f r => cases r; exact ⟨_, rfl, f⟩
theorem AllF.two {F G : PyData → Prop} {ds : List PyData} (h : AllF [F, G] ds) : ∃ d e, ds = [d, e] ∧ F d ∧ G e := by
  cases h with
  | cons f r => obtain ⟨e, rfl, g⟩ := r.one; exact ⟨_, _, rfl, f, g⟩
theorem ee_pairE {F G : PyData → Prop} {x1} (ha : EE X σ S a (Ex X.K F)) (hb : EE X σ S b (Ex X.K G)) (hs : starEach [a, b] X.env = (false, eval a X.env) :: starEach [b] X.env := by rfl) (hs2 : starEach [b] X.env = (false, eval b X.env) :: starEach [] X.env := by rfl) : EE X σ S (.Tuple [a, b] x1 pos) (Ex X.K fun d => ∃ d1 d2, d = .tuple [d1, d2] ∧ F d1 ∧ G d2) :=
  (ee_tupE (Fs := [F, G]) (ea_2 ha hb hs hs2)).exi fun d ⟨ds, e, h⟩ => by
    obtain ⟨d1, d2, rfl, f, g⟩ := h.two
    exact ⟨d1, d2, e, f, g⟩
/-- sep.join(list of texts) -/
theorem ee_join {z : Str} {ys : List Str} {apos : Pos} (hz : (ys.map (·.length)).sum + ys.length * z.length ≤ 16777216) (ha : EE X σ S a (Dt X.K (.str z))) (hb : EE X σ S b (Dt X.K (.list (ys.map .str))))
    (hbase : attributeBase a "join" X.env (eval a X.env) = eval a X.env := by rfl)
    (hfew : ((backTo pos (starEach [b] X.env)).all (fun x => !x.1) && (backToKw pos (keywordEach [] X.env)).all (fun x => x.1.isSome) && decide (([b] : List Expr).length + ([] : List Keyword).length + (if ([] : List Keyword).isEmpty then 0 else 1) < 30)) = true := by rfl)
    (hline : (apos.endLine == pos.line) = true := by rfl) (hs : starEach [b] X.env = (false, eval b X.env) :: starEach [] X.env := by rfl) (hplain : (backTo pos (starEach [] X.env)).any (·.1) = false := by rfl) :
    EE X σ S (.Call (.Attribute a "join" apos) [b] [] pos) (Dt X.K (.str (Txt.join z ys))) := fun H s Q q =>
  he_of (pe_bm PySem.F.plainAttrs_str PySem.F.slot_str_join PySem.F.type_str_join mt_join peb pab hbase hfew hline hs hplain) (ha H s _ fun v S1 H1 g1 pv => by
    cases pv
    refine ⟨rfl, ((ea_1 hb hs).up g1.st).2 H1 g1.sub _ fun vs S2 H2 g2 al => ?_⟩
    obtain ⟨w, rfl, pw⟩ := al.one
    obtain ⟨l, xs, rfl, hl, hx, _⟩ := pw.lst_inv
    rw [dts_str hx] at hl
    exact ⟨z, l, ys, rfl, rfl, .inl (sql_of (g2.sub _ _ hl)), hz, q _ S2 H2 (g1.trans g2) (.str _)⟩)
end
end Z
namespace Z
open PySem PySem.Spec PyProof.Rows L2 PySem.Froz
/-! ## 15. set(text), a text of different ascii signs -/
section
variable {prog : Program} {w : World} {A : Around} {E : Value → Shared → Prop} {s : Shared}
theorem fresh_fits (led : Bool) : (SetTable.fresh 0 0 led).fits 0 = true := by cases led <;> decide +kernel
theorem run_ok {P : Program} : ∀ (cs : List Nat) (tk : Tok) (D : SD) (l : List Str), TxOk P w D l → ∃ l', TxOk P w (runD w cs tk D) l' ∧ l'.length = cs.length + l.length
  | [], _, D, l, F => ⟨l, F, by simp⟩
  | c :: r, tk, D, l, F => by
    obtain ⟨l', h1, h2⟩ := run_ok r (tk + 2) _ (sing c :: l) (add_ok tk F)
    exact ⟨l', h1, by rw [h2]; simp; omega⟩
theorem finU_get {s : Shared} {a it : Addr} {T : String} {X : SD} {n m : Nat} {o : Obj} (hne : a ≠ it) (h : s.heap.get? a = some o) : (finU s a T it X n m).heap.get? a = some (sObj T X) :=
  Heap.get?_push_of_some _ (Heap.get?_push_of_some _ (PySem.Heap.get?_update_of_ne _ (Ne.symm hne) (get_upd _ h rfl)))
theorem finU_old {s : Shared} {a it b : Addr} {T : String} {X : SD} {n m : Nat} {o : Obj} (h1 : b ≠ a) (h2 : b ≠ it) (h : s.heap.get? b = some o) : (finU s a T it X n m).heap.get? b = some o :=
  Heap.get?_push_of_some _ (Heap.get?_push_of_some _ (PySem.Heap.get?_update_of_ne _ (Ne.symm h2) (PySem.Heap.get?_update_of_ne _ (Ne.symm h1) h)))
theorem call_set_text {x : Str} {u : Tok} {Q : Value → Shared → Prop} (hh : A.handled = none) (ha : x.cps.all (· < 128) = true) (hnd : x.cps.toList.Nodup) (hlen : x.cps.size ≤ 1000)
    (h : ∀ (h' : Heap) (tk : Nat) (o : Obj) (es : Array (Int × Value)) (ep : Nat) (t : SetTable), h'.get? s.heap.objs.size = some o → o = sObj "set" (es, ep, t) → t.fits es.size = true → es.size = x.cps.size →
      (∀ b o, b < s.heap.objs.size → s.heap.get? b = some o → h'.get? b = some o) → Q (.ref s.heap.objs.size) { s with heap := h', toks := tk }) :
    wpAny (model prog w) A (call (.type "set") [.str x u]) Q E s := by
  obtain ⟨c, tl, hmro⟩ := PySem.F.called_set.mro
  have hmade := PySem.F.called_set.made
  have hsub := PySem.F.called_set.sub
  refine wpAny_call (codeAny_of_tree ?_)
  show wpAny _ _ (callAny (.type "set") _) _ _ _
  refine wpAny_pure ⟨Code.quiet_builtin _ (by decide +kernel), codeAny_builtin PySem.F.entry_type_call ?_⟩
  rw [Around.under_plain (weight_type_call_type "set" [.str x u] []) rfl]
  have h1 := PySem.F.called_set.notType
  have h2 := PySem.F.called_set.canCreate
  have hct := PySem.F.typeCall_set_1 (.str x u)
  repeat (any_goals (first | assumption | wp_step))
  refine codeAny_mono (code_set_new_1 (.str x u) (E := E) (Q₁ := fun obj s₁ => ∃ led : Bool, obj = .ref s.heap.objs.size ∧ s₁ = { s with heap := s.heap.push { cls := .type "set", dict := none, data := .set #[] 0 (.fresh 0 0 led) } }) fun led => ⟨led, rfl, rfl⟩) fun r s₁ hr => ?_
  cases r with
  | error e => exact hr
  | ok fl =>
    cases fl with
    | ret obj =>
      obtain ⟨led, rfl, rfl⟩ := hr
      have hS : (s.heap.push { cls := .type "set", dict := none, data := .set #[] 0 (.fresh 0 0 led) }).get? s.heap.objs.size = some { cls := .type "set", dict := none, data := .set #[] 0 (.fresh 0 0 led) } := Heap.get?_push_size _ rfl
      have hT : Shared.TypeIs { s with heap := s.heap.push { cls := .type "set", dict := none, data := .set #[] 0 (.fresh 0 0 led) } } (.ref s.heap.objs.size) "set" := ⟨_, hS, rfl⟩
      have hli := PySem.F.called_set.init.lookup
      have hbi := PySem.F.called_set.init.bind (.ref s.heap.objs.size)
      repeat (any_goals (first | assumption | wp_step))
      refine codeAny_mono (codeAny_call_builtin (R := wants (fun r s₂ => r = .none ∧ ∃ h' tk es ep t, s₂ = { s with heap := h', toks := tk } ∧
          h'.get? s.heap.objs.size = some (sObj "set" (es, ep, t)) ∧ t.fits es.size = true ∧ es.size = x.cps.size ∧
          (∀ b o, b < s.heap.objs.size → s.heap.get? b = some o → h'.get? b = some o)) E) PySem.F.called_set.init.plain PySem.F.entry_set_init (check_set_init_1 hT ?_)) fun r₂ s₂ hr₂ => ?_
      · have hsls := PySem.F.sub_str_set
        have hslf := PySem.F.sub_str_frozenset
        have hne : (Value.type "str" == Value.type "dict") = false := by decide
        unfold Builtin.«set.__init__» noKeywords Builtin.Frozenset.updateFrom
        generalize hPI : pyIter = PI
        wp_walk
        subst hPI
        refine wpAny_pyIter_ascii ha ?_
        refine wpAny_bind (wpAny_runValue ?_)
        have e1 : (s.heap.push { cls := .type "set", dict := none, data := .set #[] 0 (.fresh 0 0 led) }).objs.size = s.heap.objs.size + 1 := Heap.size_push _ _
        have hSz : (s.heap.push { cls := .type "set", dict := none, data := .set #[] 0 (.fresh 0 0 led) }).get? s.heap.objs.size = some (sObj "set" (#[], 0, .fresh 0 0 led)) := hS
        have hS2 : ((s.heap.push { cls := .type "set", dict := none, data := .set #[] 0 (.fresh 0 0 led) }).push { cls := .type "str_ascii_iterator", data := .fields #[.str x u, .int 0 0] }).get? s.heap.objs.size = some (sObj "set" (#[], 0, .fresh 0 0 led)) := Heap.get?_push_of_some _ hSz
        have hI2 : ((s.heap.push { cls := .type "set", dict := none, data := .set #[] 0 (.fresh 0 0 led) }).push { cls := .type "str_ascii_iterator", data := .fields #[.str x u, .int 0 0] }).get? (s.heap.objs.size + 1) = some (itObj x u 0) := by
          rw [← e1]; exact Heap.get?_push_size _ rfl
        have hne2 : s.heap.objs.size ≠ s.heap.objs.size + 1 := by omega
        rw [e1]
        refine code_update (P := prog) (w := w) (x := x) (u := u) (T := "set") hne2 (by simp [hh]) x.cps.toList 0 (#[], 0, .fresh 0 0 led) [] _ (by simp) hS2 hI2 (TxOk.nil (fresh_fits led)) (by simp) hnd (by rw [Array.length_toList]; unfold scanBound; simp; omega) ?_
        obtain ⟨l', F', hl'⟩ := run_ok (w := w) (P := prog) x.cps.toList s.toks (#[], 0, .fresh 0 0 led) [] (TxOk.nil (fresh_fits led))
        refine wpAny_pure (wpAny_pure ⟨rfl, _, _, _, _, _, rfl, finU_get (m := x.cps.toList.length) hne2 hS2, F'.fit, by rw [F'.sz, hl']; simp, fun b o hb e => ?_⟩)
        exact finU_old (m := x.cps.toList.length) (Nat.ne_of_lt hb) (Nat.ne_of_lt (Nat.lt_succ_of_lt hb)) (Heap.get?_push_of_some _ (Heap.get?_push_of_some _ e))
      · cases r₂ with
        | error e => exact hr₂
        | ok fl₂ =>
          cases fl₂ with
          | ret r =>
            obtain ⟨rfl, h', tk, es, ep, t, rfl, hS', hf, hsz, hk'⟩ := hr₂
            repeat (any_goals (first | assumption | wp_step))
            exact h _ _ _ es ep t hS' rfl hf hsz hk'
          | _ => exact hr₂.elim
    | _ => exact hr.elim
end
def tLenSetS (ta : TE) : TE := fun σ H Q => ta σ H fun x H1 => ∃ z : Str, x = .str z ∧ z.cps.all (· < 128) = true ∧ z.cps.toList.Nodup ∧ z.cps.size ≤ 1000 ∧ Q (.int (z.cps.size : Nat)) H1
theorem pe_lenSetS {X : Cx} {a : Expr} {ta : TE} {p p2 q pos : Pos} (hg : Gl X "len") (hm : X.mg "len" = none) (hg2 : Gl X "set") (hm2 : X.mg "set" = none) (ha : PE X a ta) (hc : X.calm = true := by rfl)
    (na : starEach [a] X.env = (false, eval a X.env) :: starEach [] X.env := by rfl) : PE X (.Call (.Name "len" p) [.Call (.Name "set" p2) [a] [] q] [] pos) (tLenSetS ta) := by
  refine ⟨fun pins s σ H Q I h => ?_⟩
  refine Call_ (ld_blt I hg hm boot_len ?_)
  refine PyProof.Rows.callWith_builtin1 (PyProof.Rows.args_cons ?_ rfl) rfl rfl
  refine Call_ (ld_blt I hg2 hm2 boot_set ?_)
  refine PyProof.Rows.callWith_type1 (PyProof.Rows.args_cons (thn (ha.run pins s σ H _ I h) fun v s1 ⟨x, H1, I1, r1, q1⟩ => PyProof.Rows.args_nil ?_) na) na rfl
  obtain ⟨z, rfl, ha1, hnd, hl, q1⟩ := q1
  obtain ⟨u, rfl⟩ := r1
  refine call_set_text (I1.ok.hd hc) ha1 hnd hl fun h' tk o es ep t ho he hf hn hk => ?_
  refine PyProof.Rows.args_nil ?_
  subst he
  have I2 : Inv X pins σ H1 { s1 with heap := h', toks := tk } := I1.kept fun b o e => hk b o (Heap.lt_size e) e
  exact call_len_set ho ⟨rfl, rfl, rfl⟩ rfl hf (by rw [hn] <;> omega) ⟨.int z.cps.size, H1, I2.tok _, ⟨_, by rw [hn]⟩, q1⟩
theorem ee_lenSetS {X : Cx} {σ : L2.St} {S : Hp} {a : Expr} {z : Str} {p p2 q pos : Pos} (hm : X.mg "len" = none) (hm2 : X.mg "set" = none) (ha : EE X σ S a (Dt X.K (.str z))) (h1 : z.cps.all (· < 128) = true) (h2 : z.cps.toList.Nodup) (h3 : z.cps.size ≤ 1000) (hc : X.calm = true := by rfl) (hg : Gl X "len" := by rfl) (hg2 : Gl X "set" := by rfl)
    (na : starEach [a] X.env = (false, eval a X.env) :: starEach [] X.env := by rfl) : EE X σ S (.Call (.Name "len" p) [.Call (.Name "set" p2) [a] [] q] [] pos) (Dt X.K (.int (z.cps.size : Nat))) := fun H s Q qq =>
  he_of (pe_lenSetS hg hm hg2 hm2 peb hc na) (ha H s _ fun v S1 H1 g1 pv => by
    cases pv
    exact ⟨z, rfl, h1, h2, h3, qq _ S1 H1 g1 (.int _)⟩)
end Z
namespace Y
open PySem PySem.Spec PyProof.Rows L2 Z
/-! ## enumerate over a tuple -/
theorem meets_enumT {v : Value} {o : Obj} {H : Heap → Prop} (B : Begins v o H) :
    Meets (Builtin.«enumerate.__new__» ⟨[.type "enumerate", v], []⟩) (fun _ R s => H s.heap ∧
      R (.ok (.ret (.ref (s.heap.push o).objs.size))) { s with heap := (s.heap.push o).push { cls := .type "enumerate", data := .fields #[.none, .bool false, .ref s.heap.objs.size, rawInt 0, .none, .none] } }) :=
  .of_wp fun prog w A R s h => by
    obtain ⟨hp, g, d, tk, os⟩ := s; obtain ⟨h1, h⟩ := h
    have hsub := sub_enumerate
    have q1 : ∀ {A' : Around} {E : Value → Shared → Prop} {Q : Value → Shared → Prop}, Q (.ref hp.objs.size) ⟨hp.push o, g, d, tk, os⟩ → wpAny (model prog w) A' (pyIter v) Q E ⟨hp, g, d, tk, os⟩ :=
      fun q => B.iter prog w _ _ ⟨hp, g, d, tk, os⟩ _ h1 q
    wp_walk using q1
    refine wpAny_stack_any fun st => wpAny_pure ?_
    split
    · rename_i c _ _ _ _ _
      cases (c == Value.type "enumerate")
      · wp_walk using q1
        exact ⟨_, rfl, h⟩
      · wp_walk using q1
        exact ⟨_, rfl, h⟩
    · wp_walk using q1
      exact ⟨_, rfl, h⟩
theorem call_enumT {prog : Program} {w : World} {A : Around} {E : Value → Shared → Prop} {s : Shared} {v : Value} {o : Obj} {H : Heap → Prop} {Q : Value → Shared → Prop} (B : Begins v o H) (h1 : H s.heap)
    (h : ∀ h', IsEnum h' (s.heap.objs.size + 1) s.heap.objs.size 0 .none → h'.get? s.heap.objs.size = some o → h'.objs.size = s.heap.objs.size + 2 →
      (∀ b o, s.heap.get? b = some o → h'.get? b = some o) → Q (.ref (s.heap.objs.size + 1)) { s with heap := h' }) :
    wpAny (model prog w) A (call (.type "enumerate") [v]) Q E s := by
  refine callType_new F.called_enumerate (by decide) (F.typeCall_enumerate_1 _) (F.newCall_enumerate_1 _) (fun obj => F.args_object_init_2 obj _) F.entry_enumerate_new
    (meets_enumT B) ⟨h1, ?_⟩
  have hz : (s.heap.push o).objs.size = s.heap.objs.size + 1 := Heap.size_push ..
  show _ ∧ _
  rw [hz]
  have he : IsEnum ((s.heap.push o).push { cls := .type "enumerate", data := .fields #[.none, .bool false, .ref s.heap.objs.size, rawInt 0, .none, .none] }) (s.heap.objs.size + 1) s.heap.objs.size 0 .none := by
    have := Heap.get?_push_size (s.heap.push o) (o := { cls := .type "enumerate", data := .fields #[.none, .bool false, .ref s.heap.objs.size, rawInt 0, .none, .none] }) rfl
    rw [hz] at this; exact this
  refine ⟨⟨_, he, rfl⟩, h _ he (Heap.get?_push_of_some _ (Heap.get?_push_size _ B.free)) (by rw [Heap.size_push, hz]) fun b o x => Heap.get?_push_of_some _ (Heap.get?_push_of_some _ x)⟩
/-- the tuple at a, each item in a new pair -/
def IteT (K : PySem.W.Frag) (a : Addr) : It :=
  ⟨fun i H => ∃ (xs : List V) (x : V), SqT K H a xs ∧ xs[i]? = some x, fun i H v H' => ∃ T x, v = .ref T ∧ H T = none ∧ H' = upd H T (.tup [.int (i : Nat), x]) ∧ ∀ xs, SqT K H a xs → xs[i]? = some x, fun i H => ∃ xs : List V, SqT K H a xs ∧ xs.length ≤ i⟩
theorem isTup_tuple {h : Heap} {a : Addr} {its : Array Value} (p : IsTup h a its) : h.IsTuple a its := by
  obtain ⟨o, e, c, n, d⟩ := p
  exact ⟨o, e, c, n, d⟩
theorem apart_tup {h : Heap} {a it : Addr} {its : Array Value} {i : Nat} (p : h.IsTuple a its) (q : h.IsTupleIter it a i) : a ≠ it := by
  rintro rfl
  obtain ⟨o, e, c, _⟩ := p
  obtain ⟨o', e', c', _⟩ := q
  rw [e] at e'; cases e'
  rw [c] at c'
  exact absurd c' (by decide)
theorem apart_en {h : Heap} {a e it : Addr} {its : Array Value} {k : Int} {old : Value} (p : h.IsTuple a its) (q : IsEnum h e it k old) : e ≠ a := by
  rintro rfl
  obtain ⟨o, e, c, _⟩ := p
  have e' := q
  unfold IsEnum at e'
  rw [e] at e'; cases e'
  exact absurd (Value.type.inj c) (by decide)
theorem turn_enumT {P : Program} {w : World} {K : PySem.W.Frag} {elts : List Expr} {kk : Nat} {tpos : Pos} (a e it : Addr) :
    Turn P w K (.Tuple elts kk tpos) (IteT K a) [e, it] e (fun i h => (∃ old, IsEnum h e it ((i : Nat) : Int) old) ∧ h.IsTupleIter it a i ∧ e ≠ it) where
  mem := by simp
  obj := fun i h st b hb => by
    obtain ⟨⟨old, he⟩, ⟨o, ho, hc, hd⟩, _⟩ := st
    have e' : b = e ∨ b = it := by simpa using hb
    rcases e' with z | z
    · rw [z]; exact ⟨_, he, fun v q => nomatch q⟩
    · rw [z]; exact ⟨o, ho, fun v q => by rw [hd] at q; cases q⟩
  keep := fun i h h' st k => let ⟨⟨old, he⟩, hi, hne⟩ := st; ⟨⟨old, k e (by simp) _ he⟩, hi.at fun o q => k it (by simp) o q, hne⟩
  item := by
    intro X hP hw hK hc i pins s σ H E I hf st hg
    subst hP hw hK
    obtain ⟨⟨old, he⟩, hit, hne⟩ := st
    obtain ⟨xs, x, hq, hx⟩ := hg
    obtain ⟨its, rv, p, hz⟩ := I.tuple hq
    have p := isTup_tuple p
    obtain ⟨u, hu, ru⟩ := rv.get hx
    have hel : e < s.heap.objs.size := Heap.lt_size he
    have hil : it < s.heap.objs.size := by obtain ⟨_, q, _⟩ := hit; exact Heap.lt_size q
    have D : Draws X.prog X.w X.A.in1 it [it, a] its.toArray.size (fun i v => its.toArray[i]? = some v) (fun i h => h.IsTupleIter it a i ∧ h.IsTuple a its.toArray) := Draws.tuple (show X.A.in1.handled = none from I.ok.hd hc) it a (apart_tup p hit) its.toArray
    refine wpAny_pyNext_enum_itemD D he ⟨hit, p⟩ (by
        have := (List.getElem?_eq_some_iff.mp hu).1
        simpa using this) hne (by
        intro z
        rcases List.mem_cons.mp z with z | z
        · exact hne z
        · exact apart_en p he (List.mem_singleton.mp z)) fun x' h' tk hx' ho hit' hT hsz hk => ?_
    have hx'' : its.toArray[i]? = some x' := hx'
    obtain rfl : x' = u := by
      have h2 : its[i]? = some x' := by simpa using hx''
      rw [hu] at h2; exact (Option.some.inj h2).symm
    refine ⟨_, rfl, wpAny_letOwnedTupleGo_enum (s := { s with heap := h', toks := tk + 1 }) ho fun h'' he' sb => ?_⟩
    have hT2 : h''.get? s.heap.objs.size = some { cls := .type "tuple", data := .seq #[.int i tk, x'] } := (sb.2 _ (Nat.ne_of_gt hel)).trans hT
    have new : ObjOk X.prog X.w (upd H s.heap.objs.size (.tup [.int (i : Nat), x])) h'' s.heap.objs.size (.tup [.int (i : Nat), x]) :=
      ⟨by show 2 ≤ sizeLine; decide, [.int i tk, x'], .cons ⟨_, rfl⟩ (.cons ru .nil), ⟨_, hT2, rfl, _, rfl⟩⟩
    have I1 : Inv X pins σ (upd H s.heap.objs.size (.tup [.int (i : Nat), x])) { s with heap := h'', toks := tk + 1 } :=
      I.turnedNew (ch := [e, it]) (fun b ob hb q => (sb.2 b (fun z => hb (by simp [z]))).trans (hk b ob (fun z => hb (by simp [z])) (fun z => hb (by simp [z])) q)) hf (Nat.le_refl _) new
    refine ⟨.ref s.heap.objs.size, _, I1, rfl, ⟨_, x, rfl, I.hok.fresh (Nat.le_refl _), rfl, fun ys hy => by rw [I.tuple_inj hy hq]; exact hx⟩, ⟨⟨x', ?_⟩, hit'.1.at fun o q => (sb.2 it (Ne.symm hne)).trans q, hne⟩, fun b hb => ?_⟩
    · have e1 : ((i + 1 : Nat) : Int) = (i : Int) + 1 := by omega
      rw [e1]; exact he'
    · have hb' : b < s.heap.objs.size := by
        have e' : b = e ∨ b = it := by simpa using hb
        rcases e' with z | z
        · rw [z]; exact hel
        · rw [z]; exact hil
      rw [upd_ne (Nat.ne_of_lt hb')]
      exact (hf b hb).1
  done := by
    intro X hP hw hK hc i pins s σ H E I hf st hg
    subst hP hw hK
    obtain ⟨⟨old, he⟩, hit, hne⟩ := st
    obtain ⟨xs, hq, hx⟩ := hg
    obtain ⟨its, rv, p, hz⟩ := I.tuple hq
    have p := isTup_tuple p
    obtain ⟨f0, f1, f2, f3, f4, f5⟩ := hf it (by simp)
    have hl := rv.length
    have hT : s.TypeIs (.ref e) "enumerate" := ⟨_, he, rfl⟩
    unfold pyNext
    refine wpAny_bind (wpAny_attempt (wpAny_callSpecial?_slot (name := Str.ofString "__next__") hT F.slot_enumerate_next
      (wpAny_call_entry F.slot_enumerate_next hT F.entry_enumerate_next ?_ (F.args_enumerate_next_1 _))))
    show wpAny _ _ (PySem.field (.ref e) 2 >>= _) _ _ _
    refine wpAny_bind (wpAny_field he rfl (x := .ref it) rfl ?_)
    refine wpAny_bind (wpAny_nextOf_tuple_end (I.ok.hd hc) hit p (by simp; omega) fun h' x he' hx' => ?_)
    obtain ⟨o, ho, hc'⟩ := hx'
    refine wpAny_bind (wpAny_isInstance (T := "StopIteration") (b := true) ⟨o, ho, hc'⟩ isSubtype_stop ?_)
    exact wpAny_pure ⟨rfl, I.turned (t' := s.toks) (fun b o hb q => he' b o hb q) f0 f1 f3 f4 f5⟩
  self := fun A i s Q E st h => let ⟨⟨_, he⟩, _⟩ := st; wpAny_pyIter_enum he h
def iEnumT (K : PySem.W.Frag) (ta : TA) : TI := fun σ H R => ta σ H fun vs H1 => ∃ a xs, vs = [.ref a] ∧ SqT K H1 a xs ∧ R (IteT K a) H1
theorem pi_enumT {X : Cx} {tg e : Expr} {ta : TA} {p pos tpos : Pos} {elts : List Expr} {kk : Nat} (hg : Gl X "enumerate") (hm : X.mg "enumerate" = none) (ha : PA X [e] ta) (hs : starEach [e] X.env = [(false, eval e X.env)] := by rfl) :
    PI X (.Tuple elts kk tpos) (.Call (.Name "enumerate" p) [e] [] pos) (iEnumT X.K ta) := by
  refine ⟨fun pins s σ H R I h => ?_⟩
  refine Call_ (ld_blt I hg hm boot_enumerate (PyProof.Rows.callWith_type1 (thn (ha.run pos pins s σ H _ I h) fun us s1 ⟨vs, H1, I1, r1, q1⟩ => ?_) hs rfl))
  obtain ⟨a, xs, ex, hq, q⟩ := q1
  subst ex
  cases r1 with
  | cons r rr =>
    cases rr
    cases r
    obtain ⟨its, rv, p', hz⟩ := I1.tuple hq
    refine call_enumT (begins_tuple a its.toArray) (isTup_tuple p') fun h' he hit hsz hk => wpAny_pyIter_enum he ?_
    have I2 : Inv X pins σ H1 { s1 with heap := h' } := I1.kept (t' := s1.toks) hk
    refine ⟨s1.heap.objs.size + 1, [s1.heap.objs.size + 1, s1.heap.objs.size], _, _, H1, rfl, I2, turn_enumT a (s1.heap.objs.size + 1) s1.heap.objs.size, ⟨⟨.none, he⟩, ⟨_, hit, rfl, rfl⟩, Nat.succ_ne_self _⟩, fun b hb => ?_, q⟩
    have e' : b = s1.heap.objs.size + 1 ∨ b = s1.heap.objs.size := by simpa using hb
    have hle : s1.heap.objs.size ≤ b := by
      rcases e' with z | z
      · rw [z]; exact Nat.le_add_right _ _
      · rw [z]; exact Nat.le_refl _
    exact I1.fpOk hle (I1.hok.fresh hle)
section
variable {X : Cx} {σ : L2.St} {S S' : Hp} {e a b c o : Expr} {es : List Expr} {P R : V → Hp → Prop} {pos p : Pos} {ds : List PyData}
theorem ei_enumT {elts : List Expr} {kk : Nat} {tpos : Pos} (hm : X.mg "enumerate" = none) (ha : EE X σ S a (Dt X.K (.tuple ds))) (hg : Gl X "enumerate" := by rfl) (hs : starEach [a] X.env = [(false, eval a X.env)] := by rfl) :
    EI X σ S (.Tuple elts kk tpos) (.Call (.Name "enumerate" p) [a] [] pos) (Ds X.K (enumD ds)) := fun H s R q =>
  hi_of (pi_enumT (tg := a) hg hm pab hs) ((ea_1 ha (by rw [hs]; rfl)).2 H s _ fun vs S1 H1 g1 al => by
    obtain ⟨v, rfl, pv⟩ := al.one
    obtain ⟨l, xs, rfl, hl, hx, _⟩ := pv.tup_inv
    have hlen : (Ds X.K (enumD ds)).length = xs.length := by rw [ds_len]; unfold enumD zipD; rw [List.length_zipWith, upto_len, hx.1]; omega
    refine ⟨l, xs, rfl, sqt_up g1.sub hl, q _ S1 H1 g1 ⟨fun i H hi hs => ?_, fun H hs => ?_, fun i H x H' hi hs y T st th => ?_⟩⟩
    · rw [hlen] at hi
      exact ⟨xs, xs[i], sqt_up hs hl, by simp [hi]⟩
    · rw [hlen]
      exact ⟨xs, sqt_up hs hl, Nat.le_refl _⟩
    · rw [hlen] at hi
      obtain ⟨t, x1, rfl, ht, rfl, k1⟩ := y
      have i1 : i < ds.length := by rw [← hx.1]; omega
      exact ⟨_, Gr.new th ht, _, ds_get (zipD_get (upto_get i1) (List.getElem?_eq_getElem i1)), pair_new th ht (.int _) ((hx.2 i _ _ (k1 xs (sqt_up hs hl)) (List.getElem?_eq_getElem i1)).up st)⟩)
end
end Y
namespace Y
open PySem PySem.Spec PyProof.Rows L2 Z
/-! ## own classes -/
/-- a known method -/
structure KM (P : Program) (w : World) (K : PySem.W.Frag) (mg : Str → Option Value) (base : Heap) (C : Addr) (m : Str) (k : Nat) (sp : Sp) : Prop where
  ex : ∃ f fd ps, FnOk P w K mg base CX0 k f fd ps sp ∧ PySem.W.findIn K (.ref C) m = some (some (.ref f)) ∧ PySem.W.isFn K (.ref f) = true ∧ PySem.W.keepIn K (.ref f) = true ∧ Binds K fd ps []
theorem KM.mono {P : Program} {w : World} {K : PySem.W.Frag} {mg : Str → Option Value} {base : Heap} {C : Addr} {m : Str} {j k : Nat} {sp : Sp} (h : KM P w K mg base C m j sp) (hk : j ≤ k) : KM P w K mg base C m k sp := by
  obtain ⟨f, fd, ps, F, r⟩ := h.ex
  exact ⟨f, fd, ps, F.mono hk, r⟩
/-- an instance of the class at C without the attribute m of its own -/
def InsP (C : Addr) (m : Str) (P : V → Hp → Prop) : Prop := ∀ v S, P v S → ∃ a dx fs, v = .ref a ∧ S a = some (.ins C dx fs) ∧ fs.lookup m = none
section
variable {X : Cx} {σ : L2.St} {S S' H : Hp} {e a b c o : Expr} {es : List Expr} {P P0 R : V → Hp → Prop} {Ps : List (V → Hp → Prop)} {pos p apos : Pos} {k : Nat} {x m f : Str} {sp : Sp} {C dx r : Addr} {fs : List (Str × V)} {v : V} {D : Ends} {rest : List Stmt}
/-- o.f, an attribute -/
theorem ee_fld (ho : EE X σ S o P0) (hP : ∀ w S1, P0 w S1 → ∃ a dx fs v, w = .ref a ∧ S1 a = some (.ins C dx fs) ∧ fs.lookup f = some v ∧ P v S1) (c : Cls X.K C) (n : NoAttr X.K C f) (hb : attributeBase o f X.env (eval o X.env) = eval o X.env := by rfl) : EE X σ S (.Attribute o f pos) P := fun H s Q q =>
  he_of (pe_fld peb hb) (ho H s _ fun w S1 H1 g1 pw => by
    obtain ⟨a, dx, fs, v, rfl, h1, h2, pv⟩ := hP w S1 pw
    exact ⟨a, C, dx, fs, v, rfl, g1.sub _ _ h1, c, n, h2, q v S1 H1 g1 pv⟩)
/-- self.f = e where self is not yet told in S -/
theorem hs_fld (hv : EE X σ S e P) (s : Same S H) (ho : ∀ S1, Same S S1 → EE X σ S1 o (fun w _ => w = .ref r)) (hH : H r = some (.ins C dx fs)) (c : Cls X.K C) (n : NoAttr X.K C f) (hl : fs.length < 1000)
    (q : ∀ v S' H', Gr S H S' H' → P v S' → H' r = some (.ins C dx fs) → HS X D rest σ (upd H' r (.ins C dx (putF f v fs)))) (hs : swapsWith e (some (.Attribute o f apos)) pos.line X.env = pure false := by rfl) : HS X D (.Assign [.Attribute o f apos] e pos :: rest) σ H :=
  hs_cons (ps_fld peb peb hs) (hv H s _ fun v S1 H1 g1 pv => by
    refine (ho S1 g1.st) H1 g1.sub _ fun w S2 H2 g2 pw => ?_
    subst pw
    have e1 := g1.hh _ _ hH
    have e2 := g2.hh _ _ e1
    refine ⟨r, C, dx, fs, rfl, e2, c, n, hl, ?_⟩
    have hS : S2 = S2 := rfl
    exact q v S1 H2 ⟨g1.st, g2.st.trans g2.sub, g1.hh.trans g2.hh, g1.old⟩ pv e2)
theorem ee_meth {pl : Sem Bool} (D : KM X.prog X.w X.K X.mg X.base C m k sp) (c : Cls X.K C) (hr : Room k X.A) (ho : EE X σ S o P0) [Mn P0] (hP : InsP C m P0) (ha : EA X σ S (e :: es) Ps) (hsp : SpE sp S (P0 :: Ps) R)
    (hst : starEach (e :: es) X.env = (false, eval e X.env) :: starEach es X.env := by rfl) (hpl : (backTo pos (starEach es X.env)).any (·.1) = false := by rfl)
    (ht : eval (.Call (.Attribute o m apos) (e :: es) [] pos) X.env = (do
      let ov ← eval o X.env
      standAt apos.atName
      let (f, first) ← holding [ov] (getMethod ov m pl)
      callWith pos f first (backTo pos (starEach (e :: es) X.env)) (backToKw pos (keywordEach [] X.env))) := by rfl) : EE X σ S (.Call (.Attribute o m apos) (e :: es) [] pos) R := fun H s Q q => by
  obtain ⟨f, fd, ps, F, hm, hf, hk, hb⟩ := D.ex
  refine he_of (pe_meth peb c ⟨hm, hf, hk⟩ F hr hb .nil pass0 pab hst hpl ht) (ho H s _ fun w S1 H1 g1 pw => ?_)
  obtain ⟨a, dx, fs, rfl, h1, h2⟩ := hP w S1 pw
  refine ⟨a, dx, fs, rfl, g1.sub _ _ h1, h2, (ha.up g1.st).2 H1 g1.sub _ fun vs S2 H2 g2 al => ?_⟩
  rw [List.append_nil]
  exact hsp _ S2 H2 (g1.st.trans g2.st) g2.sub (.cons (Mn.up g2.st pw) al) Q fun v S3 H3 g3 rv => q v S3 H3 ((g1.trans g2).trans g3) rv
end
section
open PySem.W
end
end Y
namespace Y
open PySem PySem.Spec PyProof.Rows L2 Z
section
end
/-! ## a new instance -/
structure GrI (a : Addr) (S H S' H' : Hp) : Prop where
  st : Same S S'
  sub : Same S' H'
  hh : ∀ z o, z ≠ a → H z = some o → H' z = some o
  old : ∀ z o, z ≠ a → H z = some o → NT o → S' z = S z
/-- what __init__ promises -/
def spI (C : Addr) (K : PySem.W.Frag) (F : List PyData → (Addr → V → Hp → Prop) → Prop) : Sp := fun vs H Q _ => ∃ S a dx ws ds R, vs = .ref a :: ws ∧ Same S H ∧ S a = none ∧ H a = some (.ins C dx []) ∧ Dts K ds ws S ∧ F ds R ∧ ∀ l S' H', GrI a S H S' H' → S l = none → R l (.ref a) S' → Q .non H'
/-- a thing whose part at l is new -/
def NewR (R : Addr → V → Hp → Prop) (S : Hp) : V → Hp → Prop := fun v S' => ∃ l, S l = none ∧ R l v S'
theorem NewR.dn {R : Addr → V → Hp → Prop} {S S0 S' : Hp} {v : V} (s : Same S0 S) (h : NewR R S v S') : NewR R S0 v S' := let ⟨l, a, b⟩ := h; ⟨l, s.free a, b⟩
instance {R : Addr → V → Hp → Prop} {S : Hp} [h : ∀ l, Mn (R l)] : Mn (NewR R S) := ⟨fun s ⟨l, a, b⟩ => ⟨l, a, (h l).up s b⟩⟩
theorem GrI.step {a : Addr} {S H S1 H1 S2 H2 : Hp} (i : GrI a S H S1 H1) (g : Gr S1 H1 S2 H2) : GrI a S H S2 H2 :=
  ⟨i.st.trans g.st, g.sub, fun z o n h => g.hh _ _ (i.hh z o n h), fun z o n h m => (g.old z o (i.hh z o n h) m).trans (i.old z o n h m)⟩
theorem GrI.put {a : Addr} {S H S1 H1 : Hp} {o : HO} (i : GrI a S H S1 H1) (h : S a = none) : GrI a S H (upd S1 a o) (upd H1 a o) :=
  ⟨fun z u e => by
    have ne : z ≠ a := fun q => by subst q; rw [h] at e; cases e
    rw [upd_ne ne]; exact i.st z u e, fun z u e => by
    by_cases ne : z = a
    · subst ne; rw [upd_same] at e ⊢; exact e
    · rw [upd_ne ne] at e ⊢; exact i.sub z u e, fun z u n e => by rw [upd_ne n]; exact i.hh z u n e, fun z u n e m => by rw [upd_ne n]; exact i.old z u n e m⟩
theorem GrI.start {a : Addr} {S H : Hp} {o : HO} (s : Same S H) (h : S a = none) (e : H a = some o) : GrI a S H (upd S a o) H :=
  ⟨Same.new h, fun z u q => by
    by_cases ne : z = a
    · subst ne; rw [upd_same] at q; rw [e]; exact q
    · rw [upd_ne ne] at q; exact s z u q, fun z u n q => q, fun z u n q _ => upd_ne n⟩
section
variable {X : Cx} {σ : L2.St} {S S' H : Hp} {e a b c o : Expr} {es : List Expr} {P P0 : V → Hp → Prop} {Ps : List (V → Hp → Prop)} {pos p apos : Pos} {k : Nat} {x m : Str} {sp : Sp} {C f : Addr} {fd : FuncData} {ps : List Str} {ds dd : List PyData} {dvs : List V} {us : List Value} {R : Addr → V → Hp → Prop}
theorem make_init {F : List PyData → (Addr → V → Hp → Prop) → Prop} {vs : List V} {S1 H1 : Hp} {a dx : Addr} {Q : Hp → Prop} (s : Same S1 H1) (hd : Dts X.K ds vs S1) (hF : F ds R) (ha : H1 a = none) (hdx : H1 dx = none) (hne : dx ≠ a) (q : ∀ S2 H2, Gr S1 H1 S2 H2 → NewR R S1 (.ref a) S2 → Q H2) :
    spI C X.K F (.ref a :: vs) (upd (upd H1 dx (.own a)) a (.ins C dx [])) (fun v H2 => v = .non ∧ Q H2) E0 := by
  have hst : Same H1 (upd (upd H1 dx (.own a)) a (.ins C dx [])) := (Same.new hdx).trans (Same.new (by rw [upd_ne hne.symm]; exact ha))
  refine ⟨S1, a, dx, vs, ds, R, rfl, s.trans hst, s.free ha, upd_same, hd, hF, fun l S' H' g hl r => ⟨rfl, q S' H' ⟨g.st, g.sub, fun z o hz => ?_, fun z o hz m => ?_⟩ ⟨l, hl, r⟩⟩⟩
  · exact g.hh z o (ne_of_none hz ha) (hst z o hz)
  · exact g.old z o (ne_of_none hz ha) (hst z o hz) m
theorem ee_make {F : List PyData → (Addr → V → Hp → Prop) → Prop} (M : Mk X.K C f) (G : FnOk X.prog X.w X.K X.mg X.base CX0 k f fd ps (spI C X.K F)) (hr : Room (k + 1) X.A) (hm : X.mg x = some (.ref C)) (hb : Binds X.K fd ps us) (hd : Vals dvs us) (hdd : ∀ S, Dts X.K dd dvs S) (ha : EA X σ S (e :: es) (Ds X.K ds)) (hF : F (ds ++ dd) R)
    (hg : Gl X x := by rfl) (hdb : (x == ("__debug__" : Str)) = false := by decide) (he : starEach (e :: es) X.env = (false, eval e X.env) :: starEach es X.env := by rfl) (hpl : (backTo pos (starEach es X.env)).any (·.1) = false := by rfl) : EE X σ S (.Call (.Name x p) (e :: es) [] pos) (NewR R S) := fun H s Q q =>
  he_of (pe_make M G hr hg hm hb hd pass0 pab hdb he hpl) (ha.2 H s _ fun vs S1 H1 g1 al a dx h1 h2 h3 =>
    make_init g1.sub ((al_dts al).append (hdd S1)) hF h1 h2 h3 fun S2 H2 g2 r => q _ S2 H2 (g1.trans g2) (r.dn g1.st))
end
end Y
namespace Y
open PySem PySem.Spec PyProof.Rows L2 Z
section
variable {X : Cx} {σ : L2.St} {S S' H : Hp} {e a b c o : Expr} {es : List Expr} {P Pa Pb P0 R : V → Hp → Prop} {Ps : List (V → Hp → Prop)} {pos p apos : Pos} {i j l : Int} {d : PyData} {ds : List PyData} {k : Bool}
/-- a <= b <= c -/
theorem et_chainLE (ha : EE X σ S a (Dt X.K (.int i))) (hb : EE X σ S b (Dt X.K (.int j))) (hc : EE X σ S c (Dt X.K (.int l))) (hm : lastMarks [.LtE, .LtE] [b, c] = false := by with_unfolding_all rfl) : ET X σ S (.Compare a [.LtE, .LtE] [b, c] pos) (decide (i ≤ j) && decide (j ≤ l)) := fun H s Q q =>
  ht_of (pt_chain op_le op_le peb peb peb hm) (ha H s _ fun x S1 H1 g1 px => (hb.up g1.st) H1 g1.sub _ fun y S2 H2 g2 py => by
    cases px; cases py
    refine ⟨i, j, rfl, rfl, decide (i ≤ j), rfl, ?_⟩
    by_cases h : i ≤ j
    · rw [if_pos (decide_eq_true h)]
      exact (hc.up (g1.st.trans g2.st)) H2 g2.sub _ fun z S3 H3 g3 pz => by
        cases pz
        refine ⟨j, l, rfl, rfl, decide (j ≤ l), rfl, ?_⟩
        have := q S3 H3 ((g1.trans g2).trans g3)
        rw [decide_eq_true h, Bool.true_and] at this
        exact this
    · rw [if_neg (by rw [decide_eq_false h]; exact Bool.false_ne_true)]
      refine ⟨false, rfl, ?_⟩
      have := q S2 H2 (g1.trans g2)
      rw [decide_eq_false h, Bool.false_and] at this
      exact this)
/-- a sign not in a text -/
theorem et_notInC {n : Nat} {z : Str} (ha : EE X σ S a (Dt X.K (.str ⟨#[n]⟩))) (hb : EE X σ S b (Dt X.K (.str z))) (hm : behindInMarks .NotIn b = false := by with_unfolding_all rfl) : ET X σ S (.Compare a [.NotIn] [b] pos) (!decide (n ∈ z.cps.toList)) :=
  et_cmp op_notIn_sign ha hb (fun v w S1 H1 _ s px py Q q => by cases px; cases py; exact ⟨n, z, rfl, rfl, q _ S1 H1 (Gr.refl s) (.bl _)⟩) hm
/-- isinstance(a, (list, tuple)) -/
theorem ee_isiLT (hk : k = (isD d "list" || isD d "tuple")) (hm : X.mg "isinstance" = none) (h1 : X.mg "list" = none) (h2 : X.mg "tuple" = none) (ha : EE X σ S a (Dt X.K d)) {p1 p2 p3 : Pos} {x1} (hg : Gl X "isinstance" := by rfl) (hg1 : Gl X "list" := by rfl) (hg2 : Gl X "tuple" := by rfl)
    (hs : starEach [a, .Tuple [.Name "list" p1, .Name "tuple" p2] x1 p3] X.env = (false, eval a X.env) :: starEach [.Tuple [.Name "list" p1, .Name "tuple" p2] x1 p3] X.env := by rfl) : EE X σ S (.Call (.Name "isinstance" p) [a, .Tuple [.Name "list" p1, .Name "tuple" p2] x1 p3] [] pos) (Dt X.K (.bool k)) := by
  haveI m1 : Mn (fun (w : V) (_ : Hp) => w = .ty "list") := ⟨fun _ h => h⟩
  haveI m2 : Mn (fun (w : V) (_ : Hp) => w = .ty "tuple") := ⟨fun _ h => h⟩
  haveI m3 : Mn (fun (w : V) (S : Hp) => ∃ t, w = .ref t ∧ S t = some (.tup [.ty "list", .ty "tuple"])) := ⟨fun s ⟨t, e, h⟩ => ⟨t, e, s _ _ h⟩⟩
  have ht : EE X σ S (.Tuple [.Name "list" p1, .Name "tuple" p2] x1 p3) (fun (w : V) (S : Hp) => ∃ t, w = .ref t ∧ S t = some (.tup [.ty "list", .ty "tuple"])) :=
    ee_tupA (vsP := fun vs _ => vs = [.ty "list", .ty "tuple"]) (fun H s Q q => (ea_2 (ee_bltn (P := fun w _ => w = .ty "list") (v := .ty "list") (u := .type "list") h1 (by first | rfl | decide +kernel | exact boot_list) rfl rfl hg1 (by decide) (by decide)) (ee_bltn (P := fun w _ => w = .ty "tuple") (v := .ty "tuple") (u := .type "tuple") h2 (by first | rfl | decide +kernel | exact boot_tuple) rfl rfl hg2 (by decide) (by decide)) rfl rfl).2 H s Q fun vs S' H' g al => q vs S' H' g (by
        obtain ⟨v, w, rfl, rfl, rfl⟩ := al.two
        rfl)) (fun vs _ e => by subst e; show 2 ≤ 16777216; decide) (fun vs S' t st ht e => by subst e; exact ⟨t, rfl, upd_same⟩)
  refine ee_callB call_isiT hm boot_isinstance (ea_2 ha ht hs rfl) (fun vs S1 H1 _ s al Q q => ?_) hg (he := hs) (hpl := by rfl)
  obtain ⟨v, w, rfl, pv, t, rfl, pw⟩ := al.two
  refine ⟨v, t, [.ty "list", .ty "tuple"], .type (tyN d), [.type "list", .type "tuple"], k, rfl, s _ _ pw, .cons (.ty "list") (.cons (.ty "tuple") .nil), tyX_of pv s, ?_, q _ S1 H1 (Gr.refl s) (.bl k)⟩
  subst hk
  refine kitAny_cons (kit_ty (isD_ok d (by simp))) (fun e => kitAny_cons (kit_ty (isD_ok d (by simp))) (fun e2 => ?_) (fun e2 => ?_)) (fun e => ?_)
  · rw [e, e2]; exact kitAny_nil
  · rw [e2]; simp
  · rw [e]; simp
/-- list(a): a new list -/
def NewL (K : PySem.W.Frag) (S : Hp) (ds : List PyData) : V → Hp → Prop := fun v S' => ∃ l xs, v = .ref l ∧ S l = none ∧ S' l = some (.lst xs) ∧ Dts K ds xs S' ∧ xs.length ≤ sizeLine
instance {K : PySem.W.Frag} {S : Hp} {ds : List PyData} : Mn (NewL K S ds) := ⟨fun s ⟨l, xs, e, h, h1, h2, z⟩ => ⟨l, xs, e, h, s _ _ h1, h2.up s, z⟩⟩
theorem NewL.dn {K : PySem.W.Frag} {S S0 S' : Hp} {ds : List PyData} {v : V} (s : Same S0 S) (h : NewL K S ds v S') : NewL K S0 ds v S' := by
  obtain ⟨l, xs, rfl, h0, h1, h2, z⟩ := h
  exact ⟨l, xs, rfl, s.free h0, h1, h2, z⟩
theorem ee_listN (hm : X.mg "list" = none) (hd : d = .list ds ∨ d = .tuple ds) (ha : EE X σ S a (Dt X.K d)) (hg : Gl X "list" := by rfl)
    (hs : starEach [a] X.env = (false, eval a X.env) :: starEach [] X.env := by rfl) : EE X σ S (.Call (.Name "list" p) [a] [] pos) (NewL X.K S ds) :=
  ee_callTy call_list_of hm boot_list (ea_1 ha hs) (fun vs S1 H1 st s al Q q => by
    obtain ⟨v, rfl, pv⟩ := al.one
    rcases hd with rfl | rfl
    · obtain ⟨l, xs, rfl, hl, hx, z⟩ := pv.lst_inv
      exact ⟨l, xs, rfl, .inl (sql_of (s _ _ hl)), fun t ht => q _ _ _ (Gr.new s ht) ⟨t, xs, rfl, st.free (s.free ht), upd_same, hx.up (Same.new (s.free ht)), z⟩⟩
    · obtain ⟨l, xs, rfl, hl, hx, z⟩ := pv.tup_inv
      exact ⟨l, xs, rfl, .inr (sqt_up s hl), fun t ht => q _ _ _ (Gr.new s ht) ⟨t, xs, rfl, st.free (s.free ht), upd_same, hx.up (Same.new (s.free ht)), z⟩⟩) hg (he := hs) (hpl := by rfl)
/-- (x,) * n -/
theorem tuple_mul1 (l : Addr) (items : Array Value) (n : Nat) (dd : Option Addr) (sl : Array (Option Value)) (u : Tok) :
    Meets (Builtin.«tuple.__mul__» ⟨[.ref l, .int 1 u], []⟩) (fun _ R s => s.heap.get? l = some { cls := .type "tuple", dict := dd, data := .seq items n, slots := sl } ∧ R (.ok (.ret (Value.ref l))) s) :=
  .of_wp fun prog w A R s h => by
    obtain ⟨hp, g, d, tk, os⟩ := s
    obtain ⟨hl, h⟩ := h
    have f1 := AutoSeq1.idx_int
    have c0 : (decide ((1 : Int) < -(2 ^ 63)) || decide ((1 : Int) ≥ 2 ^ 63)) = false := by decide
    have c1 : (items.isEmpty || (1 : Int) == 1) = true := by simp
    wp_walk using wpAny_loadPart' hl
    repeat (first
      | (refine wpAny_ite_false (decide_eq_false (by rw [c0]; exact Bool.false_ne_true)) ?_; wp_walk using wpAny_loadPart' hl)
      | (refine wpAny_ite_true (decide_eq_true c1) ?_; wp_walk using wpAny_loadPart' hl))
    exact ⟨_, rfl, h⟩
def rRep1 (K : PySem.W.Frag) : R2 := fun x y H Q => ∃ l xs, x = .ref l ∧ y = .int 1 ∧ SqT K H l xs ∧ Q (.ref l) H
theorem op_rep1 : OpR X (binaryOp .Mult) (rRep1 X.K) := by
  intro pins s σ H x y v u Q I rx ry h
  obtain ⟨l, xs, rfl, rfl, hT, q⟩ := h
  cases rx
  obtain ⟨t, rfl⟩ := ry
  obtain ⟨its, r, ⟨⟨cls, dd, data, sl⟩, ho, hc, n, hd⟩, hs⟩ := I.tuple hT
  simp only at hc hd
  subst hc hd
  refine wpAny_binaryOp_repeat_ref (T := "tuple") (U := "int") (by decide) ⟨_, ho, rfl⟩ (fun s' => typeIs_int s' 1 t) noFill_tuple_mul F.fills_int_mul F.slot_int_rmul repeat_tuple F.slot_int_index.lookup
    (call_meets F.slot_int_rmul (typeIs_int s 1 t) F.entry_int_rmul (F.args_int_rmul_2 _ _) (int_rmul_tuple 1 t l its.toArray n dd sl)
      ⟨ho, rfl, ⟨_, ho, rfl⟩, call_meets F.slot_tuple_mul ⟨_, ho, rfl⟩ F.entry_tuple_mul (F.args_tuple_mul_2 _ _) (tuple_mul1 l its.toArray n dd sl t) ⟨ho, ?_⟩⟩)
  exact ⟨.ref l, H, I, rfl, q⟩
theorem ee_repT {n : Nat} (hn : 1 ≤ n) (hz : n ≤ 1000) (hc : ds.length ≤ 1000) (hne : ds ≠ []) (ha : EE X σ S a (Dt X.K (.tuple ds))) (hb : EE X σ S b (Dt X.K (.int n))) : EE X σ S (.BinOp a .Mult b pos) (Dt X.K (.tuple (List.replicate n ds).flatten)) := by
  by_cases h1 : n = 1
  · subst h1
    refine (ee_op op_rep1 ha hb (R := Dt X.K (.tuple ds)) fun x y S1 H1 _ s px py Q q => ?_).isd (by simp)
    cases py
    obtain ⟨l, xs, rfl, hl, hx, z⟩ := px.tup_invS
    exact ⟨l, xs, rfl, rfl, sqt_up s hl.sq, q _ S1 H1 (Gr.refl s) (Dt.tup_mk hl hx z)⟩
  · refine ee_op op_repT ha hb fun x y S1 H1 _ s px py Q q => ?_
    cases py
    obtain ⟨l, xs, rfl, hl, hx, z⟩ := px.tup_inv
    refine ⟨l, n, xs, rfl, rfl, sqt_up s hl, fun e => hne ?_, by omega, by omega, by rw [hx.1]; exact hc, fun t ht => q _ _ _ (Gr.new s ht) ?_⟩
    · have := hx.1; rw [e] at this; exact List.eq_nil_of_length_eq_zero this.symm
    · have e : ((n : Int)).toNat = n := by omega
      rw [e]
      refine Dt.tup_mk (tus_of upd_same) ((flat_dts (d := .none) rfl hx _).up (Same.new (s.free ht))) ?_
      rw [flatten_len, hx.1]
      have : ds.length * n ≤ 1000 * 1000 := Nat.mul_le_mul hc hz
      show _ ≤ 16777216
      omega
end
end Y
namespace Y
open PySem PySem.Spec PyProof.Rows L2 Z
section
variable {X : Cx} {σ : L2.St} {S S' H : Hp} {e a b c o : Expr} {es : List Expr} {P Pa Pb P0 P1 R : V → Hp → Prop} {Ps : List (V → Hp → Prop)} {pos p apos kpos : Pos} {i j l : Int} {d : PyData} {ds ds1 ds2 : List PyData} {k : Nat} {x m f kn : Str} {sp : Sp} {C dx r : Addr} {D : Ends} {rest : List Stmt}
/-! ### o.m(k = e) -/
/-! ### a def with a star parameter -/
/-! ### f-strings -/
inductive EJ (X : Cx) (σ : L2.St) (S : Hp) : List Expr → List Str → Prop
  | nil : EJ X σ S [] []
  | cons {e : Expr} {es : List Expr} {y : Str} {ys : List Str} : EE X σ S e (Dt X.K (.str y)) → EJ X σ S es ys → EJ X σ S (e :: es) (y :: ys)
theorem EJ.pj {es : List Expr} {ys : List Str} (h : EJ X σ S es ys) : PJ X es (es.map (bE X)) := by
  induction h with
  | nil => exact .nil
  | cons _ _ ih => exact .cons peb ih
theorem EJ.run {es : List Expr} {ys : List Str} (h : EJ X σ S es ys) : ∀ (acc : Str) (S1 H1 : Hp) (Q : Str → Hp → Prop), Same S S1 → Same S1 H1 → acc.length + (ys.map (·.length)).sum ≤ sizeLine → (∀ S2 H2, Gr S1 H1 S2 H2 → Q (ys.foldl (· ++ ·) acc) H2) → tJs (es.map (bE X)) acc σ H1 Q := by
  induction h with
  | nil => intro acc S1 H1 Q _ s _ q; exact q S1 H1 (Gr.refl s)
  | @cons e es y ys he _ ih =>
    intro acc S1 H1 Q st s hz q
    rw [List.map_cons, List.sum_cons] at hz
    have el : (acc ++ y).length = acc.length + y.length := by
      show (acc.cps ++ y.cps).size = _
      rw [Array.size_append]; rfl
    refine (he.up st) H1 s _ fun v S2 H2 g2 pv => ?_
    cases pv
    exact ⟨y, rfl, by rw [el]; omega, ih (acc ++ y) S2 H2 Q (st.trans g2.st) g2.sub (by rw [el]; omega) fun S3 H3 g3 => q S3 H3 (g2.trans g3)⟩
theorem ee_joined {v1 v2 : Expr} {rest : List Expr} {ys : List Str} (h : EJ X σ S (v1 :: v2 :: rest) ys) (hz : (ys.map (·.length)).sum ≤ sizeLine) : EE X σ S (.JoinedStr (v1 :: v2 :: rest) pos) (Dt X.K (.str (ys.foldl (· ++ ·) Str.empty))) := fun H s Q q =>
  he_of (pe_joined h.pj) (h.run Str.empty S H _ (Same.refl S) s (by show 0 + _ ≤ _; omega) fun S2 H2 g => q _ S2 H2 g (.str _))
theorem ee_fmtS {y : Str} (hz : y.length ≤ sizeLine) (h : EE X σ S e (Dt X.K (.str y))) : EE X σ S (.FormattedValue e (-1) none pos) (Dt X.K (.str y)) := fun H s Q q =>
  he_of (pe_fmt peb) (h H s _ fun v S1 H1 g pv => by cases pv; exact .inl ⟨y, rfl, hz, q _ S1 H1 g (.str _)⟩)
theorem ee_fmtI (hz : i.natAbs.log2 < 1920) (h : EE X σ S e (Dt X.K (.int i))) : EE X σ S (.FormattedValue e (-1) none pos) (Dt X.K (.str (toString i))) := fun H s Q q =>
  he_of (pe_fmt peb) (h H s _ fun v S1 H1 g pv => by cases pv; exact .inr ⟨i, rfl, hz, q _ S1 H1 g (.str _)⟩)
/-! ### [*a, *b] -/
theorem ee_lst2 {p1 p2 : Pos} {d1 d2 : PyData} (h1 : d1 = .list ds1 ∨ d1 = .tuple ds1) (h2 : d2 = .list ds2 ∨ d2 = .tuple ds2) (hz : ds1.length + ds2.length ≤ sizeLine) (ha : EE X σ S a (Dt X.K d1)) (hb : EE X σ S b (Dt X.K d2)) (hs1 : starEach [.Starred a p1, .Starred b p2] X.env = (true, eval a X.env) :: starEach [.Starred b p2] X.env := by rfl) (hs2 : starEach [.Starred b p2] X.env = (true, eval b X.env) :: starEach [] X.env := by rfl) :
    EE X σ S (.List [.Starred a p1, .Starred b p2] pos) (Dt X.K (.list (ds1 ++ ds2))) := by
  have key : ∀ {d : PyData} {ds : List PyData} {v : V} {S1 H1 : Hp}, (d = .list ds ∨ d = .tuple ds) → Same S1 H1 → Dt X.K d v S1 → ∃ p xs, v = .ref p ∧ (SqT X.K H1 p xs ∨ SqL X.K H1 p xs) ∧ Dts X.K ds xs S1 := by
    intro d ds v S1 H1 hd s pv
    rcases hd with rfl | rfl
    · obtain ⟨l, xs, rfl, hl, hx, _⟩ := pv.lst_inv
      exact ⟨l, xs, rfl, .inr (sql_of (s _ _ hl)), hx⟩
    · obtain ⟨l, xs, rfl, hl, hx, _⟩ := pv.tup_inv
      exact ⟨l, xs, rfl, .inl (sqt_up s hl), hx⟩
  refine ee_lstA (vsP := fun vs S' => Dts X.K (ds1 ++ ds2) vs S') (fun H s Q q => ?_) (fun vs S' h => by rw [h.1, List.length_append]; exact hz) (fun vs S' p st hp h => Dt.lst_mk upd_same (h.up (Same.new hp)) (by rw [h.1, List.length_append]; exact hz))
  refine ha_of (StX.pa_star (te := bE X a) (t := StX.tStar X.K (bE X b) tNil) peb (StX.pa_star peb pa_nil hs2) hs1) (ha H s _ fun v S1 H1 g1 pv => ?_)
  obtain ⟨p, xs, rfl, hp, hx⟩ := key h1 g1.sub pv
  refine ⟨p, xs, rfl, hp, (hb.up g1.st) H1 g1.sub _ fun w S2 H2 g2 pw => ?_⟩
  obtain ⟨p', ys, rfl, hp', hy⟩ := key h2 g2.sub pw
  exact ⟨p', ys, rfl, hp', by
    show Q (xs ++ (ys ++ [])) H2
    rw [List.append_nil]
    exact q _ S2 H2 (g1.trans g2) ((hx.up g2.st).append hy)⟩
/-! ### a new list is changed -/
def del (S : Hp) (l : Addr) : Hp := fun a => if a = l then none else S a
theorem del_ne {S : Hp} {l a : Addr} (h : a ≠ l) : del S l a = S a := by unfold del; rw [if_neg h]
end
end Y
namespace Y
open PySem PySem.Spec PyProof.Rows L2 Z
section
end
end Y
namespace Y
open PySem PySem.Spec PyProof.Rows L2 Z
end Y
namespace Y
open PySem PySem.Spec PyProof.Rows L2 Z
/-! ## own errors -/
/-- what the __init__ of an own error promises: its field, its code -/
def spXI (C : Addr) (fname code : Str) : Sp := fun vs H Q _ => ∃ a v, vs = [.ref a, v] ∧ H a = some (exo a C none) ∧ ∀ dx, H dx = none → dx ≠ a → Q .non (upd (upd (upd H dx (exd dx [(fname, v)])) a (exo a C (some dx))) dx (exd dx [("code", .str code), (fname, v)]))
/-- an own error, ready to be raised -/
structure Err (P : Program) (w : World) (K : PySem.W.Frag) (mg : Str → Option Value) (base : Heap) (x : Str) (C : Addr) (fname code : Str) : Prop where
  T : OexC K C
  gl : mg x = some (.ref C)
  ex : ∃ fI fd ps, PySem.W.findIn K (.ref C) "__init__" = some (some (.ref fI)) ∧ PySem.W.typeIn K (.ref fI) = some (.type "function") ∧ FnOk P w K mg base CX0 1 fI fd ps (spXI C fname code) ∧ Binds K fd ps []
section
variable {X : Cx} {σ : L2.St} {S S' H : Hp} {e : Expr} {Pv : V → Hp → Prop} {pos p pos2 : Pos} {D : Ends} {rest : List Stmt} {x fname code : Str} {C : Addr} {E : XK} {W : WX}
/-- raise C(e) -/
theorem hs_raiseO (hc : X.calm = true) (tk : Takes X (fun cls d _ H => E cls d H)) (R : Err X.prog X.w X.K X.mg X.base x C fname code) (hr : Room 2 X.A) (ha : EE X σ S e Pv) (s : Same S H)
    (q : ∀ v S1 H1 d H3, Gr S H S1 H1 → Pv v S1 → H1 d = none → Same (upd S1 d (.xd [("code", .str code), (fname, v)])) H3 → Same H1 H3 → E (.ref C) (some d) H3) (hg : Gl X x := by rfl)
    (hdb : (x == ("__debug__" : Str)) = false := by decide) (he : starEach [e] X.env = (false, eval e X.env) :: starEach [] X.env := by rfl) (hpl : (backTo pos (starEach [] X.env)).any (·.1) = false := by rfl) : HS X D (.Raise (some (.Call (.Name x p) [e] [] pos)) none pos2 :: rest) σ H := by
  obtain ⟨fI, fd, ps, iC, tI, F1, hb⟩ := R.ex
  refine hs_cons (ps_raise hc tk (pmk_oex R.T iC tI F1 hr hb .nil pass0 hg R.gl (pa_cons (te := bE X e) (t := tNil) peb pa_nil he) hdb he hpl)) (ha H s _ fun v S1 H1 g1 pv => ?_)
  refine ⟨by show 1 ≤ 1000; decide, fun a ha0 => ⟨a, v, rfl, upd_same, fun dx hdx hne => ⟨rfl, dx, [("code", .str code), (fname, v)], ?_, upd_same, ?_, ?_⟩⟩⟩
  · rw [upd_ne (Ne.symm hne), upd_same]
  · rw [upd_ne hne] at hdx; exact hdx
  · rw [upd_ne hne] at hdx
    have key : ∀ z o, H1 z = some o → upd (L2.del (upd (upd (upd (upd H1 a (exo a C none)) dx (exd dx [(fname, v)])) a (exo a C (some dx))) dx (exd dx [("code", .str code), (fname, v)])) a) dx (.xd [("code", .str code), (fname, v)]) z = some o := fun z o hz => by
      have n1 : z ≠ a := ne_of_none hz ha0
      have n2 : z ≠ dx := ne_of_none hz hdx
      rw [upd_ne n2, L2.del_ne n1, upd_ne n2, upd_ne n1, upd_ne n2, upd_ne n1]; exact hz
    refine q v S1 H1 dx _ g1 pv hdx (fun z o hz => ?_) key
    by_cases hzd : z = dx
    · subst hzd; rw [upd_same] at hz ⊢; exact hz
    · rw [upd_ne hzd] at hz; exact key z o (g1.sub _ _ hz)
end
/-- a def that may raise, by its body -/
theorem fn_hsX {P : Program} {w : World} {K : PySem.W.Frag} {mg : Str → Option Value} {base : Heap} {x qual : Str} {params : Arguments} {body : List Stmt} {scope : Scope} {dvs : List V} {kws : List (Str × V)} {f : Addr} {fd : FuncData} {N ps : List Str} {k : Nat} {sp : Sp}
    (F : FunD K x qual params body scope dvs kws f fd) (Sc : FnScope N ps scope) (len : ∀ vs H Q E, sp vs H Q E → vs.length = ps.length)
    (hb : ∀ (cdv : Value) (A : Around) (outer : List Env) (s : Shared) (H : Hp) (vs : List V) (Q : VK) (E : XK), Room k (A.deeper (envOfC qual scope s.heap.objs.size f cdv)) → sp vs H Q E →
      Takes (cxOf (L2.CX P w) P w K mg base N qual scope f cdv A outer s H E) (fun cls d _ H' => E cls d H') →
      HS (cxOf (L2.CX P w) P w K mg base N qual scope f cdv A outer s H E) { nx := fun _ H' => Q .non H', rt := Q } body (start N vs) H) : FnOk P w K mg base (L2.CX P w) (k + 1) f fd ps sp :=
  F.ok Sc len fun cdv A outer s H vs Q E hr h => ⟨_, psb, hb cdv A outer s H vs Q E hr h (takes_of rfl rfl rfl rfl)⟩
end Y
namespace Y
open PySem PySem.Spec PyProof.Rows L2 Z
/-! ## try: .. except (A, B, C) as e: .. (the outline of the catch follows HandS.Exc's ps_try_as) -/
theorem flying_kept {B h h' : Heap} {l : List Env} {e : Addr} {Z : Obj → Prop} (x : HandSPX.FlyingZ B l e Z h) (k : ∀ b o, h.get? b = some o → h'.get? b = some o) : HandSPX.FlyingZ B l e Z h' := by
  obtain ⟨x1, x2, x3, oe, vs, T, oT, ts, he, hz, hd, h1, hn, hTe, hT, hdT, h3⟩ := x
  exact ⟨fun b o e => k b o (x1 b o e), x2, x3.of_keeps fun b o hb _ => ⟨o, k b o hb, rfl⟩, oe, vs, T, oT, ts, k _ _ he, hz, hd, h1, hn, hTe, k _ _ hT, hdT, h3⟩
theorem up_kept {h h' : Heap} (k : ∀ b o, h.get? b = some o → h'.get? b = some o) : h.UpToSlots h' := fun b o hb _ => ⟨o.slots, k b o hb⟩
/-- the test of a clause: it lays new objects at most, and answers b for exceptions of the class cls -/
def Tst (X : Cx) (t : Expr) (cls : Value) (b : Bool) : Prop := ∀ (a : Addr) (pn : List (Addr × Obj)) (σ : L2.St) (H : Hp) (s : Shared) (E : Value → Shared → Prop) (Q : Value → Shared → Prop), Inv (X.suite a pn) [] σ H s →
  PySem.W.Looks (model X.prog X.w) s.heap (typeOf (.ref a)) cls → (∀ c h', (∀ b o, s.heap.get? b = some o → h'.get? b = some o) → PySem.W.Looks (model X.prog X.w) h' (excMatches (.ref a) c) b → Q c { s with heap := h' }) →
  wpAny (model X.prog X.w) (X.A.mark (some (.ref a))) (eval t X.env) Q E s
theorem tst_name {X : Cx} {x1 : Str} {c1 cls : Value} {p1 : Pos} {b : Bool} {H : Hp} {a : Addr} {pn : List (Addr × Obj)} {σ : L2.St} {s : Shared} {E Q : Value → Shared → Prop} (n1 : Names X x1 c1) (I : Inv (X.suite a pn) [] σ H s) (q : Q c1 s) :
    wpAny (model X.prog X.w) (X.A.mark (some (.ref a))) (eval (.Name x1 p1) X.env) Q E s := by
  obtain ⟨hg, hdbg, hm | ⟨hm, hv, hnn⟩⟩ := n1
  · exact ld_glob (X := X.suite a pn) I hg hm q hdbg
  · exact ld_blt (X := X.suite a pn) I hg hm hv q hnn hdbg
theorem tst3 {X : Cx} {x1 x2 x3 : Str} {c1 c2 c3 cls : Value} {p1 p2 p3 p : Pos} {k : Nat} {b : Bool} (n1 : Names X x1 c1) (n2 : Names X x2 c2) (n3 : Names X x3 c3) (he : PySem.W.exmAny X.K cls [c1, c2, c3] = some b) : Tst X (.Tuple [.Name x1 p1, .Name x2 p2, .Name x3 p3] k p) cls b := by
  intro a pn σ H s E Q I LT q
  refine wpAny_Tuple ?_
  refine wpAny_items_cons (tst_name (cls := cls) (b := b) n1 I ?_)
  refine wpAny_items_cons (tst_name (cls := cls) (b := b) n2 I ?_)
  refine wpAny_items_cons (tst_name (cls := cls) (b := b) n3 I ?_)
  refine wpAny_items_nil ⟨by size_fits, ?_⟩
  have kp : ∀ q o, s.heap.get? q = some o → (s.heap.push { cls := .type "tuple", data := .seq [c1, c2, c3].toArray }).get? q = some o := fun _ _ z => Heap.get?_push_of_some _ z
  exact q _ _ kp (PySem.W.exm_tup3 (I.kIn.keeps kp) (LT.keeps kp) (Heap.get?_push_size s.heap rfl) he)
def bS (X : Cx) (st : Stmt) : TS := fun D σ H => ∀ (pins : List (Addr × Obj)) (s : Shared), Inv X pins σ H s → wpAny (model X.prog X.w) X.A (exec st X.env) (SP X pins D) X.xe s
/-- the ends of a suite whose name goes -/
def Dgo (i : Nat) (D : Ends) : Ends := { nx := fun σ H => D.nx (σ.set i none) H, rt := D.rt, bk := fun σ H => D.bk (σ.set i none) H, ct := fun σ H => D.ct (σ.set i none) H }
/-- what the clause wishes of an exception of the body -/
def WAs (X : Cx) (t : Expr) (i : Nat) (suite : List Stmt) (Wout : WX) (D : Ends) : WX := fun cls d σ H => σ.length = X.N.length → ∃ b, Tst X t cls b ∧
  (b = true → ∀ a oe pn, H a = none → X.base.get? a = none → Zc cls d oe → (∃ vs, oe.data = .fields vs) → HS (X.suite a ((a, oe) :: pn)) (Dgo i D) suite (σ.set i (some (.ref a))) H) ∧ (b = false → Wout cls d σ H)
theorem hs_tryAs {X : Cx} {D : Ends} {t : Expr} {n : Str} {i : Nat} {body suite rest : List Stmt} {b₀ : Stmt} {pos pos' : Pos} {Wout : WX} {σ : L2.St} {H : Hp} (hs : X.stack = X.env :: X.outer) (hf : X.env.frame = some X.env.locals) (hN : X.N.Nodup) (hi : X.N[i]? = some n) (hln : X.env.kindOf n = some .local) (tk : Takes X Wout)
    (hb : ∀ (pn : List (Addr × Obj)) (xe : Value → Shared → Prop), Takes (X.tr pn xe) (WAs X t i (b₀ :: suite) Wout (Dn X D rest)) → PassesOwn (model X.prog X.w) X.A X.env xe → HS (X.tr pn xe) (Dn X D rest) body σ H) :
    HS X D (.Try body [.ExceptHandler (some t) (some n) (b₀ :: suite) pos'] [] [] pos :: rest) σ H := by
  refine hs_cons (t := bS X _) ⟨fun pins s σ H D I h => h pins s I⟩ fun pins s I => ?_
  have ok := I.ok
  have hfr : X.A.frames = some (X.env :: X.outer) := by rw [ok.frames, hs]
  refine wpAny_Try_except ?_
  refine wpAny_mono (hb (X.pn ++ pins) (fun e s₁ => wpAny (model X.prog X.w) X.A (noteFrame e X.env) (fun _ s₂ => wpAny (model X.prog X.w) X.A (setFlight e none) (fun _ s₃ =>
    wpAny (model X.prog X.w) X.A (handleBy e X.env [.ExceptHandler (some t) (some n) (b₀ :: suite) pos']) (SP X pins (Dn X D rest)) X.xe s₃) X.xe s₂) X.xe s₁) (fun u s' xx => ?_) PassesOwn.looking [] s (I.toTry _)) (fun f s1 hsp => ?_) (fun e s1 he => he)
  · obtain ⟨a, B, sI, pins', σ', H', cls, d, rfl, J', nb, up, sky, na, os, ag, hw⟩ := xx
    have J : Inv X pins σ' H' sI := J'.ofTry ok
    obtain ⟨b, hT, hyes, hno⟩ := hw J.len
    refine Sky.land Zc.steady hfr hf (by rw [← hs]; exact sky) fun h3 fl3 up3 => ?_
    have J3 : Inv X pins σ' H' { s' with heap := h3 } := J.landed nb fl3.1 (up.trans up3) os ag
    have away : ∀ {h : Heap} {o : Obj} {vs : Array Value}, h.FunFrames B (X.env :: X.outer) → h.get? a = some o → o.data = .fields vs → a ≠ X.env.locals ∧ a ∉ X.fs := fun {h o vs} ff e dd => by
      have nfr : a ∉ frs (X.env :: X.outer) := fun hm => by
        obtain ⟨_, o', e', hnf⟩ := ff.mem hm
        rw [e] at e'; cases e'
        exact hnf _ dd
      refine ⟨fun z => nfr (List.mem_filterMap.mpr ⟨X.env, List.mem_cons_self, by rw [hf, z]⟩), fun hm => ?_⟩
      obtain ⟨e, he, q⟩ := List.mem_filterMap.mp hm
      exact nfr (List.mem_filterMap.mpr ⟨e, List.mem_cons_of_mem _ he, q⟩)
    obtain ⟨oe3, vs3, he3, hz3, hd3⟩ := fl3.there
    obtain ⟨nL, nF⟩ := away fl3.2.2.1 he3 hd3
    have nB : X.base.get? a = none := by
      cases e : X.base.get? a with
      | none => rfl
      | some o =>
        have z := nb a o (J.bs a o e).1 fun hm => by
          have z := (J.stack.mem hm).1
          rw [e] at z; cases z
        rw [fl3.2.1] at z; cases z
    have LT : PySem.W.Looks (model X.prog X.w) h3 (typeOf (.ref a)) cls := fun A Q E s k q => wpAny_typeOf_ref (k _ _ he3) (by rw [hz3.1]; exact q)
    refine PySem.W.exc_clause_as (hT a _ σ' H' _ _ _ (J3.suite he3 hd3 na nL nF) LT fun c h5 k5 L5 => ⟨b, L5, ?_⟩)
    have fl5 := flying_kept fl3 k5
    have up5 := (up.trans up3).trans (up_kept k5)
    cases b with
    | true =>
      rw [if_pos rfl]
      refine HandSPX.lands_againZ fl5 fun h4 fl4 up4 => ?_
      have J4 : Inv X pins σ' H' { s' with heap := h4 } := J.landed nb fl4.1 (up5.trans up4) os ag
      obtain ⟨oe4, vs4, he4, hz4, hd4⟩ := fl4.there
      refine store_ok (X := X.suite a ((a, oe4) :: (X.pn ++ pins))) (v := .ref a) (J4.suite he4 hd4 na nL nF) hN hi (.inl hln) rfl (fun s5 S5 => ?_) (.inr hln)
      refine wpAny_mono (hyes rfl a oe4 (X.pn ++ pins) na nB hz4 ⟨_, hd4⟩ [] s5 S5) (fun f s6 hsp => ?_) (fun _ _ z => False.elim z)
      cases f with
      | next => exact hsp.elim fun σ6 ⟨H6, S6, q6⟩ => gone_ok (S6.unsuite ok) hN hi hln fun s7 J7 => ⟨_, _, J7, q6⟩
      | brk => exact hsp.elim fun σ6 ⟨H6, S6, q6⟩ => gone_ok (S6.unsuite ok) hN hi hln fun s7 J7 => ⟨_, _, J7, q6⟩
      | cont => exact hsp.elim fun σ6 ⟨H6, S6, q6⟩ => gone_ok (S6.unsuite ok) hN hi hln fun s7 J7 => ⟨_, _, J7, q6⟩
      | ret u => exact hsp.elim fun v6 ⟨σ6, H6, S6, r6, q6⟩ => gone_ok (S6.unsuite ok) hN hi hln fun s7 J7 => ⟨_, _, _, J7, r6, q6⟩
    | false =>
      rw [if_neg (by decide)]
      refine wpAny_handleBy_nil ?_
      obtain ⟨k1, k2, k3, oe, vs, T, oT, ts', he, hz, hd, h1, hr⟩ := id fl5
      unfold PySem.passOn
      refine wpAny_bind (wpAny_field he hd h1 ?_)
      rw [if_neg (show ¬ ((Value.ref T == Value.none) = true) from by simp)]
      have fin : wpAny (model X.prog X.w) X.A (setFlight (.ref a) X.env.frame) (fun _ s4 => wpAny (model X.prog X.w) X.A (throw (.ref a) : Sem Flow) (SP X pins (Dn X D rest)) X.xe s4) X.xe { s' with heap := h5 } := by
        rw [hf]
        refine HandSPX.setFlight_upZ fl5 fun h4 hh4 up4 => wpAny_throw (tk _ _ ?_)
        exact ⟨a, B, sI, pins, σ', H', cls, d, rfl, J, nb, up5.trans up4, .inr (.inr (by rw [hs]; exact hh4)), na, os, ag, hno rfl⟩
      first
        | exact wpAny_bind (wpAny_pure (wpAny_bind fin))
        | exact wpAny_bind fin
  · cases f with
    | next => exact hsp.elim fun σ' ⟨H', J', q⟩ => wpAny_execs_nil ⟨σ', H', J'.ofTry ok, q⟩
    | brk => exact hsp.elim fun σ' ⟨H', J', q⟩ => ⟨σ', H', J'.ofTry ok, q⟩
    | cont => exact hsp.elim fun σ' ⟨H', J', q⟩ => ⟨σ', H', J'.ofTry ok, q⟩
    | ret u => exact hsp.elim fun v ⟨σ', H', J', r, q⟩ => ⟨v, σ', H', J'.ofTry ok, r, q⟩
end Y
namespace Y
open PySem PySem.Spec PyProof.Rows L2 Z
/-! ## objects shown to a call: untracked ones, told by their objects while the call runs -/
def shown (H : Hp) (a : Addr) (o : Obj) : Hp := upd H a (.frz o (.ext fun _ => True))
def shownL (H : Hp) : List (Addr × Obj) → Hp
  | [] => H
  | p :: L => shown (shownL H L) p.1 p.2
def delL (H : Hp) : List (Addr × Obj) → Hp
  | [] => H
  | p :: L => delL (L2.del H p.1) L
section
variable {P : Program} {w : World} {H H1 : Hp} {h h1 B : Heap} {a b : Addr} {o : Obj} {u : HO} {fs : List Addr}
theorem shown_same : shown H a o a = some (.frz o (.ext fun _ => True)) := upd_same
theorem shown_ne (hb : b ≠ a) : shown H a o b = H b := upd_ne hb
theorem shown_hok (x : HOk P w H h) (n : H a = none) (e : h.get? a = some o) : HOk P w (shown H a o) h := fun b v q => by
  by_cases hb : b = a
  · subst hb
    rw [shown_same] at q
    cases q
    exact ⟨e, trivial, ⟨o, e⟩, fun _ _ _ _ => trivial⟩
  · rw [shown_ne hb] at q
    exact (x b v q).stay (fun _ _ _ z => z) (fun c z => (shown_ne (ne_of_none z n)).trans z) (fun c xs z => (shown_ne (ne_of_none z n)).trans z)
theorem del_hok (x : HOk P w H h) (e : H a = some (.frz o u)) : HOk P w (L2.del H a) h := fun b v q => by
  have hb : b ≠ a := fun z => by rw [z, L2.del_same] at q; cases q
  rw [L2.del_ne hb] at q
  exact (x b v q).stay (fun _ _ _ z => z) (fun c z => (L2.del_ne (fun y => by rw [y, e] at z; cases z)).trans z) (fun c xs z => (L2.del_ne (fun y => by rw [y, e] at z; cases z)).trans z)
theorem del_un (U : Un fs [] (shown H a o) H1 h h1) (ok : HOk P w H1 h1) (n : H a = none) (e : h.get? a = some o) : Un fs [] H (L2.del H1 a) h h1 := by
  have e1 : h1.get? a = some o := (ok a _ (U.frzs a _ _ shown_same)).1
  refine ⟨fun b ob q nb hf hx => ?_, fun b ob q nb hf hx => ?_, fun b ob q nb hx => ?_, U.there, fun b xs q => ?_, fun b ob v q => ?_, fun b ps q => ?_⟩
  · by_cases hb : b = a
    · subst hb; rw [e] at q; cases q; exact e1
    · exact U.keep b ob q ((shown_ne hb).trans nb) hf hx
  · by_cases hb : b = a
    · subst hb; rw [e] at q; cases q; exact ⟨_, e1⟩
    · exact U.slot b ob q ((shown_ne hb).trans nb) hf hx
  · by_cases hb : b = a
    · subst hb; exact L2.del_same
    · exact (L2.del_ne hb).trans (U.free b ob q ((shown_ne hb).trans nb) hx)
  · have hb := ne_of_none q n
    exact (L2.del_ne hb).trans (U.tups b xs ((shown_ne hb).trans q))
  · have hb := ne_of_none q n
    exact (L2.del_ne hb).trans (U.frzs b ob v ((shown_ne hb).trans q))
  · have hb := ne_of_none q n
    obtain ⟨m, z⟩ := U.tbls b ps ((shown_ne hb).trans q)
    exact ⟨m, (L2.del_ne hb).trans z⟩
end
/-- what leaves a call by an exception bears the hiding of a shown object -/
def Hides (CX : CXT) : Prop := ∀ (outer : List Env) (H : Hp) (a : Addr) (o : Obj) (s : Shared) (E : XK) (u : Value) (s' : Shared), H a = none → s.heap.get? a = some o → CX outer (shown H a o) s (fun cls d H' => E cls d (L2.del H' a)) u s' → CX outer H s E u s'
theorem hides0 : Hides CX0 := fun _ _ _ _ _ _ _ _ _ _ h => h.elim
/-- a thing that may be shown at this state -/
structure Show (base : Heap) (outer : List Env) (H : Hp) (s : Shared) (a : Addr) (o : Obj) : Prop where
  ob : s.heap.get? a = some o
  no : H a = none
  nf : a ∉ frs outer
  nb : base.get? a = none
theorem Show.skip {base : Heap} {outer : List Env} {H : Hp} {s : Shared} {a b : Addr} {o p : Obj} (x : Show base outer H s a o) (h : a ≠ b) : Show base outer (shown H b p) s a o := ⟨x.ob, (shown_ne h).trans x.no, x.nf, x.nb⟩
theorem Show.list {base : Heap} {outer : List Env} {H : Hp} {s : Shared} {a : Addr} {o : Obj} (x : Show base outer H s a o) : ∀ {L : List (Addr × Obj)}, a ∉ L.map (·.1) → Show base outer (shownL H L) s a o
  | [], _ => x
  | p :: L, h => by
    simp only [List.map_cons, List.mem_cons, not_or] at h
    exact (x.list h.2).skip h.1
section
variable {P : Program} {w : World} {K : PySem.W.Frag} {mg : Str → Option Value} {base : Heap} {A : Around} {outer : List Env} {s : Shared} {H : Hp} {a : Addr} {o : Obj} {CX : CXT} {c : Code} {Q : VK} {E : XK}
theorem env0_shown (e : Env0 P w K mg base A outer s H) (x : Show base outer H s a o) : Env0 P w K mg base A outer s (shown H a o) := by
  refine ⟨e.frames, e.mod, fun b ob q => ⟨(e.bs b ob q).1, ?_⟩, e.bsz, e.funs, fun b hb => ?_, shown_hok e.hok x.no x.ob, e.bare⟩
  · rw [shown_ne (fun z => by rw [z, x.nb] at q; cases q)]
    exact (e.bs b ob q).2
  · have hba : b ≠ a := fun z => x.nf (by rw [← z]; exact hb)
    rw [shown_ne hba]
    exact e.frf b hb
theorem hide (hd : Hides CX) (n : H a = none) (e : s.heap.get? a = some o) (h : codeAny (model P w) A c (CR CX outer P w (shown H a o) s (fun v H' => Q v (L2.del H' a)) (fun cls d H' => E cls d (L2.del H' a))) s) : codeAny (model P w) A c (CR CX outer P w H s Q E) s := by
  refine codeAny_mono h fun r s' hq => ?_
  cases r with
  | error u => exact hd _ _ _ _ _ _ _ _ n e hq
  | ok fl =>
    cases fl with
    | ret u =>
      obtain ⟨v, H', os, bare, un, hok, r, q⟩ := hq
      exact ⟨v, L2.del H' a, os, bare, del_un un hok n e, del_hok hok (un.frzs a _ _ shown_same), r, q⟩
    | next => exact False.elim hq
    | brk => exact False.elim hq
    | cont => exact False.elim hq
theorem env0_shownL (e : Env0 P w K mg base A outer s H) : ∀ {L : List (Addr × Obj)}, (∀ p ∈ L, Show base outer H s p.1 p.2) → (L.map (·.1)).Nodup → Env0 P w K mg base A outer s (shownL H L)
  | [], _, _ => e
  | p :: L, x, nd => by
    rw [List.map_cons, List.nodup_cons] at nd
    exact env0_shown (env0_shownL e (fun q hq => x q (List.mem_cons_of_mem _ hq)) nd.2) ((x p List.mem_cons_self).list nd.1)
theorem hideL (hd : Hides CX) : ∀ {L : List (Addr × Obj)} {Q : VK} {E : XK}, (∀ p ∈ L, Show base outer H s p.1 p.2) → (L.map (·.1)).Nodup → codeAny (model P w) A c (CR CX outer P w (shownL H L) s (fun v H' => Q v (delL H' L)) (fun cls d H' => E cls d (delL H' L))) s → codeAny (model P w) A c (CR CX outer P w H s Q E) s
  | [], _, _, _, _, h => h
  | p :: L, Q, E, x, nd, h => by
    rw [List.map_cons, List.nodup_cons] at nd
    have xp := (x p List.mem_cons_self).list nd.1
    exact hideL hd (fun q hq => x q (List.mem_cons_of_mem _ hq)) nd.2 (hide hd xp.no xp.ob h)
end
section
variable {X : Cx} {CX : CXT} {k : Nat} {f : Addr} {fd : FuncData} {ps : List Str} {sp : Sp} {ds : List Value} {dvs : List V} {E : XK} {pins : List (Addr × Obj)} {σ : L2.St} {H : Hp} {s : Shared} {Q : VK} {us : List Value} {vs : List V} {L : List (Addr × Obj)}
/-- the call of a def to which the things of L are shown -/
theorem run_shown (F : FnOk X.prog X.w X.K X.mg X.base CX k f fd ps sp) (hr : Room k X.A) (hb : Binds X.K fd ps ds) (hv : Vals dvs ds) (hx : Passes CX X E) (hd : Hides CX) (I : Inv X pins σ H s) (r : Vals vs us)
    (x : ∀ p ∈ L, Show X.base X.stack H s p.1 p.2) (nd : (L.map (·.1)).Nodup) (h : sp (vs ++ dvs) (shownL H L) (fun v H' => Q v (delL H' L)) (fun cls d H' => E cls d (delL H' L))) :
    wpAny (model X.prog X.w) X.A (call (.ref f) us) (EP X pins σ Q) X.xe s := by
  have r2 : Vals (vs ++ dvs) (us ++ ds) := r.append hv
  have hl : (us ++ ds).length = ps.length := by rw [← r2.length]; exact F.len _ _ _ _ h
  refine wpAny_call (codeAny_mono (hideL (base := X.base) (L := L) (Q := Q) (E := E) hd x nd (F.run X.A X.stack s (shownL H L) ⟨us, []⟩ (us ++ ds) (vs ++ dvs) _ _ hr (env0_shownL I.env0 x nd) (hb s us I.kIn hl) r2 h)) fun r s' hq => ?_)
  cases r with
  | error e => exact hx pins σ H s e s' I hq
  | ok fl =>
    cases fl with
    | ret u => exact I.after hq
    | next => exact False.elim hq
    | brk => exact False.elim hq
    | cont => exact False.elim hq
end
end Y
namespace Y
open PySem PySem.Spec PyProof.Rows L2 Z
/-! ## the other way: shown things are taken out for a call (the cells of a closure) -/
abbrev Tr : HO := .ext fun _ => True
section
variable {P : Program} {w : World} {H H1 : Hp} {h h1 B : Heap} {a b : Addr} {o : Obj} {u : HO} {fs : List Addr}
theorem unshow_un (U : Un fs [] (L2.del H a) H1 h h1) (hH : H a = some (.frz o Tr)) : Un fs [] H (shown H1 a o) h h1 := by
  have ne : ∀ b v, H b = some v → (∀ p q, v ≠ .frz p q) → b ≠ a := fun b v e q z => by
    rw [z, hH] at e; cases e; exact q _ _ rfl
  have nn : ∀ b, H b = none → b ≠ a := fun b e z => by rw [z, hH] at e; cases e
  refine ⟨fun b ob q nb hf hx => U.keep b ob q ((L2.del_ne (nn b nb)).trans nb) hf hx, fun b ob q nb hf hx => U.slot b ob q ((L2.del_ne (nn b nb)).trans nb) hf hx, fun b ob q nb hx => (shown_ne (nn b nb)).trans (U.free b ob q ((L2.del_ne (nn b nb)).trans nb) hx), U.there, fun b xs q => ?_, fun b ob v q => ?_, fun b ps q => ?_⟩
  · have hb := ne b _ q fun _ _ z => by cases z
    exact (shown_ne hb).trans (U.tups b xs ((L2.del_ne hb).trans q))
  · by_cases hb : b = a
    · subst hb; rw [hH] at q; cases q; exact shown_same
    · exact (shown_ne hb).trans (U.frzs b ob v ((L2.del_ne hb).trans q))
  · have hb := ne b _ q fun _ _ z => by cases z
    obtain ⟨m, z⟩ := U.tbls b ps ((L2.del_ne hb).trans q)
    exact ⟨m, (shown_ne hb).trans z⟩
theorem unshow_ub (U : UB fs (L2.del H a) H1 h B h1) (hH : H a = some (.frz o Tr)) : UB fs H (shown H1 a o) h B h1 := by
  have ne : ∀ b v, H b = some v → (∀ p q, v ≠ .frz p q) → b ≠ a := fun b v e q z => by
    rw [z, hH] at e; cases e; exact q _ _ rfl
  have nn : ∀ b, H b = none → b ≠ a := fun b e z => by rw [z, hH] at e; cases e
  refine ⟨fun b ob q nb hf => U.keep b ob q ((L2.del_ne (nn b nb)).trans nb) hf, U.slot, fun b ob q nb => (shown_ne (nn b nb)).trans (U.free b ob q ((L2.del_ne (nn b nb)).trans nb)), U.there, fun b xs q => ?_, fun b ob v q => ?_, fun b ps q => ?_⟩
  · have hb := ne b _ q fun _ _ z => by cases z
    exact (shown_ne hb).trans (U.tups b xs ((L2.del_ne hb).trans q))
  · by_cases hb : b = a
    · subst hb; rw [hH] at q; cases q; exact shown_same
    · exact (shown_ne hb).trans (U.frzs b ob v ((L2.del_ne hb).trans q))
  · have hb := ne b _ q fun _ _ z => by cases z
    obtain ⟨m, z⟩ := U.tbls b ps ((L2.del_ne hb).trans q)
    exact ⟨m, (shown_ne hb).trans z⟩
end
/-- a thing that is shown here -/
structure Shown (outer : List Env) (H : Hp) (s : Shared) (a : Addr) (o : Obj) : Prop where
  at_ : H a = some (.frz o Tr)
  ob : s.heap.get? a = some o
  nf : a ∉ frs outer
theorem Shown.of {P : Program} {w : World} {outer : List Env} {H : Hp} {s : Shared} {a : Addr} {o : Obj} (ok : HOk P w H s.heap) (fr : ∀ b ∈ frs outer, H b = none) (h : H a = some (.frz o Tr)) : Shown outer H s a o :=
  ⟨h, (ok a _ h).1, fun z => by have q := fr a z; rw [h] at q; cases q⟩
theorem Shown.skip {outer : List Env} {H : Hp} {s : Shared} {a b : Addr} {o : Obj} (x : Shown outer H s a o) (n : a ≠ b) : Shown outer (L2.del H b) s a o := ⟨(L2.del_ne n).trans x.at_, x.ob, x.nf⟩
/-- what leaves a call by an exception bears that a hidden thing is shown again -/
structure Bares (P : Program) (w : World) (CX : CXT) : Prop where
  mono : ∀ (outer : List Env) (H : Hp) (s : Shared) (E E' : XK) (u : Value) (s' : Shared), (∀ c d H', E c d H' → E' c d H') → CX outer H s E u s' → CX outer H s E' u s'
  show_ : ∀ (outer : List Env) (H : Hp) (a : Addr) (o : Obj) (s : Shared) (E : XK) (u : Value) (s' : Shared), Shown outer H s a o → CX outer (L2.del H a) s (fun cls d H' => H' a = none → E cls d (shown H' a o)) u s' → CX outer H s E u s'
theorem baresX {P : Program} {w : World} : Bares P w (L2.CX P w) := ⟨fun outer H s E E' u s' hE ⟨y, B, H', cls, d, eu, fl, ok, ub, na, os, ag, q⟩ => ⟨y, B, H', cls, d, eu, fl, ok, ub, na, os, ag, hE _ _ _ q⟩, fun outer H a o s E u s' x ⟨y, B, H', cls, d, eu, fl, ok, ub, na, os, ag, hE⟩ => by
  have e1 : B.get? a = some o := ub.keep a o x.ob L2.del_same x.nf
  have n1 : H' a = none := ub.free a o x.ob L2.del_same
  refine ⟨y, B, shown H' a o, cls, d, eu, fl, shown_hok ok n1 e1, unshow_ub ub x.at_, ?_, os, ag, hE n1⟩
  rw [shown_ne (fun z => by have q := fl.2.1; rw [z, e1] at q; cases q)]
  exact na⟩
theorem shownL_ne {b : Addr} : ∀ {L : List (Addr × Obj)} {H : Hp}, b ∉ L.map (·.1) → shownL H L b = H b
  | [], _, _ => rfl
  | p :: L, H, h => by
    rw [List.map_cons, List.mem_cons, not_or] at h
    exact (shown_ne h.1).trans (shownL_ne h.2)
section
variable {P : Program} {w : World} {K : PySem.W.Frag} {mg : Str → Option Value} {base : Heap} {A : Around} {outer : List Env} {s : Shared} {H : Hp} {a : Addr} {o : Obj} {CX : CXT} {c : Code} {Q : VK} {E : XK}
theorem env0_del (e : Env0 P w K mg base A outer s H) (x : Shown outer H s a o) : Env0 P w K mg base A outer s (L2.del H a) := by
  have nn : ∀ b, H b = none → b ≠ a := fun b e z => by rw [z, x.at_] at e; cases e
  refine ⟨e.frames, e.mod, fun b ob q => ⟨(e.bs b ob q).1, ?_⟩, e.bsz, e.funs, fun b hb => ?_, del_hok e.hok x.at_, e.bare⟩
  · rw [L2.del_ne (nn b (e.bs b ob q).2)]
    exact (e.bs b ob q).2
  · rw [L2.del_ne (nn b (e.frf b hb))]
    exact e.frf b hb
theorem bare (hd : Bares P w CX) (x : Shown outer H s a o) (h : codeAny (model P w) A c (CR CX outer P w (L2.del H a) s (fun v H' => H' a = none → Q v (shown H' a o)) (fun cls d H' => H' a = none → E cls d (shown H' a o))) s) : codeAny (model P w) A c (CR CX outer P w H s Q E) s := by
  refine codeAny_mono h fun r s' hq => ?_
  cases r with
  | error u => exact hd.show_ _ _ _ _ _ _ _ _ x hq
  | ok fl =>
    cases fl with
    | ret u =>
      obtain ⟨v, H', os, br, un, hok, r, q⟩ := hq
      have e1 : s'.heap.get? a = some o := un.keep a o x.ob L2.del_same x.nf (by simp)
      have n1 : H' a = none := un.free a o x.ob L2.del_same (by simp)
      exact ⟨v, shown H' a o, os, br, unshow_un un x.at_, shown_hok hok n1 e1, r, q n1⟩
    | next => exact False.elim hq
    | brk => exact False.elim hq
    | cont => exact False.elim hq
theorem env0_delL : ∀ {L : List (Addr × Obj)} {H : Hp}, Env0 P w K mg base A outer s H → (∀ p ∈ L, Shown outer H s p.1 p.2) → (L.map (·.1)).Nodup → Env0 P w K mg base A outer s (delL H L)
  | [], _, e, _, _ => e
  | p :: L, H, e, x, nd => by
    rw [List.map_cons, List.nodup_cons] at nd
    exact env0_delL (L := L) (H := L2.del H p.1) (env0_del e (x p List.mem_cons_self)) (fun q hq => (x q (List.mem_cons_of_mem _ hq)).skip fun z => nd.1 (by rw [← z]; exact List.mem_map_of_mem hq)) nd.2
theorem cr_mono {Q' : VK} {E' : XK} (hd : Bares P w CX) (hQ : ∀ v H', Q v H' → Q' v H') (hE : ∀ c d H', E c d H' → E' c d H') (h : codeAny (model P w) A c (CR CX outer P w H s Q E) s) : codeAny (model P w) A c (CR CX outer P w H s Q' E') s := by
  refine codeAny_mono h fun r s' hq => ?_
  cases r with
  | error u => exact hd.mono _ _ _ _ _ _ _ hE hq
  | ok fl =>
    cases fl with
    | ret u =>
      obtain ⟨v, H', os, br, un, hok, r, q⟩ := hq
      exact ⟨v, H', os, br, un, hok, r, hQ _ _ q⟩
    | next => exact hq
    | brk => exact hq
    | cont => exact hq
theorem bareL (hd : Bares P w CX) : ∀ {L : List (Addr × Obj)} {H : Hp} {Q : VK} {E : XK}, (∀ p ∈ L, Shown outer H s p.1 p.2) → (L.map (·.1)).Nodup → codeAny (model P w) A c (CR CX outer P w (delL H L) s (fun v H' => (∀ p ∈ L, H' p.1 = none) → Q v (shownL H' L)) (fun cls d H' => (∀ p ∈ L, H' p.1 = none) → E cls d (shownL H' L))) s → codeAny (model P w) A c (CR CX outer P w H s Q E) s
  | [], _, _, _, _, _, h => cr_mono hd (fun v H' q => q (fun p hp => by cases hp)) (fun cl d H' q => q (fun p hp => by cases hp)) h
  | p :: L, H, Q, E, x, nd, h => by
    rw [List.map_cons, List.nodup_cons] at nd
    refine bare hd (x p List.mem_cons_self) (bareL hd (fun q hq => (x q (List.mem_cons_of_mem _ hq)).skip fun z => nd.1 (by rw [← z]; exact List.mem_map_of_mem hq)) nd.2 (cr_mono hd (fun v H' q q1 q2 => q fun r hr => ?_) (fun cl d H' q q1 q2 => q fun r hr => ?_) h))
    · rcases List.mem_cons.mp hr with e | e
      · rw [e]; rw [shownL_ne nd.1] at q2; exact q2
      · exact q1 r e
    · rcases List.mem_cons.mp hr with e | e
      · rw [e]; rw [shownL_ne nd.1] at q2; exact q2
      · exact q1 r e
end
section
end
end Y
namespace Y
open PySem PySem.Spec PyProof.Rows L2 Z LamX NdefX
/-! ## lambdas that are kept: what one promises, called wherever (after HandS.Nested's nok_of and HandS.Lambda's pe_act) -/
/-- a lambda: its words, the cells that it captured, its code object, its defaults' tuple -/
structure LF where
  qual : Str
  params : Arguments
  body : Expr
  scope : Scope
  cl : List (Str × Addr)
  c : Addr
  dT : Option Addr
abbrev LF.nf (F : LF) : NF := ⟨"<lambda>", F.qual, F.params, [], F.scope, F.cl, F.c⟩
abbrev LF.fd (F : LF) (pm ctv : Value) : FuncData := { PySem.W.kla_fn "<lambda>" F.qual F.params F.body F.scope F.cl pm (.ref F.c) ctv with defaults := F.dT.elim .none .ref }
/-- the object at f is the lambda F -/
def LamO (f : Addr) (F : LF) : HO := .ext fun h => ∃ (pm ctv : Value), h.get? f = some ({ cls := .type "function", data := .func (F.fd pm ctv) } : Obj)
/-- what its parameters get -/
def LBind (F : LF) (ps : List Str) : Prop := ∀ (pm ctv : Value) (its : List Value) (s : Shared), (F.dT = none → its = []) → (∀ T, F.dT = some T → ∃ o n, s.heap.get? T = some o ∧ o.data = .seq its.toArray n) → its.length = ps.length → BindsTo s (F.fd pm ctv) ⟨[], []⟩ (ps.zip its)
/-- its defaults stand in H -/
def LDef (F : LF) (dvs : List V) (H : Hp) : Prop := (F.dT = none → dvs = []) ∧ ∀ T, F.dT = some T → H T = some (.tup dvs)
/-- the promise of the lambda F at f: sp ws, ws what its captured cells hold at the call -/
structure LOk (P : Program) (w : World) (K : PySem.W.Frag) (mg : Str → Option Value) (base : Heap) (CX : CXT) (k : Nat) (f : Addr) (F : LF) (fr : List Str) (dvs : List V) (sp : List (Option V) → Hp → VK → XK → Prop) : Prop where
  run : ∀ (A : Around) (outer : List Env) (s : Shared) (H : Hp) (ws : List (Option V)) (Q : VK) (E : XK), Room k A → Env0 P w K mg base A outer s H → H f = some (LamO f F) → H F.c = some (CodeO F.c F.qual) → LDef F dvs H →
    CellsAt F.cl fr ws s.heap H → sp ws H Q E → codeAny (model P w) A (.call (.ref f) ⟨[], []⟩) (CR CX outer P w H s Q E) s
section
variable {CX : CXT} {P : Program} {w : World} {K : PySem.W.Frag} {mg : Str → Option Value} {base : Heap} {N ps fr : List Str} {F : LF} {f : Addr} {k j : Nat} {dvs : List V} {sp : List (Option V) → Hp → VK → XK → Prop}
theorem lok_of (S : NScope N ps fr F.scope) (hb : LBind F ps) (hl : dvs.length = ps.length)
    (hbody : ∀ (A : Around) (outer : List Env) (s : Shared) (H : Hp) (ws : List (Option V)) (Q : VK) (E : XK), Room k (A.deeper (envF F.nf f s.heap.objs.size)) → ws.length = fr.length → sp ws H Q E →
      HE (ncx CX P w K mg base N F.nf f A outer s H E) F.body (startF N dvs ws) H Q) : LOk P w K mg base CX (k + 1) f F fr dvs sp := by
  refine ⟨fun A outer s H ws Q E hr e0 hf hc hd C hsp => ?_⟩
  have lim : s.heap.NoLimit := e0.mod.nolimit.keeps fun b o e => (e0.bs b o e).1
  obtain ⟨⟨pm, ctv, ho⟩, _, _⟩ := e0.hok f _ hf
  obtain ⟨us, r, hus⟩ : ∃ us : List Value, Vals dvs us ∧ ((F.dT = none → us = []) ∧ ∀ T, F.dT = some T → ∃ o n, s.heap.get? T = some o ∧ o.data = .seq us.toArray n) := by
    cases e : F.dT with
    | none =>
      have z := hd.1 e
      subst z
      exact ⟨[], .nil, ⟨fun _ => rfl, fun T q => (by cases q)⟩⟩
    | some T =>
      obtain ⟨_, its, r, o, ho, _, hn⟩ : _ ∧ ∃ its : List Value, Vals dvs its ∧ IsTup s.heap T its.toArray := e0.hok T _ (hd.2 T e)
      obtain ⟨m, hn⟩ := hn
      exact ⟨its, r, ⟨fun q => (by cases q), fun T' q => (by cases q; exact ⟨o, m, ho, hn⟩)⟩⟩
  refine PySem.W.kla_callFunE hr.depth ho rfl S.co S.gen rfl (codeO_at e0.hok hc) (hb pm ctv us s hus.1 hus.2 (by rw [← r.length]; exact hl) _ _ _ _ ?_)
  refine wpAny_newFunctionEnv S.nocell (fun ⟨n, _⟩ hy => S.par n (List.of_mem_zip hy).1) (fun h₁ hns hsb => ⟨lim.fresh _ hsb, ?_⟩) S.kind
  show codeAny _ _ (.expr F.body (envF F.nf f s.heap.objs.size)) _ _
  have kp : ∀ b o, s.heap.get? b = some o → h₁.get? b = some o := fun b o e => hsb.extBut b o (Nat.ne_of_lt (Heap.lt_size e)) (Heap.get?_push_of_some _ e)
  have I : Inv (ncx CX P w K mg base N F.nf f A outer s H E) [] (startF N dvs ws) H { s with heap := h₁, toks := s.toks + (ps.zip us).length } := inv_startN (F := F.nf) S hr.hd e0 hl r C hns kp
  refine PySem.W.kla_codeExpr (wpAny_mono (hbody A outer s H ws Q E (hr.deeper _) C.len hsp [] _ I) (fun v s' hq => ?_) fun e s' hq => hq)
  obtain ⟨w', H', J, rv, q⟩ := hq
  exact ⟨w', H', J.os, J.bare, J.base, J.hok, rv, q⟩
theorem LOk.mono (o : LOk P w K mg base CX j f F fr dvs sp) (h : j ≤ k) : LOk P w K mg base CX k f F fr dvs sp := ⟨fun A outer s H ws Q E hr => o.run A outer s H ws Q E (hr.mono h)⟩
end
end Y
namespace Y
open PySem PySem.Spec PyProof.Rows L2 Z LamX NdefX
/-! ## a lambda is made, with defaults or without (after KE.KLam's kla_makeTail and HandS.Nested's ndef_make, which have no defaults) -/
section
variable {M : Model} {A : Around} {E : Value → Shared → Prop} {s : Shared} {name qual : Str} {params : Arguments} {body : Expr} {scope : Scope} {env : Env} {c P : Addr} {ps : Array Value} {pos : Pos} {line : Nat} {mg : Str → Option Value} {clos : List (Str × Addr)} {Q : Value → Shared → Prop} {dV : Value}
abbrev lamFd (qual : Str) (params : Arguments) (body : Expr) (scope : Scope) (cl : List (Str × Addr)) (pm cdv ct dV : Value) : FuncData := { PySem.W.kla_fn "<lambda>" qual params body scope cl pm cdv ct with defaults := dV }
/-- the end of the making: what closes over, the code object got by t, then the function -/
theorem tail_end {cv ct : Value} (hg : s.heap.Ns mainGlobals mg) (hge0 : env.globals = mainGlobals) (hb : s.heap.BuiltinsAt mg P)
    (h : Q (.ref s.heap.objs.size) { s with heap := s.heap.push { cls := .type "function", data := .func (lamFd qual params body scope clos ((mg "__name__").getD .none) cv ct dV) } }) :
    wpAny M A (do let bl ← builtinsFor mainGlobals env.builtins
                  let pm ← nsGet mainGlobals "__name__"
                  let dc ← (pure .none : Sem Value)
                  newObj (.type "function") (.func { name := "<lambda>", qualname := qual, params, body := .expr body, scope, globals := mainGlobals, closure := clos, closureTuple := ct, code := cv, builtins := bl, defaults := dV, kwdefaults := .none, annotations := none, pyModule := pm.getD .none, doc := dc })) Q E s := by
  obtain ⟨bm, ob, hbm, hne0, _, hneP, hbo, hcls, hdict, hdata⟩ := hb
  refine wpAny_bind (wpAny_builtinsFor hg hbm hne0 hbo hcls hdict hdata ?_)
  refine wpAny_bind (wpAny_nsGet hg ?_)
  exact wpAny_bind (wpAny_pure (wpAny_newObj_type h (by size_fits)))
theorem lam_tail (hcl : closureFor scope env = pure clos) (hge0 : env.globals = mainGlobals) (hg : s.heap.Ns mainGlobals mg) (hcode : env.code = .ref c) (C : PySem.W.CodeHd s.heap c P) (hP : s.heap.get? P = some { cls := .none, data := .fields ps }) (ht : TriplesOk ps.toList) (hgP : mainGlobals ≠ P) (hb : s.heap.BuiltinsAt mg P)
    (hnew : codeAmong pos ps.toList = none → ∀ (c' : Addr) (ctv : Value) (h' : Heap) (tk : Tok), Heap.ExtBut P s.heap h' → s.heap.objs.size ≤ c' → c' < h'.objs.size → h'.CodeRec (.ref c') qual → h'.get? P = some { cls := .none, data := .fields (ps ++ #[rawInt pos.line, rawInt pos.col, .ref c']) } →
      Q (.ref h'.objs.size) { s with heap := h'.push { cls := .type "function", data := .func (lamFd qual params body scope clos ((mg "__name__").getD .none) (.ref c') ctv dV) }, toks := tk })
    (hhit : ∀ cv, codeAmong pos ps.toList = some cv → ∀ (ctv : Value) (h' : Heap) (tk : Tok), (∀ b o, s.heap.get? b = some o → h'.get? b = some o) → s.heap.objs.size ≤ h'.objs.size →
      Q (.ref h'.objs.size) { s with heap := h'.push { cls := .type "function", data := .func (lamFd qual params body scope clos ((mg "__name__").getD .none) cv ctv dV) }, toks := tk }) :
    wpAny M A (makeTail "<lambda>" qual params (.expr body) scope env dV .none none pos line) Q E s := by
  have key : ∀ (ct : Value) (h1 : Heap), (∀ b o, s.heap.get? b = some o → h1.get? b = some o) → s.heap.objs.size ≤ h1.objs.size → h1.Ns mainGlobals mg →
      wpAny M A (do let cv ← functionCode env pos line "<lambda>" qual params scope (.expr body)
                    let bl ← builtinsFor mainGlobals env.builtins
                    let pm ← nsGet mainGlobals "__name__"
                    let dc ← (pure .none : Sem Value)
                    newObj (.type "function") (.func { name := "<lambda>", qualname := qual, params, body := .expr body, scope, globals := mainGlobals, closure := clos, closureTuple := ct, code := cv, builtins := bl, defaults := dV, kwdefaults := .none, annotations := none, pyModule := pm.getD .none, doc := dc })) Q E { s with heap := h1 } := by
    intro ct h1 k1 z1 g1
    have C1 := C.keeps k1
    have hP1 := k1 _ _ hP
    have hb1 := hb.keeps k1
    cases hc : codeAmong pos ps.toList with
    | none =>
      refine wpAny_bind (wpAny_functionCodeX hcode (C1.code hP1 ht) (C1.tab hP1) hc fun c' h' tk hx hge hlt _ hrec htb _ => ?_)
      have hx' : Heap.ExtBut P s.heap h' := fun b o hb' e => hx b o hb' (k1 b o e)
      obtain ⟨bm, ob, hbm, hne0, q4, hneP, hbo, q⟩ := hb1
      exact tail_end (g1.extBut hx hgP) hge0 ⟨bm, ob, hbm, hne0, q4, hneP, hx _ _ hneP hbo, q⟩ (hnew hc c' ct h' tk hx' (Nat.le_trans z1 hge) hlt hrec htb.2)
    | some cv =>
      refine wpAny_bind (wpAny_functionCode_hit hcode (C1.code hP1 ht) hc ?_)
      exact tail_end g1 hge0 hb1 (hhit cv hc ct h1 s.toks k1 z1)
  unfold makeTail
  rw [hcl, hge0]
  refine wpAny_bind (wpAny_pure ?_)
  cases hq : clos.isEmpty with
  | true =>
    simp only [if_true]
    exact wpAny_bind (wpAny_pure (key .none s.heap (fun _ _ e => e) (Nat.le_refl _) hg))
  | false =>
    simp only [Bool.false_eq_true, if_false]
    refine wpAny_bind (wpAny_newTextTuple ?_)
    exact key _ _ (fun b o e => Heap.get?_push_of_some _ e) (by rw [Heap.size_push]; omega) (hg.push _)
end
end Y
namespace Y
open PySem PySem.Spec PyProof.Rows L2 Z LamX NdefX
theorem lamO_ne {f : Addr} {F : LF} (ps : Array Value) : LamO f F ≠ .tbl ps := fun z => by unfold LamO at z; cases z
section
variable {X : Cx} {pins : List (Addr × Obj)} {σ : L2.St} {H : Hp} {s : Shared}
/-- a lambda's object just made is known from now on -/
theorem inv_lam {F : LF} {o : Obj} {t' : Nat} {pm ctv : Value} (I : Inv X pins σ H s) (ho : o = { cls := .type "function", data := .func (F.fd pm ctv) }) :
    Inv X pins σ (upd H s.heap.objs.size (LamO s.heap.objs.size F)) { s with heap := s.heap.push o, toks := t' } := by
  subst ho
  have e : (s.heap.push ({ cls := .type "function", data := .func (F.fd pm ctv) } : Obj)).get? s.heap.objs.size = some ({ cls := .type "function", data := .func (F.fd pm ctv) } : Obj) := Heap.get?_push_size _ rfl
  exact I.laid (a := s.heap.objs.size) (fun b u e => Heap.get?_push_of_some _ e) (Nat.le_refl _) ⟨⟨pm, ctv, e⟩, ⟨_, e⟩, fun h1 h2 ⟨p, t, z⟩ st => ⟨p, t, st _ z⟩⟩
/-- what stands behind the making: the lambda at f, its code object at c' -/
structure Made (T : List NTab) (F : Addr → LF) (H H1 : Hp) (f c' : Addr) : Prop where
  ext : ExtN H H1
  mono : ∀ b, H1 b = none → H b = none
  tabs : TabsN T H1
  new : H f = none
  lam : H1 f = some (LamO f (F c'))
  code : H1 c' = some (CodeO c' (F c').qual)
theorem lam_made {T : List NTab} {nm : Nat → Nat → Str} {c P : Addr} {params : Arguments} {body : Expr} {scope : Scope} {pos : Pos} {dT : Option Addr} {E : Value → Shared → Prop} {Q : Value → Shared → Prop} (I : Inv X pins σ H s) (TB : TabB X.base X.mg c P) (hcode : X.env.code = .ref c)
    (hm : (P, nm) ∈ T) (hn : nm pos.line pos.col = X.env.qual ++ "<lambda>") (hu : ∀ p ∈ T, p.1 = P → p.2 = nm) (hT : TabsN T H) (hfree : ∀ y ∈ scope.names, y.2 = .free → ∃ c, X.env.cells.lookup y.1 = some c)
    (h : ∀ (f c' : Addr) (H1 : Hp) (s' : Shared), Inv X pins σ H1 s' → Made T (fun c' => ⟨X.env.qual ++ "<lambda>", params, body, scope, cloFrom X.env.cells scope.names [], c', dT⟩) H H1 f c' → Q (.ref f) s') :
    wpAny (model X.prog X.w) X.A (makeTail "<lambda>" (X.env.qual ++ "<lambda>") params (.expr body) scope X.env (dT.elim .none .ref) .none none pos pos.line) Q E s := by
  obtain ⟨ps, hP, ht, ha⟩ := (show TabN H P nm from hT _ hm)
  have bP : s.heap.BuiltinsAt X.mg P := TB.bm.keeps I.bk
  have hP' : s.heap.get? P = some { cls := .none, data := .fields ps } := I.hok P _ hP
  refine lam_tail (closure_ok hfree) I.ok.glob (I.mod.glob.keeps I.bk) hcode (TB.code.keeps I.bk) hP' ht TB.gP bP (fun hc c' ctv h' tk hx hge hlt hrec htb => ?_) (fun cv hc ctv h' tk hx hsz => ?_)
  · obtain ⟨c2, oc, vs, t, e2, hoc, hd, hv⟩ := hrec
    cases e2
    have nC : H c' = none := I.hok.fresh hge
    have I1 := inv_table (t' := tk) (more := #[rawInt pos.line, rawInt pos.col, .ref c']) (h' := h') I hP (fun b o hb e => hx b o hb e) htb hge ⟨oc, vs, t, hoc, hd, hv⟩
    have hE : ExtN H (upd (upd H P (.tbl (ps ++ #[rawInt pos.line, rawInt pos.col, .ref c']))) c' (CodeO c' (X.env.qual ++ "<lambda>"))) := fun b o e n => by
      rw [upd_ne (ne_of_none e nC), upd_ne (fun z => n ps (Option.some.inj (e.symm.trans (by rw [z]; exact hP))))]
      exact e
    have eL : (ps ++ #[rawInt pos.line, rawInt pos.col, .ref c']).toList = ps.toList ++ [rawInt pos.line, rawInt pos.col, .ref c'] := by simp
    have T1 : TabsN T (upd (upd H P (.tbl (ps ++ #[rawInt pos.line, rawInt pos.col, .ref c']))) c' (CodeO c' (X.env.qual ++ "<lambda>"))) := fun p hp => by
      by_cases hb : p.1 = P
      · rw [hu p hp hb, hb]
        refine ⟨_, by rw [upd_ne (ne_of_none hP nC), upd_same], by rw [eL]; exact PySem.TriplesOk_snoc _ _ _ _ ht, fun p' cv hcv => ?_⟩
        rw [eL] at hcv
        rcases among_app2 _ ht hcv with z | ⟨z, z1, z2⟩
        · obtain ⟨c0, e1, e2⟩ := ha p' cv z
          exact ⟨c0, e1, hE _ _ e2 codeO_ne⟩
        · refine ⟨c', z, ?_⟩
          rw [← z1, ← z2, hn]
          exact upd_same
      · obtain ⟨ps', a1, a2, a3⟩ := hT p hp
        refine ⟨ps', by rw [upd_ne (ne_of_none a1 nC), upd_ne hb]; exact a1, a2, fun p' cv hcv => ?_⟩
        obtain ⟨c0, e1, e2⟩ := a3 p' cv hcv
        exact ⟨c0, e1, hE _ _ e2 codeO_ne⟩
    have nF := I1.hok.fresh (Nat.le_refl _)
    have I2 := inv_lam (F := ⟨X.env.qual ++ "<lambda>", params, body, scope, cloFrom X.env.cells scope.names [], c', dT⟩) (t' := tk) (pm := (X.mg "__name__").getD .none) (ctv := ctv) I1 rfl
    refine h h'.objs.size c' _ _ I2 ⟨fun b o e n => ?_, fun b e => upd_none (upd_none (upd_none e)), T1.ext fun b o e => ?_, I.hok.fresh (Nat.le_trans hge (Nat.le_of_lt hlt)), upd_same, ?_⟩
    · have e1 := hE b o e n
      exact (upd_ne (ne_of_none e1 nF)).trans e1
    · exact (upd_ne (ne_of_none e nF)).trans e
    · exact (upd_ne (Nat.ne_of_lt hlt)).trans upd_same
  · obtain ⟨c', e, hco⟩ := ha pos cv hc
    subst e
    rw [hn] at hco
    have I1 : Inv X pins σ H { s with heap := h', toks := tk } := I.kept hx
    have nF : H h'.objs.size = none := I1.hok.fresh (Nat.le_refl _)
    have I2 := inv_lam (F := ⟨X.env.qual ++ "<lambda>", params, body, scope, cloFrom X.env.cells scope.names [], c', dT⟩) (t' := tk) (pm := (X.mg "__name__").getD .none) (ctv := ctv) I1 rfl
    refine h h'.objs.size c' _ _ I2 ⟨fun b o e n => ?_, fun b e => upd_none e, hT.ext fun b o e => ?_, nF, upd_same, ?_⟩
    · exact (upd_ne (ne_of_none e nF)).trans e
    · exact (upd_ne (ne_of_none e nF)).trans e
    · exact (upd_ne (ne_of_none hco nF)).trans hco
end
/-- the Lambda expression: no default -/
theorem he_lam0 {X : Cx} {σ : L2.St} {H : Hp} {T : List NTab} {nm : Nat → Nat → Str} {c P : Addr} {params : Arguments} {body : Expr} {scope : Scope} {pos : Pos} {Q : VK} (TB : TabB X.base X.mg c P) (hcode : X.env.code = .ref c) (hm : (P, nm) ∈ T) (hn : nm pos.line pos.col = X.env.qual ++ "<lambda>") (hu : ∀ p ∈ T, p.1 = P → p.2 = nm) (hT : TabsN T H)
    (hfree : ∀ y ∈ scope.names, y.2 = .free → X.env.scope.names.lookup y.1 = some .cell ∨ X.env.scope.names.lookup y.1 = some .free) (hdef : defaultsOf params X.env = ([], []))
    (h : ∀ f c' H1, Made T (fun c' => ⟨X.env.qual ++ "<lambda>", params, body, scope, cloFrom X.env.cells scope.names [], c', none⟩) H H1 f c' → Q (.ref f) H1) : HE X (.Lambda params body scope pos) σ H Q := fun pins s I => by
  refine PySem.W.kla_eval hdef ?_
  rw [makeFunction_eq]
  simp only [List.zip_nil_right, List.filterMap_nil, List.isEmpty_nil, if_true, pure_bind]
  exact lam_made (dT := none) I TB hcode hm hn hu hT (fun y hy e => (hfree y hy e).elim (fun z => I.ok.has _ (.inl z)) fun z => I.ok.has _ (.inr z)) fun f c' H1 s' I1 M => ⟨.ref f, H1, I1, rfl, h f c' H1 M⟩
/-- .. with one default -/
theorem he_lam1 {X : Cx} {σ : L2.St} {H : Hp} {T : List NTab} {nm : Nat → Nat → Str} {c P : Addr} {params : Arguments} {body e : Expr} {scope : Scope} {pos : Pos} {Q : VK} (TB : TabB X.base X.mg c P) (hcode : X.env.code = .ref c) (hm : (P, nm) ∈ T) (hn : nm pos.line pos.col = X.env.qual ++ "<lambda>") (hu : ∀ p ∈ T, p.1 = P → p.2 = nm)
    (hfree : ∀ y ∈ scope.names, y.2 = .free → X.env.scope.names.lookup y.1 = some .cell ∨ X.env.scope.names.lookup y.1 = some .free) (hdef : defaultsOf params X.env = ([eval e X.env], []))
    (h : HE X e σ H fun v H0 => TabsN T H0 ∧ ∀ d, H0 d = none → ∀ f c' H1, Made T (fun c' => ⟨X.env.qual ++ "<lambda>", params, body, scope, cloFrom X.env.cells scope.names [], c', some d⟩) (upd H0 d (.tup [v])) H1 f c' → Q (.ref f) H1) : HE X (.Lambda params body scope pos) σ H Q := fun pins s I => by
  rw [arm_eval_Lambda, hdef]
  show wpAny _ _ (do let dv ← evalAll [eval e X.env]; let kdv ← holding dv (evalAllOpt []); makeFunction "<lambda>" (X.env.qual ++ "<lambda>") params (.expr body) scope X.env dv kdv [] pos pos.line) _ _ s
  refine wpAny_bind ?_
  show wpAny _ _ (do let v ← eval e X.env; let r ← holding [v] (evalAll []); pure (v :: r)) _ _ s
  refine wpAny_bind (thn (h pins s I) fun u s1 hh => ?_)
  obtain ⟨v, H0, I0, rv, hT, q⟩ := hh
  refine wpAny_bind (wpAny_holding (wpAny_pure (wpAny_pure ?_)))
  refine wpAny_bind (wpAny_holding (wpAny_pure ?_))
  rw [makeFunction_eq]
  simp only [List.zip_nil_right, List.filterMap_nil, List.isEmpty_nil, List.isEmpty_cons, Bool.false_eq_true, if_false, if_true, pure_bind]
  refine wpAny_bind (wpAny_newTextTuple ?_)
  have nD : H0 s1.heap.objs.size = none := I0.hok.fresh (Nat.le_refl _)
  have I1 : Inv X pins σ (upd H0 s1.heap.objs.size (.tup [v])) { s1 with heap := s1.heap.push { cls := .type "tuple", data := .seq [u].toArray }, toks := s1.toks } :=
    I0.laid (fun b o e => Heap.get?_push_of_some _ e) (Nat.le_refl _) ⟨by size_fits, [u], .cons rv .nil, IsTup.new _ _⟩
  exact lam_made (dT := some s1.heap.objs.size) I1 TB hcode hm hn hu (hT.ext fun b o e => (upd_ne (ne_of_none e nD)).trans e) (fun y hy e => (hfree y hy e).elim (fun z => I0.ok.has _ (.inl z)) fun z => I0.ok.has _ (.inr z)) fun f c' H1 s' I2 M => ⟨.ref f, H1, I2, rfl, q _ nD f c' H1 M⟩
end Y
namespace Y
open PySem PySem.Spec PyProof.Rows L2 Z LamX NdefX
/-! ## a kept lambda is called, its cells shown here -/
theorem delL_ne {b : Addr} : ∀ {L : List (Addr × Obj)} {H : Hp}, (∀ p ∈ L, p.1 ≠ b) → delL H L b = H b
  | [], _, _ => rfl
  | p :: L, H, h => (delL_ne (L := L) (H := L2.del H p.1) fun q hq => h q (List.mem_cons_of_mem _ hq)).trans (L2.del_ne (Ne.symm (h p List.mem_cons_self)))
theorem delL_none {b : Addr} : ∀ {L : List (Addr × Obj)} {H : Hp}, H b = none → delL H L b = none
  | [], _, h => h
  | p :: L, H, h => delL_none (L := L) (H := L2.del H p.1) (by
      by_cases hb : b = p.1
      · rw [hb]; exact L2.del_same
      · exact (L2.del_ne hb).trans h)
theorem delL_mem {b : Addr} : ∀ {L : List (Addr × Obj)} {H : Hp}, b ∈ L.map (·.1) → delL H L b = none
  | p :: L, H, h => by
    rw [List.map_cons, List.mem_cons] at h
    by_cases hb : b = p.1
    · exact delL_none (L := L) (H := L2.del H p.1) (by rw [hb]; exact L2.del_same)
    · exact delL_mem (L := L) (H := L2.del H p.1) (h.resolve_left hb)
/-- the captured cells among the shown things, what they hold (ws) -/
structure CellsL (cl : List (Str × Addr)) (fr : List Str) (ws : List (Option V)) (L : List (Addr × Obj)) : Prop where
  len : ws.length = fr.length
  all : ∀ y c, cl.lookup y = some c → ∃ o v, (c, o) ∈ L ∧ o.data = .cell v
  inj : ∀ x y c, cl.lookup x = some c → cl.lookup y = some c → x = y
  has : ∀ (i : Nat) (y : Str), fr[i]? = some y → ∃ c, cl.lookup y = some c ∧ ∀ v, ws[i]? = some (some v) → ∃ u o, L2.RelV v u ∧ (c, o) ∈ L ∧ o.data = .cell (some u)
theorem CellsL.at_ {cl : List (Str × Addr)} {fr : List Str} {ws : List (Option V)} {L : List (Addr × Obj)} {h : Heap} {H : Hp} (C : CellsL cl fr ws L) (hL : ∀ p ∈ L, h.get? p.1 = some p.2) : CellsAt cl fr ws h (delL H L) := by
  refine ⟨C.len, fun y c e => ?_, C.inj, fun i y e => ?_⟩
  · obtain ⟨o, v, m, d⟩ := C.all y c e
    exact ⟨delL_mem (List.mem_map.mpr ⟨_, m, rfl⟩), v, o, hL _ m, d⟩
  · obtain ⟨c, e1, e2⟩ := C.has i y e
    refine ⟨c, e1, fun v hv => ?_⟩
    obtain ⟨u, o, r, m, d⟩ := e2 v hv
    exact ⟨u, r, o, hL _ m, d⟩
/-- a kept lambda with its cells shown: what is known of it in H -/
structure Kept (F : LF) (f : Addr) (fr : List Str) (dvs : List V) (ws : List (Option V)) (L : List (Addr × Obj)) (H : Hp) : Prop where
  lam : H f = some (LamO f F)
  code : H F.c = some (CodeO F.c F.qual)
  dfl : LDef F dvs H
  shw : ∀ p ∈ L, H p.1 = some (.frz p.2 Tr)
  nd : (L.map (·.1)).Nodup
  cells : CellsL F.cl fr ws L
theorem Kept.ext {F : LF} {f : Addr} {fr : List Str} {dvs : List V} {ws : List (Option V)} {L : List (Addr × Obj)} {H H' : Hp} (k : Kept F f fr dvs ws L H) (s : Same H H') : Kept F f fr dvs ws L H' :=
  ⟨s _ _ k.lam, s _ _ k.code, ⟨k.dfl.1, fun T e => s _ _ (k.dfl.2 T e)⟩, fun p hp => s _ _ (k.shw p hp), k.nd, k.cells⟩
section
variable {X : Cx} {σ : L2.St} {H : Hp} {i k : Nat} {a : Str} {p1 p2 : Pos} {f : Addr} {F : LF} {fr : List Str} {dvs : List V} {ws : List (Option V)} {L : List (Addr × Obj)} {sp : List (Option V) → Hp → VK → XK → Prop} {W : WX} {E : XK} {Q : VK}
/-- a(), a the name of slot i -/
theorem he_callLam (tk : Takes X W) (hW : ∀ cls d σ' H', E cls d H' → W cls d σ' H') (LO : LOk X.prog X.w X.K X.mg X.base (L2.CX X.prog X.w) k f F fr dvs sp) (hr : Room k X.A) (hs : σ[i]? = some (some (.ref f))) (KH : Kept F f fr dvs ws L H)
    (h : sp ws (delL H L) (fun v H' => (∀ p ∈ L, H' p.1 = none) → Q v (shownL H' L)) (fun cls d H' => (∀ p ∈ L, H' p.1 = none) → E cls d (shownL H' L))) (hN : X.N[i]? = some a) (hv : Vis X.env.scope a) (hd : (a == ("__debug__" : Str)) = false := by decide) (hcd : (a == ("__classdict__" : Str)) = false := by decide) :
    HE X (.Call (.Name a p1) [] [] p2) σ H Q := fun pins s I => by
  refine wpAny_Call_Name_kw (thn ((pe_var (pos := p1) (i := i) hN hv hd hcd).run pins s σ H (fun v H1 => v = .ref f ∧ H1 = H) I ⟨.ref f, hs, rfl, rfl⟩) fun u s1 ⟨v, H1, I1, r1, q1⟩ => ?_)
  obtain ⟨ev, eH⟩ := q1
  subst ev
  rw [eH] at I1
  obtain rfl : u = Value.ref f := r1
  obtain ⟨⟨pm, ctv, ho⟩, _, _⟩ := I1.hok f _ KH.lam
  refine PySem.W.callWith_F0 ⟨_, _, _, _, ho⟩ ?_
  have e0 := I1.env0
  have sh : ∀ p ∈ L, Shown X.stack H s1 p.1 p.2 := fun p hp => Shown.of I1.hok e0.frf (KH.shw p hp)
  have off : ∀ b v, H b = some v → (∀ o, v ≠ .frz o Tr) → delL H L b = H b := fun b v e n => delL_ne fun p hp z => by
    have q := KH.shw p hp
    rw [z, e] at q
    exact n _ (Option.some.inj q)
  have o1 : delL H L f = some (LamO f F) := (off f _ KH.lam fun o z => by unfold LamO at z; cases z).trans KH.lam
  have o2 : delL H L F.c = some (CodeO F.c F.qual) := (off _ _ KH.code fun o z => by unfold CodeO at z; cases z).trans KH.code
  have o3 : LDef F dvs (delL H L) := ⟨KH.dfl.1, fun T e => (off T _ (KH.dfl.2 T e) fun o z => by cases z).trans (KH.dfl.2 T e)⟩
  have rc : codeAny (model X.prog X.w) X.A (.call (.ref f) ⟨[], []⟩) (CR (L2.CX X.prog X.w) X.stack X.prog X.w H s1 Q E) s1 :=
    bareL baresX sh KH.nd (LO.run X.A X.stack s1 (delL H L) ws _ _ hr (env0_delL e0 sh KH.nd) o1 o2 o3 (KH.cells.at_ fun p hp => (sh p hp).ob) h)
  have hx : Passes (L2.CX X.prog X.w) X E := passes_call tk hW
  refine wpAny_call (codeAny_mono rc fun r s' hq => ?_)
  cases r with
  | error e => exact hx pins σ H s1 e s' I1 hq
  | ok fl =>
    cases fl with
    | ret u => exact I1.after hq
    | next => exact False.elim hq
    | brk => exact False.elim hq
    | cont => exact False.elim hq
end
end Y
namespace Y
open PySem PySem.Spec PyProof.Rows L2 Z
/-! ## a text in a list of texts; what a caught error keeps -/
theorem dts_str {K : PySem.W.Frag} {H : Hp} {ns : List Str} {xs : List V} (h : Dts K (ns.map .str) xs H) : xs = ns.map V.str := by
  refine List.ext_getElem? fun i => ?_
  cases e : ns[i]? with
  | none =>
    rw [List.getElem?_map, e]
    refine List.getElem?_eq_none ?_
    rw [h.1, List.length_map]
    exact List.getElem?_eq_none_iff.mp e
  | some n =>
    obtain ⟨hi, _⟩ := List.getElem?_eq_some_iff.mp e
    have hx : i < xs.length := by rw [h.1, List.length_map]; exact hi
    have q := h.2 i xs[i] (.str n) (List.getElem?_eq_getElem hx) (by rw [List.getElem?_map, e]; rfl)
    rw [List.getElem?_map, e, List.getElem?_eq_getElem hx]
    cases hq : xs[i] with
    | str m => rw [hq] at q; cases q; rfl
    | _ => rw [hq] at q; cases q
theorem inV_str (n : Str) : ∀ ns : List Str, inV (.str n) (ns.map V.str) = ns.any fun m => decide (m = n)
  | [] => rfl
  | m :: ns => by
    have h := inV_str n ns
    unfold inV at h ⊢
    rw [List.map_cons, List.any_cons, h, List.any_cons]
    congr 1
theorem flat_strs (ns : List Str) : (ns.map V.str).all flatV = true := by
  induction ns with
  | nil => rfl
  | cons n ns ih => rw [List.map_cons, List.all_cons, ih]; rfl
section
variable {X : Cx} {σ : L2.St} {S : Hp} {a b : Expr} {pos : Pos} {n : Str} {ns : List Str}
theorem opE_inLs {K : PySem.W.Frag} : OpE (rIn K false) S (Dt K (.str n)) (Dt K (.list (ns.map .str))) (Dt K (.bool (ns.any fun m => decide (m = n)))) := fun v w S1 H1 _ s pv pw Q q => by
  cases pv
  obtain ⟨l, xs, rfl, hl, hx, z⟩ := pw.lst_inv
  rw [dts_str hx] at hl
  refine ⟨l, ns.map V.str, rfl, .inl (sql_of (s _ _ hl)), rfl, flat_strs ns, ?_⟩
  rw [if_neg Bool.false_ne_true, inV_str]
  exact q _ S1 H1 (Gr.refl s) (.bl _)
theorem et_inLs (ha : EE X σ S a (Dt X.K (.str n))) (hb : EE X σ S b (Dt X.K (.list (ns.map .str)))) (hm : behindInMarks .In b = false := by rfl) : ET X σ S (.Compare a [.In] [b] pos) (ns.any fun m => decide (m = n)) := et_cmp op_in_seq ha hb opE_inLs hm
end
/-- a shown own error, its code, the attribute n -/
def ExcAt (C : Addr) (code n : Str) (v : V) (w : V) (S : Hp) : Prop := ∃ (a : Addr) (oe : Obj) (dd : Addr) (fs : List (Str × V)), w = .ref a ∧ S a = some (.frz oe Tr) ∧ oe.cls = .ref C ∧ oe.dict = some dd ∧ (∃ vs, oe.data = .fields vs) ∧ S dd = some (.xd fs) ∧ fs.lookup ("code" : Str) = some (V.str code) ∧ fs.lookup n = some v
instance {C : Addr} {code n : Str} {v : V} : Mn (ExcAt C code n v) := ⟨fun s ⟨a, oe, dd, fs, h1, h2, h3, h4, h5, h6, h7, h8⟩ => ⟨a, oe, dd, fs, h1, s _ _ h2, h3, h4, h5, s _ _ h6, h7, h8⟩⟩
section
end
end Y
namespace Y
open PySem PySem.Spec PyProof.Rows L2 Z
/-- a state with the exception shown, and back -/
theorem Gr.unshown {S H S1 H1 : Hp} {a : Addr} {oe : Obj} (s : Same S H) (n : H a = none) (g : Gr (shown S a oe) (shown H a oe) S1 H1) : Gr S H (L2.del S1 a) (L2.del H1 a) := by
  have nS : S a = none := s.free n
  refine ⟨fun b o e => ?_, fun b o e => ?_, fun b o e => ?_, fun b o e m => ?_⟩
  · have hb := ne_of_none e nS
    exact (L2.del_ne hb).trans (g.st b o ((shown_ne hb).trans e))
  · by_cases hb : b = a
    · rw [hb, L2.del_same] at e; cases e
    · rw [L2.del_ne hb] at e
      exact (L2.del_ne hb).trans (g.sub b o e)
  · have hb := ne_of_none e n
    exact (L2.del_ne hb).trans (g.hh b o ((shown_ne hb).trans e))
  · have hb := ne_of_none e n
    exact (L2.del_ne hb).trans ((g.old b o ((shown_ne hb).trans e) m).trans (shown_ne hb))
theorem shown_same_sub {S H : Hp} {a : Addr} {oe : Obj} (s : Same S H) : Same (shown S a oe) (shown H a oe) := fun b o e => by
  by_cases hb : b = a
  · subst hb; rw [shown_same] at e ⊢; exact e
  · rw [shown_ne hb] at e ⊢; exact s b o e
/-- shown things put back on top -/
theorem Gr.shownL {S H S1 H1 : Hp} {L : List (Addr × Obj)} (g : Gr S (delL H L) S1 H1) (hL : ∀ p ∈ L, H1 p.1 = none) (hk : ∀ p ∈ L, H p.1 = some (.frz p.2 Tr)) (nd : (L.map (·.1)).Nodup) : Gr S H S1 (shownL H1 L) := by
  have atL : ∀ {L : List (Addr × Obj)} {p : Addr × Obj}, p ∈ L → (L.map (·.1)).Nodup → Y.shownL H1 L p.1 = some (.frz p.2 Tr) := by
    intro L
    induction L with
    | nil => intro p hp; cases hp
    | cons q L ih =>
      intro p hp nd
      rw [List.map_cons, List.nodup_cons] at nd
      rcases List.mem_cons.mp hp with e | e
      · rw [e]; exact shown_same
      · exact (shown_ne fun z => nd.1 (by rw [← z]; exact List.mem_map_of_mem e)).trans (ih e nd.2)
  have top : Same H1 (Y.shownL H1 L) := fun b o e => by
    have hb : b ∉ L.map (·.1) := fun z => by
      obtain ⟨p, hp, rfl⟩ := List.mem_map.mp z
      rw [hL p hp] at e; cases e
    exact (shownL_ne hb).trans e
  refine ⟨g.st, g.sub.trans top, fun b o e => ?_, fun b o e m => ?_⟩
  · by_cases hb : b ∈ L.map (·.1)
    · obtain ⟨p, hp, rfl⟩ := List.mem_map.mp hb
      rw [hk p hp] at e
      rw [atL hp nd]; exact e
    · exact top b o (g.hh b o ((delL_ne fun p hp z => hb (by rw [← z]; exact List.mem_map_of_mem hp)).trans e))
  · by_cases hb : b ∈ L.map (·.1)
    · obtain ⟨p, hp, rfl⟩ := List.mem_map.mp hb
      have n1 : S1 p.1 = none := g.sub.free (hL p hp)
      rw [n1, g.st.free n1]
    · exact g.old b o ((delL_ne fun p hp z => hb (by rw [← z]; exact List.mem_map_of_mem hp)).trans e) m
end Y
namespace Y
open PySem PySem.Spec PyProof.Rows L2 L2H Z
/-! ## a def called within an except suite, the caught exception pinned; it raises nothing there (after HandS.HotCalls, without its wish on the exception's context) -/
structure FnP (P : Program) (w : World) (K : PySem.W.Frag) (mg : Str → Option Value) (base : Heap) (k : Nat) (f : Addr) (fd : FuncData) (ps : List Str) (sp : Addr × Obj → List V → Hp → VK → Prop) : Prop where
  len : ∀ p vs H Q, sp p vs H Q → vs.length = ps.length
  run : ∀ (A : Around) (outer : List Env) (s : Shared) (H : Hp) (args : Args) (us : List Value) (vs : List V) (Q : VK) (p : Addr × Obj), RoomH k A → PinOk outer H s p → Env0 P w K mg base A outer s H → BindsTo s fd args (ps.zip us) → Vals vs us → sp p vs H Q →
    codeAny (model P w) A (.call (.ref f) args) (CR CX0 outer P w H s Q (fun _ _ _ => False)) s
section
variable {P : Program} {w : World} {K : PySem.W.Frag} {mg : Str → Option Value} {base : Heap} {x qual : Str} {params : Arguments} {body : List Stmt} {scope : Scope} {dvs : List V} {kws : List (Str × V)} {f : Addr} {fd : FuncData} {N ps : List Str} {k : Nat} {sp : Addr × Obj → List V → Hp → VK → Prop}
theorem fn_hsP (F : FunD K x qual params body scope dvs kws f fd) (S : FnScope N ps scope) (len : ∀ p vs H Q, sp p vs H Q → vs.length = ps.length)
    (hb : ∀ (cdv : Value) (A : Around) (outer : List Env) (s : Shared) (H : Hp) (vs : List V) (Q : VK) (p : Addr × Obj), RoomH k (A.deeper (envOfC qual scope s.heap.objs.size f cdv)) → sp p vs H Q →
      HS (cxH CX0 P w K mg base N qual scope f cdv A outer s H (fun _ _ _ => False) p) { nx := fun _ H' => Q .non H', rt := Q } body (start N vs) H) : FnP P w K mg base (k + 1) f fd ps sp := by
  obtain ⟨oc, od, dV, kV, doc, pm, an, cdv, ct, osl, rfl, lk, hcd, _, _⟩ := F.ex
  refine ⟨len, fun A outer s H args us vs Q p hr hpin e0 hbt r hsp => ?_⟩
  have hl := len _ _ _ _ hsp
  have KX : K.In s.heap := e0.mod.kin.keeps fun b o e => (e0.bs b o e).1
  have lim : s.heap.NoLimit := e0.mod.nolimit.keeps fun b o e => (e0.bs b o e).1
  have hkind : ∀ y ∈ ps.zip us, scope.names.lookup y.1 = some .local ∨ (scope.names.lookup y.1 = some .cell ∧ ((cellsFrom (s.heap.objs.size + 1) scope.names []).lookup y.1).isSome = true) := fun ⟨n, v⟩ hy => by
    rcases S.par n (List.of_mem_zip hy).1 with q | q
    · exact .inl q
    · exact .inr ⟨q, PySem.W.cellsFrom_some _ _ _ (.inl q)⟩
  refine codeAny_call_function hr.depth (KX _ _ lk) rfl S.co S.gen rfl (PySem.W.codeRec_of KX hcd) (hbt _ _ _ _ ?_)
  refine wpAny_newFunctionEnv_cells S.kind hkind fun env he s1 xx => ?_
  subst he
  refine ⟨lim.keeps xx.toInCall.keep, codeAny_func ?_⟩
  have I : Inv (cxH CX0 P w K mg base N qual scope f cdv A outer s H (fun _ _ _ => False) p) [] (L2.start N vs) H s1 := inv_startH S hpin e0 hl r xx
  refine wpAny_mono (hb cdv A outer s H vs Q p (hr.deeper _) hsp [] s1 I) (fun fl s' hs => ?_) fun e s' hs => hs
  have fin : ∀ {σ' : L2.St} {H' : Hp} {v : V} {u : Value}, Inv (cxH CX0 P w K mg base N qual scope f cdv A outer s H (fun _ _ _ => False) p) [] σ' H' s' → L2.RelV v u → Q v H' → CE outer P w H s Q u s' :=
    fun {σ' H' v u} J rv q => ⟨v, H', J.os, J.bare, J.base, J.hok, rv, q⟩
  cases fl with
  | ret u => exact hs.elim fun v ⟨σ', H', J, rv, q⟩ => fin J rv q
  | next => exact hs.elim fun σ' ⟨H', J, q⟩ => fin (v := V.non) (u := Value.none) J rfl q
  | brk => exact hs.elim fun _ ⟨_, _, q⟩ => False.elim q
  | cont => exact hs.elim fun _ ⟨_, _, q⟩ => False.elim q
end
/-- f(e), e the caught exception, in its suite -/
theorem he_callP {X : Cx} {a : Addr} {oe : Obj} {pn : List (Addr × Obj)} {k : Nat} {f : Addr} {fd : FuncData} {ps : List Str} {sp : Addr × Obj → List V → Hp → VK → Prop} {fx : Str} {e : Expr} {σ : L2.St} {H : Hp} {Q : VK} {p pos : Pos} (F : FnP X.prog X.w X.K X.mg X.base k f fd ps sp) (hr : RoomH k (X.suite a ((a, oe) :: pn)).A)
    (hm : X.mg fx = some (.ref f)) (hk : PySem.W.keepIn X.K (.ref f) = true) (hb : Binds X.K fd ps []) (ha : HE (X.suite a ((a, oe) :: pn)) e σ H (fun v H1 => v = .ref a ∧ H1 = H)) (h : sp (a, oe) [.ref a] H Q)
    (hg : Gl X fx := by rfl) (hdb : (fx == ("__debug__" : Str)) = false := by decide) (he : starEach [e] X.env = (false, eval e X.env) :: starEach [] X.env := by rfl) (hpl : (backTo pos (starEach [] X.env)).any (·.1) = false := by rfl) :
    HE (X.suite a ((a, oe) :: pn)) (.Call (.Name fx p) [e] [] pos) σ H Q := fun pins s I => by
  refine wpAny_Call_Name_kw (ld_glob I hg hm ?_ hdb)
  refine PySem.W.callWith_K (h₀ := X.base) I.ok.mod.kin hk (thn ((pa_cons (X := X.suite a ((a, oe) :: pn)) (te := bE (X.suite a ((a, oe) :: pn)) e) peb pa_nil he).run pos pins s σ H (fun vs H1 => vs = [.ref a] ∧ H1 = H) I ?_) fun us s1 ⟨vs, H1, I1, r, q⟩ => ⟨I1.kIn, ?_⟩) he hpl
  · exact fun pins' s' I' => thn (ha pins' s' I') fun u s1 ⟨v, H1, I1, r, e1, e2⟩ => ⟨v, H1, I1, r, by rw [e1], e2⟩
  · obtain ⟨rfl, rfl⟩ := q
    have hl : us.length = ps.length := by rw [← r.length]; exact F.len _ _ _ _ h
    have pk : PinOk X.stack H1 s1 (a, oe) := by
      obtain ⟨e1, n, nL, nF, nc⟩ := I1.pin (a, oe) (List.mem_append_left _ List.mem_cons_self)
      exact ⟨e1, n, fun hm' => (List.mem_cons.mp (I1.stkSub _ hm')).elim nL nF, nc⟩
    have hbt := hb s1 us I1.kIn (by rw [List.append_nil]; exact hl)
    rw [List.append_nil] at hbt
    refine wpAny_call (codeAny_mono (F.run _ X.stack s1 H1 ⟨us, []⟩ us [.ref a] Q (a, oe) hr pk I1.env0 hbt r h) fun r s' hq => ?_)
    cases r with
    | error e => exact (show False from hq).elim
    | ok fl =>
      cases fl with
      | ret u => exact I1.after hq
      | next => exact False.elim hq
      | brk => exact False.elim hq
      | cont => exact False.elim hq
end Y
namespace Y
open PySem PySem.Spec PyProof.Rows L2 L2H Z
/-! ## attributes of the pinned exception -/
/-- the exception p: its class, its code, the value of its attribute n -/
def ExcP (C : Addr) (code n : Str) (v : V) (p : Addr × Obj) (S : Hp) : Prop := ∃ (dd : Addr) (fs : List (Str × V)), p.2.cls = .ref C ∧ p.2.dict = some dd ∧ (∃ vs, p.2.data = .fields vs) ∧ S dd = some (.xd fs) ∧ fs.lookup ("code" : Str) = some (V.str code) ∧ fs.lookup n = some v
theorem ExcP.up {C : Addr} {code n : Str} {v : V} {p : Addr × Obj} {S S' : Hp} (h : ExcP C code n v p S) (s : Same S S') : ExcP C code n v p S' := by
  obtain ⟨dd, fs, h1, h2, h3, h4, h5, h6⟩ := h
  exact ⟨dd, fs, h1, h2, h3, s _ _ h4, h5, h6⟩
section
variable {X : Cx} {σ : L2.St} {S : Hp} {e : Expr} {P : V → Hp → Prop} {pos : Pos} {C dd : Addr} {n code : Str} {p : Addr × Obj} {fs : List (Str × V)} {v : V}
theorem ee_xfP [Mn P] (hp : p ∈ X.pn) (hc : p.2.cls = .ref C) (hdd : p.2.dict = some dd) (hf : ∃ vs, p.2.data = .fields vs) (T : XfC X.K C) (hno : PySem.W.findIn X.K (.ref C) n = some none) (he : EE X σ S e (fun w _ => w = .ref p.1)) (hx : S dd = some (.xd fs)) (l : fs.lookup n = some v) (pv : P v S)
    (hb : attributeBase e n X.env (eval e X.env) = eval e X.env := by rfl) : EE X σ S (.Attribute e n pos) P := fun H s Q q pins sh I => by
  refine attr_of hb (thn (he H s (fun w H1 => w = .ref p.1 ∧ ∃ S1, Gr S H S1 H1) (fun v S1 H1 g pv => ⟨pv, S1, g⟩) pins sh I) fun x s1 hh => ?_)
  obtain ⟨w, H1, I1, rx, ew, S1, g⟩ := hh
  subst ew
  obtain rfl : x = Value.ref p.1 := rx
  obtain ⟨vs, hd⟩ := hf
  have ho : s1.heap.get? p.1 = some p.2 := (I1.pin p (List.mem_append_left _ hp)).1
  have hx1 : ObjOk X.prog X.w H1 s1.heap dd (.xd fs) := I1.hok dd _ (g.sub _ _ (g.st _ _ hx))
  obtain ⟨mA, hns, hr⟩ := hx1
  obtain ⟨od, hod, hl⟩ := lookIn_ns hns
  obtain ⟨u', hu, ru⟩ := RelO.some_of (v := v) (o := mA n) (by rw [← l]; exact hr n)
  have J : PySem.W.InstAt s1.heap p.1 p.2 C (some od) := ⟨ho, hc, by unfold PySem.W.notCls; rw [hd] <;> rfl, by rw [hdd]; exact hod⟩
  exact HandSPX.exc_get I1.kIn J T.ga T.gg T.exC (PySem.W.findObj_own T.hdC hno rfl (by rw [hl, hu])) (handed_of ru) ⟨v, H1, I1.tok _, ru, q v S1 H1 g (Mn.up g.st pv)⟩
end
end Y
namespace Y
open PySem PySem.Spec PyProof.Rows L2 Z
section
variable {X : Cx} {pins : List (Addr × Obj)} {σ : L2.St} {S H : Hp} {s : Shared} {x : Str} {c : Addr}
/-- a cell of the running frame may be shown -/
theorem show_cell (I : Inv X pins σ H s) (e : X.env.cells.lookup x = some c) (hf : X.fn x = true) : ∃ o cv, o.data = .cell cv ∧ Show X.base X.stack H s c o := by
  obtain ⟨cv, o, ho, hd⟩ := I.cell x c e
  have lt := I.ok.cab x c hf e
  refine ⟨o, cv, hd, ho, I.freeC x c e, fun hm => ?_, ?_⟩
  · rcases List.mem_cons.mp (I.stkSub c hm) with h | h
    · exact I.cne x c e h
    · obtain ⟨_, o', e', _⟩ := I.ok.funs.mem h
      exact absurd (Heap.lt_size e') (Nat.not_lt.mpr lt)
  · cases hb : X.base.get? c with
    | none => rfl
    | some o' => exact absurd (Heap.lt_size (I.ok.bs c o' hb).1) (Nat.not_lt.mpr lt)
end
end Y
namespace Y
open PySem PySem.Spec PyProof.Rows L2 Z
/-! ## a list comprehension over things of any kind (Z3's ee_lcG with predicates for the items) -/
section
variable {α : Type} {R : α → V → Hp → Prop} {X : Cx} {σ : L2.St} {S : Hp} {elt tg iter : Expr} {ifs : List Expr} {scope : Scope} {own : List (Str × Nat)} {pos : Pos} {ds : List α} {p : α → Bool} {G : α → PyData → Prop}
theorem lc_loopA (hz : ds.length ≤ sizeLine)
    (hel : ∀ d ∈ ds, ∀ v S', Same S S' → R d v S' → ∃ τ, wipe τ (own.map (·.2)) = wipe σ (own.map (·.2)) ∧ ∀ (s : Shared) (H0 : Hp) (C : Addr) (cl : List (Str × Addr)) (fp : List Addr),
      EG (X.blk s H0 scope (compEnvC scope cl C X.env) fp) S' tg v (wipe σ (own.map (·.2))) τ ∧ ETs (X.blk s H0 scope (compEnvC scope cl C X.env) fp) τ S' ifs (p d) ∧ (p d = true → EE (X.blk s H0 scope (compEnvC scope cl C X.env) fp) τ S' elt (Ex X.K (G d)))) {H : Hp} (Q : VK) (q : ∀ v S' H', Gr S H S' H' → (∃ rs, Paired G (ds.filter p) rs ∧ Dt X.K (.list rs) v S') → Q v H') {J : It} {S1 H1 : Hp} (g1 : Gr S H S1 H1) (it : ItP J S1 (ds.map R)) :
    ∀ D, H1 D = none → ∃ W : Nat → Nat → Hp → Prop, (∃ m, W 0 m (upd H1 D (.lst []))) ∧ ∀ i m H, W i m H →
      (J.stop i H ∧ Q (.ref D) H) ∨ (J.go i H ∧ ∃ Nx : Hp → Prop, (∀ H', Nx H' → ∃ m', m' < m ∧ W (i + 1) m' H') ∧ ∀ x H', J.yld i H x H' → gBlk X scope tg x (wipe σ (own.map (·.2))) H' fun σ2 H2 => wipe σ2 (own.map (·.2)) = wipe σ (own.map (·.2)) ∧ tBlk X scope ifs σ2 H2 fun b H3 =>
        if b = true then eBlk X scope elt σ2 H3 fun y H4 => ∃ acc, H4 D = some (.lst acc) ∧ acc.length < sizeLine ∧ Nx (upd H4 D (.lst (acc ++ [y]))) else Nx H3) := by
  intro D hD
  have hD1 : S1 D = none := g1.sub.free hD
  have hlen : (List.map R ds).length = ds.length := List.length_map ..
  refine lc_it (g := gBlk X scope tg) (tt := tBlk X scope ifs) (te := eBlk X scope elt) (vs := own.map (·.2)) (σ := σ) (Qd := Q (.ref D)) it (fun i H' => ∃ S' xs rs, Same S1 S' ∧ Same S' H' ∧ Same H1 H' ∧ (∀ a o, H1 a = some o → NT o → S' a = S1 a) ∧ S' D = none ∧ H' D = some (.lst xs) ∧ Paired G ((ds.take i).filter p) rs ∧ Dts X.K rs xs S' ∧ xs.length ≤ i)
    ⟨S1, [], [], Same.refl _, Same.mut g1.sub hD1, Same.new hD, fun _ _ _ _ => rfl, hD1, upd_same, .nil, .nil, Nat.le_refl _⟩ (fun i H' _ ⟨S', _, _, a, b, _⟩ => a.trans b) ?_ ?_
  · intro i x H2 H3 hi2 ⟨S2, xs, rs, k1, k2, k3, k4, k5, k6, k7, k8, k9⟩ y
    rw [hlen] at hi2
    obtain ⟨S3, g3, P, hP, px⟩ := y S2 k1 k2
    obtain ⟨d, hd⟩ : ∃ d, ds[i]? = some d := ⟨ds[i], List.getElem?_eq_getElem hi2⟩
    rw [List.getElem?_map, hd] at hP
    obtain rfl := Option.some.inj hP
    have sS3 : Same S S3 := g1.st.trans (k1.trans g3.st)
    obtain ⟨τ, hw, hb⟩ := hel d (List.mem_of_getElem? hd) x S3 sS3 px
    have hf : ∀ q, p d = q → (ds.take (i + 1)).filter p = (ds.take i).filter p ++ (if q = true then [d] else []) := fun q hq => by
      rw [take_snoc hd, List.filter_append]
      cases q with
      | true => simp [hq]
      | false => simp [hq]
    intro sh H0 C cl fp
    refine (hb sh H0 C cl fp).1 H3 g3.sub _ ⟨hw, ?_⟩
    intro sh' H0' C' cl' fp'
    refine (hb sh' H0' C' cl' fp').2.1 H3 g3.sub _ fun S4 H4 g4 => ?_
    have g34 := g3.trans g4
    cases hpd : p d with
    | false =>
      refine iteF ⟨S4, xs, rs, k1.trans g34.st, g34.sub, k3.trans g34.hh, fun a o h n => (g34.old a o (k3 a o h) n).trans (k4 a o h n), (g34.old D _ k6 (fun _ z => nomatch z)).trans k5, g34.hh _ _ k6, ?_, k8.up g34.st, by omega⟩
      rw [hf false hpd]
      simpa using k7
    | true =>
      refine iteT ?_
      intro sh'' H0'' C'' cl'' fp''
      refine ((hb sh'' H0'' C'' cl'' fp'').2.2 hpd).up g4.st H4 g4.sub _ fun w S5 H5 g5 ⟨r, hr, hrw⟩ => ?_
      have g := g34.trans g5
      have hD5 : S5 D = none := (g.old D _ k6 (fun _ z => nomatch z)).trans k5
      refine ⟨xs, g.hh _ _ k6, Nat.lt_of_le_of_lt k9 (Nat.lt_of_lt_of_le hi2 hz), S5, xs ++ [w], rs ++ [r], k1.trans g.st, Same.mut g.sub hD5, fun a o h => ?_, fun a o h n => (g.old a o (k3 a o h) n).trans (k4 a o h n), hD5, upd_same, ?_, (k8.up g.st).snoc hrw, by rw [List.length_append]; show xs.length + 1 ≤ i + 1; omega⟩
      · rw [upd_ne (ne_of_none h hD)]; exact g.hh _ _ (k3 a o h)
      · rw [hf true hpd]
        exact paired_snoc k7 hr
  · intro H2 ⟨S2, xs, rs, k1, k2, k3, k4, k5, k6, k7, k8, k9⟩
    rw [hlen] at k7 k9
    rw [List.take_length] at k7
    refine q _ (upd S2 D (.lst xs)) H2 (g1.trans ⟨k1.trans (Same.new k5), fun a o h => ?_, k3, fun a o h n => by rw [upd_ne (ne_of_none h hD)]; exact k4 a o h n⟩) ⟨rs, k7, Dt.lst_mk upd_same (k8.up (Same.new k5)) (Nat.le_trans k9 hz)⟩
    by_cases ha : a = D
    · subst ha; rw [upd_same] at h; rw [k6]; exact h
    · rw [upd_ne ha] at h; exact k2 a o h
theorem lc_readA (hi : EI X σ S tg iter (ds.map R)) (hz : ds.length ≤ sizeLine)
    (hel : ∀ d ∈ ds, ∀ v S', Same S S' → R d v S' → ∃ τ, wipe τ (own.map (·.2)) = wipe σ (own.map (·.2)) ∧ ∀ (s : Shared) (H0 : Hp) (C : Addr) (cl : List (Str × Addr)) (fp : List Addr),
      EG (X.blk s H0 scope (compEnvC scope cl C X.env) fp) S' tg v (wipe σ (own.map (·.2))) τ ∧ ETs (X.blk s H0 scope (compEnvC scope cl C X.env) fp) τ S' ifs (p d) ∧ (p d = true → EE (X.blk s H0 scope (compEnvC scope cl C X.env) fp) τ S' elt (Ex X.K (G d)))) {H : Hp} (s : Same S H) (Q : VK) (q : ∀ v S' H', Gr S H S' H' → (∃ rs, Paired G (ds.filter p) rs ∧ Dt X.K (.list rs) v S') → Q v H') :
    tLc (bI X tg iter) (gBlk X scope tg) (tBlk X scope ifs) (eBlk X scope elt) (own.map (·.2)) σ H Q := hi H s _ fun J S1 H1 g1 it => lc_loopA hz hel Q q g1 it
theorem ee_lcA (hc : X.calm = true) (hN : X.N.Nodup) (ok : BlkOk X.N X.env.scope scope own) (hi : EI X σ S tg iter (ds.map R)) (hz : ds.length ≤ sizeLine)
    (hel : ∀ d ∈ ds, ∀ v S', Same S S' → R d v S' → ∃ τ, wipe τ (own.map (·.2)) = wipe σ (own.map (·.2)) ∧ ∀ (s : Shared) (H0 : Hp) (C : Addr) (cl : List (Str × Addr)) (fp : List Addr),
      EG (X.blk s H0 scope (compEnvC scope cl C X.env) fp) S' tg v (wipe σ (own.map (·.2))) τ ∧ ETs (X.blk s H0 scope (compEnvC scope cl C X.env) fp) τ S' ifs (p d) ∧ (p d = true → EE (X.blk s H0 scope (compEnvC scope cl C X.env) fp) τ S' elt (Ex X.K (G d))))
    (hs : ∀ x, foldedSetIterable iter X.env x = pure x := by intro _; rfl) :
    EE X σ S (.ListComp elt [⟨tg, iter, ifs, 0⟩] scope pos) (fun v S' => ∃ rs, Paired G (ds.filter p) rs ∧ Dt X.K (.list rs) v S') := fun H s Q q =>
  he_of (pe_lc (own := own) (wi := bI X tg iter) (g := gBlk X scope tg) (tt := tBlk X scope ifs) (te := eBlk X scope elt) hc hN pib ok
    (fun s H0 C cl fp => ⟨fun pins sh σ' H' v u Q' I r h => h s H0 C cl fp pins sh u I r⟩) (fun s H0 C cl fp => ⟨fun pins sh σ' H' Q' I h => h s H0 C cl fp pins sh I⟩) (fun s H0 C cl fp => ⟨fun pins sh σ' H' Q' I h => h s H0 C cl fp pins sh I⟩) hs) (lc_readA hi hz hel s Q q)
end
end Y
namespace Y
open PySem PySem.Spec PyProof.Rows L2 Z
/-- a list whose items have the Ps -/
def LstP (Ps : List (V → Hp → Prop)) (v : V) (S : Hp) : Prop := ∃ l xs, v = .ref l ∧ S l = some (.lst xs) ∧ Al Ps xs S
theorem al_len {Ps : List (V → Hp → Prop)} {xs : List V} {H : Hp} (h : Al Ps xs H) : xs.length = Ps.length := by
  induction h with
  | nil => rfl
  | cons _ _ ih => rw [List.length_cons, List.length_cons, ih]
theorem al_get {Ps : List (V → Hp → Prop)} {xs : List V} {H : Hp} (h : Al Ps xs H) : ∀ {i : Nat} {x : V}, xs[i]? = some x → ∃ P, Ps[i]? = some P ∧ P x H := by
  induction h with
  | nil => intro i x e; cases e
  | cons p _ ih =>
    intro i x e
    cases i with
    | zero => cases e; exact ⟨_, rfl, p⟩
    | succ i => exact ih e
section
variable {X : Cx} {σ : L2.St} {S : Hp} {e tg : Expr} {Ps : List (V → Hp → Prop)}
theorem ei_lstP (hP : ∀ P ∈ Ps, Mn P) (ha : EE X σ S e (LstP Ps)) : EI X σ S tg e Ps := fun H s R q =>
  hi_of (pi_list peb) (ha H s _ fun v S1 H1 g1 pv => by
    obtain ⟨l, xs, rfl, hl, hx⟩ := pv
    have hlen := al_len hx
    refine ⟨l, rfl, ⟨xs, sql_of (g1.sub _ _ hl)⟩, q _ S1 H1 g1 ⟨fun i H hi hs => ?_, fun H hs => ?_, fun i H x H' hi hs y T st th => ?_⟩⟩
    · rw [← hlen] at hi
      exact (walk_list (K := X.K) (a := l) (xs := xs)).goes i H hi (sql_of (hs _ _ hl))
    · rw [← hlen]
      exact (walk_list (K := X.K) (a := l) (xs := xs)).stops H (sql_of (hs _ _ hl))
    · rw [← hlen] at hi
      obtain ⟨rfl, hy⟩ := (walk_list (K := X.K) (a := l) (xs := xs)).yields i H x H' hi (sql_of (hs _ _ hl)) y
      obtain ⟨P, e1, e2⟩ := al_get hx hy
      have m := hP P (List.mem_of_getElem? e1)
      exact ⟨T, Gr.refl th, P, e1, m.up st e2⟩)
end
/-- a closure's promise seen from the state with the cells: the state without them, and back -/
theorem Gr.under {S H S1 H1 : Hp} {L : List (Addr × Obj)} (s : Same S H) (hS : ∀ p ∈ L, S p.1 = some (.frz p.2 Tr)) (nd : (L.map (·.1)).Nodup) (g : Gr (delL S L) H S1 H1) : Gr S H (Y.shownL S1 L) H1 := by
  have atL : ∀ {L : List (Addr × Obj)} {p : Addr × Obj}, p ∈ L → (L.map (·.1)).Nodup → Y.shownL S1 L p.1 = some (.frz p.2 Tr) := by
    intro L
    induction L with
    | nil => intro p hp; cases hp
    | cons q L ih =>
      intro p hp nd
      rw [List.map_cons, List.nodup_cons] at nd
      rcases List.mem_cons.mp hp with e | e
      · rw [e]; exact shown_same
      · exact (shown_ne fun z => nd.1 (by rw [← z]; exact List.mem_map_of_mem e)).trans (ih e nd.2)
  have off : ∀ b, b ∉ L.map (·.1) → delL S L b = S b := fun b hb => delL_ne fun p hp z => hb (by rw [← z]; exact List.mem_map_of_mem hp)
  refine ⟨fun b o e => ?_, fun b o e => ?_, g.hh, fun b o e m => ?_⟩
  · by_cases hb : b ∈ L.map (·.1)
    · obtain ⟨p, hp, rfl⟩ := List.mem_map.mp hb
      rw [atL hp nd, ← hS p hp]; exact e
    · rw [shownL_ne hb]
      exact g.st b o ((off b hb).trans e)
  · by_cases hb : b ∈ L.map (·.1)
    · obtain ⟨p, hp, rfl⟩ := List.mem_map.mp hb
      rw [atL hp nd] at e
      rw [← e]
      exact g.hh _ _ (s _ _ (hS p hp))
    · rw [shownL_ne hb] at e
      exact g.sub b o e
  · by_cases hb : b ∈ L.map (·.1)
    · obtain ⟨p, hp, rfl⟩ := List.mem_map.mp hb
      rw [atL hp nd, hS p hp]
    · rw [shownL_ne hb]
      exact (g.old b o e m).trans (off b hb)
end Y
namespace Y
open PySem PySem.Spec PyProof.Rows L2 Z
section
end
end Y
namespace Y
open PySem PySem.Spec PyProof.Rows L2 Z
/-- lambda: .. gets nothing -/
theorem lbind0 {F : LF} (hd : F.dT = none) (h : ∀ pm ctv, bindArgs (F.fd pm ctv) ⟨[], []⟩ = pure []) : LBind F [] := fun pm ctv its s h0 _ _ => by
  rw [h0 hd]
  exact .of_eq (h pm ctv)
/-- lambda x=e: .. gets its default -/
theorem lbind1 {F : LF} {x : Str} {T : Addr} (hd : F.dT = some T) (h : ∀ pm ctv, ∃ k, bindArgs (F.fd pm ctv) ⟨[], []⟩ = seqItems? (F.fd pm ctv).defaults >>= k ∧ ∀ u, k (some #[u]) = pure [(x, u)]) : LBind F [x] := fun pm ctv its s _ h1 hl => by
  obtain ⟨o, n, ho, hs⟩ := h1 T hd
  obtain ⟨k, e1, e2⟩ := h pm ctv
  match its, hl with
  | [u], _ => exact .of_defaults (show (F.dT.elim Value.none .ref) = .ref T by rw [hd]; rfl) ho hs e1 (e2 u)
end Y
namespace Y
open PySem PySem.Spec PyProof.Rows L2 Z LamX NdefX
/-! ## the running frame's cells, shown to a call -/
theorem gr_unshownL : ∀ {L : List (Addr × Obj)} {S H S1 H1 : Hp}, Same S H → (∀ p ∈ L, H p.1 = none) → (L.map (·.1)).Nodup → Gr (Y.shownL S L) (Y.shownL H L) S1 H1 → Gr S H (delL S1 L) (delL H1 L)
  | [], _, _, _, _, _, _, _, g => g
  | p :: L, S, H, S1, H1, s, n, nd, g => by
    rw [List.map_cons, List.nodup_cons] at nd
    have s1 : Same (Y.shownL S L) (Y.shownL H L) := by
      have key : ∀ {L : List (Addr × Obj)} {S H : Hp}, Same S H → Same (Y.shownL S L) (Y.shownL H L) := by
        intro L
        induction L with
        | nil => intro S H s; exact s
        | cons q L ih => intro S H s; exact shown_same_sub (ih s)
      exact key s
    have n1 : Y.shownL H L p.1 = none := (shownL_ne nd.1).trans (n p List.mem_cons_self)
    exact gr_unshownL (L := L) s (fun q hq => n q (List.mem_cons_of_mem _ hq)) nd.2 (Gr.unshown s1 n1 g)
theorem shownL_at {L : List (Addr × Obj)} {S : Hp} {p : Addr × Obj} (hp : p ∈ L) (nd : (L.map (·.1)).Nodup) : Y.shownL S L p.1 = some (.frz p.2 Tr) := by
  induction L with
  | nil => cases hp
  | cons q L ih =>
    rw [List.map_cons, List.nodup_cons] at nd
    rcases List.mem_cons.mp hp with e | e
    · rw [e]; exact shown_same
    · exact (shown_ne fun z => nd.1 (by rw [← z]; exact List.mem_map_of_mem e)).trans (ih e nd.2)
/-- data does not lean on what is shown -/
theorem dt_hide {K : PySem.W.Frag} {d : PyData} {v : V} {S : Hp} {a : Addr} {o : Obj} (h : Dt K d v S) (e : S a = some (.frz o Tr)) : Dt K d v (L2.del S a) := by
  induction h with
  | non => exact .non
  | bl b => exact .bl b
  | int i => exact .int i
  | str x => exact .str x
  | lst h l z _ ih => exact .lst ((L2.del_ne (fun q => by rw [q, e] at h; cases h)).trans h) l z fun i x d hx hd => ih i x d hx hd e
  | tup h l z _ ih =>
    refine .tup ?_ l z fun i x d hx hd => ih i x d hx hd e
    rcases h with h | ⟨e0, (h | ⟨o', h⟩) | h⟩
    · exact .inl ((L2.del_ne (fun q => by rw [q, e] at h; cases h)).trans h)
    · exact .inl ((L2.del_ne (fun q => by rw [q, e] at h; cases h)).trans h)
    · exact .inr ⟨e0, .inl (.inr ⟨o', (L2.del_ne (fun q => by rw [q, e] at h; cases h)).trans h⟩)⟩
    · exact .inr ⟨e0, .inr h⟩
theorem dt_hideL {K : PySem.W.Frag} {d : PyData} {v : V} : ∀ {L : List (Addr × Obj)} {S : Hp}, Dt K d v S → (∀ p ∈ L, S p.1 = some (.frz p.2 Tr)) → (L.map (·.1)).Nodup → Dt K d v (delL S L)
  | [], _, h, _, _ => h
  | p :: L, S, h, e, nd => by
    rw [List.map_cons, List.nodup_cons] at nd
    exact dt_hideL (L := L) (dt_hide h (e p List.mem_cons_self)) (fun q hq => (L2.del_ne fun z => nd.1 (by rw [← z]; exact List.mem_map_of_mem hq)).trans (e q (List.mem_cons_of_mem _ hq))) nd.2
/-- L: the cells of the names xs, with what they hold -/
structure CellsOf (X : Cx) (σ : L2.St) (xs : List Str) (L : List (Addr × Obj)) : Prop where
  nd : (L.map (·.1)).Nodup
  has : ∀ x ∈ xs, ∃ (c : Addr) (o : Obj), X.env.cells.lookup x = some c ∧ (c, o) ∈ L ∧ (∃ cv, o.data = .cell cv) ∧ ∀ (j : Nat) (v : V), X.N[j]? = some x → σ[j]? = some (some v) → ∃ u, o.data = .cell (some u) ∧ RelV v u
  of : ∀ p ∈ L, ∃ x ∈ xs, X.env.cells.lookup x = some p.1
section
variable {X : Cx} {pins : List (Addr × Obj)} {σ : L2.St} {S H : Hp} {s : Shared}
theorem cells_show (I : Inv X pins σ H s) : ∀ {xs : List Str}, xs.Nodup → (∀ x ∈ xs, X.env.scope.names.lookup x = some .cell ∧ X.fn x = true) → ∃ L, CellsOf X σ xs L ∧ ∀ p ∈ L, Show X.base X.stack H s p.1 p.2
  | [], _, _ => ⟨[], ⟨List.nodup_nil, fun x hx => (by cases hx), fun p hp => (by cases hp)⟩, fun p hp => (by cases hp)⟩
  | x :: xs, nd, hk => by
    rw [List.nodup_cons] at nd
    obtain ⟨L, C, hs⟩ := cells_show I nd.2 fun y hy => hk y (List.mem_cons_of_mem _ hy)
    obtain ⟨k1, k2⟩ := hk x List.mem_cons_self
    obtain ⟨c, hc⟩ := I.ok.has x (.inl k1)
    obtain ⟨o, cv, hd, sh⟩ := show_cell I hc k2
    have nc : c ∉ L.map (·.1) := fun z => by
      obtain ⟨p, hp, e⟩ := List.mem_map.mp z
      obtain ⟨y, hy, hyc⟩ := C.of p hp
      rw [e] at hyc
      exact nd.1 (by rw [I.ok.inj x y c hc hyc]; exact hy)
    refine ⟨(c, o) :: L, ⟨by rw [List.map_cons, List.nodup_cons]; exact ⟨nc, C.nd⟩, fun y hy => ?_, fun p hp => ?_⟩, fun p hp => ?_⟩
    · rcases List.mem_cons.mp hy with e | e
      · subst e
        refine ⟨c, o, hc, List.mem_cons_self, ⟨cv, hd⟩, fun j v hj hv => ?_⟩
        obtain ⟨m, _, hl⟩ := I.loc
        obtain ⟨u, r, l⟩ := hl j y v hj hv (.inr (.inl k1))
        rcases l with ⟨z, _⟩ | ⟨_, c', hc', o', ho', hd'⟩
        · have z' : X.env.scope.names.lookup y = some .local := z
          rw [k1] at z'; cases z'
        · rw [hc] at hc'; cases hc'
          rw [sh.ob] at ho'; cases ho'
          exact ⟨u, hd', r⟩
      · obtain ⟨c', o', h1, h2, h3⟩ := C.has y e
        exact ⟨c', o', h1, List.mem_cons_of_mem _ h2, h3⟩
    · rcases List.mem_cons.mp hp with e | e
      · subst e; exact ⟨x, List.mem_cons_self, hc⟩
      · obtain ⟨y, hy, h⟩ := C.of p e
        exact ⟨y, List.mem_cons_of_mem _ hy, h⟩
    · rcases List.mem_cons.mp hp with e | e
      · subst e; exact sh
      · exact hs p e
/-- a lambda's captured cells among them -/
theorem cellsL_of {xs : List Str} {L : List (Addr × Obj)} {cl : List (Str × Addr)} {fr : List Str} {js : List Nat} (ok : X.Ok) (C : CellsOf X σ xs L) (K : Caps X cl fr js) (hcl : ∀ y c, cl.lookup y = some c → y ∈ xs) (hfr : ∀ y ∈ fr, y ∈ xs) : CellsL cl fr (js.map (slotAt σ)) L := by
  refine ⟨?_, fun y c e => ?_, fun x y c e1 e2 => ok.inj x y c (K.sub x c e1) (K.sub y c e2), fun i y e => ?_⟩
  · have q := congrArg List.length K.at_
    rw [List.length_map, List.length_map] at q
    rw [List.length_map]; exact q
  · obtain ⟨c', o, h1, h2, ⟨cv, h3⟩, _⟩ := C.has y (hcl y c e)
    rw [K.sub y c e] at h1; cases h1
    exact ⟨o, cv, h2, h3⟩
  · obtain ⟨c, o, h1, h2, _, h4⟩ := C.has y (hfr y (List.mem_of_getElem? e))
    refine ⟨c, K.sup y (List.mem_of_getElem? e) c h1, fun v ev => ?_⟩
    have e2 : (js.map fun j => X.N[j]?)[i]? = some (some y) := by
      rw [K.at_, List.getElem?_map, e]; rfl
    rw [List.getElem?_map] at e2 ev
    cases ej : js[i]? with
    | none => rw [ej] at e2; cases e2
    | some j =>
      rw [ej] at e2 ev
      have hj : X.N[j]? = some y := Option.some.inj (show some (X.N[j]?) = some (some y) from e2)
      obtain ⟨u, h5, h6⟩ := h4 j v hj (slotAt_some (Option.some.inj (show some (slotAt σ j) = some (some v) from ev)))
      exact ⟨u, o, h6, h2, h5⟩
end
section
end
/-! ## what is known without the tables -/
def noTab (S : Hp) : Hp := fun a => match S a with
  | some (.tbl _) => none
  | o => o
theorem noTab_at {S : Hp} {a : Addr} {o : HO} (h : S a = some o) (n : ∀ ps, o ≠ .tbl ps) : noTab S a = some o := by
  unfold noTab
  rw [h]
  cases o with
  | tbl ps => exact absurd rfl (n ps)
  | _ => rfl
theorem noTab_sub {S : Hp} : Same (noTab S) S := fun a o h => by
  unfold noTab at h
  cases e : S a with
  | none => rw [e] at h; cases h
  | some u =>
    rw [e] at h
    cases u with
    | tbl ps => cases h
    | _ => exact h
theorem noTab_no {S : Hp} {a : Addr} {ps : Array Value} : noTab S a ≠ some (.tbl ps) := fun h => by
  unfold noTab at h
  cases e : S a with
  | none => rw [e] at h; cases h
  | some u =>
    rw [e] at h
    cases u with
    | tbl qs => cases h
    | _ => cases h
theorem dt_noTab {K : PySem.W.Frag} {d : PyData} {v : V} {S : Hp} (h : Dt K d v S) : Dt K d v (Y.noTab S) := by
  induction h with
  | non => exact .non
  | bl b => exact .bl b
  | int i => exact .int i
  | str x => exact .str x
  | lst h l z _ ih => exact .lst (noTab_at h (fun _ z => nomatch z)) l z ih
  | tup h l z _ ih =>
    refine .tup ?_ l z ih
    rcases h with h | ⟨e0, (h | ⟨o', h⟩) | h⟩
    · exact .inl (noTab_at h (fun _ z => nomatch z))
    · exact .inl (noTab_at h (fun _ z => nomatch z))
    · exact .inr ⟨e0, .inl (.inr ⟨o', noTab_at h (fun _ z => nomatch z)⟩)⟩
    · exact .inr ⟨e0, .inr h⟩
theorem bx_noTab {v : V} {S : Hp} (h : BX v S) : BX v (Y.noTab S) := by
  obtain ⟨b, c, ns, e, n, h1, h2, l⟩ := h
  exact ⟨b, c, ns, e, n, noTab_at h1 (fun _ z => nomatch z), noTab_at h2 (fun _ z => nomatch z), l⟩
end Y
namespace Y
open PySem PySem.Spec PyProof.Rows L2 Z
section
variable {X : Cx} {σ : L2.St} {S S' H : Hp} {a b c e d0 tg : Expr} {pos p : Pos} {i j l m : Int} {b1 b2 b3 : Bool} {g1 g2 : Int → Int → V} {D : Ends} {rest body : List Stmt} {x : Str} {k n : Nat}
/-- f(k1 = e1, k2 = e2), by name alone; the values stand the other way round in the def -/
def gS {α : Type} : List α → List α → List α
  | us, [a, b] => us ++ [b, a]
  | us, ws => us ++ ws
/-- for .. in range(n): what is kept is told of the whole heap -/
theorem hs_forR {n : Nat} (Iv : Nat → L2.St → Hp → Prop) (hp : PassesOwn (model X.prog X.w) X.A X.env X.xe) (hc : X.calm = true) (hm : X.mg "range" = none) (hn : (n : Int) < 2 ^ 62) (ha : EE X σ S a (Dt X.K (.int (n : Nat)))) (s : Same S H) (h0 : ∀ S' H', Gr S H S' H' → Iv 0 σ H')
    (step : ∀ i σ1 H1, i < n → Iv i σ1 H1 → HG X tg (.int (i : Nat)) σ1 H1 fun σ3 H3 => HS X { D with nx := Iv (i + 1), ct := Iv (i + 1), bk := fun σ' H' => HS X D rest σ' H' } body σ3 H3)
    (done : ∀ σ1 H1, Iv n σ1 H1 → HS X D rest σ1 H1) (hg : Gl X "range" := by rfl) (hs1 : starEach [a] X.env = [(false, eval a X.env)] := by rfl) (hs : ∀ x, foldedSetIterable (.Call (.Name "range" p) [a] [] pos) X.env x = pure x := by intro _; rfl) {pos2 : Pos} :
    HS X D (.For tg (.Call (.Name "range" p) [a] [] pos) body [] pos2 :: rest) σ H :=
  hs_cons (ps_for hp hc (pi_range1 hg hm pab hs1) pgb psb hs) ((ea_1 ha (by rw [hs1]; rfl)).2 H s _ fun vs S1 H1 g1 al => by
    obtain ⟨v, rfl, pv⟩ := al.one
    cases pv
    refine ⟨(n : Int), rfl, by omega, hn, for_it (G := fun _ => True) (Y := fun i H x H' => H' = H ∧ x = .int (0 + (i : Int))) (n := n) ⟨fun i H hi _ => ?_, fun H _ => ?_, fun i H x H' _ _ y => y⟩ Iv (h0 S1 H1 g1) (fun _ _ _ _ _ => trivial) (fun i x σ' H2 H3 hi iv y => ?_) done⟩
    · show i < ((n : Int)).toNat
      omega
    · show ((n : Int)).toNat ≤ n
      omega
    · obtain ⟨rfl, rfl⟩ := y
      rw [Int.zero_add]
      exact step i σ' H3 hi iv)
end
section
variable {P : Program} {w : World} {K : PySem.W.Frag} {mg : Str → Option Value} {base : Heap} {x qual : Str} {params : Arguments} {body : List Stmt} {scope : Scope} {dvs : List V} {kws : List (Str × V)} {f c : Addr} {fd : FuncData} {N ps : List Str} {k : Nat} {sp : Sp}
/-- a def by its body, its code object known -/
theorem fn_hsC (F : FunD K x qual params body scope dvs kws f fd) (Sc : FnScope N ps scope) (hc : fd.code = .ref c) (len : ∀ vs H Q E, sp vs H Q E → vs.length = ps.length)
    (hb : ∀ (A : Around) (outer : List Env) (s : Shared) (H : Hp) (vs : List V) (Q : VK) (E : XK), Room k (A.deeper (envOfC qual scope s.heap.objs.size f (.ref c))) → sp vs H Q E →
      HS (cxOf CX0 P w K mg base N qual scope f (.ref c) A outer s H E).nox { nx := fun _ H' => Q .non H', rt := Q } body (start N vs) H) : FnOk P w K mg base CX0 (k + 1) f fd ps sp := by
  obtain ⟨oc, od, dV, kV, doc, pm, an, cdv, ct, osl, rfl, lk, hcd, _, _⟩ := F.ex
  have e : cdv = .ref c := hc
  subst e
  exact fn_of lk hcd Sc len fun A outer s H vs Q E hr hsp => ⟨_, PSs.nox psb, hb A outer s H vs Q E hr hsp⟩
end
end Y
namespace Y
open PySem PySem.Spec PyProof.Rows L2 Z
/-! ## an own error of the ValueErrors, told by one Bool -/
theorem oexB_ok {K : PySem.W.Frag} {C : Addr} (h : oexB K C = true) : OexC K C := by
  unfold oexB at h
  simp only [Bool.and_eq_true, decide_eq_true_eq] at h
  obtain ⟨h1, h2, h3, h4, h5⟩ := h
  refine ⟨?_, h2, h3, h4, h5⟩
  split at h1
  · rename_i t dd cd sl lk
    rw [Bool.and_eq_true] at h1
    obtain ⟨ht, h1⟩ := h1
    split at h1
    · rename_i C' bm k0 k1 k2 k3 n k5 hm hs
      simp only [Bool.and_eq_true, beq_iff_eq, Bool.not_eq_true'] at h1 ht
      obtain ⟨rfl, hb, rfl, hd, hl⟩ := h1
      subst ht
      obtain ⟨nm, bs, mro, ns, qn, hd', sn, sub, ab, col, del⟩ := cd
      dsimp only at hm hd hl
      subst hm hd hl
      have hsl : sl = #[k0, k1, k2, k3, some (.builtin "ValueError.__new__"), k5] := by
        obtain ⟨l⟩ := sl
        simp only at hs
        rw [hs]
      subst hsl
      exact ⟨nm, qn, ns, bs, bm, sn, sub, ab, col, dd, k0, k1, k2, k3, k5, lk, hb⟩
    · cases h1
  · cases h1
theorem errB_ok {K : PySem.W.Frag} {C fI : Addr} {f : Str} (h : errB K C fI f = true) : OexC K C ∧ XfC K C ∧ PySem.W.findIn K (.ref C) f = some none ∧ PySem.W.findIn K (.ref C) "code" = some none ∧ PySem.W.findIn K (.ref C) "__init__" = some (some (.ref fI)) ∧ PySem.W.typeIn K (.ref fI) = some (.type "function") := by
  unfold errB at h
  simp only [Bool.and_eq_true, decide_eq_true_eq] at h
  obtain ⟨h1, h2, h3, h4, h5, h6⟩ := h
  exact ⟨oexB_ok h1, xfB_ok h2, He.eqO_ok h3, He.eqO_ok h4, He.eqO_ok h5, h6⟩
end Y
namespace Y
open PySem PySem.Spec PyProof.Rows L2 Z
/-! ## dicts whose keys are tuples of ints, whose values are ints -/
abbrev MapI := List (List Int × Int)
def kI (k : List Int) : List L2.Key := k.map Sum.inl
def kvM (m : MapI) : List (List L2.Key × V) := m.map fun q => (kI q.1, V.int q.2)
/-- v is a tuple of these ints -/
def KyP (k : List Int) (w : V) (S : Hp) : Prop := ∃ b, w = .ref b ∧ S b = some (.tup (k.map V.int))
instance {k : List Int} : Mn (KyP k) := ⟨fun s ⟨b, e, h⟩ => ⟨b, e, s _ _ h⟩⟩
section
end
end Y
namespace Y
open PySem PySem.Spec PyProof.Rows L2 Z
/-! ## sorted, of data -/
section
end
section
end
end Y
namespace Y
open PySem PySem.Spec PyProof.Rows L2 Z
/-! ## sorted(d), d a dict with tuple keys -/
section
end
end Y
namespace Y
open PySem PySem.Spec PyProof.Rows L2 Z
/-! ## sorted(d) as an expression; sums of tuples -/
section
end
end Y
namespace Y
open PySem PySem.Spec PyProof.Rows L2 Z
section
variable {X : Cx} {σ : L2.St} {S S' H : Hp} {a b c e d0 tg o i : Expr} {pos pos' p : Pos} {D : Ends} {rest body : List Stmt} {r : Addr} {m : MapI} {k : List Int} {n : Int}
/-- for: what is kept is told of the whole heap (a thing that S does not tell may change) -/
theorem hs_forH {iter : Expr} {Ps : List (V → Hp → Prop)} (hp : PassesOwn (model X.prog X.w) X.A X.env X.xe) (hc : X.calm = true) (hi : EI X σ S tg iter Ps) (s : Same S H)
    (q : ∀ S1 H1, Gr S H S1 H1 → ∃ Iv : Nat → L2.St → Hp → Prop, Iv 0 σ H1 ∧ (∀ i σ' H', Iv i σ' H' → Same S1 H') ∧
      (∀ i P σ1 H2 x H3, Ps[i]? = some P → Iv i σ1 H2 → (∀ T, Same S1 T → Same T H2 → ∃ T', Gr T H2 T' H3 ∧ P x T') → HG X tg x σ1 H3 fun σ3 H4 => HS X { D with nx := Iv (i + 1), ct := Iv (i + 1), bk := fun σ' H' => HS X D rest σ' H' } body σ3 H4) ∧
      (∀ σ1 H2, Iv Ps.length σ1 H2 → HS X D rest σ1 H2))
    (hs : ∀ x, foldedSetIterable iter X.env x = pure x := by intro _; rfl) : HS X D (.For tg iter body [] pos :: rest) σ H :=
  hs_cons (ps_for hp hc pib pgb psb hs) (hi H s _ fun J S1 H1 g1 it => by
    obtain ⟨Iv, h0, hsame, step, done⟩ := q S1 H1 g1
    refine for_it it Iv h0 (fun i σ' H' _ iv => hsame i σ' H' iv) (fun i x σ' H2 H3 hlt iv y => ?_) done
    have hl : ∃ P, Ps[i]? = some P := ⟨_, List.getElem?_eq_getElem hlt⟩
    obtain ⟨P, hP⟩ := hl
    refine step i P σ' H2 x H3 hP iv fun T sT tH => ?_
    obtain ⟨T', g, P', hP', px⟩ := y T sT tH
    rw [hP] at hP'
    cases hP'
    exact ⟨T', g, px⟩)
end
end Y
namespace Y
open PySem PySem.Spec PyProof.Rows L2 Z
/-! ## a list comprehension, its list told as new (after Z3's ee_lcG) -/
section
end
section
variable {X : Cx} {σ : L2.St} {S : Hp} {elt iter : Expr} {scope : Scope} {pos px : Pos} {ds : List PyData} {α : Type} {enc : α → PyData} {i : Nat} {x : Str}
theorem NewL.is {K : PySem.W.Frag} {S S' : Hp} {ds ds' : List PyData} {v : V} (h : NewL K S ds v S') (e : ds = ds') : NewL K S ds' v S' := e ▸ h
end
end Y
namespace Y
open PySem PySem.Spec PyProof.Rows L2 Z
/-! ## name = [elt for x, y in iter] on one line, the name a local; the same for one target -/
def unT (d : PyData) : PyData × PyData := match d with
  | .tuple [a, b] => (a, b)
  | _ => (.none, .none)
section
end
end Y
namespace Y
open PySem PySem.Spec PyProof.Rows L2 Z
/-! ## own == with a list on the right -/
section
end
end Y
namespace Y
open PySem PySem.Spec PyProof.Rows L2 Z
/-! ## dict([]), list(d) of a dict with tuple keys -/
section
end
end Y
namespace Y
open PySem PySem.Spec PyProof.Rows L2 Z
section
end
end Y
namespace Y
open PySem PySem.Spec PyProof.Rows L2 Z
/-! ## own + and * of two things of one class -/
section
end
end Y
namespace Y
open PySem PySem.Spec PyProof.Rows L2 Z
/-! ## own ** with an int on the right -/
section
open PySem.W
end
section
end
end Y
namespace Y
open PySem PySem.Spec PyProof.Rows L2 Z
/-! ## a list comprehension with two clauses, the second list the same for each item of the first -/
section
end
end Y
namespace Y
open PySem PySem.Spec PyProof.Rows L2 Z LamX NdefX
/-! ## sorted(e, key=lambda x: x[1]) -/
/-- an item that is a tuple, its second part the key k -/
def PairKey (h : Heap) (v : Value) (k : PyData) : Prop := ∃ t its u, v = .ref t ∧ IsTup h t its ∧ its[1]? = some u ∧ Reads h u k []
theorem PairKey.keeps {h h' : Heap} {v : Value} {k : PyData} (p : PairKey h v k) (hk : ∀ b o, h.get? b = some o → h'.get? b = some o) : PairKey h' v k := by
  obtain ⟨t, its, u, e, ht, hu, hr⟩ := p
  exact ⟨t, its, u, e, ht.keeps hk, hu, PyProof.Rows.Reads.keeps hk hr⟩
section
end
end Y
namespace Y
open PySem PySem.Spec PyProof.Rows L2 Z
/-! ## a dict comprehension whose store is told by a rule (after HandS.DictComp's dc_core, which is for keys that are ints or texts) -/
section
end
end Y
namespace Y
open PySem PySem.Spec PyProof.Rows L2 Z
/-! ## a dict with tuple keys that is not changed any more: locked; what is read of it -/
def DcO (m : MapI) (d : Addr) (S : Hp) : Prop := ∃ o, S d = some (.frz o (.dT (kvM m)))
theorem DcO.up {m : MapI} {d : Addr} {S S' : Hp} (h : DcO m d S) (s : Same S S') : DcO m d S' := h.elim fun o e => ⟨o, s _ _ e⟩
def DcV (m : MapI) (v : V) (S : Hp) : Prop := ∃ d, v = .ref d ∧ DcO m d S
instance {m : MapI} : Mn (DcV m) := ⟨fun s ⟨d, e, h⟩ => ⟨d, e, h.up s⟩⟩
section
end
/-! ### for a, b in o.items() -/
section
end
section
end
end Y
namespace Y
open PySem PySem.Spec PyProof.Rows L2 Z
/-! ## o.items() as a value; list of it; a display of two -/
/-- S, all that is new in T, the tuples of H -/
def grown (S H T : Hp) : Hp := fun a => match S a with
  | some o => some o
  | none => match H a with
    | none => T a
    | some (.tup xs) => some (.tup xs)
    | some _ => none
theorem grown_S {S H T : Hp} {a : Addr} {o : HO} (h : S a = some o) : grown S H T a = some o := by unfold grown; rw [h]
theorem Gr.all {S H T : Hp} (s : Same S H) (st : Same H T) : Gr S H (grown S H T) T := by
  refine ⟨fun a o h => grown_S h, fun a o h => ?_, st, fun a o h n => ?_⟩
  · unfold grown at h
    cases e : S a with
    | some u => rw [e] at h; cases h; exact st a _ (s a _ e)
    | none =>
      rw [e] at h
      cases q : H a with
      | none => simp only [q] at h; exact h
      | some u =>
        cases u <;> simp only [q] at h <;> first | cases h | skip
        exact st a _ q
  · unfold grown
    cases e : S a with
    | some u => rfl
    | none =>
      cases q : H a with
      | none => rw [q] at h; cases h
      | some u =>
        rw [q] at h
        cases h
        cases o <;> first | rfl | exact absurd rfl (n _)
/-- the items view at p of the locked dict at d -/
def ItV (m : MapI) (v : V) (S : Hp) : Prop := ∃ p d, v = .ref p ∧ S p = some (L2.DX.itemsO p d) ∧ DcO m d S
instance {m : MapI} : Mn (ItV m) := ⟨fun s ⟨p, d, e, h, q⟩ => ⟨p, d, e, s _ _ h, q.up s⟩⟩
section
end
end Y
namespace Y
open PySem PySem.Spec PyProof.Rows L2 Z
/-! ## {kx: vx for x in iter}, keys tuples of ints, values ints -/
section
end
end Y
namespace Y
open PySem PySem.Spec PyProof.Rows L2 Z
/-! ## == of two dicts with tuple keys and ints as values -/
section
end
section
end
end Y
namespace Y
open PySem PySem.Spec PyProof.Rows L2 Z
/-! ## len(o), bool(o) of an own thing -/
section
end
/-! ## a staticmethod def m(*xs, kn=d), called through its class -/
section
end
end Y
namespace Y
open PySem PySem.Spec PyProof.Rows L2 Z
/-! ## a def m(*xs, kn=d) by its body -/
section
end
end Y
namespace Y
open PySem PySem.Spec PyProof.Rows L2 Z
section
variable {X : Cx} {σ : L2.St} {S H : Hp} {elt iter : Expr} {scope : Scope} {pos px : Pos} {x : Str} {i : Nat} {D : Ends} {rest : List Stmt}
/-- a, b = e, e a pair that is not fixed -/
theorem hs_unpackF {e : Expr} {i j : Nat} {x y : Str} {px py pt pos : Pos} {kt : Nat} {F G : PyData → Prop} (hc : X.calm = true) (hN : X.N.Nodup) (ha : EE X σ S e (Ex X.K fun d => ∃ d1 d2, d = .tuple [d1, d2] ∧ F d1 ∧ G d2)) (s : Same S H)
    (q : ∀ d1 d2 v w S' H', F d1 → G d2 → Gr S H S' H' → Dt X.K d1 v S' → Dt X.K d2 w S' → HS X D rest ((σ.set i (some v)).set j (some w)) H')
    (hi : X.N[i]? = some x := by rfl) (hj : X.N[j]? = some y := by rfl) (hx : Loc X.env.scope x := by first | exact Or.inl rfl | exact Or.inr rfl) (hy : Loc X.env.scope y := by first | exact Or.inl rfl | exact Or.inr rfl)
    (hfx : X.fn x = true ∨ X.env.scope.names.lookup x = some .local := by first | exact .inl rfl | exact .inr rfl) (hfy : X.fn y = true ∨ X.env.scope.names.lookup y = some .local := by first | exact .inl rfl | exact .inr rfl)
    (hn : (assignEach [.Name x px, .Name y py] X.env).length = 2 := by rfl) (hst : (assignEach [.Name x px, .Name y py] X.env).findIdx? (·.1) = none := by rfl)
    (h1 : (assignEach [.Name x px, .Name y py] X.env).map (·.2) = assign (.Name x px) X.env :: (assignEach [.Name y py] X.env).map (·.2) := by rfl) (h2 : (assignEach [.Name y py] X.env).map (·.2) = assign (.Name y py) X.env :: (assignEach [] X.env).map (·.2) := by rfl)
    (hss : swapsWithSole [.Tuple [.Name x px, .Name y py] kt pt] e pos.line X.env = pure false := by rfl) (hw : swappedStores [.Tuple [.Name x px, .Name y py] kt pt] e X.env = pure none := by rfl)
    (h3 : (assignEach [.Tuple [.Name x px, .Name y py] kt pt] X.env).map (·.2) = [assign (.Tuple [.Name x px, .Name y py] kt pt) X.env] := by rfl) : HS X D (.Assign [.Tuple [.Name x px, .Name y py] kt pt] e pos :: rest) σ H :=
  hs_cons (ps_asg peb pgb hss hw h3) (ha H s _ fun v S' H' g ⟨d, ⟨d1, d2, hd, f, gg⟩, pv⟩ => by
    subst hd
    obtain ⟨v1, v2, p1, p2, hg⟩ := eg_pair (σ := σ) (px := px) (py := py) (pos := pt) (kk := kt) hc hN hi hj hx hy pv hfx hfy hn hst h1 h2
    exact hg H' g.sub _ (q d1 d2 v1 v2 S' H' f gg g p1 p2))
end
end Y
namespace Y
open PySem PySem.Spec PyProof.Rows L2 Z LamX NdefX
/-! ## expressions and statements that may raise an own error -/
/-- a kind of own error: its class, its code, the attribute that it keeps -/
structure EK where
  C : Addr
  code : Str
  fn : Option Str
/-- E is met by an error of the kind k that keeps g -/
def XErr (K : PySem.W.Frag) (k : EK) (g : PyData) (S H : Hp) (E : XK) : Prop := ∀ d fs S3 H3, Gr S H S3 H3 → H d = none → S3 d = some (.xd fs) → fs.lookup ("code" : Str) = some (V.str k.code) → (k.fn = none → g = .none) → (∀ x, k.fn = some x → ∃ v, fs.lookup x = some v ∧ Dt K g v S3) → E (.ref k.C) (some d) H3
theorem XErr.up {K : PySem.W.Frag} {k : EK} {g : PyData} {S H S1 H1 : Hp} {E : XK} (h : XErr K k g S H E) (gr : Gr S H S1 H1) : XErr K k g S1 H1 E := fun d fs S3 H3 g3 hd hx hc hn hf => h d fs S3 H3 (gr.trans g3) (gr.hh.free hd) hx hc hn hf
/-- e gives P, or raises as O -/
def ER (X : Cx) (E : XK) (σ : L2.St) (S : Hp) (e : Expr) (P : V → Hp → Prop) (O : EK → PyData → Prop) : Prop := ∀ H, Same S H → (∀ k g, O k g → XErr X.K k g S H E) → ∀ Q : VK, (∀ v S1 H1, Gr S H S1 H1 → P v S1 → Q v H1) → HE X e σ H Q
/-- a promise with both ends -/
def SpO (K : PySem.W.Frag) (sp : Sp) (S : Hp) (Ps : List (V → Hp → Prop)) (P : V → Hp → Prop) (O : EK → PyData → Prop) : Prop := ∀ vs S1 H1, Same S S1 → Same S1 H1 → Al Ps vs S1 → ∀ (Q : VK) (E : XK), (∀ v S2 H2, Gr S1 H1 S2 H2 → P v S2 → Q v H2) → (∀ k g, O k g → XErr K k g S1 H1 E) → sp vs H1 Q E
/-- a promise that is an error: of the kind that G tells -/
def spX (K : PySem.W.Frag) (G : List V → Hp → EK → PyData → Prop) : Sp := fun vs H _ E => ∃ S k g, Same S H ∧ G vs S k g ∧ XErr K k g S H E
def O1 (k : EK) (g : PyData) : EK → PyData → Prop := fun k' g' => k' = k ∧ g' = g
def NoP : V → Hp → Prop := fun _ _ => False
theorem spX_O {K : PySem.W.Frag} {S : Hp} {Ps : List (V → Hp → Prop)} {P : V → Hp → Prop} {O : EK → PyData → Prop} {G : List V → Hp → EK → PyData → Prop} (h : ∀ vs S1, Same S S1 → Al Ps vs S1 → ∃ k g, G vs S1 k g ∧ O k g) : SpO K (spX K G) S Ps P O := fun vs S1 H1 st s al Q E _ hx => by
  obtain ⟨k, g, h1, h2⟩ := h vs S1 st al
  exact ⟨S1, k, g, s, h1, hx k g h2⟩
structure KDX (P : Program) (w : World) (K : PySem.W.Frag) (mg : Str → Option Value) (base : Heap) (x : Str) (k : Nat) (sp : Sp) : Prop where
  ex : ∃ f fd ps, FnOk P w K mg base (L2.CX P w) k f fd ps sp ∧ mg x = some (.ref f) ∧ PySem.W.keepIn K (.ref f) = true ∧ Binds K fd ps []
structure KMX (P : Program) (w : World) (K : PySem.W.Frag) (mg : Str → Option Value) (base : Heap) (C : Addr) (m : Str) (k : Nat) (sp : Sp) : Prop where
  ex : ∃ f fd ps, FnOk P w K mg base (L2.CX P w) k f fd ps sp ∧ PySem.W.findIn K (.ref C) m = some (some (.ref f)) ∧ PySem.W.isFn K (.ref f) = true ∧ PySem.W.keepIn K (.ref f) = true ∧ Binds K fd ps []
section
variable {X : Cx} {σ : L2.St} {S S' H : Hp} {e a b c o : Expr} {es : List Expr} {P Pa Pb P0 P1 R : V → Hp → Prop} {Ps : List (V → Hp → Prop)} {pos p apos pos2 kpos : Pos} {k : Nat} {x m f kn : Str} {sp : Sp} {C : Addr} {D : Ends} {rest : List Stmt} {O : EK → PyData → Prop} {E : XK} {op : Operator}
theorem ER.imp (h : ER X E σ S e P O) (f : ∀ v S', P v S' → R v S') : ER X E σ S e R O := fun H s hx Q q => h H s hx Q fun v S1 H1 g p => q v S1 H1 g (f v S1 p)
theorem ER.up (h : ER X E σ S e P O) (s : Same S S') (hk : ∀ H, Same S' H → (∀ k g, O k g → XErr X.K k g S' H E) → ∀ k g, O k g → XErr X.K k g S H E) (hq : ∀ v S1 H1 H, Same S' H → Gr S H S1 H1 → P v S1 → ∃ S2, Gr S' H S2 H1 ∧ P v S2) : ER X E σ S' e P O := fun H s' hx Q q => h H (s.trans s') (hk H s' hx) Q fun v S1 H1 g p => let ⟨S2, g2, p2⟩ := hq v S1 H1 H s' g p; q v S2 H1 g2 p2
/-- f(e, ..) -/
theorem er_call (tk : Takes X (fun cls d _ H => E cls d H)) (D1 : KDX X.prog X.w X.K X.mg X.base x k sp) (hr : Room k X.A) (ha : EA X σ S (e :: es) Ps) (hsp : SpO X.K sp S Ps P O) (hg : Gl X x := by rfl) (hdb : (x == ("__debug__" : Str)) = false := by decide)
    (he : starEach (e :: es) X.env = (false, eval e X.env) :: starEach es X.env := by rfl) (hpl : (backTo pos (starEach es X.env)).any (·.1) = false := by rfl) : ER X E σ S (.Call (.Name x p) (e :: es) [] pos) P O := fun H s hx Q q => by
  obtain ⟨f, fd, ps, F, hm, hk, hb⟩ := D1.ex
  refine he_of (pe_call F hr hg hm hk hb .nil (passes_call tk fun _ _ _ _ h => h) pab hdb he hpl) (ha.2 H s _ fun vs S1 H1 g1 al => ?_)
  rw [List.append_nil]
  exact hsp vs S1 H1 g1.st g1.sub al Q E (fun v S2 H2 g2 pv => q v S2 H2 (g1.trans g2) pv) fun k g o => (hx k g o).up g1
/-- o.m(e, ..) -/
theorem er_meth {pl : Sem Bool} (tk : Takes X (fun cls d _ H => E cls d H)) (D1 : KMX X.prog X.w X.K X.mg X.base C m k sp) (c : Cls X.K C) (hr : Room k X.A) (ho : EE X σ S o P0) [Mn P0] (hP : InsP C m P0) (ha : EA X σ S (e :: es) Ps) (hsp : SpO X.K sp S (P0 :: Ps) R O)
    (hst : starEach (e :: es) X.env = (false, eval e X.env) :: starEach es X.env := by rfl) (hpl : (backTo pos (starEach es X.env)).any (·.1) = false := by rfl)
    (ht : eval (.Call (.Attribute o m apos) (e :: es) [] pos) X.env = (do
      let ov ← eval o X.env
      standAt apos.atName
      let (f, first) ← holding [ov] (getMethod ov m pl)
      callWith pos f first (backTo pos (starEach (e :: es) X.env)) (backToKw pos (keywordEach [] X.env))) := by rfl) : ER X E σ S (.Call (.Attribute o m apos) (e :: es) [] pos) R O := fun H s hx Q q => by
  obtain ⟨f, fd, ps, F, hm, hf, hk, hb⟩ := D1.ex
  refine he_of (pe_meth peb c ⟨hm, hf, hk⟩ F hr hb .nil (passes_call tk fun _ _ _ _ h => h) pab hst hpl ht) (ho H s _ fun w S1 H1 g1 pw => ?_)
  obtain ⟨a, dx, fs, rfl, h1, h2⟩ := hP w S1 pw
  refine ⟨a, dx, fs, rfl, g1.sub _ _ h1, h2, (ha.up g1.st).2 H1 g1.sub _ fun vs S2 H2 g2 al => ?_⟩
  rw [List.append_nil]
  exact hsp _ S2 H2 (g1.st.trans g2.st) g2.sub (.cons (Mn.up g2.st pw) al) Q E (fun v S3 H3 g3 rv => q v S3 H3 ((g1.trans g2).trans g3) rv) fun k g o => (hx k g o).up (g1.trans g2)
/-! ### statements -/
theorem hs_exprX (h : ER X E σ S e P O) (s : Same S H) (hx : ∀ k g, O k g → XErr X.K k g S H E) (q : ∀ v S' H', Gr S H S' H' → P v S' → HS X D rest σ H') (hs : swapsWith e none pos.line X.env = pure false := by rfl) : HS X D (.Expr e pos :: rest) σ H := hs_cons (ps_expr peb hs) (h H s hx _ q)
theorem hs_retX (h : ER X E σ S e P O) (s : Same S H) (hx : ∀ k g, O k g → XErr X.K k g S H E) (q : ∀ v S' H', Gr S H S' H' → P v S' → D.rt v H') : HS X D (.Return (some e) pos :: rest) σ H := hs_cons (ps_ret peb) (h H s hx _ q)
/-- raise C(e) -/
theorem hs_raiseX {ke : EK} {fname : Str} {G : PyData → Prop} (hc : X.calm = true) (tk : Takes X (fun cls d _ H => E cls d H)) (R : Err X.prog X.w X.K X.mg X.base x ke.C fname ke.code) (hfn : ke.fn = some fname) (hne : fname ≠ "code") (hr : Room 2 X.A) (ha : EE X σ S e (Ex X.K G)) (s : Same S H) (hx : ∀ g, G g → XErr X.K ke g S H E) (hg : Gl X x := by rfl)
    (hdb : (x == ("__debug__" : Str)) = false := by decide) (he : starEach [e] X.env = (false, eval e X.env) :: starEach [] X.env := by rfl) (hpl : (backTo pos (starEach [] X.env)).any (·.1) = false := by rfl) : HS X D (.Raise (some (.Call (.Name x p) [e] [] pos)) none pos2 :: rest) σ H :=
  hs_raiseO hc tk R hr ha s (fun v S1 H1 d H3 gr ⟨g, hgg, pv⟩ hd h1 h2 => by
    have n1 : S1 d = none := gr.sub.free hd
    refine hx g hgg d _ (upd S1 d (.xd [("code", .str ke.code), (fname, v)])) H3 ⟨gr.st.trans (Same.new n1), h1, gr.hh.trans h2, fun a o ha m => (upd_ne (ne_of_none ha (gr.hh.free hd))).trans (gr.old a o ha m)⟩ (gr.hh.free hd) upd_same rfl (fun z => by rw [hfn] at z; cases z) fun y hy => ?_
    rw [hfn] at hy
    cases hy
    refine ⟨v, ?_, pv.up (Same.new n1)⟩
    show (([("code", V.str ke.code), (fname, v)] : List (Str × V)).lookup fname) = some v
    have e1 : (fname == ("code" : Str)) = false := by simpa using hne
    simp [List.lookup, e1]) hg hdb he hpl
theorem hs_raise1 {ke : EK} {fname : Str} {g : PyData} (hc : X.calm = true) (tk : Takes X (fun cls d _ H => E cls d H)) (R : Err X.prog X.w X.K X.mg X.base x ke.C fname ke.code) (hfn : ke.fn = some fname) (hne : fname ≠ "code") (hr : Room 2 X.A) (ha : EE X σ S e (Dt X.K g)) (s : Same S H) (hx : XErr X.K ke g S H E) (hg : Gl X x := by rfl)
    (hdb : (x == ("__debug__" : Str)) = false := by decide) (he : starEach [e] X.env = (false, eval e X.env) :: starEach [] X.env := by rfl) (hpl : (backTo pos (starEach [] X.env)).any (·.1) = false := by rfl) : HS X D (.Raise (some (.Call (.Name x p) [e] [] pos)) none pos2 :: rest) σ H :=
  hs_raiseX (G := fun d => d = g) hc tk R hfn hne hr (ha.ex rfl) s (fun g' e => by subst e; exact hx) hg hdb he hpl
end
/-! ### kept lambdas that may raise -/
def spAsk (K : PySem.W.Frag) (W : List (Option V) → Hp → Prop) (P : V → Hp → Prop) (O : EK → PyData → Prop) : List (Option V) → Hp → VK → XK → Prop := fun ws H Q E => ∃ S, Same S H ∧ W ws S ∧ (∀ v S1 H1, Gr S H S1 H1 → P v S1 → Q v H1) ∧ ∀ k g, O k g → XErr K k g S H E
theorem lok_ask {P : Program} {w : World} {K : PySem.W.Frag} {mg : Str → Option Value} {base : Heap} {N ps fr : List Str} {F : LF} {f : Addr} {k : Nat} {dvs : List V} {W : List (Option V) → Hp → Prop} {Pv : V → Hp → Prop} {O : EK → PyData → Prop} (Sc : NScope N ps fr F.scope) (hB : LBind F ps) (hl : dvs.length = ps.length)
    (h : ∀ (A : Around) (outer : List Env) (s : Shared) (H : Hp) (ws : List (Option V)) (E : XK) (S : Hp), Room k (A.deeper (envF F.nf f s.heap.objs.size)) → ws.length = fr.length → W ws S → Takes (ncx (L2.CX P w) P w K mg base N F.nf f A outer s H E) (fun cls d _ H => E cls d H) → ER (ncx (L2.CX P w) P w K mg base N F.nf f A outer s H E) E (startF N dvs ws) S F.body Pv O) : LOk P w K mg base (L2.CX P w) (k + 1) f F fr dvs (spAsk K W Pv O) :=
  lok_of Sc hB hl fun A outer s H ws Q E hr hlen ⟨S, sS, hw, hq, hx⟩ => h A outer s H ws E S hr hlen hw (takes_of rfl rfl rfl rfl) H sS hx Q hq
end Y
namespace Y
open PySem PySem.Spec PyProof.Rows L2 Z
/-! ## staticmethods that may raise (after Y45, Y46) -/
section
end
section
end
end Y
namespace Y
open PySem PySem.Spec PyProof.Rows L2 L2H Z LamX NdefX
/-! ## what a caught error keeps: any kind -/
def fldAt : List Str := ["InvalidSystem", "InvalidFact", "InvalidFactor", "InvalidGroup", "InvalidClaim", "InvalidSums", "InvalidDeed", "InvalidCommand", "WrongSchema", "TooHigh", "EqualSums"]
def fldNm : List Str := ["InvalidName", "WrongKind", "DuplicateName", "UnknownName"]
def fldNo : List Str := ["InvalidText", "Boundless", "NoTable", "NotThere", "Empty", "NothingLeft"]
/-- the attribute that is read of an error with a code -/
def fieldOf (c : Str) : Option Str := if (fldAt.any fun m => decide (m = c)) = true then some "at" else if (fldNm.any fun m => decide (m = c)) = true then some "name" else if (fldNo.any fun m => decide (m = c)) = true then none else if decide (c = "InvalidPage") = true then some "line" else if decide (c = "WrongWidth") = true then some "width" else if decide (c = "TooMany") = true then some "most" else if decide (c = "Full") = true then some "limit" else some "given"
/-- what a kind of error must tell to be caught and read -/
structure KOk (K : PySem.W.Frag) (tup : List Value) (k : EK) : Prop where
  T : XfC K k.C
  cd : PySem.W.findIn K (.ref k.C) "code" = some none
  at_ : ∀ x, k.fn = some x → PySem.W.findIn K (.ref k.C) x = some none
  ex : PySem.W.exmAny K (.ref k.C) tup = some true
  fld : k.fn = fieldOf k.code
  nt : decide (k.code = "Tight") = false
  nb : decide (k.code = "BrokenClaim") = false
/-- the pinned exception is of the kind k, and keeps g -/
def ExcG (K : PySem.W.Frag) (k : EK) (g : PyData) (p : Addr × Obj) (S : Hp) : Prop := ∃ (dd : Addr) (fs : List (Str × V)), p.2.cls = .ref k.C ∧ p.2.dict = some dd ∧ (∃ vs, p.2.data = .fields vs) ∧ S dd = some (.xd fs) ∧ fs.lookup ("code" : Str) = some (V.str k.code) ∧ (k.fn = none → g = .none) ∧ ∀ x, k.fn = some x → ∃ v, fs.lookup x = some v ∧ Dt K g v S
theorem ExcG.up {K : PySem.W.Frag} {k : EK} {g : PyData} {p : Addr × Obj} {S S' : Hp} (h : ExcG K k g p S) (s : Same S S') : ExcG K k g p S' := by
  obtain ⟨dd, fs, h1, h2, h3, h4, h5, h6, h7⟩ := h
  exact ⟨dd, fs, h1, h2, h3, s _ _ h4, h5, h6, fun x hx => let ⟨v, a, b⟩ := h7 x hx; ⟨v, a, b.up s⟩⟩
section
variable {X : Cx} {σ : L2.St} {S : Hp} {e : Expr} {pos : Pos} {k : EK} {g : PyData} {p : Addr × Obj} {tup : List Value} {x : Str}
theorem ee_codeG (hp : p ∈ X.pn) (px : ExcG X.K k g p S) (ok : KOk X.K tup k) (he : EE X σ S e (fun w _ => w = .ref p.1)) (hb : attributeBase e "code" X.env (eval e X.env) = eval e X.env := by rfl) : EE X σ S (.Attribute e "code" pos) (Dt X.K (.str k.code)) := by
  obtain ⟨dd, fs, h1, h2, h3, h4, h5, _⟩ := px
  exact ee_xfP hp h1 h2 h3 ok.T ok.cd he h4 h5 (.str _) hb
theorem ee_keptG (hp : p ∈ X.pn) (px : ExcG X.K k g p S) (ok : KOk X.K tup k) (hx : k.fn = some x) (he : EE X σ S e (fun w _ => w = .ref p.1)) (hb : attributeBase e x X.env (eval e X.env) = eval e X.env := by rfl) : EE X σ S (.Attribute e x pos) (Dt X.K g) := by
  obtain ⟨dd, fs, h1, h2, h3, h4, _, _, h7⟩ := px
  obtain ⟨v, h8, h9⟩ := h7 x hx
  exact ee_xfP hp h1 h2 h3 ok.T (ok.at_ x hx) he h4 h8 h9 hb
end
def spFieldG (K : PySem.W.Frag) (tup : List Value) (p : Addr × Obj) (vs : List V) (H : Hp) (Q : VK) : Prop := ∃ S k g, Same S H ∧ vs = [.ref p.1] ∧ KOk K tup k ∧ ExcG K k g p S ∧ ∀ v S1 H1, Gr S H S1 H1 → Dt K g v S1 → Q v H1
section
variable {P : Program} {w : World} {K : PySem.W.Frag} {mg : Str → Option Value} {base : Heap}
/-- what an ask's answer is: its value, or the code and what the error keeps -/
def RtD (Od : PyData → Prop) (O : EK → PyData → Prop) (r : PyData) : Prop := (∃ d, Od d ∧ r = .tuple [.str "", d]) ∨ ∃ k g, O k g ∧ r = .tuple [.str k.code, g]
def spTry (P : Program) (w : World) (K : PySem.W.Frag) (mg : Str → Option Value) (base : Heap) (tup : List Value) (k : Nat) : Sp := fun vs H Q _ => ∃ S f F fr dvs ws L sp Od O, vs = [.ref f] ∧ LOk P w K mg base (L2.CX P w) k f F fr dvs sp ∧ Kept F f fr dvs ws L H ∧ Same S (delL H L) ∧ (∀ e g, O e g → KOk K tup e) ∧
  (∀ Q' E', (∀ v S1 H1, Gr S (delL H L) S1 H1 → Ex K Od v S1 → Q' v H1) → (∀ e g, O e g → XErr K e g S (delL H L) E') → sp ws (delL H L) Q' E') ∧ ∀ w S1 H1, Gr S H S1 H1 → Ex K (RtD Od O) w S1 → Q w H1
/-- an ask: a kept lambda with what it may answer -/
structure AskI (P : Program) (w : World) (K : PySem.W.Frag) (mg : Str → Option Value) (base : Heap) (tup : List Value) (k : Nat) where
  Od : PyData → Prop
  O : EK → PyData → Prop
  f : Addr
  F : LF
  fr : List Str
  dvs : List V
  ws : List (Option V)
  L : List (Addr × Obj)
  sp : List (Option V) → Hp → VK → XK → Prop
  S0 : Hp
  lok : LOk P w K mg base (L2.CX P w) k f F fr dvs sp
  ok : ∀ e g, O e g → KOk K tup e
  hR : ∀ S2 H2 Q' E', Same S0 S2 → Same S2 H2 → (∀ v S1 H1, Gr S2 H2 S1 H1 → Ex K Od v S1 → Q' v H1) → (∀ e g, O e g → XErr K e g S2 H2 E') → sp ws H2 Q' E'
def AskJ {tup : List Value} {k : Nat} (it : AskI P w K mg base tup k) (v : V) (S : Hp) : Prop := v = .ref it.f ∧ Kept it.F it.f it.fr it.dvs it.ws it.L S ∧ Same it.S0 (delL S it.L)
theorem delL_mono : ∀ {L : List (Addr × Obj)} {S S' : Hp}, Same S S' → Same (delL S L) (delL S' L)
  | [], _, _, s => s
  | p :: L, S, S', s => delL_mono (L := L) (S := L2.del S p.1) (S' := L2.del S' p.1) fun b o e => by
      by_cases hb : b = p.1
      · rw [hb, L2.del_same] at e; cases e
      · rw [L2.del_ne hb] at e ⊢; exact s b o e
theorem shownL_sub {L : List (Addr × Obj)} {S : Hp} (h : ∀ p ∈ L, S p.1 = none) : Same S (shownL S L) := fun b o e => by
  have hb : b ∉ L.map (·.1) := fun z => by
    obtain ⟨p, hp, rfl⟩ := List.mem_map.mp z
    rw [h p hp] at e; cases e
  exact (shownL_ne hb).trans e
instance askMn {tup : List Value} {k : Nat} {it : AskI P w K mg base tup k} : Mn (AskJ it) := ⟨fun s ⟨h1, h2, h3⟩ => ⟨h1, h2.ext s, h3.trans (delL_mono s)⟩⟩
theorem try_E {tup : List Value} {k : Nat} {S : Hp} (it : AskI P w K mg base tup k) : SpE (spTry P w K mg base tup k) S [AskJ it] (Ex K (RtD it.Od it.O)) := fun vs S1 H1 _ s al Q q => by
  obtain ⟨v, rfl, pv⟩ := al.one
  obtain ⟨rfl, KH, s0⟩ := pv
  refine ⟨delL S1 it.L, it.f, it.F, it.fr, it.dvs, it.ws, it.L, it.sp, it.Od, it.O, rfl, it.lok, KH.ext s, delL_mono s, it.ok, fun Q' E' hq hx => it.hR _ _ Q' E' s0 (delL_mono s) hq hx, fun w S2 H2 g2 ⟨d, hd, pw⟩ => q w _ H2 (Y.Gr.under s KH.shw KH.nd g2) ⟨d, hd, pw.up (shownL_sub fun p hp => ?_)⟩⟩
  rw [g2.old _ _ (s _ _ (KH.shw p hp)) (fun _ z => nomatch z)]
  exact delL_mem (List.mem_map_of_mem hp)
/-- _law_tries -/
def spTries (P : Program) (w : World) (K : PySem.W.Frag) (mg : Str → Option Value) (base : Heap) (tup : List Value) (k : Nat) : Sp := fun vs H Q _ => ∃ (S : Hp) (its : List (AskI P w K mg base tup k)) (l : V), Same S H ∧ vs = [l] ∧ LstP (its.map AskJ) l S ∧ its.length ≤ 1000 ∧ ∀ u S1 H1, Gr S H S1 H1 → (∃ rs, Paired (fun it r => RtD it.Od it.O r) its rs ∧ Dt K (.list rs) u S1) → Q u H1
end
/-! ## lambdas in a list -/
def LamF (e : Expr) (qual : Str) (cells : List (Str × Addr)) (c : Addr) (dT : Option Addr) : LF := match e with
  | .Lambda params body scope _ => ⟨qual, params, body, scope, cloFrom cells scope.names [], c, dT⟩
  | e => ⟨qual, default, e, default, [], c, dT⟩
def LamSc (e : Expr) : Scope := match e with
  | .Lambda _ _ s _ => s
  | _ => default
/-- the lambda at f, in a state -/
def AskS (F : LF) (f : Addr) (dvs : List V) (S : Hp) : Prop := S f = some (LamO f F) ∧ S F.c = some (CodeO F.c F.qual) ∧ LDef F dvs S
theorem AskS.up {F : LF} {f : Addr} {dvs : List V} {S S' : Hp} (h : AskS F f dvs S) (s : Same S S') : AskS F f dvs S' := ⟨s _ _ h.1, s _ _ h.2.1, ⟨h.2.2.1, fun T e => s _ _ (h.2.2.2 T e)⟩⟩
theorem extN_trans {H1 H2 H3 : Hp} (a : ExtN H1 H2) (b : ExtN H2 H3) : ExtN H1 H3 := fun x o e n => b x o (a x o e n) n
theorem extN_new {H : Hp} {p : Addr} {o : HO} (h : H p = none) : ExtN H (upd H p o) := fun b u e _ => (upd_ne (ne_of_none e h)).trans e
theorem extN_refl {H : Hp} : ExtN H H := fun _ _ e _ => e
theorem codeO_ne' {c : Addr} {q : Str} (ps : Array Value) : CodeO c q ≠ .tbl ps := fun z => by unfold CodeO at z; cases z
theorem AskS.ext {F : LF} {f : Addr} {dvs : List V} {H H' : Hp} (h : AskS F f dvs H) (s : ExtN H H') : AskS F f dvs H' := ⟨s _ _ h.1 lamO_ne, s _ _ h.2.1 codeO_ne', ⟨h.2.2.1, fun T e => s _ _ (h.2.2.2 T e) (fun _ z => nomatch z)⟩⟩
theorem AskS.noTab {F : LF} {f : Addr} {dvs : List V} {H : Hp} (h : AskS F f dvs H) : AskS F f dvs (Y.noTab H) := ⟨noTab_at h.1 lamO_ne, noTab_at h.2.1 codeO_ne', ⟨h.2.2.1, fun T e => noTab_at (h.2.2.2 T e) (fun _ z => nomatch z)⟩⟩
/-- v is the lambda e (b: it has a default) -/
def AskE (cells : List (Str × Addr)) (q : Str) (e : Expr) (b : Bool) (v : V) (S : Hp) : Prop := ∃ f c dT, v = .ref f ∧ (b = false → dT = none) ∧ (b = true → ∃ T, dT = some T) ∧ AskS (LamF e q cells c dT) f (if b = true then [.int 0] else []) S
theorem AskE.ext {cells : List (Str × Addr)} {q : Str} {e : Expr} {b : Bool} {v : V} {H H' : Hp} (h : AskE cells q e b v H) (s : ExtN H H') : AskE cells q e b v H' := let ⟨f, c, dT, h1, h2, h3, h4⟩ := h; ⟨f, c, dT, h1, h2, h3, h4.ext s⟩
theorem AskE.noTab {cells : List (Str × Addr)} {q : Str} {e : Expr} {b : Bool} {v : V} {H : Hp} (h : AskE cells q e b v H) : AskE cells q e b v (Y.noTab H) := let ⟨f, c, dT, h1, h2, h3, h4⟩ := h; ⟨f, c, dT, h1, h2, h3, h4.noTab⟩
instance {cells : List (Str × Addr)} {q : Str} {e : Expr} {b : Bool} : Mn (AskE cells q e b) := ⟨fun s ⟨f, c, dT, h1, h2, h3, h4⟩ => ⟨f, c, dT, h1, h2, h3, h4.up s⟩⟩
abbrev AskEs (cells : List (Str × Addr)) (q : Str) (es : List (Expr × Bool)) : List (V → Hp → Prop) := es.map fun p => AskE cells q p.1 p.2
theorem askEs_ext {cells : List (Str × Addr)} {q : Str} {H H' : Hp} (s : ExtN H H') : ∀ {es : List (Expr × Bool)} {vs : List V}, Al (AskEs cells q es) vs H → Al (AskEs cells q es) vs H'
  | [], _, h => by cases h; exact .nil
  | _ :: _, _, h => by cases h with | cons a t => exact .cons (a.ext s) (askEs_ext s t)
theorem askEs_noTab {cells : List (Str × Addr)} {q : Str} {H : Hp} : ∀ {es : List (Expr × Bool)} {vs : List V}, Al (AskEs cells q es) vs H → Al (AskEs cells q es) vs (Y.noTab H)
  | [], _, h => by cases h; exact .nil
  | _ :: _, _, h => by cases h with | cons a t => exact .cons a.noTab (askEs_noTab t)
theorem askEs_up {cells : List (Str × Addr)} {q : Str} {H H' : Hp} (s : Same H H') : ∀ {es : List (Expr × Bool)} {vs : List V}, Al (AskEs cells q es) vs H → Al (AskEs cells q es) vs H'
  | [], _, h => by cases h; exact .nil
  | _ :: _, _, h => by cases h with | cons a t => exact .cons (Mn.up s a) (askEs_up s t)
theorem al_app {Ps Qs : List (V → Hp → Prop)} {vs ws : List V} {S : Hp} (h : Al Ps vs S) (g : Al Qs ws S) : Al (Ps ++ Qs) (vs ++ ws) S := by
  induction h with
  | nil => exact g
  | cons p _ ih => exact .cons p (ih g)
theorem ldef0 {F : LF} {H : Hp} (h : F.dT = none) : LDef F [] H := ⟨fun _ => rfl, fun T e => (by rw [h] at e; cases e)⟩
theorem ldef1 {F : LF} {H : Hp} {T : Addr} {dvs : List V} (h : F.dT = some T) (e : H T = some (.tup dvs)) : LDef F dvs H := ⟨fun q => (by rw [h] at q; cases q), fun T' q => (by rw [h] at q; cases q; exact e)⟩
/-- what is asked of a lambda's expression -/
structure LamOk (X : Cx) (e : Expr) (b : Bool) : Prop where
  ex : ∃ params body scope pos, e = .Lambda params body scope pos ∧ (∀ y ∈ scope.names, y.2 = .free → X.env.scope.names.lookup y.1 = some .cell ∨ X.env.scope.names.lookup y.1 = some .free) ∧ (b = false → defaultsOf params X.env = ([], [])) ∧ (b = true → ∃ p0 k0, defaultsOf params X.env = ([eval (.Constant (.int 0) k0 p0) X.env], []))
/-- the law's code table is told -/
structure TabU (X : Cx) (c Pt : Addr) (q : Str) : Prop where
  tab : TabB X.base X.mg c Pt
  code : X.env.code = .ref c
  qual : X.env.qual ++ "<lambda>" = q
abbrev TabQ (Pt : Addr) (q : Str) : List NTab := [(Pt, fun _ _ => q)]
section
variable {X : Cx} {σ : L2.St} {H : Hp} {c Pt : Addr} {q : Str} {D : Ends} {rest : List Stmt}
theorem he_lamE {e : Expr} {b : Bool} (U : TabU X c Pt q) (hT : TabsN (TabQ Pt q) H) (ok : LamOk X e b) {Q : VK} (h : ∀ v H1, ExtN H H1 → TabsN (TabQ Pt q) H1 → AskE X.env.cells q e b v H1 → Q v H1) : HE X e σ H Q := by
  obtain ⟨params, body, scope, pos, rfl, hf, h0, h1⟩ := ok.ex
  have hu : ∀ p ∈ TabQ Pt q, p.1 = Pt → p.2 = fun _ _ => q := fun p hp _ => by rw [List.mem_singleton.mp hp]
  have hm : (Pt, fun _ _ => q) ∈ TabQ Pt q := List.mem_singleton.mpr rfl
  cases b with
  | false =>
    refine he_lam0 U.tab U.code hm U.qual.symm hu hT hf (h0 rfl) fun f c' H1 M => h _ _ M.ext M.tabs ⟨f, c', none, rfl, fun _ => rfl, (fun z => by cases z), ?_⟩
    have e1 := M.lam
    have e2 := M.code
    rw [U.qual] at e1 e2
    exact ⟨e1, e2, ldef0 rfl⟩
  | true =>
    obtain ⟨p0, k0, hd⟩ := h1 rfl
    refine he_lam1 U.tab U.code hm U.qual.symm hu hf hd (he_of pe_int ⟨hT, fun T hT2 f c' H1 M => h _ _ (extN_trans (extN_new hT2) M.ext) M.tabs ⟨f, c', some T, rfl, (fun z => by cases z), fun _ => ⟨T, rfl⟩, ?_⟩⟩)
    have e1 := M.lam
    have e2 := M.code
    rw [U.qual] at e1 e2
    exact ⟨e1, e2, ldef1 rfl (M.ext _ _ upd_same (fun _ z => nomatch z))⟩
theorem ha_lams (U : TabU X c Pt q) : ∀ {es : List (Expr × Bool)} {H : Hp}, TabsN (TabQ Pt q) H → (∀ p ∈ es, LamOk X p.1 p.2) → ∀ {Q : List V → Hp → Prop}, (∀ vs H1, ExtN H H1 → TabsN (TabQ Pt q) H1 → Al (AskEs X.env.cells q es) vs H1 → Q vs H1) → HA X (es.map (·.1)) σ H Q
  | [], H, hT, _, Q, h => ha_of pa_nil (h [] H extN_refl hT .nil)
  | p :: es, H, hT, ok, Q, h => by
    have hs : starEach ((p :: es).map (·.1)) X.env = (false, eval p.1 X.env) :: starEach (es.map (·.1)) X.env := by
      obtain ⟨params, body, scope, pos, e, _⟩ := (ok p List.mem_cons_self).ex
      obtain ⟨p1, p2⟩ := p
      cases e
      rfl
    refine ha_of (pa_cons (te := bE X p.1) (t := bA X (es.map (·.1))) peb pab hs) (he_lamE U hT (ok p List.mem_cons_self) fun v H1 x1 hT1 a => ?_)
    exact ha_lams U hT1 (fun p' hp => ok p' (List.mem_cons_of_mem _ hp)) fun vs H2 x2 hT2 al => h (v :: vs) H2 (extN_trans x1 x2) hT2 (.cons (a.ext x2) al)
/-- name = [lambda .., ..] -/
theorem hs_asks {es : List (Expr × Bool)} {i : Nat} {x : Str} {pos' pos pl : Pos} (U : TabU X c Pt q) (hN : X.N.Nodup) (hT : TabsN (TabQ Pt q) H) (ok : ∀ p ∈ es, LamOk X p.1 p.2) (hz : es.length ≤ 1000)
    (nx : ∀ l vs Hf, ExtN H Hf → TabsN (TabQ Pt q) Hf → Al (AskEs X.env.cells q es) vs (Y.noTab Hf) → Y.noTab Hf l = some (.lst vs) → HS X D rest (σ.set i (some (.ref l))) Hf) (hi : X.N[i]? = some x := by rfl) (hx : Loc X.env.scope x := by first | exact Or.inl rfl | exact Or.inr rfl)
    (hs : swapsWith (.List (es.map (·.1)) pl) (some (.Name x pos')) pos.line X.env = pure false := by rfl) (hf : X.fn x = true ∨ X.env.scope.names.lookup x = some .local := by first | exact .inl rfl | exact .inr rfl | assumption) : HS X D (.Assign [.Name x pos'] (.List (es.map (·.1)) pl) pos :: rest) σ H := by
  refine hs_cons (ps_set hN hi hx (pe_lst pab) hs hf) (ha_lams U hT ok fun vs H1 x1 hT1 al => ⟨?_, fun l hl => ?_⟩)
  · rw [al_len al, List.length_map]; show _ ≤ 16777216; omega
  · have x2 : ExtN H1 (upd H1 l (.lst vs)) := extN_new hl
    exact nx l vs _ (extN_trans x1 x2) (hT1.ext fun b o e => (upd_ne (ne_of_none e hl)).trans e) (askEs_noTab (askEs_ext x2 al)) (noTab_at upd_same (fun _ z => nomatch z))
/-- name = name + [lambda .., ..] -/
theorem hs_asksMore {es es0 : List (Expr × Bool)} {i l0 : Nat} {vs0 : List V} {x : Str} {pos' pos pl p1 p2 : Pos} (U : TabU X c Pt q) (hN : X.N.Nodup) (hT : TabsN (TabQ Pt q) H) (ok : ∀ p ∈ es, LamOk X p.1 p.2) (hz : es0.length + es.length ≤ 1000) (h0 : Al (AskEs X.env.cells q es0) vs0 H) (hl0 : H l0 = some (.lst vs0)) (hv : σ[i]? = some (some (.ref l0)))
    (nx : ∀ l vs Hf, ExtN H Hf → TabsN (TabQ Pt q) Hf → Al (AskEs X.env.cells q (es0 ++ es)) vs (Y.noTab Hf) → Y.noTab Hf l = some (.lst vs) → HS X D rest (σ.set i (some (.ref l))) Hf) (hi : X.N[i]? = some x := by rfl) (hx : Loc X.env.scope x := by first | exact Or.inl rfl | exact Or.inr rfl) (hvis : Vis X.env.scope x := by first | exact Or.inl rfl | exact Or.inr (Or.inl rfl))
    (hd : (x == ("__debug__" : Str)) = false := by decide) (hcd : (x == ("__classdict__" : Str)) = false := by decide)
    (hs : swapsWith (.BinOp (.Name x p1) .Add (.List (es.map (·.1)) pl) p2) (some (.Name x pos')) pos.line X.env = pure false := by rfl) (hf : X.fn x = true ∨ X.env.scope.names.lookup x = some .local := by first | exact .inl rfl | exact .inr rfl | assumption) : HS X D (.Assign [.Name x pos'] (.BinOp (.Name x p1) .Add (.List (es.map (·.1)) pl) p2) pos :: rest) σ H := by
  refine hs_cons (ps_set hN hi hx (pe_op op_cat (pe_var (i := i) hi hvis hd hcd) (pe_lst pab)) hs hf) ⟨.ref l0, hv, ha_lams U hT ok fun vs H1 x1 hT1 al => ⟨?_, fun l hl => ?_⟩⟩
  · rw [al_len al, List.length_map]; show _ ≤ 16777216; omega
  · have x2 : ExtN H1 (upd H1 l (.lst vs)) := extN_new hl
    have hb : l ≠ l0 := fun e => by
      subst e
      have := x1 _ _ hl0 (fun _ z => nomatch z)
      rw [hl] at this; cases this
    have e0 : upd H1 l (.lst vs) l0 = some (.lst vs0) := (upd_ne hb.symm).trans (x1 _ _ hl0 (fun _ z => nomatch z))
    refine ⟨l0, l, vs0, vs, rfl, rfl, e0, upd_same, ?_, fun l2 hl2 => ?_⟩
    · rw [al_len h0, al_len al, List.length_map, List.length_map]; show _ ≤ 16777216; omega
    · have x3 : ExtN (upd H1 l (.lst vs)) (upd (upd H1 l (.lst vs)) l2 (.lst (vs0 ++ vs))) := extN_new hl2
      have x13 := extN_trans x1 (extN_trans x2 x3)
      refine nx l2 (vs0 ++ vs) _ x13 ((hT1.ext fun b o e => (upd_ne (ne_of_none e hl)).trans e).ext fun b o e => (upd_ne (ne_of_none e hl2)).trans e) ?_ (noTab_at upd_same (fun _ z => nomatch z))
      refine askEs_noTab ?_
      show Al ((es0 ++ es).map _) _ _
      rw [List.map_append]
      exact al_app (askEs_ext x13 h0) (askEs_ext (extN_trans x2 x3) al)
end
/-! ## a call to which the running frame's cells are shown -/
theorem exi_hideL {K : PySem.W.Frag} {F : PyData → Prop} {v : V} {L : List (Addr × Obj)} {S : Hp} (h : Ex K F v S) (e : ∀ p ∈ L, S p.1 = some (.frz p.2 Tr)) (nd : (L.map (·.1)).Nodup) : Ex K F v (delL S L) := let ⟨d, hd, pv⟩ := h; ⟨d, hd, dt_hideL pv e nd⟩
section
variable {X : Cx} {σ : L2.St} {S H : Hp} {e : Expr} {es : List Expr} {x : Str} {k : Nat} {sp : Sp} {p pos : Pos} {F : PyData → Prop} {Q : VK}
theorem he_callCells (xs : List Str) (hxs : xs.Nodup) (hk : ∀ y ∈ xs, X.env.scope.names.lookup y = some .cell ∧ X.fn y = true) (D : KD X.prog X.w X.K X.mg X.base x k sp) (hr : Room k X.A)
    (ha : HA X (e :: es) σ H fun vs H1 => ∃ S1, Same S1 H1 ∧ (X.Ok → ∀ L, CellsOf X σ xs L → (∀ p ∈ L, H1 p.1 = none) → ∀ Q' : VK, (∀ v S2 H2, Gr (Y.shownL S1 L) (Y.shownL H1 L) S2 H2 → Ex X.K F v S2 → Q' v H2) → sp vs (Y.shownL H1 L) Q' E0) ∧ ∀ v S2 H2, Gr S1 H1 S2 H2 → Ex X.K F v S2 → Q v H2)
    (hg : Gl X x := by rfl) (hdb : (x == ("__debug__" : Str)) = false := by decide) (he : starEach (e :: es) X.env = (false, eval e X.env) :: starEach es X.env := by rfl) (hpl : (backTo pos (starEach es X.env)).any (·.1) = false := by rfl) : HE X (.Call (.Name x p) (e :: es) [] pos) σ H Q := fun pins s0 I => by
  obtain ⟨f, fd, ps, F1, hm, hkp, hb⟩ := D.ex
  refine wpAny_Call_Name_kw (ld_glob I hg hm ?_ hdb)
  refine PySem.W.callWith_K (h₀ := X.base) I.ok.mod.kin hkp (thn (ha pos pins s0 I) fun us s1 ⟨vs, H1, I1, r, S1, s, hsp, q⟩ => ⟨I1.kIn, ?_⟩) he hpl
  obtain ⟨L, C, hsh⟩ := cells_show I1 hxs hk
  refine run_shown F1 hr hb .nil pass0 hides0 I1 r hsh C.nd ?_
  rw [List.append_nil]
  exact hsp I1.ok L C (fun p hp => (hsh p hp).no) _ fun v S2 H2 g2 pv => q v (delL S2 L) (delL H2 L) (gr_unshownL s (fun p hp => (hsh p hp).no) C.nd g2) (exi_hideL pv (fun p hp => g2.st _ _ (shownL_at hp C.nd)) C.nd)
end
theorem shownL_mono {L : List (Addr × Obj)} : ∀ {S H : Hp}, Same S H → Same (Y.shownL S L) (Y.shownL H L) := by
  induction L with
  | nil => intro S H s; exact s
  | cons q L ih => intro S H s; exact shown_same_sub (ih s)
theorem unshow_sub {L : List (Addr × Obj)} {S : Hp} (h : ∀ p ∈ L, S p.1 = none) : Same S (delL (Y.shownL S L) L) := fun b o e => by
  have hb : ∀ p ∈ L, p.1 ≠ b := fun p hp z => by rw [← z, h p hp] at e; cases e
  rw [delL_ne hb, shownL_ne (fun z => by obtain ⟨p, hp, q⟩ := List.mem_map.mp z; exact hb p hp q)]
  exact e
theorem clo_in {cells : List (Str × Addr)} {names : List (Str × NameKind)} {xs : List Str} (h : ∀ y ∈ names, y.2 = .free → y.1 ∈ xs) {y : Str} {c : Addr} (e : (cloFrom cells names []).lookup y = some c) : y ∈ xs := by
  rcases cloFrom_mem (PySem.mem_of_lookup e) with hm | ⟨h1, _⟩
  · cases hm
  · exact h _ h1 rfl
theorem kept_of {F : LF} {g : Addr} {fr : List Str} {dvs : List V} {ws : List (Option V)} {L : List (Addr × Obj)} {S : Hp} (h : AskS F g dvs S) (s : Same S (Y.shownL S L)) (nd : (L.map (·.1)).Nodup) (cl : CellsL F.cl fr ws L) : Kept F g fr dvs ws L (Y.shownL S L) :=
  ⟨s _ _ h.1, s _ _ h.2.1, ⟨h.2.2.1, fun T e => s _ _ (h.2.2.2 T e)⟩, fun p hp => shownL_at hp nd, nd, cl⟩
/-- an ask of the law: the lambda e, what its captured names hold, what it answers -/
structure AskC (X : Cx) (q : Str) (tup : List Value) (k : Nat) (σ : L2.St) (xs : List Str) (S : Hp) where
  e : Expr
  b : Bool
  fr : List Str
  js : List Nat
  Od : PyData → Prop
  O : EK → PyData → Prop
  W : List (Option V) → Hp → Prop
  lam : ∃ params body scope pos, e = .Lambda params body scope pos
  lok : ∀ f c dT, (b = false → dT = none) → (b = true → ∃ T, dT = some T) → LOk X.prog X.w X.K X.mg X.base (L2.CX X.prog X.w) k f (LamF e q X.env.cells c dT) fr (if b = true then [.int 0] else []) (spAsk X.K W (Ex X.K Od) O)
  free : ∀ y ∈ (LamSc e).names, y.2 = .free → X.env.scope.names.lookup y.1 = some .cell ∨ X.env.scope.names.lookup y.1 = some .free
  sub : ∀ y ∈ (LamSc e).names, y.2 = .free → y.1 ∈ xs
  hfr : ∀ y ∈ fr, (y, NameKind.free) ∈ (LamSc e).names
  hjs : js.map (fun j => X.N[j]?) = fr.map some
  ok : ∀ e g, O e g → KOk X.K tup e
  hW : ∀ S', Same S S' → W (js.map (slotAt σ)) S'
/-- a kept ask, from its description -/
theorem ask_mk {X : Cx} {q : Str} {tup : List Value} {k : Nat} {σ : L2.St} {xs : List Str} {S S1 : Hp} {L : List (Addr × Obj)} (ok : X.Ok) (Cs : CellsOf X σ xs L) (s0 : Same S S1) (hn : ∀ p ∈ L, S1 p.1 = none) (it : AskC X q tup k σ xs S) {v : V} (h : AskE X.env.cells q it.e it.b v S1) :
    ∃ i : AskI X.prog X.w X.K X.mg X.base tup k, i.Od = it.Od ∧ i.O = it.O ∧ AskJ i v (Y.shownL S1 L) := by
  obtain ⟨f, c, dT, rfl, h0, h1, ha⟩ := h
  have hS : Same S1 (Y.shownL S1 L) := shownL_sub hn
  have hU : Same S1 (delL (Y.shownL S1 L) L) := unshow_sub hn
  obtain ⟨params, body, scope, pos, he⟩ := it.lam
  have hcl : (LamF it.e q X.env.cells c dT).cl = cloFrom X.env.cells (LamSc it.e).names [] := by rw [he]; rfl
  have kc := cellsL_of (js := it.js) (fr := it.fr) (cl := (LamF it.e q X.env.cells c dT).cl) ok Cs (by rw [hcl]; exact Caps.made ok it.free it.hfr it.hjs) (fun y c' e => by rw [hcl] at e; exact clo_in it.sub e) (fun y hy => it.sub (y, .free) (it.hfr y hy) rfl)
  exact ⟨⟨it.Od, it.O, f, LamF it.e q X.env.cells c dT, it.fr, _, it.js.map (slotAt σ), L, spAsk X.K it.W (Ex X.K it.Od) it.O, S1, it.lok f c dT h0 h1, it.ok, fun S2 H2 Q' E' s02 s22 hq hx => ⟨S2, s22, it.hW S2 (s0.trans s02), hq, hx⟩⟩, rfl, rfl, rfl, kept_of ha hS Cs.nd kc, hU⟩
theorem asks_mk {X : Cx} {q : Str} {tup : List Value} {k : Nat} {σ : L2.St} {xs : List Str} {S S1 : Hp} {L : List (Addr × Obj)} (ok : X.Ok) (Cs : CellsOf X σ xs L) (s0 : Same S S1) (hn : ∀ p ∈ L, S1 p.1 = none) : ∀ (its : List (AskC X q tup k σ xs S)) {vs : List V}, Al (AskEs X.env.cells q (its.map fun it => (it.e, it.b))) vs S1 →
    ∃ is : List (AskI X.prog X.w X.K X.mg X.base tup k), is.map (fun i => (i.Od, i.O)) = its.map (fun i => (i.Od, i.O)) ∧ Al (is.map AskJ) vs (Y.shownL S1 L)
  | [], _, h => by cases h; exact ⟨[], rfl, .nil⟩
  | it :: its, _, h => by
    cases h with
    | cons a t =>
      obtain ⟨i, e1, e2, h1⟩ := ask_mk ok Cs s0 hn it a
      obtain ⟨is, e3, h2⟩ := asks_mk ok Cs s0 hn its t
      refine ⟨i :: is, ?_, .cons h1 h2⟩
      rw [List.map_cons, List.map_cons, e3, e1, e2]
theorem paired_pairs {α β : Type} {f : α → (PyData → Prop) × (EK → PyData → Prop)} {g : β → (PyData → Prop) × (EK → PyData → Prop)} : ∀ {xs : List α} {ys : List β} {rs : List PyData}, xs.map f = ys.map g → Paired (fun x r => RtD (f x).1 (f x).2 r) xs rs → Paired (fun y r => RtD (g y).1 (g y).2 r) ys rs
  | [], [], _, _, h => by cases h; exact .nil
  | [], _ :: _, _, e, _ => nomatch e
  | _ :: _, [], _, e, _ => nomatch e
  | x :: xs, y :: ys, _, e, h => by
    cases h with
    | cons a t =>
      rw [List.map_cons, List.map_cons] at e
      obtain ⟨e1, e2⟩ := List.cons.inj e
      exact .cons (by rw [← e1]; exact a) (paired_pairs e2 t)
section
variable {X : Cx} {σ : L2.St} {S H : Hp} {q : Str} {tup : List Value} {k : Nat} {xs : List Str} {x y : Str} {p p2 pos : Pos} {i : Nat} {l : Addr} {vs : List V}
/-- _law_tries(asks) -/
theorem ee_tries (hxs : xs.Nodup) (hk : ∀ y ∈ xs, X.env.scope.names.lookup y = some .cell ∧ X.fn y = true) (D : KD X.prog X.w X.K X.mg X.base x (k + 3) (spTries X.prog X.w X.K X.mg X.base tup k)) (hr : Room (k + 3) X.A) (its : List (AskC X q tup k σ xs S)) (hz : its.length ≤ 1000) (hv : σ[i]? = some (some (.ref l))) (hl : S l = some (.lst vs)) (al : Al (AskEs X.env.cells q (its.map fun it => (it.e, it.b))) vs S)
    (hi : X.N[i]? = some y := by rfl) (hvis : Vis X.env.scope y := by first | exact Or.inl rfl | exact Or.inr (Or.inl rfl)) (hd : (y == ("__debug__" : Str)) = false := by decide) (hcd : (y == ("__classdict__" : Str)) = false := by decide) (hg : Gl X x := by rfl) (hdb : (x == ("__debug__" : Str)) = false := by decide) (he : starEach [.Name y p2] X.env = (false, eval (.Name y p2) X.env) :: starEach [] X.env := by rfl) (hpl : (backTo pos (starEach [] X.env)).any (·.1) = false := by rfl) :
    EE X σ S (.Call (.Name x p) [.Name y p2] [] pos) (Ex X.K fun d => ∃ rs, d = .list rs ∧ Paired (fun (it : AskC X q tup k σ xs S) r => RtD it.Od it.O r) its rs) := fun H s Q qq => by
  refine he_callCells xs hxs hk D hr (F := fun d => ∃ rs, d = .list rs ∧ Paired (fun (it : AskC X q tup k σ xs S) r => RtD it.Od it.O r) its rs) (ha_of (pa_cons (te := bE X (.Name y p2)) (t := tNil) peb pa_nil he) (he_of (pe_var (i := i) hi hvis hd hcd) ⟨.ref l, hv, ?_⟩)) hg hdb he hpl
  refine ⟨S, s, fun ok L C hn Q' q' => ?_, fun v S2 H2 g pv => qq v S2 H2 g pv⟩
  obtain ⟨is, e, h2⟩ := asks_mk ok C (Same.refl S) (fun p hp => s.free (hn p hp)) its al
  refine ⟨Y.shownL S L, is, .ref l, shownL_mono s, rfl, ⟨l, vs, rfl, shownL_sub (fun p hp => s.free (hn p hp)) _ _ hl, h2⟩, ?_, fun u S1 H1 g ⟨rs, h3, h4⟩ => q' u S1 H1 g ⟨_, ⟨rs, rfl, paired_pairs e h3⟩, h4⟩⟩
  have := congrArg List.length e
  rw [List.length_map, List.length_map] at this
  rw [this]; exact hz
/-- _law_try(lambda ..) -/
theorem he_try {c Pt : Addr} {Q : VK} (hxs : xs.Nodup) (hk : ∀ y ∈ xs, X.env.scope.names.lookup y = some .cell ∧ X.fn y = true) (D : KD X.prog X.w X.K X.mg X.base x (k + 1) (spTry X.prog X.w X.K X.mg X.base tup k)) (hr : Room (k + 1) X.A) (U : TabU X c Pt q) (hT : TabsN (TabQ Pt q) H) (it : AskC X q tup k σ xs S) (ok : LamOk X it.e it.b) (s : Same S H) (nT : ∀ a ps, S a ≠ some (.tbl ps))
    (qq : ∀ v S1 H1, Same S S1 → Same S1 H1 → TabsN (TabQ Pt q) H1 → (∀ a ps, S1 a ≠ some (.tbl ps)) → Ex X.K (RtD it.Od it.O) v S1 → Q v H1) (hg : Gl X x := by rfl) (hdb : (x == ("__debug__" : Str)) = false := by decide) (he : starEach [it.e] X.env = (false, eval it.e X.env) :: starEach [] X.env := by rfl) (hpl : (backTo pos (starEach [] X.env)).any (·.1) = false := by rfl) :
    HE X (.Call (.Name x p) [it.e] [] pos) σ H Q := by
  refine he_callCells xs hxs hk D hr (F := RtD it.Od it.O) (ha_of (pa_cons (te := bE X it.e) (t := tNil) peb pa_nil he) (he_lamE U hT ok fun v H1 x1 hT1 a => ?_)) hg hdb he hpl
  have s1 : Same S (Y.noTab H1) := fun b o e => noTab_at (x1 b o (s b o e) fun ps z => nT b ps (by rw [e, z])) fun ps z => nT b ps (by rw [e, z])
  refine ⟨Y.noTab H1, noTab_sub, fun ok' L C hn Q' q' => ?_, fun v S2 H2 g pv => qq v (Y.noTab S2) H2 (fun b o e => noTab_at (g.st _ _ (s1 b o e)) fun ps z => nT b ps (by rw [e, z])) (noTab_sub.trans g.sub) (hT1.ext g.hh) (fun _ _ => noTab_no) (let ⟨d, hd, pv⟩ := pv; ⟨d, hd, dt_noTab pv⟩)⟩
  have hn1 : ∀ p ∈ L, Y.noTab H1 p.1 = none := fun p hp => noTab_sub.free (hn p hp)
  obtain ⟨i, e1, e2, kk⟩ := ask_mk ok' C s1 hn1 it a.noTab
  have h := try_E (S := Y.shownL (Y.noTab H1) L) i [v] (Y.shownL (Y.noTab H1) L) (Y.shownL H1 L) (Same.refl _) (shownL_mono noTab_sub) (.cons kk .nil) Q' fun v S2 H2 g pv => q' v S2 H2 g (by rw [e1, e2] at pv; exact pv)
  exact h
end
end Y
namespace Y
open PySem PySem.Spec PyProof.Rows L2 Z
/-! ## staticmethods def m(a, b, ..) of plain parameters, called x.m(e, ..) -/
section
end
end Y
namespace Y
open PySem PySem.Spec PyProof.Rows L2 L2H Z LamX NdefX
/-! ## what stays when cells and tables are hidden -/
def NF (o : HO) : Prop := (∀ x, o ≠ .frz x Tr) ∧ ∀ ps, o ≠ .tbl ps
def Les (S S' : Hp) : Prop := ∀ a o, S a = some o → NF o → S' a = some o
class Rb (P : V → Hp → Prop) : Prop where
  rb : ∀ {v : V} {S S' : Hp}, Les S S' → P v S → P v S'
theorem dt_rb {K : PySem.W.Frag} {d : PyData} {v : V} {S S' : Hp} (h : Dt K d v S) (e : Les S S') : Dt K d v S' := by
  induction h with
  | non => exact .non
  | bl b => exact .bl b
  | int i => exact .int i
  | str x => exact .str x
  | lst h l z _ ih => exact .lst (e _ _ h ⟨(fun _ z => nomatch z), (fun _ z => nomatch z)⟩) l z fun i x d hx hd => ih i x d hx hd e
  | tup h l z _ ih =>
    refine .tup ?_ l z fun i x d hx hd => ih i x d hx hd e
    rcases h with h | ⟨e0, (h | ⟨o', h⟩) | h⟩
    · exact .inl (e _ _ h ⟨(fun _ z => nomatch z), (fun _ z => nomatch z)⟩)
    · exact .inl (e _ _ h ⟨(fun _ z => nomatch z), (fun _ z => nomatch z)⟩)
    · exact .inr ⟨e0, .inl (.inr ⟨o', (e _ _ h ⟨(fun _ z => nomatch z), (fun _ z => nomatch z)⟩)⟩)⟩
    · exact .inr ⟨e0, .inr h⟩
instance {K : PySem.W.Frag} {d : PyData} : Rb (Dt K d) := ⟨fun e h => dt_rb h e⟩
instance {K : PySem.W.Frag} {F : PyData → Prop} : Rb (Ex K F) := ⟨fun e ⟨d, hd, h⟩ => ⟨d, hd, dt_rb h e⟩⟩
def NoV : V → Hp → Prop := fun _ _ => False
instance : Rb NoV := ⟨fun _ h => h⟩
instance : Mn NoV := ⟨fun _ h => h⟩
/-! ## asks whose answers need not be data -/
section
variable {P : Program} {w : World} {K : PySem.W.Frag} {mg : Str → Option Value} {base : Heap}
/-- an ask: a kept lambda with what it may answer -/
structure AskIV (P : Program) (w : World) (K : PySem.W.Frag) (mg : Str → Option Value) (base : Heap) (tup : List Value) (k : Nat) where
  R : V → Hp → Prop
  rb : Rb R
  O : EK → PyData → Prop
  f : Addr
  F : LF
  fr : List Str
  dvs : List V
  ws : List (Option V)
  L : List (Addr × Obj)
  sp : List (Option V) → Hp → VK → XK → Prop
  S0 : Hp
  lok : LOk P w K mg base (L2.CX P w) k f F fr dvs sp
  ok : ∀ e g, O e g → KOk K tup e
  hR : ∀ S2 H2 Q' E', Same S0 S2 → Same S2 H2 → (∀ v S1 H1, Gr S2 H2 S1 H1 → R v S1 → Q' v H1) → (∀ e g, O e g → XErr K e g S2 H2 E') → sp ws H2 Q' E'
def AskJV {tup : List Value} {k : Nat} (it : AskIV P w K mg base tup k) (v : V) (S : Hp) : Prop := v = .ref it.f ∧ Kept it.F it.f it.fr it.dvs it.ws it.L S ∧ Same it.S0 (delL S it.L)
instance askMnV {tup : List Value} {k : Nat} {it : AskIV P w K mg base tup k} : Mn (AskJV it) := ⟨fun s ⟨h1, h2, h3⟩ => ⟨h1, h2.ext s, h3.trans (delL_mono s)⟩⟩
end
/-! ## a list comprehension whose elements are of any kind -/
section
end
/-! ## a call to which the running frame's cells are shown -/
section
end
section
end
end Y
namespace Y
open PySem PySem.Spec PyProof.Rows L2 L2H Z LamX NdefX
/-! ## pairs of things of any kind -/
class Mn2 (P : V → V → Hp → Prop) : Prop where
  up : ∀ {v u : V} {H H' : Hp}, Same H H' → P v u H → P v u H'
/-- a pair whose parts are as P says -/
def PrP (P : V → V → Hp → Prop) (v : V) (S : Hp) : Prop := ∃ l a b, v = .ref l ∧ S l = some (.tup [a, b]) ∧ P a b S
instance {P : V → V → Hp → Prop} [m : Mn2 P] : Mn (PrP P) := ⟨fun s ⟨l, a, b, h1, h2, h3⟩ => ⟨l, a, b, h1, s _ _ h2, m.up s h3⟩⟩
section
/-! ## displays of things of any kind -/
end
end Y
namespace Y
open PySem PySem.Spec PyProof.Rows L2 L2H Z LamX NdefX
section
end
end Y
namespace Y
open PySem PySem.Spec PyProof.Rows L2 L2H Z LamX NdefX
/-! ## lambdas where several code tables are told -/
section
end
end Y
namespace Y
open PySem PySem.Spec PyProof.Rows L2 L2H Z
section
variable {X : Cx} {σ : L2.St} {S : Hp} {a : Expr} {pos : Pos}
/-- z[lo:hi] of a text -/
theorem ee_slS {z : Str} {lo hi : Option Expr} {l u : Option Int} {p2 : Pos} (hz : z.length ≤ sizeLine) (ha : EE X σ S a (Dt X.K (.str z))) (hl : EO X σ S lo l) (hu : EO X σ S hi u) : EE X σ S (.Subscript a (.Slice lo hi none p2) pos) (Dt X.K (.str (cutS z l u))) := fun H s Q q =>
  he_of (pe_slice sl_str peb pob pob) (ha H s _ fun v S1 H1 g1 pv => (hl.up g1.st) H1 g1.sub _ fun S2 H2 g2 => (hu.up (g1.st.trans g2.st)) H2 g2.sub _ fun S3 H3 g3 => by
    cases pv
    exact ⟨z, rfl, hz, q _ _ _ ((g1.trans g2).trans g3) (.str _)⟩)
end
end Y
namespace Y
open PySem PySem.Spec PyProof.Rows L2 L2H Z LamX NdefX PySem.W
section
end
end Y
namespace L2
open PySem PySem.Spec PyProof.Rows
section
variable {X : Cx} {e : Expr} {es : List Expr} {ta : TA} {p pos : Pos}
/-- C(), an own error without arguments -/
theorem pmk_oex0 {CX : CXT} {x : Str} {C fI : Addr} {k : Nat} {fd : FuncData} {ps : List Str} {sp : Sp} {ds : List Value} {dvs : List V} (T : OexC X.K C) (iC : PySem.W.findIn X.K (.ref C) "__init__" = some (some (.ref fI))) (tI : PySem.W.typeIn X.K (.ref fI) = some (.type "function"))
    (F1 : FnOk X.prog X.w X.K X.mg X.base CX k fI fd ps sp) (hr : Room (k + 1) X.A) (hb : Binds X.K fd ps ds) (hd : Vals dvs ds) (hx : Passes CX X (fun _ _ _ => False)) (hg : Gl X x) (hm : X.mg x = some (.ref C))
    (hdb : (x == ("__debug__" : Str)) = false := by decide) :
    PMk X (.Call (.Name x p) [] [] pos) (tMkO C sp dvs tNil) := by
  intro pins s σ H Q I h
  obtain ⟨nm, q, N, bs, bm, sn, sub, ab, col, dd, k0, k1, k2, k3, k5, hC, hbm⟩ := T.cls
  refine wpAny_Call_Name_kw (ld_glob I hg hm ?_ hdb)
  obtain ⟨hz, q1⟩ := h
  refine PySem.W.callWith_K0 I.kIn T.kC ?_
  show wpAny _ _ (call (.ref C) []) _ _ _
  obtain ⟨hp, g, dr, tk, os⟩ := s
  have hsz : hp.objs.size ≤ hp.objs.size + 1 := Nat.le_succ _
  have hn : H (hp.objs.size + 1) = none := I.hok.fresh hsz
  have hq := q1 (hp.objs.size + 1) hn
  rw [List.nil_append] at hq
  have kk : ∀ b o, hp.get? b = some o → ((hp.push (PySem.W.kdv_tup [])).push (PySem.HandSPX.excO C hp.objs.size)).get? b = some o := fun b o e => Heap.get?_push_of_some _ (Heap.get?_push_of_some _ e)
  have hget : ((hp.push (PySem.W.kdv_tup [])).push (PySem.HandSPX.excO C hp.objs.size)).get? (hp.objs.size + 1) = some (PySem.HandSPX.excO C hp.objs.size) := by heap_get
  have I2 : Inv X pins σ (upd H (hp.objs.size + 1) (exo (hp.objs.size + 1) C none)) ⟨(hp.push (PySem.W.kdv_tup [])).push (PySem.HandSPX.excO C hp.objs.size), g, dr, tk, os⟩ :=
    I.laid (t' := tk) (a := hp.objs.size + 1) (o := exo (hp.objs.size + 1) C none) (h' := (hp.push (PySem.W.kdv_tup [])).push (PySem.HandSPX.excO C hp.objs.size)) kk hsz (exo_ok hget)
  have r2 : Vals (V.ref (hp.objs.size + 1) :: dvs) (Value.ref (hp.objs.size + 1) :: ds) := .cons rfl hd
  have hl : (Value.ref (hp.objs.size + 1) :: ds).length = ps.length := by
    have e := r2.length
    rw [F1.len _ _ _ _ hq] at e
    exact e.symm
  refine wpAny_call (PySem.HandSPX.call_own F.excBase_ValueError (fun Y => PySem.HandSPX.refsVE_contains Y bm hbm) (I.kIn _ _ hC) (PySem.W.looks_findIn I.kIn iC) (fun self => PySem.W.bind_fn I.kIn self tI) (by rw [sizeLine_eq]; show 0 ≤ _; omega)
    (codeAny_mono (F1.run _ X.stack _ _ ⟨Value.ref (hp.objs.size + 1) :: [], []⟩ (Value.ref (hp.objs.size + 1) :: ds) _ _ (fun _ _ _ => False) (hr.make C [] []) (I2.env0.make C [] []) (hb _ (Value.ref (hp.objs.size + 1) :: []) I2.kIn hl) r2 hq) fun r s' hq' => ?_))
  cases r with
  | error er => exact hx pins σ _ _ er s' I2 hq'
  | ok fl =>
    cases fl with
    | ret u =>
      obtain ⟨v, H2, os2, bare2, un2, hok2, rv, ev, d, fs, ea, ed, hd1, q2⟩ := hq'
      subst ev
      obtain ⟨h2, g2, d2, t2, os'⟩ := s'
      exact ⟨rv, mk_end (raises_own T.exC T.tyC) I hsz kk un2 hok2 os2 bare2 ea ed hd1 q2⟩
    | next => exact False.elim hq'
    | brk => exact False.elim hq'
    | cont => exact False.elim hq'
end
end L2
namespace Y
open PySem PySem.Spec PyProof.Rows L2 Z
/-! ## own errors without an attribute -/
def spXI0 (C : Addr) (code : Str) : Sp := fun vs H Q _ => ∃ a, vs = [.ref a] ∧ H a = some (exo a C none) ∧ ∀ dx, H dx = none → dx ≠ a → Q .non (upd (upd H dx (exd dx [("code", .str code)])) a (exo a C (some dx)))
structure Err0 (P : Program) (w : World) (K : PySem.W.Frag) (mg : Str → Option Value) (base : Heap) (x : Str) (C : Addr) (code : Str) : Prop where
  T : OexC K C
  gl : mg x = some (.ref C)
  ex : ∃ fI fd ps, PySem.W.findIn K (.ref C) "__init__" = some (some (.ref fI)) ∧ PySem.W.typeIn K (.ref fI) = some (.type "function") ∧ FnOk P w K mg base CX0 1 fI fd ps (spXI0 C code) ∧ Binds K fd ps []
section
variable {X : Cx} {σ : L2.St} {S S' H : Hp} {e o : Expr} {es : List Expr} {Pv P0 R : V → Hp → Prop} {Ps : List (V → Hp → Prop)} {pos p pos2 apos : Pos} {D : Ends} {rest : List Stmt} {x code m : Str} {C : Addr} {E : XK} {k : Nat} {sp : Sp} {O : EK → PyData → Prop}
/-- raise C() -/
theorem hs_raise0 {ke : EK} (hc : X.calm = true) (tk : Takes X (fun cls d _ H => E cls d H)) (R : Err0 X.prog X.w X.K X.mg X.base x ke.C ke.code) (hfn : ke.fn = none) (hr : Room 2 X.A) (s : Same S H) (hx : XErr X.K ke .none S H E) (hg : Gl X x := by rfl)
    (hdb : (x == ("__debug__" : Str)) = false := by decide) : HS X D (.Raise (some (.Call (.Name x p) [] [] pos)) none pos2 :: rest) σ H := by
  obtain ⟨fI, fd, ps, iC, tI, F1, hb⟩ := R.ex
  refine hs_cons (ps_raise hc tk (pmk_oex0 R.T iC tI F1 hr hb .nil pass0 hg R.gl hdb)) ?_
  refine ⟨by show 0 ≤ 1000; decide, fun a ha0 => ⟨a, rfl, upd_same, fun dx hdx hne => ⟨rfl, dx, [("code", .str ke.code)], upd_same, ?_, ?_, ?_⟩⟩⟩
  · rw [upd_ne hne, upd_same]
  · rw [upd_ne hne] at hdx; exact hdx
  · rw [upd_ne hne] at hdx
    have key : ∀ z o, H z = some o → upd (L2.del (upd (upd (upd H a (exo a ke.C none)) dx (exd dx [("code", .str ke.code)])) a (exo a ke.C (some dx))) a) dx (.xd [("code", .str ke.code)]) z = some o := fun z o hz => by
      have n1 : z ≠ a := ne_of_none hz ha0
      have n2 : z ≠ dx := ne_of_none hz hdx
      rw [upd_ne n2, L2.del_ne n1, upd_ne n1, upd_ne n2, upd_ne n1]; exact hz
    have n1 : S dx = none := s.free hdx
    refine hx dx _ (upd S dx (.xd [("code", .str ke.code)])) _ ⟨Same.new n1, fun z o hz => ?_, key, fun z o hz m => upd_ne (ne_of_none hz hdx)⟩ hdx upd_same rfl (fun _ => rfl) (fun y hy => by rw [hfn] at hy; cases hy)
    by_cases hzd : z = dx
    · subst hzd; rw [upd_same] at hz ⊢; exact hz
    · rw [upd_ne hzd] at hz; exact key z o (s _ _ hz)
/-! ## methods def m(self, *xs) that raise -/
structure KMSX (P : Program) (w : World) (K : PySem.W.Frag) (mg : Str → Option Value) (base : Heap) (C : Addr) (m : Str) (k : Nat) (sp : Sp) : Prop where
  ex : ∃ f, FnR P w K mg base (L2.CX P w) k f sp ∧ PySem.W.findIn K (.ref C) m = some (some (.ref f)) ∧ PySem.W.isFn K (.ref f) = true ∧ PySem.W.keepIn K (.ref f) = true
theorem er_methS {pl : Sem Bool} (tk : Takes X (fun cls d _ H => E cls d H)) (D1 : KMSX X.prog X.w X.K X.mg X.base C m k sp) (c : Cls X.K C) (hr : Room k X.A) (ho : EE X σ S o P0) [Mn P0] (hP : InsP C m P0) (ha : EA X σ S (e :: es) Ps) (hsp : SpO X.K sp S (P0 :: Ps) R O)
    (hst : starEach (e :: es) X.env = (false, eval e X.env) :: starEach es X.env := by rfl) (hpl : (backTo pos (starEach es X.env)).any (·.1) = false := by rfl)
    (ht : eval (.Call (.Attribute o m apos) (e :: es) [] pos) X.env = (do
      let ov ← eval o X.env
      standAt apos.atName
      let (f, first) ← holding [ov] (getMethod ov m pl)
      callWith pos f first (backTo pos (starEach (e :: es) X.env)) (backToKw pos (keywordEach [] X.env))) := by rfl) : ER X E σ S (.Call (.Attribute o m apos) (e :: es) [] pos) R O := fun H s hx Q q => by
  obtain ⟨f, F, hm, hf, hk⟩ := D1.ex
  refine he_of (pe_methR peb c ⟨hm, hf, hk⟩ F hr (passes_call tk fun _ _ _ _ h => h) pab hst hpl ht) (ho H s _ fun w S1 H1 g1 pw => ?_)
  obtain ⟨a, dx, fs, rfl, h1, h2⟩ := hP w S1 pw
  refine ⟨a, dx, fs, rfl, g1.sub _ _ h1, h2, (ha.up g1.st).2 H1 g1.sub _ fun vs S2 H2 g2 al => ?_⟩
  exact hsp _ S2 H2 (g1.st.trans g2.st) g2.sub (.cons (Mn.up g2.st pw) al) Q E (fun v S3 H3 g3 rv => q v S3 H3 ((g1.trans g2).trans g3) rv) fun k g o => (hx k g o).up (g1.trans g2)
end
theorem errB0_ok {K : PySem.W.Frag} {C fI : Addr} (h : errB0 K C fI = true) : OexC K C ∧ XfC K C ∧ PySem.W.findIn K (.ref C) "code" = some none ∧ PySem.W.findIn K (.ref C) "__init__" = some (some (.ref fI)) ∧ PySem.W.typeIn K (.ref fI) = some (.type "function") := by
  unfold errB0 at h
  simp only [Bool.and_eq_true, decide_eq_true_eq] at h
  obtain ⟨h1, h2, h4, h5, h6⟩ := h
  exact ⟨oexB_ok h1, xfB_ok h2, He.eqO_ok h4, He.eqO_ok h5, h6⟩
end Y
namespace Y
open PySem PySem.Spec PyProof.Rows L2 Z
/-! ## texts: count, partition, split, index -/
theorem dts_strs {K : PySem.W.Frag} {S : Hp} (ys : List Str) : Dts K (ys.map .str) (ys.map V.str) S := ⟨by rw [List.length_map, List.length_map], fun i x d hx hd => by
  rw [List.getElem?_map] at hx hd
  cases e : ys[i]? with
  | none => rw [e] at hx; cases hx
  | some y => rw [e] at hx hd; cases hx; cases hd; exact .str y⟩
section
variable {X : Cx} {σ : L2.St} {S : Hp} {a b : Expr} {z y : Str} {apos pos : Pos}
theorem ee_count (ha : EE X σ S a (Dt X.K (.str z))) (hb : EE X σ S b (Dt X.K (.str y)))
    (hbase : attributeBase a "count" X.env (eval a X.env) = eval a X.env := by rfl)
    (hfew : ((backTo pos (starEach [b] X.env)).all (fun x => !x.1) && (backToKw pos (keywordEach [] X.env)).all (fun x => x.1.isSome) && decide (([b] : List Expr).length + ([] : List Keyword).length + (if ([] : List Keyword).isEmpty then 0 else 1) < 30)) = true := by rfl)
    (hline : (apos.endLine == pos.line) = true := by rfl) (hs : starEach [b] X.env = (false, eval b X.env) :: starEach [] X.env := by rfl) (hplain : (backTo pos (starEach [] X.env)).any (·.1) = false := by rfl) :
    EE X σ S (.Call (.Attribute a "count" apos) [b] [] pos) (Dt X.K (.int (Txt.count z y))) := fun H s Q q =>
  he_of (pe_bm PySem.F.plainAttrs_str PySem.F.slot_str_count PySem.F.type_str_count mt_count peb pab hbase hfew hline hs hplain) (ha H s _ fun v S1 H1 g1 pv => by
    cases pv
    refine ⟨rfl, ((ea_1 hb hs).up g1.st).2 H1 g1.sub _ fun vs S2 H2 g2 al => ?_⟩
    obtain ⟨w, rfl, pw⟩ := al.one
    cases pw
    exact ⟨z, y, rfl, rfl, q _ S2 H2 (g1.trans g2) (.int _)⟩)
theorem ee_index {i : Nat} {rest : List Nat} (ho : Builtin.Str.occurrences z y 0 z.length 1 = i :: rest) (ha : EE X σ S a (Dt X.K (.str z))) (hb : EE X σ S b (Dt X.K (.str y)))
    (hbase : attributeBase a "index" X.env (eval a X.env) = eval a X.env := by rfl)
    (hfew : ((backTo pos (starEach [b] X.env)).all (fun x => !x.1) && (backToKw pos (keywordEach [] X.env)).all (fun x => x.1.isSome) && decide (([b] : List Expr).length + ([] : List Keyword).length + (if ([] : List Keyword).isEmpty then 0 else 1) < 30)) = true := by rfl)
    (hline : (apos.endLine == pos.line) = true := by rfl) (hs : starEach [b] X.env = (false, eval b X.env) :: starEach [] X.env := by rfl) (hplain : (backTo pos (starEach [] X.env)).any (·.1) = false := by rfl) :
    EE X σ S (.Call (.Attribute a "index" apos) [b] [] pos) (Dt X.K (.int (i : Nat))) := fun H s Q q =>
  he_of (pe_bm PySem.F.plainAttrs_str PySem.F.slot_str_index PySem.F.type_str_index mt_sindex peb pab hbase hfew hline hs hplain) (ha H s _ fun v S1 H1 g1 pv => by
    cases pv
    refine ⟨rfl, ((ea_1 hb hs).up g1.st).2 H1 g1.sub _ fun vs S2 H2 g2 al => ?_⟩
    obtain ⟨w, rfl, pw⟩ := al.one
    cases pw
    exact ⟨z, y, i, rest, rfl, rfl, ho, q _ S2 H2 (g1.trans g2) (.int _)⟩)
/-- a.split(b) -/
theorem ee_split (hy : (y.length == 0) = false) (hz : z.length + 2 ≤ sizeLine) (hn : (Txt.split z y).length ≤ sizeLine) (ha : EE X σ S a (Dt X.K (.str z))) (hb : EE X σ S b (Dt X.K (.str y))) (hs : starEach [b] X.env = [(false, eval b X.env)] := by rfl) (hbase : attributeBase a "split" X.env (eval a X.env) = eval a X.env := by rfl) (hline : (apos.endLine == pos.line) = true := by rfl) :
    EE X σ S (.Call (.Attribute a "split" apos) [b] [] pos) (Dt X.K (.list ((Txt.split z y).map .str))) := fun H s Q q =>
  he_of (pe_split peb peb hs hbase hline) (ha H s _ fun v S1 H1 g1 pv => by
    cases pv
    refine ⟨⟨z, rfl⟩, (hb.up g1.st) H1 g1.sub _ fun w S2 H2 g2 pw => ?_⟩
    cases pw
    refine ⟨z, y, rfl, rfl, hy, hz, fun p hp => q _ _ _ ((g1.trans g2).trans (Gr.new g2.sub hp)) (Dt.lst_mk upd_same (dts_strs _) (by rw [List.length_map]; exact hn))⟩)
/-- a.partition(b) -/
theorem ee_partition (hy : (y.length == 0) = false) (hz : z.length ≤ sizeLine) (ha : EE X σ S a (Dt X.K (.str z))) (hb : EE X σ S b (Dt X.K (.str y))) (hs : starEach [b] X.env = [(false, eval b X.env)] := by rfl) (hbase : attributeBase a "partition" X.env (eval a X.env) = eval a X.env := by rfl) (hline : (apos.endLine == pos.line) = true := by rfl) :
    EE X σ S (.Call (.Attribute a "partition" apos) [b] [] pos) (Dt X.K (.tuple [.str (Txt.partition z y).1, .str (Txt.partition z y).2.1, .str (Txt.partition z y).2.2])) := fun H s Q q =>
  he_of (pe_partition peb peb hs hbase hline) (ha H s _ fun v S1 H1 g1 pv => by
    cases pv
    refine ⟨⟨z, rfl⟩, (hb.up g1.st) H1 g1.sub _ fun w S2 H2 g2 pw => ?_⟩
    cases pw
    exact ⟨z, y, rfl, rfl, hy, hz, fun p hp => q _ _ _ ((g1.trans g2).trans (Gr.new g2.sub hp)) (Dt.tup_mk (tus_of upd_same) (Dts.cons (.str _) (Dts.cons (.str _) (Dts.cons (.str _) .nil))) (by show 3 ≤ 16777216; decide))⟩)
end
end Y
noncomputable section
namespace Y
open PySem PySem.Spec PyProof.Rows L2 PySem.Froz Z
/-! ## set(text), a text of ascii signs, equal ones among them -/
section
variable {P : Program} {w : World} {A : Around} {E : Value → Shared → Prop} {s : Shared}
theorem add_dup {a : Addr} {T : String} {D : SD} {l : List Str} {k : Str} {u : Tok} {Q : Bool → Shared → Prop} (ho : s.heap.get? a = some (sObj T D)) (F : TxOk P w D l) (hk : k ∈ l) (hb : l.length + 1 < scanBound)
    (h : Q false s) : wpAny (model P w) A (setAddHashed a (.str k u) (hashStr w k)) Q E s := by
  obtain ⟨es, ep, t⟩ := D
  have hd : (sObj T (es, ep, t)).data = .set es ep t := rfl
  have hf : t.fits es.size = true := F.fit
  have hel : ElemsOf (strKind P w) es.toList := F.el
  have hsz : es.size = l.length := F.sz
  have hb0 : es.size < scanBound := by omega
  have hkey : (strKind P w).is k (.str k u) = true := is_str k u
  obtain ⟨j, hj⟩ : ∃ j, List.findIdx? (fun e => (strKind P w).is k e.2) es.toList = some j := by
    cases hr : List.findIdx? (fun e => (strKind P w).is k e.2) es.toList with
    | some j => exact ⟨j, rfl⟩
    | none =>
      obtain ⟨e, he, q⟩ := (F.mem k).mp hk
      have := List.findIdx?_eq_none_iff.mp hr e he
      rw [q] at this
      cases this
  unfold setAddHashed setAddHashedIn
  refine wpAny_holding (wpAny_bind (wpAny_setState_of ho hd hf ?_))
  dsimp only
  rw [byScan_of rfl hb0 hel]
  simp only [↓reduceIte]
  unfold setAddByScan
  refine wpAny_bind ?_
  refine wpAny_bind (wpAny_rule ?_)
  refine wpAny_bind (wpAny_setScan_of (knd := strKind P w) (k := k) hkey ho hd hf hel ?_)
  rw [hj]
  dsimp only
  exact wpAny_pure (wpAny_pure h)
end
/-- the payload behind the adds of a text's signs; the signs that it holds -/
def runG (w : World) : List Nat → List Str → Tok → SD → SD
  | [], _, _, D => D
  | c :: r, l, tk, D => if sing c ∈ l then runG w r l (tk + 2) D else runG w r (sing c :: l) (tk + 2) (addTx (hashStr w (sing c)) (.str (sing c) tk) D)
def outG : List Nat → List Str → List Str
  | [], l => l
  | c :: r, l => if sing c ∈ l then outG r l else outG r (sing c :: l)
theorem runG_ok {P : Program} {w : World} : ∀ (cs : List Nat) (tk : Tok) (D : SD) (l : List Str), TxOk P w D l → TxOk P w (runG w cs l tk D) (outG cs l)
  | [], _, D, l, F => F
  | c :: r, tk, D, l, F => by
    unfold runG outG
    split
    · exact runG_ok r (tk + 2) D l F
    · exact runG_ok r (tk + 2) _ (sing c :: l) (add_ok tk F)
theorem outG_len : ∀ (cs : List Nat) (l : List Str), (outG cs l).length ≤ cs.length + l.length
  | [], l => by unfold outG; simp
  | c :: r, l => by
    unfold outG
    split
    · have := outG_len r l; rw [List.length_cons]; omega
    · have := outG_len r (sing c :: l); rw [List.length_cons] at this ⊢; omega
theorem finU_dup {s : Shared} {a it : Addr} (hne : a ≠ it) (T : String) (X : SD) (Y' : Obj) (n m : Nat) :
    finU { s with heap := s.heap.update it (fun _ => Y'), toks := s.toks + 1 + 1 } a T it X n m = finU s a T it X n (m + 1) := by
  have e1 : two (s.heap.update it (fun _ => Y')) a (sObj T X) it (itEnd n) = two s.heap a (sObj T X) it (itEnd n) := by
    unfold two
    rw [Heap.update_comm s.heap a it (fun _ => sObj T X) (fun _ => Y') hne, Froz.upd_upd]
  have e2 : (s.heap.update it (fun _ => Y')).objs.size = s.heap.objs.size := Heap.size_after_update ..
  have e3 : s.toks + 1 + 1 + 2 * m = s.toks + 2 * (m + 1) := by omega
  show ({ s with heap := ((two (s.heap.update it (fun _ => Y')) a (sObj T X) it (itEnd n)).push tupObj).push (stopObj (s.heap.update it (fun _ => Y')).objs.size), toks := s.toks + 1 + 1 + 2 * m } : Shared) =
    { s with heap := ((two s.heap a (sObj T X) it (itEnd n)).push tupObj).push (stopObj s.heap.objs.size), toks := s.toks + 2 * (m + 1) }
  rw [e1, e2, e3]
section
variable {P : Program} {w : World} {A : Around} {R : Result → Shared → Prop}
theorem code_updG {a it : Addr} (hne : a ≠ it) {T : String} {x : Str} {u : Tok} (hh : A.handled = none) : ∀ (cs : List Nat) (i : Nat) (D : SD) (l : List Str) (s : Shared), x.cps.toList.drop i = cs →
    s.heap.get? a = some (sObj T D) → s.heap.get? it = some (itObj x u i) → TxOk P w D l → l.length + cs.length < scanBound →
    R (.ok (.ret .none)) (finU s a T it (runG w cs l s.toks D) (i + cs.length) cs.length) → codeAny (model P w) A (.builtin "set.update.loop" ⟨[.ref a, .ref it], []⟩) R s
  | [], i, D, l, s, hd, ha, hit, F, _, h => by
    refine codeAny_builtin PyProof.Rows.F.entry_set_update_loop ?_
    rw [Around.under_plainId PyProof.Rows.F.plain_set_update_loop _]
    show wpAny _ A.in1 (pyNext (.ref it) >>= _) _ _ s
    refine wpAny_bind (end_x (u := u) (by exact hh) hit (at_end hd) ?_)
    show wpAny _ A.in1 (ret Value.none) _ _ _
    refine wpAny_pure ?_
    have e : finU s a T it (runG w [] l s.toks D) (i + ([] : List Nat).length) ([] : List Nat).length = { s with heap := endHeap s.heap it i } := by
      show ({ s with heap := ((two s.heap a (sObj T D) it (itEnd i)).push tupObj).push (stopObj s.heap.objs.size), toks := s.toks } : Shared) = _
      rw [two_only ha (itEnd i)] <;> rfl
    rw [e] at h
    exact h
  | c :: r, i, D, l, s, hd, ha, hit, F, hb, h => by
    obtain ⟨hx, hd2⟩ := at_of hd
    have hb2 : l.length + (r.length + 1) < scanBound := hb
    refine codeAny_builtin PyProof.Rows.F.entry_set_update_loop ?_
    rw [Around.under_plainId PyProof.Rows.F.plain_set_update_loop _]
    show wpAny _ A.in1 (pyNext (.ref it) >>= _) _ _ s
    refine wpAny_bind (next_x (u := u) hit hx ?_)
    show wpAny _ A.in1 (holding [Value.str (sing c) s.toks] (setAdd a (.str (sing c) s.toks)) >>= _) _ _ _
    refine wpAny_bind (wpAny_holding ?_)
    unfold setAdd
    refine wpAny_holding ?_
    refine wpAny_bind ((strKind P w).pyHash (k := sing c) (is_str _ _) ?_)
    have ha1 : (s.heap.update it (fun _ => itObj x u (i + 1))).get? a = some (sObj T D) := PySem.Heap.get?_update_of_ne _ (Ne.symm hne) ha
    by_cases hcl : sing c ∈ l
    · refine add_dup (l := l) (D := D) (s := { s with heap := s.heap.update it (fun _ => itObj x u (i + 1)), toks := s.toks + 1 + 1 }) ha1 F hcl (by omega) ?_
      have hit2 : (s.heap.update it (fun _ => itObj x u (i + 1))).get? it = some (itObj x u (i + 1)) := get_upd _ hit rfl
      refine wpAny_pure ⟨plainId_quiet PyProof.Rows.F.plain_set_update_loop _, code_updG hne hh r (i + 1) D l _ hd2 ha1 hit2 F (by omega) ?_⟩
      have e := finU_dup (s := s) hne T (runG w r l (s.toks + 2) D) (itObj x u (i + 1)) (i + 1 + r.length) r.length
      have e4 : i + 1 + r.length = i + (r.length + 1) := by omega
      have e5 : runG w (c :: r) l s.toks D = runG w r l (s.toks + 2) D := by
        show (if sing c ∈ l then _ else _) = _
        rw [if_pos hcl]
      rw [e5] at h
      show R _ (finU _ a T it (runG w r l (s.toks + 1 + 1) D) (i + 1 + r.length) r.length)
      rw [show s.toks + 1 + 1 = s.toks + 2 from rfl, e, e4]
      exact h
    · refine add_x (l := l) (D := D) (s := { s with heap := s.heap.update it (fun _ => itObj x u (i + 1)), toks := s.toks + 1 + 1 }) ha1 F hcl (by omega) ?_
      have ha2 : ((s.heap.update it (fun _ => itObj x u (i + 1))).update a (fun _ => sObj T (addTx (hashStr w (sing c)) (.str (sing c) s.toks) D))).get? a = some (sObj T (addTx (hashStr w (sing c)) (.str (sing c) s.toks) D)) := get_upd _ ha1 rfl
      have hit2 : ((s.heap.update it (fun _ => itObj x u (i + 1))).update a (fun _ => sObj T (addTx (hashStr w (sing c)) (.str (sing c) s.toks) D))).get? it = some (itObj x u (i + 1)) := PySem.Heap.get?_update_of_ne _ hne (get_upd _ hit rfl)
      refine wpAny_pure ⟨plainId_quiet PyProof.Rows.F.plain_set_update_loop _, code_updG hne hh r (i + 1) _ (sing c :: l) _ hd2 ha2 hit2 (add_ok s.toks F) (by rw [List.length_cons]; omega) ?_⟩
      have e := finU_step (s := s) hne T (runG w r (sing c :: l) (s.toks + 2) (addTx (hashStr w (sing c)) (.str (sing c) s.toks) D)) (addTx (hashStr w (sing c)) (.str (sing c) s.toks) D) (itObj x u (i + 1)) (i + 1 + r.length) r.length
      have e4 : i + 1 + r.length = i + (r.length + 1) := by omega
      have e5 : runG w (c :: r) l s.toks D = runG w r (sing c :: l) (s.toks + 2) (addTx (hashStr w (sing c)) (.str (sing c) s.toks) D) := by
        show (if sing c ∈ l then _ else _) = _
        rw [if_neg hcl]
      rw [e5] at h
      show R _ (finU _ a T it (runG w r (sing c :: l) (s.toks + 1 + 1) (addTx (hashStr w (sing c)) (.str (sing c) s.toks) D)) (i + 1 + r.length) r.length)
      rw [show s.toks + 1 + 1 = s.toks + 2 from rfl, e, e4]
      exact h
end
section
variable {prog : Program} {w : World} {A : Around} {E : Value → Shared → Prop} {s : Shared}
theorem call_set_textD {x : Str} {u : Tok} {Q : Value → Shared → Prop} (hh : A.handled = none) (ha : x.cps.all (· < 128) = true) (hlen : x.cps.size ≤ 1000)
    (h : ∀ (h' : Heap) (tk : Nat) (o : Obj) (es : Array (Int × Value)) (ep : Nat) (t : SetTable), h'.get? s.heap.objs.size = some o → o = sObj "set" (es, ep, t) → t.fits es.size = true → es.size = (outG x.cps.toList []).length →
      (∀ b o, b < s.heap.objs.size → s.heap.get? b = some o → h'.get? b = some o) → Q (.ref s.heap.objs.size) { s with heap := h', toks := tk }) :
    wpAny (model prog w) A (call (.type "set") [.str x u]) Q E s := by
  obtain ⟨c, tl, hmro⟩ := PySem.F.called_set.mro
  have hmade := PySem.F.called_set.made
  have hsub := PySem.F.called_set.sub
  refine wpAny_call (codeAny_of_tree ?_)
  show wpAny _ _ (callAny (.type "set") _) _ _ _
  refine wpAny_pure ⟨Code.quiet_builtin _ (by decide +kernel), codeAny_builtin PySem.F.entry_type_call ?_⟩
  rw [Around.under_plain (weight_type_call_type "set" [.str x u] []) rfl]
  have h1 := PySem.F.called_set.notType
  have h2 := PySem.F.called_set.canCreate
  have hct := PySem.F.typeCall_set_1 (.str x u)
  repeat (any_goals (first | assumption | wp_step))
  refine codeAny_mono (code_set_new_1 (.str x u) (E := E) (Q₁ := fun obj s₁ => ∃ led : Bool, obj = .ref s.heap.objs.size ∧ s₁ = { s with heap := s.heap.push { cls := .type "set", dict := none, data := .set #[] 0 (.fresh 0 0 led) } }) fun led => ⟨led, rfl, rfl⟩) fun r s₁ hr => ?_
  cases r with
  | error e => exact hr
  | ok fl =>
    cases fl with
    | ret obj =>
      obtain ⟨led, rfl, rfl⟩ := hr
      have hS : (s.heap.push { cls := .type "set", dict := none, data := .set #[] 0 (.fresh 0 0 led) }).get? s.heap.objs.size = some { cls := .type "set", dict := none, data := .set #[] 0 (.fresh 0 0 led) } := Heap.get?_push_size _ rfl
      have hT : Shared.TypeIs { s with heap := s.heap.push { cls := .type "set", dict := none, data := .set #[] 0 (.fresh 0 0 led) } } (.ref s.heap.objs.size) "set" := ⟨_, hS, rfl⟩
      have hli := PySem.F.called_set.init.lookup
      have hbi := PySem.F.called_set.init.bind (.ref s.heap.objs.size)
      repeat (any_goals (first | assumption | wp_step))
      refine codeAny_mono (codeAny_call_builtin (R := wants (fun r s₂ => r = .none ∧ ∃ h' tk es ep t, s₂ = { s with heap := h', toks := tk } ∧
          h'.get? s.heap.objs.size = some (sObj "set" (es, ep, t)) ∧ t.fits es.size = true ∧ es.size = (outG x.cps.toList []).length ∧
          (∀ b o, b < s.heap.objs.size → s.heap.get? b = some o → h'.get? b = some o)) E) PySem.F.called_set.init.plain PySem.F.entry_set_init (check_set_init_1 hT ?_)) fun r₂ s₂ hr₂ => ?_
      · have hsls := PySem.F.sub_str_set
        have hslf := PySem.F.sub_str_frozenset
        have hne : (Value.type "str" == Value.type "dict") = false := by decide
        unfold Builtin.«set.__init__» noKeywords Builtin.Frozenset.updateFrom
        generalize hPI : pyIter = PI
        wp_walk
        subst hPI
        refine wpAny_pyIter_ascii ha ?_
        refine wpAny_bind (wpAny_runValue ?_)
        have e1 : (s.heap.push { cls := .type "set", dict := none, data := .set #[] 0 (.fresh 0 0 led) }).objs.size = s.heap.objs.size + 1 := Heap.size_push _ _
        have hSz : (s.heap.push { cls := .type "set", dict := none, data := .set #[] 0 (.fresh 0 0 led) }).get? s.heap.objs.size = some (sObj "set" (#[], 0, .fresh 0 0 led)) := hS
        have hS2 : ((s.heap.push { cls := .type "set", dict := none, data := .set #[] 0 (.fresh 0 0 led) }).push { cls := .type "str_ascii_iterator", data := .fields #[.str x u, .int 0 0] }).get? s.heap.objs.size = some (sObj "set" (#[], 0, .fresh 0 0 led)) := Heap.get?_push_of_some _ hSz
        have hI2 : ((s.heap.push { cls := .type "set", dict := none, data := .set #[] 0 (.fresh 0 0 led) }).push { cls := .type "str_ascii_iterator", data := .fields #[.str x u, .int 0 0] }).get? (s.heap.objs.size + 1) = some (itObj x u 0) := by
          rw [← e1]; exact Heap.get?_push_size _ rfl
        have hne2 : s.heap.objs.size ≠ s.heap.objs.size + 1 := by omega
        rw [e1]
        refine code_updG (P := prog) (w := w) (x := x) (u := u) (T := "set") hne2 (by simp [hh]) x.cps.toList 0 (#[], 0, .fresh 0 0 led) [] _ (by simp) hS2 hI2 (TxOk.nil (fresh_fits led)) (by rw [Array.length_toList]; unfold scanBound; simp; omega) ?_
        have F' := runG_ok (w := w) (P := prog) x.cps.toList s.toks (#[], 0, .fresh 0 0 led) [] (TxOk.nil (fresh_fits led))
        refine wpAny_pure (wpAny_pure ⟨rfl, _, _, _, _, _, rfl, finU_get (m := x.cps.toList.length) hne2 hS2, F'.fit, by rw [F'.sz], fun b o hb e => ?_⟩)
        exact finU_old (m := x.cps.toList.length) (Nat.ne_of_lt hb) (Nat.ne_of_lt (Nat.lt_succ_of_lt hb)) (Heap.get?_push_of_some _ (Heap.get?_push_of_some _ e))
      · cases r₂ with
        | error e => exact hr₂
        | ok fl₂ =>
          cases fl₂ with
          | ret r =>
            obtain ⟨rfl, h', tk, es, ep, t, rfl, hS', hf, hsz, hk'⟩ := hr₂
            repeat (any_goals (first | assumption | wp_step))
            exact h _ _ _ es ep t hS' rfl hf hsz hk'
          | _ => exact hr₂.elim
    | _ => exact hr.elim
end
def tLenSetD (ta : TE) : TE := fun σ H Q => ta σ H fun x H1 => ∃ z : Str, x = .str z ∧ z.cps.all (· < 128) = true ∧ z.cps.size ≤ 1000 ∧ Q (.int ((outG z.cps.toList []).length : Nat)) H1
theorem pe_lenSetD {X : Cx} {a : Expr} {ta : TE} {p p2 q pos : Pos} (hg : Gl X "len") (hm : X.mg "len" = none) (hg2 : Gl X "set") (hm2 : X.mg "set" = none) (ha : PE X a ta) (hc : X.calm = true := by rfl)
    (na : starEach [a] X.env = (false, eval a X.env) :: starEach [] X.env := by rfl) : PE X (.Call (.Name "len" p) [.Call (.Name "set" p2) [a] [] q] [] pos) (tLenSetD ta) := by
  refine ⟨fun pins s σ H Q I h => ?_⟩
  refine Call_ (ld_blt I hg hm boot_len ?_)
  refine PyProof.Rows.callWith_builtin1 (PyProof.Rows.args_cons ?_ rfl) rfl rfl
  refine Call_ (ld_blt I hg2 hm2 boot_set ?_)
  refine PyProof.Rows.callWith_type1 (PyProof.Rows.args_cons (thn (ha.run pins s σ H _ I h) fun v s1 ⟨x, H1, I1, r1, q1⟩ => PyProof.Rows.args_nil ?_) na) na rfl
  obtain ⟨z, rfl, ha1, hl, q1⟩ := q1
  obtain ⟨u, rfl⟩ := r1
  refine call_set_textD (I1.ok.hd hc) ha1 hl fun h' tk o es ep t ho he hf hn hk => ?_
  refine PyProof.Rows.args_nil ?_
  subst he
  have I2 : Inv X pins σ H1 { s1 with heap := h', toks := tk } := I1.kept fun b o e => hk b o (Heap.lt_size e) e
  exact call_len_set ho ⟨rfl, rfl, rfl⟩ rfl hf (by rw [hn]; have := outG_len z.cps.toList []; simp at this; omega) ⟨.int (outG z.cps.toList []).length, H1, I2.tok _, ⟨_, by rw [hn]⟩, q1⟩
theorem ee_lenSetD {X : Cx} {σ : L2.St} {S : Hp} {a : Expr} {z : Str} {p p2 q pos : Pos} (hm : X.mg "len" = none) (hm2 : X.mg "set" = none) (ha : EE X σ S a (Dt X.K (.str z))) (h1 : z.cps.all (· < 128) = true) (h3 : z.cps.size ≤ 1000) (hc : X.calm = true := by rfl) (hg : Gl X "len" := by rfl) (hg2 : Gl X "set" := by rfl)
    (na : starEach [a] X.env = (false, eval a X.env) :: starEach [] X.env := by rfl) : EE X σ S (.Call (.Name "len" p) [.Call (.Name "set" p2) [a] [] q] [] pos) (Dt X.K (.int ((outG z.cps.toList []).length : Nat))) := fun H s Q qq =>
  he_of (pe_lenSetD hg hm hg2 hm2 peb hc na) (ha H s _ fun v S1 H1 g1 pv => by
    cases pv
    exact ⟨z, rfl, h1, h3, qq _ S1 H1 g1 (.int _)⟩)
end Y
namespace Y
open PySem PySem.Spec PyProof.Rows L2 Z
/-! ## zip(text, list), zip(text, tuple) -/
theorem adr_ne {a b : Nat} (h : a ≠ b) : @Ne Addr a b := h
theorem sep5 (n b : Nat) (h : b < n) : @ZipSep2 (n + 4) (n + 2) (n + 3) n (n + 1) [n] [n + 1, b] := by
  have two : ∀ x : Nat, x ≠ n + 1 → x ≠ b → ¬ @Membership.mem Addr (List Addr) _ [n + 1, b] x := fun x h1 h2 hm => by
    rcases List.mem_cons.mp hm with e | e
    · exact h1 e
    · exact h2 (List.mem_singleton.mp e)
  have one : ∀ x : Nat, x ≠ n → ¬ @Membership.mem Addr (List Addr) _ [n] x := fun x h1 hm => h1 (List.mem_singleton.mp hm)
  exact ⟨adr_ne (by omega), adr_ne (by omega), adr_ne (by omega), adr_ne (by omega), List.mem_singleton.mpr rfl, one _ (by omega), one _ (by omega), adr_ne (by omega), List.mem_cons_self, two _ (by omega) (by omega), two _ (by omega) (by omega), two _ (by omega) (by omega), one _ (by omega)⟩
/-- the signs of z and the items at b, in new pairs -/
def ItzSL (K : PySem.W.Frag) (z : Str) (b : Addr) : It :=
  ⟨fun i H => ∃ (ys : List V) (c : Nat) (y : V), SqL K H b ys ∧ z.cps[i]? = some c ∧ ys[i]? = some y,
    fun i H v H' => ∃ T c y, v = .ref T ∧ H T = none ∧ H' = upd H T (.tup [.str ⟨#[c]⟩, y]) ∧ z.cps[i]? = some c ∧ ∀ ys, SqL K H b ys → ys[i]? = some y,
    fun i H => ∃ ys : List V, SqL K H b ys ∧ ys.length = i ∧ z.cps.size = i⟩
theorem turn_zipSL {P : Program} {w : World} {K : PySem.W.Frag} {elts : List Expr} {kk : Nat} {tpos : Pos} {z0 : Str} {u0 : Tok} {b z TI TO i1 i2 : Addr} (D : ZipSep2 z TI TO i1 i2 [i1] [i2, b]) (hb : b ≠ i2) :
    Turn P w K (.Tuple elts kk tpos) (ItzSL K z0 b) [z, TI, TO, i1, i2] z (fun i h => IsZip h z TI TO .none ∧ IsTupOf2 h TI (.ref i1) (.ref i2) ∧ (∃ x y, IsTupOf2 h TO x y) ∧ h.IsStrIter i1 (strIterType z0) z0 u0 i ∧ h.IsListIter i2 b i) where
  mem := by simp
  obj := fun i h st c hc => by
    obtain ⟨hz, hTI, ⟨x, y, hTO⟩, ⟨o1, e1, _, d1⟩, ⟨o2, e2, _, d2⟩⟩ := st
    have e' : c = z ∨ c = TI ∨ c = TO ∨ c = i1 ∨ c = i2 := by simpa using hc
    rcases e' with q | q | q | q | q
    · rw [q]; exact ⟨_, hz, fun v q => nomatch q⟩
    · rw [q]; exact ⟨_, hTI, fun v q => nomatch q⟩
    · rw [q]; exact ⟨_, hTO, fun v q => nomatch q⟩
    · rw [q]; exact ⟨o1, e1, fun v q => by rw [d1] at q; cases q⟩
    · rw [q]; exact ⟨o2, e2, fun v q => by rw [d2] at q; cases q⟩
  keep := fun i h h' st k => by
    obtain ⟨hz, hTI, ⟨x, y, hTO⟩, ⟨o1, e1, r1⟩, h2⟩ := st
    exact ⟨k z (by simp) _ hz, k TI (by simp) _ hTI, ⟨x, y, k TO (by simp) _ hTO⟩, ⟨o1, k i1 (by simp) o1 e1, r1⟩, h2.at fun o q => k i2 (by simp) o q⟩
  item := by
    intro X hP hw hK hc i pins s σ H E I hf st hg
    subst hP hw hK
    obtain ⟨hz, hTI, ⟨x0, y0, hTO⟩, h1, h2⟩ := st
    obtain ⟨ys, c, y, hqy, hcz, hy⟩ := hg
    obtain ⟨its2, rv2, p2, _⟩ := I.list hqy
    obtain ⟨u2, hu2, ru2⟩ := rv2.get hy
    have hzl : z < s.heap.objs.size := Heap.lt_size hz
    have hh : X.A.in1.handled = none := I.ok.hd hc
    have hi1 : i < z0.cps.size := (Array.getElem?_eq_some_iff.mp hcz).1
    have hi2 : i < its2.toArray.size := by have := (List.getElem?_eq_some_iff.mp hu2).1; simpa using this
    refine wpAny_pyNext_zipD2_item D (Draws.text hh i1 z0 u0) (Draws.list hh i2 b hb its2.toArray) hz hTI hTO h1 ⟨h2, p2.isList⟩ hi1 hi2 fun x1 x2 h' tk y1 y2 z' TO' h1' h2' hT hsz hk => ?_
    obtain ⟨c', u', hc', rfl⟩ := y1
    rw [hcz] at hc'
    obtain rfl := Option.some.inj hc'
    have hx2 : x2 = u2 := by
      have : its2.toArray[i]? = some u2 := by simpa using hu2
      rw [this] at y2
      exact (Option.some.inj y2).symm
    subst hx2
    refine ⟨_, rfl, wpAny_letOwnedTupleGo_zip (s := { s with heap := h', toks := tk }) z' fun h'' z'' sb => ?_⟩
    have hT2 : h''.get? s.heap.objs.size = some { cls := .type "tuple", data := .seq #[.str ⟨#[c]⟩ u', x2] } := (sb.2 _ (Nat.ne_of_gt hzl)).trans hT
    have new : ObjOk X.prog X.w (upd H s.heap.objs.size (.tup [.str ⟨#[c]⟩, y])) h'' s.heap.objs.size (.tup [.str ⟨#[c]⟩, y]) :=
      ⟨by show 2 ≤ sizeLine; decide, [.str ⟨#[c]⟩ u', x2], .cons ⟨u', rfl⟩ (.cons ru2 .nil), ⟨_, hT2, rfl, _, rfl⟩⟩
    have I1 : Inv X pins σ (upd H s.heap.objs.size (.tup [.str ⟨#[c]⟩, y])) { s with heap := h'', toks := tk } :=
      I.turnedNew (t' := tk) (ch := [z, TI, TO, i1, i2]) (fun c o hb q => (sb.2 c (fun q' => hb (by simp [q']))).trans (hk c o (fun q' => hb (by simp [q'])) (fun q' => hb (by simp [q'])) (fun q' => hb (by simp [q'])) (fun q' => hb (by simp [q'])) q)) hf (Nat.le_refl _) new
    refine ⟨.ref s.heap.objs.size, _, I1, rfl, ⟨_, c, y, rfl, I.hok.fresh (Nat.le_refl _), rfl, hcz, fun l hl => by rw [I.list_inj hl hqy]; exact hy⟩, ⟨z'', ?_, ⟨.str ⟨#[c]⟩ u', x2, ?_⟩, ?_, ?_⟩, fun c hcm => ?_⟩
    · exact (sb.2 _ D.TIz).trans (hk _ _ D.TIz D.TITO D.TIi1 D.TIi2 hTI)
    · exact (sb.2 _ D.TOz).trans TO'
    · obtain ⟨o1, e1, r1⟩ := h1'
      exact ⟨o1, (sb.2 _ D.zi1.symm).trans e1, r1⟩
    · exact h2'.1.at fun o q => (sb.2 _ D.zi2.symm).trans q
    · have hlt : c < s.heap.objs.size := by
        have e' : c = z ∨ c = TI ∨ c = TO ∨ c = i1 ∨ c = i2 := by simpa using hcm
        rcases e' with q | q | q | q | q
        · rw [q]; exact hzl
        · rw [q]; exact Heap.lt_size hTI
        · rw [q]; exact Heap.lt_size hTO
        · rw [q]; obtain ⟨_, e1, _⟩ := h1; exact Heap.lt_size e1
        · rw [q]; obtain ⟨_, e2, _⟩ := h2; exact Heap.lt_size e2
      rw [upd_ne (Nat.ne_of_lt hlt)]
      exact (hf c hcm).1
  done := by
    intro X hP hw hK hc i pins s σ H E I hf st hg
    subst hP hw hK
    obtain ⟨hz, hTI, ⟨x0, y0, hTO⟩, h1, h2⟩ := st
    obtain ⟨ys, hqy, hlen, hzi⟩ := hg
    obtain ⟨its2, rv2, p2, _⟩ := I.list hqy
    have l2 := rv2.length
    have hh : X.A.in1.handled = none := I.ok.hd hc
    have hn2 : its2.toArray.size = i := by simp; omega
    exact wpAny_pyNext_zipD2_end D (Draws.text hh i1 z0 u0) (Draws.list hh i2 b hb its2.toArray) hz hTI hTO h1 ⟨h2, p2.isList⟩ (by omega) (by omega) (.inl hzi.symm) fun h' tk hk => ⟨rfl, I.turnedL (t' := tk) (ch := [z, TI, TO, i1, i2]) (fun c o hb q =>
      hk c o (fun q' => hb (by simp [q'])) (fun q' => hb (by simp [q'])) (fun q' => hb (by simp [q'])) (fun q' => hb (by simp [q'])) q) hf⟩
  self := fun A i s Q E st h => wpAny_pyIter_zip st.1 h
def iZipSL (K : PySem.W.Frag) (ta : TA) : TI := fun σ H R => ta σ H fun vs H1 => ∃ z b ys, vs = [.str z, .ref b] ∧ SqL K H1 b ys ∧ R (ItzSL K z b) H1
theorem pi_zipSL {X : Cx} {e e2 : Expr} {ta : TA} {p pos tpos : Pos} {elts : List Expr} {kk : Nat} (hg : Gl X "zip") (hm : X.mg "zip" = none) (ha : PA X [e, e2] ta)
    (hs : starEach [e, e2] X.env = (false, eval e X.env) :: starEach [e2] X.env := by rfl) (hpl : (backTo pos (starEach [e2] X.env)).any (·.1) = false := by rfl) :
    PI X (.Tuple elts kk tpos) (.Call (.Name "zip" p) [e, e2] [] pos) (iZipSL X.K ta) := by
  refine ⟨fun pins s σ H R I h => ?_⟩
  refine Call_ (ld_blt I hg hm PyProof.Rows.boot_zip (PyProof.Rows.callWith_type1 (thn (ha.run pos pins s σ H _ I h) fun us s1 ⟨vs, H1, I1, r1, q1⟩ => ?_) hs hpl))
  obtain ⟨z0, b, ys, ex, hqy, q⟩ := q1
  subst ex
  cases r1 with
  | cons r rr =>
    cases rr with
    | cons r' rr =>
      cases rr
      obtain ⟨u0, rfl⟩ := r
      cases r'
      obtain ⟨its2, rv2, p2, _⟩ := I1.list hqy
      have hl2 : s1.heap.IsList b its2.toArray := p2.isList
      have lb : b < s1.heap.objs.size := by obtain ⟨o, ho, _⟩ := hl2; exact Heap.lt_size ho
      have D := sep5 s1.heap.objs.size b lb
      have hbn : b ≠ s1.heap.objs.size + 1 := adr_ne (show (b : Nat) ≠ s1.heap.objs.size + 1 from Nat.ne_of_lt (Nat.lt_succ_of_lt lb))
      refine zip_begins2 (begins_text z0 u0) (begins_list b its2.toArray) trivial hl2 fun h' hz hTI hTO g1 g2 hsz hk => wpAny_pyIter_zip hz ?_
      have I2 : Inv X pins σ H1 { s1 with heap := h' } := I1.kept (t' := s1.toks) hk
      refine ⟨s1.heap.objs.size + 4, [s1.heap.objs.size + 4, s1.heap.objs.size + 2, s1.heap.objs.size + 3, s1.heap.objs.size, s1.heap.objs.size + 1], _, _, H1, rfl, I2, turn_zipSL (u0 := u0) D hbn, ⟨hz, hTI, ⟨_, _, hTO⟩, ⟨_, g1, rfl, rfl⟩, ⟨_, g2, rfl, rfl⟩⟩, fun c hcm => ?_, q⟩
      have e' : c = s1.heap.objs.size + 4 ∨ c = s1.heap.objs.size + 2 ∨ c = s1.heap.objs.size + 3 ∨ c = s1.heap.objs.size ∨ c = s1.heap.objs.size + 1 := by simpa using hcm
      have hle : s1.heap.objs.size ≤ c := by
        rcases e' with z | z | z | z | z
        · rw [z]; exact Nat.le_add_right _ _
        · rw [z]; exact Nat.le_add_right _ _
        · rw [z]; exact Nat.le_add_right _ _
        · rw [z]; exact Nat.le_refl _
        · rw [z]; exact Nat.le_add_right _ _
      exact I1.fpOk hle (I1.hok.fresh hle)
/-- the signs of z and the items at b, in new pairs -/
def ItzST (K : PySem.W.Frag) (z : Str) (b : Addr) : It :=
  ⟨fun i H => ∃ (ys : List V) (c : Nat) (y : V), SqT K H b ys ∧ z.cps[i]? = some c ∧ ys[i]? = some y,
    fun i H v H' => ∃ T c y, v = .ref T ∧ H T = none ∧ H' = upd H T (.tup [.str ⟨#[c]⟩, y]) ∧ z.cps[i]? = some c ∧ ∀ ys, SqT K H b ys → ys[i]? = some y,
    fun i H => ∃ ys : List V, SqT K H b ys ∧ ys.length = i ∧ z.cps.size = i⟩
theorem turn_zipST {P : Program} {w : World} {K : PySem.W.Frag} {elts : List Expr} {kk : Nat} {tpos : Pos} {z0 : Str} {u0 : Tok} {b z TI TO i1 i2 : Addr} (D : ZipSep2 z TI TO i1 i2 [i1] [i2, b]) (hb : b ≠ i2) :
    Turn P w K (.Tuple elts kk tpos) (ItzST K z0 b) [z, TI, TO, i1, i2] z (fun i h => IsZip h z TI TO .none ∧ IsTupOf2 h TI (.ref i1) (.ref i2) ∧ (∃ x y, IsTupOf2 h TO x y) ∧ h.IsStrIter i1 (strIterType z0) z0 u0 i ∧ h.IsTupleIter i2 b i) where
  mem := by simp
  obj := fun i h st c hc => by
    obtain ⟨hz, hTI, ⟨x, y, hTO⟩, ⟨o1, e1, _, d1⟩, ⟨o2, e2, _, d2⟩⟩ := st
    have e' : c = z ∨ c = TI ∨ c = TO ∨ c = i1 ∨ c = i2 := by simpa using hc
    rcases e' with q | q | q | q | q
    · rw [q]; exact ⟨_, hz, fun v q => nomatch q⟩
    · rw [q]; exact ⟨_, hTI, fun v q => nomatch q⟩
    · rw [q]; exact ⟨_, hTO, fun v q => nomatch q⟩
    · rw [q]; exact ⟨o1, e1, fun v q => by rw [d1] at q; cases q⟩
    · rw [q]; exact ⟨o2, e2, fun v q => by rw [d2] at q; cases q⟩
  keep := fun i h h' st k => by
    obtain ⟨hz, hTI, ⟨x, y, hTO⟩, ⟨o1, e1, r1⟩, h2⟩ := st
    exact ⟨k z (by simp) _ hz, k TI (by simp) _ hTI, ⟨x, y, k TO (by simp) _ hTO⟩, ⟨o1, k i1 (by simp) o1 e1, r1⟩, h2.at fun o q => k i2 (by simp) o q⟩
  item := by
    intro X hP hw hK hc i pins s σ H E I hf st hg
    subst hP hw hK
    obtain ⟨hz, hTI, ⟨x0, y0, hTO⟩, h1, h2⟩ := st
    obtain ⟨ys, c, y, hqy, hcz, hy⟩ := hg
    obtain ⟨its2, rv2, p2, _⟩ := I.tuple hqy
    obtain ⟨u2, hu2, ru2⟩ := rv2.get hy
    have hzl : z < s.heap.objs.size := Heap.lt_size hz
    have hh : X.A.in1.handled = none := I.ok.hd hc
    have hi1 : i < z0.cps.size := (Array.getElem?_eq_some_iff.mp hcz).1
    have hi2 : i < its2.toArray.size := by have := (List.getElem?_eq_some_iff.mp hu2).1; simpa using this
    refine wpAny_pyNext_zipD2_item D (Draws.text hh i1 z0 u0) (Draws.tuple hh i2 b hb its2.toArray) hz hTI hTO h1 ⟨h2, p2⟩ hi1 hi2 fun x1 x2 h' tk y1 y2 z' TO' h1' h2' hT hsz hk => ?_
    obtain ⟨c', u', hc', rfl⟩ := y1
    rw [hcz] at hc'
    obtain rfl := Option.some.inj hc'
    have hx2 : x2 = u2 := by
      have : its2.toArray[i]? = some u2 := by simpa using hu2
      rw [this] at y2
      exact (Option.some.inj y2).symm
    subst hx2
    refine ⟨_, rfl, wpAny_letOwnedTupleGo_zip (s := { s with heap := h', toks := tk }) z' fun h'' z'' sb => ?_⟩
    have hT2 : h''.get? s.heap.objs.size = some { cls := .type "tuple", data := .seq #[.str ⟨#[c]⟩ u', x2] } := (sb.2 _ (Nat.ne_of_gt hzl)).trans hT
    have new : ObjOk X.prog X.w (upd H s.heap.objs.size (.tup [.str ⟨#[c]⟩, y])) h'' s.heap.objs.size (.tup [.str ⟨#[c]⟩, y]) :=
      ⟨by show 2 ≤ sizeLine; decide, [.str ⟨#[c]⟩ u', x2], .cons ⟨u', rfl⟩ (.cons ru2 .nil), ⟨_, hT2, rfl, _, rfl⟩⟩
    have I1 : Inv X pins σ (upd H s.heap.objs.size (.tup [.str ⟨#[c]⟩, y])) { s with heap := h'', toks := tk } :=
      I.turnedNew (t' := tk) (ch := [z, TI, TO, i1, i2]) (fun c o hb q => (sb.2 c (fun q' => hb (by simp [q']))).trans (hk c o (fun q' => hb (by simp [q'])) (fun q' => hb (by simp [q'])) (fun q' => hb (by simp [q'])) (fun q' => hb (by simp [q'])) q)) hf (Nat.le_refl _) new
    refine ⟨.ref s.heap.objs.size, _, I1, rfl, ⟨_, c, y, rfl, I.hok.fresh (Nat.le_refl _), rfl, hcz, fun l hl => by rw [I.tuple_inj hl hqy]; exact hy⟩, ⟨z'', ?_, ⟨.str ⟨#[c]⟩ u', x2, ?_⟩, ?_, ?_⟩, fun c hcm => ?_⟩
    · exact (sb.2 _ D.TIz).trans (hk _ _ D.TIz D.TITO D.TIi1 D.TIi2 hTI)
    · exact (sb.2 _ D.TOz).trans TO'
    · obtain ⟨o1, e1, r1⟩ := h1'
      exact ⟨o1, (sb.2 _ D.zi1.symm).trans e1, r1⟩
    · exact h2'.1.at fun o q => (sb.2 _ D.zi2.symm).trans q
    · have hlt : c < s.heap.objs.size := by
        have e' : c = z ∨ c = TI ∨ c = TO ∨ c = i1 ∨ c = i2 := by simpa using hcm
        rcases e' with q | q | q | q | q
        · rw [q]; exact hzl
        · rw [q]; exact Heap.lt_size hTI
        · rw [q]; exact Heap.lt_size hTO
        · rw [q]; obtain ⟨_, e1, _⟩ := h1; exact Heap.lt_size e1
        · rw [q]; obtain ⟨_, e2, _⟩ := h2; exact Heap.lt_size e2
      rw [upd_ne (Nat.ne_of_lt hlt)]
      exact (hf c hcm).1
  done := by
    intro X hP hw hK hc i pins s σ H E I hf st hg
    subst hP hw hK
    obtain ⟨hz, hTI, ⟨x0, y0, hTO⟩, h1, h2⟩ := st
    obtain ⟨ys, hqy, hlen, hzi⟩ := hg
    obtain ⟨its2, rv2, p2, _⟩ := I.tuple hqy
    have l2 := rv2.length
    have hh : X.A.in1.handled = none := I.ok.hd hc
    have hn2 : its2.toArray.size = i := by simp; omega
    exact wpAny_pyNext_zipD2_end D (Draws.text hh i1 z0 u0) (Draws.tuple hh i2 b hb its2.toArray) hz hTI hTO h1 ⟨h2, p2⟩ (by omega) (by omega) (.inl hzi.symm) fun h' tk hk => ⟨rfl, I.turnedL (t' := tk) (ch := [z, TI, TO, i1, i2]) (fun c o hb q =>
      hk c o (fun q' => hb (by simp [q'])) (fun q' => hb (by simp [q'])) (fun q' => hb (by simp [q'])) (fun q' => hb (by simp [q'])) q) hf⟩
  self := fun A i s Q E st h => wpAny_pyIter_zip st.1 h
def iZipST (K : PySem.W.Frag) (ta : TA) : TI := fun σ H R => ta σ H fun vs H1 => ∃ z b ys, vs = [.str z, .ref b] ∧ SqT K H1 b ys ∧ R (ItzST K z b) H1
theorem pi_zipST {X : Cx} {e e2 : Expr} {ta : TA} {p pos tpos : Pos} {elts : List Expr} {kk : Nat} (hg : Gl X "zip") (hm : X.mg "zip" = none) (ha : PA X [e, e2] ta)
    (hs : starEach [e, e2] X.env = (false, eval e X.env) :: starEach [e2] X.env := by rfl) (hpl : (backTo pos (starEach [e2] X.env)).any (·.1) = false := by rfl) :
    PI X (.Tuple elts kk tpos) (.Call (.Name "zip" p) [e, e2] [] pos) (iZipST X.K ta) := by
  refine ⟨fun pins s σ H R I h => ?_⟩
  refine Call_ (ld_blt I hg hm PyProof.Rows.boot_zip (PyProof.Rows.callWith_type1 (thn (ha.run pos pins s σ H _ I h) fun us s1 ⟨vs, H1, I1, r1, q1⟩ => ?_) hs hpl))
  obtain ⟨z0, b, ys, ex, hqy, q⟩ := q1
  subst ex
  cases r1 with
  | cons r rr =>
    cases rr with
    | cons r' rr =>
      cases rr
      obtain ⟨u0, rfl⟩ := r
      cases r'
      obtain ⟨its2, rv2, p2, _⟩ := I1.tuple hqy
      have hl2 : s1.heap.IsTuple b its2.toArray := p2
      have lb : b < s1.heap.objs.size := by obtain ⟨o, ho, _⟩ := hl2; exact Heap.lt_size ho
      have D := sep5 s1.heap.objs.size b lb
      have hbn : b ≠ s1.heap.objs.size + 1 := adr_ne (show (b : Nat) ≠ s1.heap.objs.size + 1 from Nat.ne_of_lt (Nat.lt_succ_of_lt lb))
      refine zip_begins2 (begins_text z0 u0) (begins_tuple b its2.toArray) trivial hl2 fun h' hz hTI hTO g1 g2 hsz hk => wpAny_pyIter_zip hz ?_
      have I2 : Inv X pins σ H1 { s1 with heap := h' } := I1.kept (t' := s1.toks) hk
      refine ⟨s1.heap.objs.size + 4, [s1.heap.objs.size + 4, s1.heap.objs.size + 2, s1.heap.objs.size + 3, s1.heap.objs.size, s1.heap.objs.size + 1], _, _, H1, rfl, I2, turn_zipST (u0 := u0) D hbn, ⟨hz, hTI, ⟨_, _, hTO⟩, ⟨_, g1, rfl, rfl⟩, ⟨_, g2, rfl, rfl⟩⟩, fun c hcm => ?_, q⟩
      have e' : c = s1.heap.objs.size + 4 ∨ c = s1.heap.objs.size + 2 ∨ c = s1.heap.objs.size + 3 ∨ c = s1.heap.objs.size ∨ c = s1.heap.objs.size + 1 := by simpa using hcm
      have hle : s1.heap.objs.size ≤ c := by
        rcases e' with z | z | z | z | z
        · rw [z]; exact Nat.le_add_right _ _
        · rw [z]; exact Nat.le_add_right _ _
        · rw [z]; exact Nat.le_add_right _ _
        · rw [z]; exact Nat.le_refl _
        · rw [z]; exact Nat.le_add_right _ _
      exact I1.fpOk hle (I1.hok.fresh hle)
end Y
namespace Y
open PySem PySem.Spec PyProof.Rows L2 L2H Z
theorem strD_get {z : Str} {i c : Nat} (h : z.cps[i]? = some c) : (strD z)[i]? = some (.str ⟨#[c]⟩) := by
  unfold strD
  rw [List.getElem?_map, Array.getElem?_toList, h]; rfl
theorem strD_len (z : Str) : (strD z).length = z.cps.size := by unfold strD; rw [List.length_map, Array.length_toList]
theorem zipS_len {z : Str} {ds : List PyData} (h : ds.length = z.cps.size) : (zipD (strD z) ds).length = z.cps.size := by
  unfold zipD
  rw [List.length_zipWith, strD_len, h, Nat.min_self]
section
variable {X : Cx} {σ : L2.St} {S : Hp} {a b : Expr} {p pos : Pos} {ds : List PyData} {z n : Str} {ns : List Str}
theorem ei_zipSL {elts : List Expr} {kk : Nat} {tpos : Pos} (hlen : ds.length = z.cps.size) (hm : X.mg "zip" = none) (ha : EE X σ S a (Dt X.K (.str z))) (hb : EE X σ S b (Dt X.K (.list ds))) (hg : Gl X "zip" := by rfl)
    (hs : starEach [a, b] X.env = (false, eval a X.env) :: starEach [b] X.env := by rfl) (hs2 : starEach [b] X.env = (false, eval b X.env) :: starEach [] X.env := by rfl) (hpl : (backTo pos (starEach [b] X.env)).any (·.1) = false := by rfl) :
    EI X σ S (.Tuple elts kk tpos) (.Call (.Name "zip" p) [a, b] [] pos) (Ds X.K (zipD (strD z) ds)) := fun H s R q =>
  hi_of (pi_zipSL hg hm pab hs hpl) ((ea_2 ha hb hs hs2).2 H s _ fun vs S1 H1 g1 al => by
    obtain ⟨v, w, rfl, pv, pw⟩ := al.two
    cases pv
    obtain ⟨m, ys, rfl, hk, hy, _⟩ := pw.lst_inv
    have hl : (Ds X.K (zipD (strD z) ds)).length = z.cps.size := by rw [ds_len, zipS_len hlen]
    have hyl : ys.length = z.cps.size := by rw [hy.1, hlen]
    refine ⟨z, m, ys, rfl, sql_of (g1.sub _ _ hk), q _ S1 H1 g1 ⟨fun i H hi hs => ?_, fun H hs => ?_, fun i H x H' hi hs y T st th => ?_⟩⟩
    · rw [hl] at hi
      exact ⟨ys, z.cps[i], ys[i]'(by omega), sql_of (hs _ _ hk), by simp [hi], by simp [show i < ys.length by omega]⟩
    · rw [hl]
      exact ⟨ys, sql_of (hs _ _ hk), hyl, rfl⟩
    · rw [hl] at hi
      obtain ⟨t, c, y1, rfl, ht, rfl, k1, k2⟩ := y
      have i2 : i < ds.length := by omega
      exact ⟨_, Gr.new th ht, _, ds_get (zipD_get (strD_get k1) (List.getElem?_eq_getElem i2)), pair_new th ht (.str _) ((hy.2 i _ _ (k2 ys (sql_of (hs _ _ hk))) (List.getElem?_eq_getElem i2)).up st)⟩)
theorem ei_zipST {elts : List Expr} {kk : Nat} {tpos : Pos} (hlen : ds.length = z.cps.size) (hm : X.mg "zip" = none) (ha : EE X σ S a (Dt X.K (.str z))) (hb : EE X σ S b (Dt X.K (.tuple ds))) (hg : Gl X "zip" := by rfl)
    (hs : starEach [a, b] X.env = (false, eval a X.env) :: starEach [b] X.env := by rfl) (hs2 : starEach [b] X.env = (false, eval b X.env) :: starEach [] X.env := by rfl) (hpl : (backTo pos (starEach [b] X.env)).any (·.1) = false := by rfl) :
    EI X σ S (.Tuple elts kk tpos) (.Call (.Name "zip" p) [a, b] [] pos) (Ds X.K (zipD (strD z) ds)) := fun H s R q =>
  hi_of (pi_zipST hg hm pab hs hpl) ((ea_2 ha hb hs hs2).2 H s _ fun vs S1 H1 g1 al => by
    obtain ⟨v, w, rfl, pv, pw⟩ := al.two
    cases pv
    obtain ⟨m, ys, rfl, hk, hy, _⟩ := pw.tup_inv
    have hl : (Ds X.K (zipD (strD z) ds)).length = z.cps.size := by rw [ds_len, zipS_len hlen]
    have hyl : ys.length = z.cps.size := by rw [hy.1, hlen]
    refine ⟨z, m, ys, rfl, sqt_up g1.sub hk, q _ S1 H1 g1 ⟨fun i H hi hs => ?_, fun H hs => ?_, fun i H x H' hi hs y T st th => ?_⟩⟩
    · rw [hl] at hi
      exact ⟨ys, z.cps[i], ys[i]'(by omega), sqt_up hs hk, by simp [hi], by simp [show i < ys.length by omega]⟩
    · rw [hl]
      exact ⟨ys, sqt_up hs hk, hyl, rfl⟩
    · rw [hl] at hi
      obtain ⟨t, c, y1, rfl, ht, rfl, k1, k2⟩ := y
      have i2 : i < ds.length := by omega
      exact ⟨_, Gr.new th ht, _, ds_get (zipD_get (strD_get k1) (List.getElem?_eq_getElem i2)), pair_new th ht (.str _) ((hy.2 i _ _ (k2 ys (sqt_up hs hk)) (List.getElem?_eq_getElem i2)).up st)⟩)
/-- a text not in a tuple of texts -/
theorem et_notInTs (ha : EE X σ S a (Dt X.K (.str n))) (hb : EE X σ S b (Dt X.K (.tuple (ns.map .str)))) (hm : behindInMarks .NotIn b = false := by first | rfl | with_unfolding_all rfl) : ET X σ S (.Compare a [.NotIn] [b] pos) (!ns.any fun m => decide (m = n)) :=
  et_cmp op_notIn_seq ha hb (fun v w S1 H1 _ s pv pw Q q => by
    cases pv
    obtain ⟨l, xs, rfl, hl, hx, z⟩ := pw.tup_inv
    rw [dts_str hx] at hl
    refine ⟨l, ns.map V.str, rfl, .inr (sqt_up s hl), rfl, flat_strs ns, ?_⟩
    rw [if_pos rfl, inV_str]
    exact q _ S1 H1 (Gr.refl s) (.bl _)) hm
/-- [e] * n, told as new -/
theorem ee_repN {i : Int} (h1 : -(2 ^ 63) ≤ i) (h2 : i < 2 ^ 63) (hz : ds.length * i.toNat ≤ sizeLine) (ha : EE X σ S a (Dt X.K (.list ds))) (hb : EE X σ S b (Dt X.K (.int i))) : EE X σ S (.BinOp a .Mult b pos) (NewL X.K S (List.replicate i.toNat ds).flatten) :=
  ee_op op_rep ha hb fun x y S1 H1 s0 s px py Q q => by
    cases py
    obtain ⟨l, xs, rfl, hl, hx, _⟩ := px.lst_inv
    have hz' : xs.length * i.toNat ≤ sizeLine := by rw [hx.1]; exact hz
    exact ⟨l, i, xs, rfl, rfl, s _ _ hl, h1, h2, hz', fun t ht => q _ _ _ (Gr.new s ht) ⟨t, _, rfl, (s0.trans s).free ht, upd_same, (flat_dts (d := .none) rfl hx _).up (Same.new (s.free ht)), by rw [flatten_len]; exact hz'⟩⟩
/-- int(text) -/
theorem ee_intS {i : Int} (hm : X.mg "int" = none) (hn : PySem.intText? z = some i) (hz : z.length ≤ 640) (ha : EE X σ S a (Dt X.K (.str z))) (hg : Gl X "int" := by rfl) (hs : starEach [a] X.env = (false, eval a X.env) :: starEach [] X.env := by rfl) : EE X σ S (.Call (.Name "int" p) [a] [] pos) (Dt X.K (.int i)) :=
  ee_callTy call_int_str hm boot_int (ea_1 ha hs) (fun vs S1 H1 _ s al Q q => by
    obtain ⟨v, rfl, pv⟩ := al.one
    cases pv
    exact ⟨z, i, rfl, hn, hz, q _ S1 H1 (Gr.refl s) (.int _)⟩) hg (he := hs) (hpl := by rfl)
end
end Y
namespace Y
open PySem PySem.Spec PyProof.Rows L2 Z
/-! ## name = [elt for x, y in iter if t] on one line, the name a local -/
section
variable {X : Cx} {σ : L2.St} {S H : Hp} {elt iter : Expr} {scope : Scope} {pos px py tp py0 spos : Pos} {ds : List PyData} {ps : List (PyData × PyData)} {i j kk m : Nat} {x y z : Str} {D : Ends} {rest : List Stmt} {ifs : List Expr}
theorem hs_setLc2f {p : PyData × PyData → Bool} {f : PyData × PyData → PyData} (hc : X.calm = true) (hN : X.N.Nodup) (s : Same S H) (ok : BlkOk X.N X.env.scope scope [(x, i), (y, j)]) (hi : EI X σ S (.Tuple [.Name x px, .Name y py] kk tp) iter (Ds X.K (ps.map tupP))) (hz : ps.length ≤ sizeLine)
    (hel : ∀ q ∈ ps, ∀ v w S', Same S S' → Dt X.K q.1 v S' → Dt X.K q.2 w S' → ∀ (s : Shared) (H0 : Hp) (C : Addr) (cl : List (Str × Addr)) (fp : List Addr), ETs (X.blk s H0 scope (compEnvC scope cl C X.env) fp) (((wipe σ [i, j]).set i (some v)).set j (some w)) S' ifs (p q) ∧ (p q = true → EE (X.blk s H0 scope (compEnvC scope cl C X.env) fp) (((wipe σ [i, j]).set i (some v)).set j (some w)) S' elt (Dt X.K (f q))))
    (q : ∀ v S' H', Gr S H S' H' → Dt X.K (.list ((ps.filter p).map f)) v S' → HS X D rest (σ.set m (some v)) H')
    (hij : i ≠ j := by decide) (hix : X.N[i]? = some x := by rfl) (hjy : X.N[j]? = some y := by rfl) (hx : ∀ (s : Shared) (H0 : Hp) (C : Addr) (cl : List (Str × Addr)) (fp : List Addr), (Loc (X.blk s H0 scope (compEnvC scope cl C X.env) fp).env.scope x ∧ ((X.blk s H0 scope (compEnvC scope cl C X.env) fp).fn x = true ∨ (X.blk s H0 scope (compEnvC scope cl C X.env) fp).env.scope.names.lookup x = some .local)) ∧
      (Loc (X.blk s H0 scope (compEnvC scope cl C X.env) fp).env.scope y ∧ ((X.blk s H0 scope (compEnvC scope cl C X.env) fp).fn y = true ∨ (X.blk s H0 scope (compEnvC scope cl C X.env) fp).env.scope.names.lookup y = some .local)) := by
      intros; exact ⟨⟨by first | exact Or.inl rfl | exact Or.inr rfl, by first | exact .inl rfl | exact .inr rfl⟩, ⟨by first | exact Or.inl rfl | exact Or.inr rfl, by first | exact .inl rfl | exact .inr rfl⟩⟩)
    (ha : ∀ (s : Shared) (H0 : Hp) (C : Addr) (cl : List (Str × Addr)) (fp : List Addr), (assignEach [.Name x px, .Name y py] (X.blk s H0 scope (compEnvC scope cl C X.env) fp).env).length = 2 ∧ (assignEach [.Name x px, .Name y py] (X.blk s H0 scope (compEnvC scope cl C X.env) fp).env).findIdx? (·.1) = none ∧
      (assignEach [.Name x px, .Name y py] (X.blk s H0 scope (compEnvC scope cl C X.env) fp).env).map (·.2) = assign (.Name x px) (X.blk s H0 scope (compEnvC scope cl C X.env) fp).env :: (assignEach [.Name y py] (X.blk s H0 scope (compEnvC scope cl C X.env) fp).env).map (·.2) ∧ (assignEach [.Name y py] (X.blk s H0 scope (compEnvC scope cl C X.env) fp).env).map (·.2) = assign (.Name y py) (X.blk s H0 scope (compEnvC scope cl C X.env) fp).env :: (assignEach [] (X.blk s H0 scope (compEnvC scope cl C X.env) fp).env).map (·.2) := by intros; exact ⟨rfl, rfl, rfl, rfl⟩)
    (hs : ∀ x, foldedSetIterable iter X.env x = pure x := by intro _; rfl)
    (hy : X.N[m]? = some z := by rfl) (hyl : X.env.scope.names.lookup z = some .local := by rfl)
    (hsw : swapsWith (.ListComp elt [⟨.Tuple [.Name x px, .Name y py] kk tp, iter, ifs, 0⟩] scope pos) (some (.Name z py0)) spos.line X.env = pure true := by rfl) :
    HS X D (.Assign [.Name z py0] (.ListComp elt [⟨.Tuple [.Name x px, .Name y py] kk tp, iter, ifs, 0⟩] scope pos) spos :: rest) σ H := by
  have e0 : ∀ q ∈ ps.map tupP, ∃ r ∈ ps, q = tupP r := fun q hq => by
    obtain ⟨r, h1, h2⟩ := List.mem_map.mp hq
    exact ⟨r, h1, h2.symm⟩
  have un_t : ∀ q, unT (tupP q) = q := fun q => rfl
  refine hs_setLcG (i := m) (own := [(x, i), (y, j)]) (p := fun d => p (unT d)) (G := fun d r => r = f (unT d)) hc hN hy hyl hsw ok hi (by rw [List.length_map]; exact hz) (fun d hd v S' s hv => ?_) s (fun v S' H' g ⟨rs, h1, h2⟩ => q v S' H' g ?_) hs
  · obtain ⟨q, hq, rfl⟩ := e0 d hd
    obtain ⟨l, xs, rfl, hl, hx', _⟩ := Dt.tup_inv (ds := [q.1, q.2]) hv
    obtain ⟨v1, e1, p1⟩ := hx'.get (i := 0) (d := q.1) rfl
    obtain ⟨v2, e2, p2⟩ := hx'.get (i := 1) (d := q.2) rfl
    have hxs : xs = [v1, v2] := by
      have hl2 := hx'.1
      match xs, hl2 with
      | [u, w], _ => simp at e1 e2; rw [e1, e2]
    subst hxs
    refine ⟨((wipe σ [i, j]).set i (some v1)).set j (some v2), wipe2 hij, fun sh H0 C cl fp => ?_⟩
    obtain ⟨h2, h3⟩ := hel q hq v1 v2 S' s p1 p2 sh H0 C cl fp
    obtain ⟨⟨k1, k2⟩, ⟨k3, k4⟩⟩ := hx sh H0 C cl fp
    obtain ⟨a1, a2, a3, a4⟩ := ha sh H0 C cl fp
    refine ⟨fun H s2 Q qq => ?_, h2, fun hp => (h3 hp).imp fun w S2 hw => ⟨_, rfl, hw⟩⟩
    exact hg_of (pg_tup hc (pgs_cons (pg_name hN hix k1 k2) (pgs_cons (pg_name hN hjy k3 k4) pgs_nil a4) a3) a1 a2) ⟨l, _, rfl, sqt_up s2 hl, rfl, _, _, rfl, _, _, rfl, rfl, qq⟩
  · have ef : (ps.map tupP).filter (fun d => p (unT d)) = (ps.filter p).map tupP := by rw [List.filter_map]; rfl
    rw [ef] at h1
    rw [paired_map h1, List.map_map] at h2
    exact h2
end
end Y
namespace Y
open PySem PySem.Spec PyProof.Rows L2 Z
section
variable {X : Cx} {σ : L2.St} {S S' H : Hp} {e a b c o : Expr} {P : V → Hp → Prop} {pos p apos : Pos} {D : Ends} {rest : List Stmt} {r : Addr} {xs : List V} {d1 d2 d3 : PyData}
/-- a, b, c = e, e a tuple of three -/
theorem hs_unpack3 {i j m : Nat} {x y z : Str} {px py pz pt : Pos} {kt : Nat} (hc : X.calm = true) (hN : X.N.Nodup) (ha : EE X σ S e (Dt X.K (.tuple [d1, d2, d3]))) (s : Same S H)
    (q : ∀ v w u S' H', Gr S H S' H' → Dt X.K d1 v S' → Dt X.K d2 w S' → Dt X.K d3 u S' → HS X D rest (((σ.set i (some v)).set j (some w)).set m (some u)) H')
    (hi : X.N[i]? = some x := by rfl) (hj : X.N[j]? = some y := by rfl) (hm : X.N[m]? = some z := by rfl) (hx : Loc X.env.scope x := by first | exact Or.inl rfl | exact Or.inr rfl) (hy : Loc X.env.scope y := by first | exact Or.inl rfl | exact Or.inr rfl) (hz : Loc X.env.scope z := by first | exact Or.inl rfl | exact Or.inr rfl)
    (hfx : X.fn x = true ∨ X.env.scope.names.lookup x = some .local := by first | exact .inl rfl | exact .inr rfl) (hfy : X.fn y = true ∨ X.env.scope.names.lookup y = some .local := by first | exact .inl rfl | exact .inr rfl) (hfz : X.fn z = true ∨ X.env.scope.names.lookup z = some .local := by first | exact .inl rfl | exact .inr rfl)
    (hn : (assignEach [.Name x px, .Name y py, .Name z pz] X.env).length = 3 := by rfl) (hst : (assignEach [.Name x px, .Name y py, .Name z pz] X.env).findIdx? (·.1) = none := by rfl)
    (h1 : (assignEach [.Name x px, .Name y py, .Name z pz] X.env).map (·.2) = assign (.Name x px) X.env :: (assignEach [.Name y py, .Name z pz] X.env).map (·.2) := by rfl) (h2 : (assignEach [.Name y py, .Name z pz] X.env).map (·.2) = assign (.Name y py) X.env :: (assignEach [.Name z pz] X.env).map (·.2) := by rfl) (h2' : (assignEach [.Name z pz] X.env).map (·.2) = assign (.Name z pz) X.env :: (assignEach [] X.env).map (·.2) := by rfl)
    (hss : swapsWithSole [.Tuple [.Name x px, .Name y py, .Name z pz] kt pt] e pos.line X.env = pure false := by rfl) (hw : swappedStores [.Tuple [.Name x px, .Name y py, .Name z pz] kt pt] e X.env = pure none := by rfl)
    (h3 : (assignEach [.Tuple [.Name x px, .Name y py, .Name z pz] kt pt] X.env).map (·.2) = [assign (.Tuple [.Name x px, .Name y py, .Name z pz] kt pt) X.env] := by rfl) : HS X D (.Assign [.Tuple [.Name x px, .Name y py, .Name z pz] kt pt] e pos :: rest) σ H :=
  hs_cons (ps_asg peb pgb hss hw h3) (ha H s _ fun v S' H' g pv => by
    obtain ⟨l, ys, rfl, hl, hx', _⟩ := pv.tup_inv
    obtain ⟨v1, e1, p1⟩ := hx'.get (i := 0) (d := d1) rfl
    obtain ⟨v2, e2, p2⟩ := hx'.get (i := 1) (d := d2) rfl
    obtain ⟨v3, e3, p3⟩ := hx'.get (i := 2) (d := d3) rfl
    have hys : ys = [v1, v2, v3] := by
      have hl2 := hx'.1
      match ys, hl2 with
      | [u1, u2, u3], _ => simp at e1 e2 e3; rw [e1, e2, e3]
    subst hys
    exact hg_of (pg_tup hc (pgs_cons (pg_name hN hi hx hfx) (pgs_cons (pg_name hN hj hy hfy) (pgs_cons (pg_name hN hm hz hfz) pgs_nil h2') h2) h1) hn hst) ⟨l, _, rfl, sqt_up g.sub hl, rfl, _, _, rfl, _, _, rfl, _, _, rfl, rfl, q v1 v2 v3 S' H' g p1 p2 p3⟩)
/-- x is None, as a test -/
theorem et_isN {v : V} (ha : EE X σ S a (fun w _ => w = v)) {n p2} : ET X σ S (.Compare a [.Is] [.Constant .none n p2] pos) (decide (v = .non)) := by
  haveI : Mn (fun (w : V) (_ : Hp) => w = v) := ⟨fun _ h => h⟩
  exact et_cmp op_isN ha (ee_non (n := n) (pos := p2)) (fun x y S1 H1 _ s px py Q q => by
    cases py
    subst px
    exact ⟨rfl, q _ S1 H1 (Gr.refl s) (.bl _)⟩) (nomark _)
/-- [], told as new -/
theorem ee_lstNew0 : EE X σ S (.List [] pos) (NewL X.K S []) :=
  ee_lstA (vsP := fun vs _ => vs = []) (fun H s Q q => ea_nil.2 H s Q fun vs S' H' g al => q vs S' H' g (by cases al; rfl)) (fun vs S' e => by subst e; exact Nat.zero_le _) fun vs S' p st hp e => by
    subst e
    exact ⟨p, [], rfl, st.free hp, upd_same, .nil, Nat.zero_le _⟩
/-- o.append(e), the list told -/
theorem hs_appendS (ho : EE X σ S o (fun w _ => w = .ref r)) (s : Same S H) (hb : S r = some (.lst xs)) (hz : xs.length < 1000) [Mn P] (ha : EE X σ S e P) (q : ∀ v S' H', Gr S H S' H' → P v S' → HS X D rest σ (upd H' r (.lst (xs ++ [v])))) (hbase : attributeBase o "append" X.env (eval o X.env) = eval o X.env := by rfl) (hline : (apos.endLine == p.line) = true := by rfl)
    (hs : swapsWith (.Call (.Attribute o "append" apos) [e] [] p) none pos.line X.env = pure false := by rfl) (hst : starEach [e] X.env = (false, eval e X.env) :: starEach [] X.env := by rfl)
    (hfew : ((backTo p (starEach [e] X.env)).all (fun x => !x.1) && (backToKw p (keywordEach [] X.env)).all (fun x => x.1.isSome) && decide ([e].length + ([] : List Keyword).length + (if ([] : List Keyword).isEmpty then 0 else 1) < 30)) = true := by rfl) : HS X D (.Expr (.Call (.Attribute o "append" apos) [e] [] p) pos :: rest) σ H :=
  hs_cons (ps_expr (pe_bm PySem.F.plainAttrs_list PySem.F.slot_list_append PySem.F.type_list_append mt_append peb (pa_cons (te := bE X e) (t := tNil) peb pa_nil hst) hbase hfew hline hst (by rfl)) hs) (ho H s _ fun w S1 H1 g1 pw => by
    subst pw
    have h1 := g1.st _ _ hb
    refine ⟨.inl ⟨rfl, _, .inl (.inl (g1.sub _ _ h1))⟩, ?_⟩
    exact (ha.up g1.st) H1 g1.sub _ fun v S2 H2 g2 pv => ⟨r, xs, v, rfl, rfl, g2.sub _ _ (g2.st _ _ h1), by show _ < 16777216; omega, q v S2 H2 (g1.trans g2) pv⟩)
end
end Y
namespace Y
open PySem PySem.Spec PyProof.Rows L2 Z
section
variable {X : Cx} {σ : L2.St} {S S' H : Hp} {e a b c o : Expr} {P : V → Hp → Prop} {pos p apos : Pos} {D : Ends} {rest : List Stmt} {r d1 d2 : PyData} {z x : Str} {k : Nat}
/-- text * int -/
theorem op_mulTx : OpR X (binaryOp .Mult) (fun x y H Q => ∃ z i, x = .str z ∧ y = .int i ∧ z.length ≤ 16 ∧ 0 ≤ i ∧ i ≤ 1048576 ∧ Q (.str (Txt.mul z i)) H) := by
  intro pins s σ H x y v u Q I rx ry h
  obtain ⟨z, i, rfl, rfl, hz, i0, i1, q⟩ := h
  obtain ⟨t, rfl⟩ := rx
  obtain ⟨t', rfl⟩ := ry
  exact PySem.W.KXi.mul rfl hz (by omega) i1 fun t' k _ _ => ⟨.str _, H, I.tok _, ⟨_, rfl⟩, q⟩
theorem ee_mulTx {i : Int} (hz : z.length ≤ 16) (i0 : 0 ≤ i) (i1 : i ≤ 1048576) (ha : EE X σ S a (Dt X.K (.str z))) (hb : EE X σ S b (Dt X.K (.int i))) : EE X σ S (.BinOp a .Mult b pos) (Dt X.K (.str (Txt.mul z i))) :=
  ee_op op_mulTx ha hb fun v w S1 H1 _ s px py Q q => by
    cases px; cases py
    exact ⟨z, i, rfl, rfl, hz, i0, i1, q _ S1 H1 (Gr.refl s) (.str _)⟩
/-- text.upper() -/
theorem ee_upperS (hz : z.length ≤ 1000) (ha : EE X σ S o (Dt X.K (.str z))) (hbase : attributeBase o "upper" X.env (eval o X.env) = eval o X.env := by rfl) (hline : (apos.endLine == pos.line) = true := by rfl) : EE X σ S (.Call (.Attribute o "upper" apos) [] [] pos) (Dt X.K (.str (Txt.upper z))) := fun H s Q q =>
  he_of (pe_upper peb hbase hline) (ha H s _ fun v S1 H1 g1 pv => by
    cases pv
    exact ⟨⟨z, rfl⟩, z, rfl, rfl, by omega, q _ S1 H1 g1 (.str _)⟩)
/-- f(a, b), where a changes the heap as it likes -/
theorem he_callD2 {F : List PyData → PyData → Prop} {Q : VK} (D1 : KD X.prog X.w X.K X.mg X.base x k (spD X.K F)) (hr : Room k X.A) (hF : F [d1, d2] r)
    (h1 : HE X a σ H fun v H1 => ∃ S1, Same S1 H1 ∧ Dt X.K d1 v S1 ∧ EE X σ S1 b (Dt X.K d2) ∧ ∀ u S2 H2, Gr S1 H1 S2 H2 → Dt X.K r u S2 → Q u H2) (hg : Gl X x := by rfl) (hdb : (x == ("__debug__" : Str)) = false := by decide)
    (he : starEach [a, b] X.env = (false, eval a X.env) :: starEach [b] X.env := by rfl) (he2 : starEach [b] X.env = (false, eval b X.env) :: starEach [] X.env := by rfl) (hpl : (backTo pos (starEach [b] X.env)).any (·.1) = false := by rfl) : HE X (.Call (.Name x p) [a, b] [] pos) σ H Q := by
  obtain ⟨f, fd, ps, F1, hm, hk, hb⟩ := D1.ex
  refine he_of (pe_call F1 hr hg hm hk hb .nil pass0 pab hdb he hpl) (ha_of (pa_cons (te := bE X a) (t := bA X [b]) peb pab he) ?_)
  intro pins s0 I
  refine thn (h1 pins s0 I) fun u s1 ⟨v, H1, I1, rv, S1, s, pv, hb2, q⟩ => ⟨v, H1, I1, rv, ?_⟩
  refine (ea_1 hb2 he2).2 H1 s _ fun vs S2 H2 g2 al => ?_
  obtain ⟨w2, rfl, pw⟩ := al.one
  rw [List.append_nil]
  exact ⟨S2, [d1, d2], r, g2.sub, Dts.cons (pv.up g2.st) (Dts.cons pw .nil), hF, fun u S3 H3 g3 pu => q u S3 H3 (g2.trans g3) pu⟩
end
end Y
namespace K08
open PySem PySem.Spec PyProof.Rows L2 Z Y
abbrev FnT (K : PySem.W.Frag) (x : Str) (st : Stmt) (f : Addr) (fd : FuncData) : Prop := FunD K x x (defArgs st) (defBody st) (defScope st) [] [] f fd
/-! ## data in short -/
def tI (l : List Int) : PyData := .tuple (l.map .int)
def lI (l : List Int) : PyData := .list (l.map .int)
def tP (a b : List Int) : PyData := .tuple [tI a, tI b]
def isNum (d : PyData) (l : Int) : Bool := match d with
  | .int i => decide (l ≤ i)
  | _ => false
def leNum (d : PyData) (m : Int) : Bool := match d with
  | .int i => decide (i ≤ m)
  | _ => false
def isExp (d : PyData) (w : Int) : Bool := match d with
  | .tuple ds => decide ((ds.length : Int) = w) && ds.all fun x => isNum x 0 && leNum x 6
  | _ => false
theorem map_all {α : Type} (f : α → Bool) (l : List α) : (l.map f).all (fun b => b) = l.all f := by
  induction l with
  | nil => rfl
  | cons a l ih => simp [List.map_cons, List.all_cons, ih]
/-- the facts as data; what a row must keep -/
def ruleD (p : List Int × List Int) : PyData := tP p.1 p.2
def kindN : PyData → Nat
  | .none => 0
  | .bool _ => 1
  | .int _ => 2
  | .str _ => 3
  | .list _ => 4
  | .tuple _ => 5
  | .dict _ => 6
def marksL (d : PyData) : List Bool := [decide (kindN d = 0), isD d "bool", isD d "int", isD d "str"] ++ [isD d "list", isD d "tuple", true]
theorem marks_at (d : PyData) : (marksL d)[kindN d]? = some true := by cases d <;> rfl
theorem marks_no (d : PyData) : ∀ m, m < kindN d → (marksL d)[m]? = some false := by
  cases d with
  | none => exact fun m h => absurd h (Nat.not_lt_zero _)
  | bool b => exact fun
    | 0, _ => rfl
    | m + 1, h => absurd (show m + 1 < 1 from h) (by omega)
  | int b => exact fun
    | 0, _ => rfl
    | 1, _ => rfl
    | m + 2, h => absurd (show m + 2 < 2 from h) (by omega)
  | str b => exact fun
    | 0, _ => rfl
    | 1, _ => rfl
    | 2, _ => rfl
    | m + 3, h => absurd (show m + 3 < 3 from h) (by omega)
  | list b => exact fun
    | 0, _ => rfl
    | 1, _ => rfl
    | 2, _ => rfl
    | 3, _ => rfl
    | m + 4, h => absurd (show m + 4 < 4 from h) (by omega)
  | tuple b => exact fun
    | 0, _ => rfl
    | 1, _ => rfl
    | 2, _ => rfl
    | 3, _ => rfl
    | 4, _ => rfl
    | m + 5, h => absurd (show m + 5 < 5 from h) (by omega)
  | dict b => exact fun
    | 0, _ => rfl
    | 1, _ => rfl
    | 2, _ => rfl
    | 3, _ => rfl
    | 4, _ => rfl
    | 5, _ => rfl
    | m + 6, h => absurd (show m + 6 < 6 from h) (by omega)
theorem dt_non {K : PySem.W.Frag} {d : PyData} {v : V} {S : Hp} (h : Dt K d v S) : decide (v = .non) = decide (kindN d = 0) := by
  cases h <;> rfl
/-- data without dicts, at most n deep -/
def Bd : Nat → PyData → Prop
  | _, .none => True
  | _, .bool _ => True
  | _, .int _ => True
  | _, .str _ => True
  | 0, .list _ => False
  | 0, .tuple _ => False
  | n + 1, .list xs => ∀ x ∈ xs, Bd n x
  | n + 1, .tuple xs => ∀ x ∈ xs, Bd n x
  | _, .dict _ => False
theorem zip_self (xs : List PyData) : xs.zip xs = xs.map fun x => (x, x) := by
  induction xs with
  | nil => rfl
  | cons a l ih => simp [ih]
section
variable {P : Program} {w : World} {K : PySem.W.Frag} {mg : Str → Option Value} {base : Heap} {f : Addr} {fd : FuncData}
def FisNumber : List PyData → PyData → Prop := fun ds r => ∃ d l, ds = [d, .int l] ∧ r = .bool (isNum d l)
theorem sc_is_number : FnScope ["value", "least"] ["value", "least"] (defScope sis_number) := ⟨rfl, rfl, rfl, by decide +kernel, rfl, by decide +kernel, by decide +kernel⟩
theorem ok_is_number (F : FnT K "is_number" sis_number f fd) (g1 : mg "isinstance" = none) (g2 : mg "int" = none) (g3 : mg "bool" = none) : FnOk P w K mg base CX0 1 f fd ["value", "least"] (spD K FisNumber) := by
  refine fn_hs F sc_is_number (fun vs H Q E h => ?_) (fun cdv A outer sh H vs Q E hr h => ?_)
  · obtain ⟨S, ds, d, _, hd, ⟨_, _, rfl, _⟩, _⟩ := h
    exact hd.1
  · obtain ⟨S, ds, r, s, hd, ⟨d, l, rfl, rfl⟩, q⟩ := h
    obtain ⟨v1, v2, rfl, p1, p2⟩ := hd.two
    refine hs_ret ((ee_and (ee_isi (isD_ok d (T := "int") (by simp)) g1 g2 boot_int (ee_var 0 rfl p1)) fun h1 =>
      ee_and (ee_not (ee_isi (isD_ok d (T := "bool") (by simp)) g1 g3 boot_bool (ee_var 0 rfl p1))) fun h2 => ee_one (P := Dt K (.bool (isNum d l))) ?_).isd ?_) s q
    · cases d <;> first | (exact ee_ge (ee_var 0 rfl p1) (ee_var 1 rfl p2)) | (exfalso; simp [isDi, isDb] at h1 h2; done)
    · cases d <;> rfl
def FisExp : List PyData → PyData → Prop := fun ds r => ∃ d w, ds = [d, .int w] ∧ r = .bool (isExp d w)
theorem sc_is_exponent : FnScope ["value", "width", "item"] ["value", "width"] (defScope sis_exponent) := ⟨rfl, rfl, rfl, by decide +kernel, rfl, by decide +kernel, by decide +kernel⟩
theorem ok_is_exponent (F : FnT K "is_exponent" sis_exponent f fd) (D1 : KD P w K mg base "is_number" 1 (spD K FisNumber)) (g1 : mg "isinstance" = none) (g2 : mg "tuple" = none) (g3 : mg "len" = none) (g4 : mg "all" = none) (g5 : ∃ t, mg "MOST_EXPONENT" = some (.int 6 t)) : FnOk P w K mg base CX0 2 f fd ["value", "width"] (spD K FisExp) := by
  refine fn_hs F sc_is_exponent (fun vs H Q E h => ?_) (fun cdv A outer sh H vs Q E hr h => ?_)
  · obtain ⟨S, ds, d, _, hd, ⟨_, _, rfl, _⟩, _⟩ := h
    exact hd.1
  · obtain ⟨S, ds, r, s, hd, ⟨d, w', rfl, rfl⟩, q⟩ := h
    obtain ⟨v1, v2, rfl, p1, p2⟩ := hd.two
    obtain ⟨t, g5⟩ := g5
    by_cases hd' : ∃ es, d = .tuple es
    · obtain ⟨es, rfl⟩ := hd'
      refine hs_if (et_w (ew_or (et_not (et_val (ee_isi (isD_ok (.tuple es) (T := "tuple") (by simp)) g1 g2 boot_tuple (ee_var 0 rfl p1)))) fun _ => ew_or1 (et_neI (ee_len g3 rfl (ee_var 0 rfl p1)) (ee_var 1 rfl p2)))) s (fun h1 S1 H1 g => ?_) (fun h1 S1 H1 g => hs_nil ?_)
      · have hl : ¬ ((es.length : Int) = w') := by simpa [isDt] using h1
        refine hs_ret ee_bl g.sub fun v S2 H2 g2 pv => q v S2 H2 (g.trans g2) ?_
        have e : isExp (.tuple es) w' = false := by unfold isExp; simp [hl]
        rw [e]; exact pv
      · have hl : (es.length : Int) = w' := by simpa [isDt] using h1
        have hz : es.length ≤ sizeLine := by obtain ⟨l, xs, _, _, hx, z⟩ := p1.tup_inv; rw [← hx.1]; exact z
        refine hs_ret ((ee_all (bs := es.map fun x => isNum x 0 && leNum x 6) rfl g4 (ee_lc (i := 2) (enc := .bool) (f := fun x => isNum x 0 && leNum x 6) rfl sc_is_exponent.nd (blkOk_by (N := ["value", "width", "item"]) (sc := defScope sis_exponent) (by decide +kernel)) (ei_tup (ee_var 0 rfl (p1.up g.st))) hz ?_)).isd ?_) g.sub fun v S2 H2 g2 pv => q v S2 H2 (g.trans g2) pv
        · intro x hx v S2 s2 pv sh' H0 C cl fp
          refine ee_and (k1 := isNum x 0) (k2 := leNum x 6) (ee_callD D1 hr ⟨x, 0, rfl, rfl⟩ (ea_2 (ee_var 2 rfl pv) ee_int)) fun h2 => ee_one (P := Dt K (.bool (leNum x 6))) ?_
          cases x with
          | int i => exact ee_le (ee_var 2 rfl pv) (ee_globI g5)
          | _ => exfalso; simp [isNum] at h2; done
        · rw [map_all]
          unfold isExp
          simp [hl]
    · refine hs_ifT ((et_w (ew_or (k2 := true) (et_not (et_val (ee_isi (isD_ok d (T := "tuple") (by simp)) g1 g2 boot_tuple (ee_var 0 rfl p1)))) fun h1 => ?_)).is ?_) s fun S1 H1 g => hs_ret ee_bl g.sub fun v S2 H2 g2 pv => q v S2 H2 (g.trans g2) ?_
      · exfalso; cases d <;> first | (simp [isDt] at h1; done) | exact hd' ⟨_, rfl⟩
      · simp
      · have e : isExp d w' = false := by cases d <;> first | rfl | exact absurd ⟨_, rfl⟩ hd'
        rw [e]; exact pv
def spOpen0 (K : PySem.W.Frag) : Sp := fun vs H Q _ => ∃ (a : Addr) (ns : List Int), vs = [.ref a] ∧ SqL K H a (ns.map V.int) ∧ ns.length ≤ 63 ∧ ∀ (b c : Addr) (ms : List Int) (k : Int) (H' : Hp), H b = none → H c = none → b ≠ c → Same H H' → ms.length ≤ 63 → 0 ≤ k → k < 100000 →
  H' c = some (.lst (ms.map V.int)) → H' b = some (.lst [.ref c, .int 0, .int 0, .int k, .int 0]) → Q (.ref b) H'
def spOpen (K : PySem.W.Frag) : Sp := fun vs H Q _ => ∃ (a : Addr) (ns : List Int), vs = [.ref a] ∧ SqL K H a (ns.map V.int) ∧ ns.length ≤ 63 ∧ ∀ v H', Same H H' → BX v H' → Q v H'
theorem scL_open : FnScope ["_law_script"] ["_law_script"] (defScope sL_open) := ⟨rfl, rfl, rfl, by decide +kernel, rfl, by decide +kernel, by decide +kernel⟩
theorem cut_ints (ns : List Int) (k : Nat) : cutV (ns.map V.int) none (some (k : Int)) = (ns.take k).map V.int := by
  unfold cutV
  rw [HT.sIx_none, HT.sIx_nat, List.drop_zero, List.map_take, Nat.sub_zero]
  by_cases h : k ≤ (ns.map V.int).length
  · rw [Nat.min_eq_left h]
  · rw [Nat.min_eq_right (by omega), List.take_of_length_le (Nat.le_refl _), List.take_of_length_le (by omega)]
theorem ok_L_open0 (F : FnT K "_law_open" sL_open f fd) (g1 : mg "list" = none) (g2 : mg "len" = none) : FnOk P w K mg base CX0 1 f fd ["_law_script"] (spOpen0 K) := by
  refine fn_hs F scL_open (fun vs H Q E h => ?_) (fun cdv A outer sh H vs Q E hr h => ?_)
  · obtain ⟨a, ns, rfl, _⟩ := h
    rfl
  · obtain ⟨a, ns, rfl, hS, hl, q⟩ := h
    refine hs_cons (ps_ret (pe_lst (pa_cons (pe_callTy call_list_of (by rfl) g1 boot_list (pa_cons (pe_slice sl_list (pv 0) po_none (po_some pe_int)) pa_nil)) (pa_cons pe_int (pa_cons pe_int (pa_cons (pe_op op_add pe_int (pe_op op_mul pe_int (pe_callB call_len_seq (by rfl) g2 PySem.boot_len (pa_cons (pv 0) pa_nil)))) (pa_cons pe_int pa_nil))))))) ?_
    refine ⟨_, rfl, _, rfl, a, _, rfl, hS, fun p hp => ⟨p, _, rfl, .inl (sql_of upd_same), fun c hc => ?_⟩⟩
    have s1 : Same H (upd H p (.lst (cutV (ns.map V.int) none (some 63)))) := Same.new hp
    have hcp : p ≠ c := ne_of_none upd_same hc
    have hc0 : H c = none := s1.free hc
    have s2 := s1.trans (Same.new (o := .lst (cutV (ns.map V.int) none (some 63))) hc)
    refine ⟨_, rfl, a, _, rfl, .inl (sql_up s2 hS), 7, ((ns.map V.int).length : Int), rfl, rfl, .inl (by decide), 12016, 7 * ((ns.map V.int).length : Int), rfl, rfl, (by show 5 ≤ 16777216; decide), fun b hb => ?_⟩
    have hbc : b ≠ c := (ne_of_none upd_same hb).symm
    rw [List.length_map]
    refine q b c (ns.take 63) _ _ (s2.free hb) hc0 hbc (s2.trans (Same.new hb)) (by rw [List.length_take]; omega) (by omega) (by omega) ?_ upd_same
    rw [upd_ne hbc.symm, upd_same]
    exact congrArg (fun l => some (HO.lst l)) (cut_ints ns 63)
theorem ok_L_open (F : FnT K "_law_open" sL_open f fd) (g1 : mg "list" = none) (g2 : mg "len" = none) : FnOk P w K mg base CX0 1 f fd ["_law_script"] (spOpen K) := by
  refine FnOk.close (ok_L_open0 F g1 g2) (fun vs H Q E h => by obtain ⟨a, ns, rfl, _⟩ := h; rfl) fun vs H Q E h => ?_
  obtain ⟨a, ns, rfl, hS, hl, q⟩ := h
  refine ⟨a, ns, rfl, hS, hl, fun b c ms k H' nb nc nbc sm hm k0 k1 hc hb => ⟨b, _, boxPhi b c, nb, hb, sm, fun h' o => box_of ⟨0, 0, k, 0, rfl, by omega, by omega, k0, by omega, by omega⟩ o, box_stab, ?_⟩⟩
  refine q _ _ (fun x o e => by rw [upd_ne (ne_of_none e nb)]; exact sm _ _ e) ⟨b, c, ms, rfl, nbc, upd_same, by rw [upd_ne nbc.symm]; exact hc, hm⟩
def spTake0 : Sp := fun vs H Q _ => ∃ (b c : Addr) (ns : List Int) (sz : Int) (xs : List V), vs = [.ref b, .int sz] ∧ b ≠ c ∧ H b = some (.lst xs) ∧ BoxV c xs ∧ H c = some (.lst (ns.map V.int)) ∧ ns.length ≤ 63 ∧ 0 < sz ∧ sz < 1073741824 ∧
  ∀ (n : Int) (H' : Hp) (ys : List V), 0 ≤ n → n < sz → (∀ a o, H a = some o → a ≠ b → H' a = some o) → H' b = some (.lst ys) → BoxV c ys → Q (.int n) H'
def Ftake : List PyData → (PyData → Prop) → Prop := fun ds G => ∃ sz, ds = [.int sz] ∧ 0 < sz ∧ sz < 1073741824 ∧ G = fun d => ∃ n, d = .int n ∧ 0 ≤ n ∧ n < sz
theorem scL_take : FnScope ["_law_box", "_law_size", "_law_cell", "_law_digit", "_law_seed"] ["_law_box", "_law_size"] (defScope sL_take) := ⟨rfl, rfl, rfl, by decide +kernel, rfl, by decide +kernel, by decide +kernel⟩
theorem bound_mod {x y : Int} (h : 0 < y) : 0 ≤ x % y ∧ x % y < y := ⟨Int.emod_nonneg x (by omega), Int.emod_lt_of_pos x h⟩
/-- the box at b in H', all else as in H -/
structure TkI (H : Hp) (b c : Addr) (H' : Hp) (i g m k : Int) : Prop where
  hb : H' b = some (.lst [.ref c, .int i, .int g, .int m, .int k])
  ot : ∀ a o, H a = some o → a ≠ b → H' a = some o
  i0 : 0 ≤ i
  g0 : 0 ≤ g
  m0 : 0 ≤ m
  m1 : m < 2147483648
  k0 : 0 ≤ k
theorem TkI.up {H : Hp} {b c : Addr} {H1 H2 : Hp} {i g m k : Int} (t : TkI H b c H1 i g m k) (s : Same H1 H2) : TkI H b c H2 i g m k := ⟨s _ _ t.hb, fun a o h n => s _ _ (t.ot a o h n), t.i0, t.g0, t.m0, t.m1, t.k0⟩
theorem TkI.put {H : Hp} {b c : Addr} {H1 : Hp} {i g m k i' g' m' k' : Int} (t : TkI H b c H1 i g m k) (xs : List V) (e : xs = [.ref c, .int i', .int g', .int m', .int k']) (a0 : 0 ≤ i') (a1 : 0 ≤ g') (a2 : 0 ≤ m') (a3 : m' < 2147483648) (a4 : 0 ≤ k') : TkI H b c (upd H1 b (.lst xs)) i' g' m' k' := by
  subst e
  exact ⟨upd_same, fun a o h n => by rw [upd_ne n]; exact t.ot a o h n, a0, a1, a2, a3, a4⟩
theorem small64' {z : Int} (h0 : 0 ≤ z) (h : z < 2147483648) : -(2 ^ 64) < z ∧ z < 2 ^ 64 := by
  have e : (2 : Int) ^ 64 = 18446744073709551616 := by decide
  omega
theorem ok_L_take0 (F : FnT K "_law_take" sL_take f fd) (g1 : mg "len" = none) (g2 : mg "int" = none) : FnOk P w K mg base CX0 1 f fd ["_law_box", "_law_size"] spTake0 := by
  refine fn_hs F scL_take (fun vs H Q E h => ?_) (fun cdv A outer sh H vs Q E hr h => ?_)
  · obtain ⟨b, c, ns, sz, xs, rfl, _⟩ := h
    rfl
  · obtain ⟨b, c, ns, sz, xs, rfl, hbc, hb, hx, hc, hl, z0, z1, q⟩ := h
    obtain ⟨i, g, m, k, rfl, i0, g0, m0, m1, k0⟩ := hx.ex
    have T0 : TkI H b c H i g m k := ⟨hb, fun a o h _ => h, i0, g0, m0, m1, k0⟩
    have eb : ∀ {σ : L2.St} {S : Hp} {pos : Pos}, σ[0]? = some (some (V.ref b)) → EE (cxOf CX0 P w K mg base ["_law_box", "_law_size", "_law_cell", "_law_digit", "_law_seed"] "_law_take" (defScope sL_take) f cdv A outer sh H E).nox σ S (.Name "_law_box" pos) (fun w _ => w = .ref b) := fun h => ee_var 0 h rfl
    have hnz : ns.length ≤ sizeLine := Nat.le_trans hl (by decide)
    have ec : ∀ {S : Hp} {i g m k : Int} {σ : L2.St} {p1 p2 p3 : Pos} {n : Nat}, TkI H b c S i g m k → σ[0]? = some (some (V.ref b)) → EE (cxOf CX0 P w K mg base ["_law_box", "_law_size", "_law_cell", "_law_digit", "_law_seed"] "_law_take" (defScope sL_take) f cdv A outer sh H E).nox σ S (.Subscript (.Name "_law_box" p1) (.Constant (.int 0) n p2) p3) (Dt K (lI ns)) := fun {S i g m k} _ _ _ _ _ T h =>
      ee_ixB T.hb (eb h) ee_int (v := .ref c) rfl fun S' s => Dt.lst_mk (s _ _ (T.ot _ _ hc hbc.symm)) (int_dts ns S') (by rw [List.length_map]; exact hnz)
    refine hs_ifR (S := H) (fun σ' H' => ∃ (v : Option V) (i g m k : Int), σ' = [some (.ref b), some (.int sz), v, none, none] ∧ TkI H b c H' i g m k)
      (et_w (ew_and (et_eqI (ee_ixB hb (eb rfl) ee_int (v := .int g) rfl fun _ _ => .int g) ee_int) fun _ => ew_and1 (et_lt (ee_ixB hb (eb rfl) ee_int (v := .int i) rfl fun _ _ => .int i) (ee_len g1 (n := ns.length) (by simp [lI, lenD]) (ec T0 rfl))))) (Same.refl H) (fun hk S1 H1 g1' => ?_) (fun hk S1 H1 g1' => hs_nil ⟨none, i, g, m, k, rfl, T0.up g1'.hh⟩) ?_
    · -- a cell is taken
      have hi : i < (ns.length : Int) := by
        have h2 := (Bool.and_eq_true_iff.mp hk).2
        exact of_decide_eq_true h2
      have T1 := T0.up g1'.hh
      have hget : atI (ns.map PyData.int) i = some (.int (ns[i.toNat]'(by omega))) := by
        unfold atI ixN
        rw [if_pos i0, List.length_map, if_pos hi]
        show (ns.map PyData.int)[i.toNat]? = _
        rw [List.getElem?_map, List.getElem?_eq_getElem (by omega)]
        rfl
      refine hs_set (S := H1) (i := 2) (ee_ixL hget (ec T1 rfl) (ee_ixB T1.hb (eb rfl) ee_int (v := .int i) rfl fun _ _ => .int i)) (Same.refl _) scL_take.nd fun v S2 H2 g2' pv => ?_
      cases pv
      have T2 := T1.up g2'.hh
      refine hs_setL (ee_add (ee_ixB T2.hb (eb rfl) ee_int (v := .int i) rfl fun _ _ => .int i) ee_int) (eb rfl) ee_int T2.hb (j := 1) rfl fun v H3 s3 pv => ?_
      cases pv
      have T3 := (T2.up s3).put ([.ref c, .int i, .int g, .int m, .int k].set 1 (.int (i + 1))) rfl (by omega) g0 m0 m1 k0
      refine hs_if (S := _) (et_ge (ee_var 2 rfl (Dt.int (K := K) _)) (ee_pow (by exact ⟨by decide, by decide, by decide⟩) ee_int ee_int)) (Same.refl _) (fun hk4 S4 H4 g4 => ?_) (fun hk4 S4 H4 g4 => ?_)
      · have T4 := T3.up g4.hh
        have hge := of_decide_eq_true hk4
        refine hs_setL (ee_var 2 rfl (Dt.int (K := K) _)) (eb rfl) ee_int T4.hb (j := 2) rfl fun v H5 s5 pv => hs_nil (hs_nil ?_)
        cases pv
        have e18 : (0 : Int) ≤ 10 ^ (18 : Int).toNat := by decide
        exact ⟨_, i + 1, _, m, k, rfl, (T4.up s5).put _ rfl (by omega) (by omega) m0 m1 k0⟩
      · have T4 := T3.up g4.hh
        have b1 := @bound_mod (ns[i.toNat]'(by omega)) 2147483497 (by decide)
        refine hs_setL (ee_mod (by decide) (ee_intOf g2 (ee_add (ee_add (ee_mulS (.inr (by decide)) (ee_ixB T4.hb (eb rfl) ee_int (v := .int m) rfl fun _ _ => .int m) ee_int) (ee_mulS (.inr (by decide)) (ee_mod (by decide) (ee_intOf g2 (ee_var 2 rfl (Dt.int (K := K) _))) ee_int) ee_int)) ee_int)) ee_int) (eb rfl) ee_int T4.hb (j := 3) rfl fun v H5 s5 pv => hs_nil (hs_nil ?_)
        cases pv
        have b2 := @bound_mod (m * 39119 + ns[i.toNat]'(by omega) % 2147483497 * 6143 + 53) 2147483563 (by decide)
        exact ⟨_, i + 1, g, _, k, rfl, (T4.up s5).put _ rfl (by omega) g0 b2.1 (by omega) k0⟩
    · rintro σ' H2 ⟨v, i, g, m, k, rfl, T2⟩
      have g0 := T2.g0
      have m0 := T2.m0
      refine hs_if (S := H2) (et_gt (ee_ixB T2.hb (eb rfl) ee_int (v := .int g) rfl fun _ _ => .int g) ee_int) (Same.refl _) (fun hk S3 H3 g3 => ?_) (fun hk S3 H3 g3 => hs_nil ?_)
      · have T3 := T2.up g3.hh
        refine hs_set (S := H3) (i := 3) (ee_mod z0 (ee_intOf g2 (ee_ixB T3.hb (eb rfl) ee_int (v := .int g) rfl fun _ _ => .int g)) (ee_var 1 rfl (Dt.int (K := K) sz))) (Same.refl _) scL_take.nd fun v S4 H4 g4 pv => ?_
        cases pv
        have T4 := T3.up g4.hh
        have b3 := @bound_mod g sz z0
        refine hs_setL (ee_fdiv (wide_div (b := 31) z0 (by omega) (by decide) (by decide)) (ee_ixB T4.hb (eb rfl) ee_int (v := .int g) rfl fun _ _ => .int g) (ee_var 1 rfl (Dt.int (K := K) sz))) (eb rfl) ee_int T4.hb (j := 2) rfl fun v H5 s5 pv => ?_
        cases pv
        have T5 := (T4.up s5).put ([.ref c, .int i, .int g, .int m, .int k].set 2 (.int (g / sz))) rfl T2.i0 (Int.ediv_nonneg g0 (by omega)) T2.m0 T2.m1 T2.k0
        refine hs_ret (S := _) (ee_var 3 rfl (Dt.int (K := K) _)) (Same.refl _) fun v S6 H6 g6 pv => ?_
        cases pv
        have T6 := T5.up g6.hh
        exact q _ H6 _ b3.1 b3.2 T6.ot T6.hb ⟨i, g / sz, m, k, rfl, T6.i0, T6.g0, T6.m0, T6.m1, T6.k0⟩
      · have T3 := T2.up g3.hh
        refine hs_setL (ee_add (ee_ixB T3.hb (eb rfl) ee_int (v := .int k) rfl fun _ _ => .int k) ee_int) (eb rfl) ee_int T3.hb (j := 4) rfl fun v H4 s4 pv => ?_
        cases pv
        have k0 := T3.k0
        have T4 := (T3.up s4).put ([.ref c, .int i, .int g, .int m, .int k].set 4 (.int (k + 1))) rfl T3.i0 T3.g0 T3.m0 T3.m1 (by omega)
        refine hs_set (S := _) (i := 4) (ee_ixB (P := Dt K (.int m)) T4.hb (eb rfl) ee_int (v := .int m) rfl fun _ _ => .int m) (Same.refl _) scL_take.nd fun v S5 H5 g5 pv => ?_
        cases pv
        have T5 := T4.up g5.hh
        refine hs_setL (ee_mod (by decide) (ee_intOf g2 (ee_add (ee_add (ee_add (ee_mulS (.inl (small64' m0 T2.m1)) (ee_var 4 rfl (Dt.int (K := K) m)) (ee_var 4 rfl (Dt.int (K := K) m))) (ee_mulS (.inr (by decide)) (ee_var 4 rfl (Dt.int (K := K) m)) ee_int)) (ee_mulS (.inr (by decide)) (ee_ixB T5.hb (eb rfl) ee_int (v := .int (k + 1)) rfl fun _ _ => .int (k + 1)) ee_int)) ee_int)) ee_int) (eb rfl) ee_int T5.hb (j := 3) rfl fun v H6 s6 pv => ?_
        cases pv
        have b2 := @bound_mod (m * m + m * 28411 + (k + 1) * 1500007 + 90001) 2147483587 (by decide)
        have T6 := (T5.up s6).put ([.ref c, .int i, .int g, .int m, .int (k + 1)].set 3 (.int ((m * m + m * 28411 + (k + 1) * 1500007 + 90001) % 2147483587))) rfl T5.i0 T5.g0 b2.1 (by omega) (by omega)
        refine hs_ret (S := _) (ee_mod z0 (ee_intOf g2 (ee_add (ee_fdiv (wide_div (b := 31) (by decide) (by decide) (by decide) (by decide)) (ee_ixB T6.hb (eb rfl) ee_int (P := Dt K (.int ((m * m + m * 28411 + (k + 1) * 1500007 + 90001) % 2147483587))) (v := .int ((m * m + m * 28411 + (k + 1) * 1500007 + 90001) % 2147483587)) rfl fun _ _ => .int _) ee_int) (ee_mulS (.inr (by decide)) (ee_mod (by decide) (ee_intOf g2 (ee_ixB T6.hb (eb rfl) ee_int (P := Dt K (.int ((m * m + m * 28411 + (k + 1) * 1500007 + 90001) % 2147483587))) (v := .int ((m * m + m * 28411 + (k + 1) * 1500007 + 90001) % 2147483587)) rfl fun _ _ => .int _)) ee_int) ee_int))) (ee_var 1 rfl (Dt.int (K := K) sz))) (Same.refl _) fun v S7 H7 g7 pv => ?_
        cases pv
        have T7 := T6.up g7.hh
        exact q _ H7 _ (bound_mod z0).1 (bound_mod z0).2 T7.ot T7.hb ⟨_, _, _, _, rfl, T7.i0, T7.g0, T7.m0, T7.m1, T7.k0⟩
theorem ok_L_take (F : FnT K "_law_take" sL_take f fd) (g1 : mg "len" = none) (g2 : mg "int" = none) : FnOk P w K mg base CX0 1 f fd ["_law_box", "_law_size"] (spB K Ftake) := by
  refine FnOk.box (ok_L_take0 F g1 g2) (fun vs H Q E h => ?_) fun vs H Q E h => ?_
  · obtain ⟨S, v, ws, ds, G, rfl, _, _, hd, ⟨sz, rfl, _⟩, _⟩ := h
    have := hd.1
    simp at this
    simp [this]
  · obtain ⟨S, v, ws, ds, G, rfl, s, ⟨b, c, ns, rfl, hbc, hb, hc, hl⟩, hd, ⟨sz, rfl, z0, z1, rfl⟩, q⟩ := h
    obtain ⟨u, rfl, pu⟩ := hd.one
    cases pu
    refine ⟨b, boxPhi b c, s _ _ hb, fun h p => ?_⟩
    obtain ⟨xs, hx, ox⟩ := of_box (P := P) (w := w) (H := H) p
    refine ⟨xs, ox, b, c, ns, sz, xs, rfl, hbc, upd_same, hx, by rw [upd_ne hbc.symm]; exact s _ _ hc, hl, z0, z1, fun n H' ys n0 n1 ot hy hys => ⟨ys, hy, fun h' o => box_of hys o, fun a o e ne => ot a o (by rw [upd_ne ne]; exact e) ne, ?_⟩⟩
    have sm : Same H (upd H' b (.ext (boxPhi b c))) := fun a o e => by
      by_cases ha : a = b
      · subst ha; rw [upd_same]; rw [s _ _ hb] at e; exact e
      · rw [upd_ne ha]; exact ot a o (by rw [upd_ne ha]; exact e) ha
    exact q (.int n) ⟨n, rfl, n0, n1⟩ _ S _ ⟨Same.refl S, s.trans sm, sm, fun _ _ _ _ => rfl⟩ (Dt.int n)
def Fone : List PyData → (PyData → Prop) → Prop := fun ds G => ∃ xs, ds = [.list xs] ∧ 0 < xs.length ∧ xs.length < 1073741824 ∧ G = fun d => d ∈ xs
theorem scL_one : FnScope ["_law_box", "_law_some"] ["_law_box", "_law_some"] (defScope sL_one) := ⟨rfl, rfl, rfl, by decide +kernel, rfl, by decide +kernel, by decide +kernel⟩
theorem ok_L_one (F : FnT K "_law_one" sL_one f fd) (D1 : KD P w K mg base "_law_take" 1 (spB K Ftake)) (g1 : mg "len" = none) : FnOk P w K mg base CX0 2 f fd ["_law_box", "_law_some"] (spB K Fone) := by
  refine fn_hs F scL_one (fun vs H Q E h => ?_) (fun cdv A outer sh H vs Q E hr h => ?_)
  · obtain ⟨S, v, ws, ds, G, rfl, _, _, hd, ⟨xs, rfl, _⟩, _⟩ := h
    have := hd.1
    simp at this
    simp [this]
  · obtain ⟨S, v, ws, ds, G, rfl, s, hb, hd, ⟨xs, rfl, z0, z1, rfl⟩, q⟩ := h
    obtain ⟨u, rfl, pu⟩ := hd.one
    refine hs_ret (ee_ixE (ee_var 1 rfl pu) ((ee_callBx D1 hr ⟨xs.length, rfl, by omega, by omega, rfl⟩ (ea_2 (ee_var 0 rfl hb) (ee_len g1 rfl (ee_var 1 rfl pu)))).exi fun d ⟨n, e, n0, n1⟩ => ⟨n, e, n0, n1⟩)) s ?_
    rintro v S' H' g ⟨d, hd, pd⟩
    exact q d hd v S' H' g pd
def oddL : List PyData := [.none, .bool true, .bool false, .str "", .str "Q7", .int (-1), .tuple [.int 1, .str "a"], .list [.int 1], .tuple [], .list [.str "a"], .tuple [.bool true]]
def Fodd : List PyData → (PyData → Prop) → Prop := fun ds G => ∃ xs, ds = [.list xs] ∧ xs.length ≤ 1000 ∧ G = fun d => d ∈ oddL ++ xs
theorem scL_odd : FnScope ["_law_box", "_law_more"] ["_law_box", "_law_more"] (defScope sL_odd) := ⟨rfl, rfl, rfl, by decide +kernel, rfl, by decide +kernel, by decide +kernel⟩
theorem ok_L_odd (F : FnT K "_law_odd" sL_odd f fd) (D1 : KD P w K mg base "_law_one" 2 (spB K Fone)) : FnOk P w K mg base CX0 3 f fd ["_law_box", "_law_more"] (spB K Fodd) := by
  refine fn_hs F scL_odd (fun vs H Q E h => ?_) (fun cdv A outer sh H vs Q E hr h => ?_)
  · obtain ⟨S, v, ws, ds, G, rfl, _, _, hd, ⟨xs, rfl, _⟩, _⟩ := h
    have := hd.1
    simp at this
    simp [this]
  · obtain ⟨S, v, ws, ds, G, rfl, s, hb, hd, ⟨xs, rfl, z1, rfl⟩, q⟩ := h
    obtain ⟨u, rfl, pu⟩ := hd.one
    have l11 : oddL.length = 11 := rfl
    refine hs_ret (ee_callBx D1 hr ⟨oddL ++ xs, rfl, by rw [List.length_append, l11]; omega, by rw [List.length_append, l11]; omega, rfl⟩ (ea_2 (ee_var 0 rfl hb) (ee_catL (by rw [l11]; show _ ≤ 16777216; omega)
      (ee_lst (ds := oddL) (ea_cons ee_non (ea_cons ee_bl (ea_cons ee_bl (ea_cons ee_str (ea_cons ee_str (ea_cons (ee_neg ee_int) (ea_cons (ee_tup (ds := [.int 1, .str "a"]) (ea_2 ee_int ee_str)) (ea_cons (ee_lst (ds := [.int 1]) (ea_1 ee_int)) (ea_cons (ee_tup (ds := []) ea_nil) (ea_cons (ee_lst (ds := [.str "a"]) (ea_1 ee_str)) (ea_cons (ee_tup (ds := [.bool true]) (ea_1 ee_bl)) ea_nil)))))))))))) (ee_var 1 rfl pu)))) s ?_
    rintro v S' H' g ⟨d, hd, pd⟩
    exact q d hd v S' H' g pd
def Fexp : List PyData → (PyData → Prop) → Prop := fun ds G => ∃ (n : Nat) (m : Int), ds = [.int n, .int m] ∧ n ≤ 1000 ∧ 0 ≤ m ∧ m < 1000000 ∧ G = fun d => ∃ l : List Int, d = tI l ∧ l.length = n ∧ ∀ x ∈ l, 0 ≤ x ∧ x ≤ m
theorem scL_exp : FnScope ["_law_box", "_law_many", "_law_most", "_law_at"] ["_law_box", "_law_many", "_law_most"] (defScope sL_exp) := ⟨rfl, rfl, rfl, by decide +kernel, rfl, by decide +kernel, by decide +kernel⟩
theorem paired_ints {ds rs : List PyData} {G : Int → Prop} (h : Paired (fun _ d => ∃ i, d = .int i ∧ G i) ds rs) : ∃ l : List Int, rs = l.map .int ∧ l.length = ds.length ∧ ∀ x ∈ l, G x := by
  induction h with
  | nil => exact ⟨[], rfl, rfl, fun _ h => nomatch h⟩
  | cons g _ ih =>
    obtain ⟨i, rfl, gi⟩ := g
    obtain ⟨l, rfl, h2, h3⟩ := ih
    exact ⟨i :: l, rfl, by simp [h2], fun x hx => by
      rcases List.mem_cons.mp hx with rfl | hx
      · exact gi
      · exact h3 x hx⟩
theorem ok_L_exp (F : FnT K "_law_exp" sL_exp f fd) (D1 : KD P w K mg base "_law_take" 1 (spB K Ftake)) (g1 : mg "tuple" = none) (g2 : mg "range" = none) : FnOk P w K mg base CX0 2 f fd ["_law_box", "_law_many", "_law_most"] (spB K Fexp) := by
  refine fn_hs F scL_exp (fun vs H Q E h => ?_) (fun cdv A outer sh H vs Q E hr h => ?_)
  · obtain ⟨S, v, ws, ds, G, rfl, _, _, hd, ⟨n, m, rfl, _⟩, _⟩ := h
    have := hd.1
    simp at this
    simp [this]
  · obtain ⟨S, v, ws, ds, G, rfl, s, hb, hd, ⟨n, m, rfl, hn, m0, m1, rfl⟩, q⟩ := h
    obtain ⟨v1, v2, rfl, p1, p2⟩ := hd.two
    refine hs_ret ((ee_tupleE g1 (ee_lcN (i := 3) rfl scL_exp.nd (blkOk_by (N := ["_law_box", "_law_many", "_law_most", "_law_at"]) (sc := defScope sL_exp) (by decide +kernel)) (ei_range g2 (by omega) (ee_var 1 rfl p1)) (by rw [upto_len]; show _ ≤ 16777216; omega)
      (F := fun _ d => ∃ i, d = .int i ∧ 0 ≤ i ∧ i ≤ m) fun x hx v S2 s2 pv sh' H0 C cl fp => ?_)).exi (G := fun d => ∃ l : List Int, d = tI l ∧ l.length = n ∧ ∀ x ∈ l, 0 ≤ x ∧ x ≤ m) fun d ⟨rs, e, hp⟩ => ?_) s ?_
    · exact (ee_callBx D1 hr ⟨m + 1, rfl, by omega, by omega, rfl⟩ (ea_2 (ee_var 0 rfl (Mn.up s2 hb)) (ee_add (ee_var 2 rfl (p2.up s2)) ee_int))).exi fun d ⟨i, e, i0, i1⟩ => ⟨i, e, i0, by omega⟩
    · obtain ⟨l, rfl, h2, h3⟩ := paired_ints hp
      exact ⟨l, e, by rw [h2, upto_len], h3⟩
    · rintro v S' H' g ⟨d, hd, pd⟩
      exact q d hd v S' H' g pd
def Fkind : List PyData → PyData → Prop := fun ds r => ∃ d, ds = [d] ∧ r = .int (kindN d : Nat)
theorem scL_kind : FnScope ["_law_thing", "_law_marks"] ["_law_thing"] (defScope sL_kind) := ⟨rfl, rfl, rfl, by decide +kernel, rfl, by decide +kernel, by decide +kernel⟩
theorem ok_L_kind (F : FnT K "_law_kind" sL_kind f fd) (g1 : mg "isinstance" = none) (g2 : mg "bool" = none) (g3 : mg "int" = none) (g4 : mg "str" = none) (g5 : mg "list" = none) (g6 : mg "tuple" = none) : FnOk P w K mg base CX0 1 f fd ["_law_thing"] (spD K Fkind) := by
  refine fn_hs F scL_kind (fun vs H Q E h => ?_) (fun cdv A outer sh H vs Q E hr h => ?_)
  · obtain ⟨S, ds, d, _, hd, ⟨_, rfl, _⟩, _⟩ := h
    exact hd.1
  · obtain ⟨S, ds, r, s, hd, ⟨d, rfl, rfl⟩, q⟩ := h
    obtain ⟨v, rfl, p⟩ := hd.one
    refine hs_set (i := 1) (ee_lst (ds := [.bool (decide (kindN d = 0)), .bool (isD d "bool"), .bool (isD d "int"), .bool (isD d "str")]) (ea_cons (by rw [← dt_non p]; exact ee_isN (ee_var 0 rfl rfl)) (ea_cons (ee_isi (isD_ok d (T := "bool") (by simp)) g1 g2 boot_bool (ee_var 0 rfl p)) (ea_cons (ee_isi (isD_ok d (T := "int") (by simp)) g1 g3 boot_int (ee_var 0 rfl p)) (ea_cons (ee_isi (isD_ok d (T := "str") (by simp)) g1 g4 boot_str (ee_var 0 rfl p)) ea_nil))))) s scL_kind.nd fun m1 S1 H1 gr1 pm1 => ?_
    have p1 := p.up gr1.st
    refine hs_set (i := 1) (ee_catL (by show _ ≤ 16777216; exact Nat.le_of_ble_eq_true rfl) (ee_var 1 rfl pm1) (ee_lst (ds := [.bool (isD d "list"), .bool (isD d "tuple"), .bool true]) (ea_cons (ee_isi (isD_ok d (T := "list") (by simp)) g1 g5 boot_list (ee_var 0 rfl p1)) (ea_cons (ee_isi (isD_ok d (T := "tuple") (by simp)) g1 g6 boot_tuple (ee_var 0 rfl p1)) (ea_cons ee_bl ea_nil))))) gr1.sub scL_kind.nd fun m2 S2 H2 gr2 pm2 => ?_
    exact hs_ret (ee_indexT (bs := marksL d) (marks_at d) (marks_no d) (ee_var 1 rfl pm2) ee_bl) gr2.sub fun v S3 H3 gr3 pv => q v S3 H3 (gr1.trans (gr2.trans gr3)) pv
def Fsame (n : Nat) : List PyData → PyData → Prop := fun ds r => ∃ d, ds = [d, d] ∧ Bd n d ∧ r = .bool true
theorem scL_same : FnScope ["_law_found", "_law_due", "_law_a", "_law_b"] ["_law_found", "_law_due"] (defScope sL_same) := ⟨rfl, rfl, rfl, by decide +kernel, rfl, by decide +kernel, by decide +kernel⟩
theorem okL_same_all (xs : List PyData) : ((xs.zip xs).map fun _ => true).all (fun b => b) = true := by
  rw [List.all_eq_true]
  intro b hb
  obtain ⟨_, _, rfl⟩ := List.mem_map.mp hb
  rfl
theorem ok_L_same (F : FnT K "_law_same" sL_same f fd) (hm : mg "_law_same" = some (.ref f)) (hb : Binds K fd ["_law_found", "_law_due"] []) (D1 : KD P w K mg base "_law_kind" 1 (spD K Fkind)) (g1 : mg "len" = none) (g2 : mg "all" = none) (g3 : mg "zip" = none) : ∀ n : Nat, FnOk P w K mg base CX0 (n + 2) f fd ["_law_found", "_law_due"] (spD K (Fsame n)) := by
  have step : ∀ n : Nat, (∀ m, n = m + 1 → FnOk P w K mg base CX0 (m + 2) f fd ["_law_found", "_law_due"] (spD K (Fsame m))) → FnOk P w K mg base CX0 (n + 2) f fd ["_law_found", "_law_due"] (spD K (Fsame n)) := fun n ih => by
    refine fn_hs F scL_same (fun vs H Q E h => ?_) (fun cdv A outer sh H vs Q E hr h => ?_)
    · obtain ⟨S, ds, d, _, hd, ⟨_, rfl, _⟩, _⟩ := h
      exact hd.1
    · obtain ⟨S, ds, r, s, hd, ⟨d, rfl, hbd, rfl⟩, q⟩ := h
      obtain ⟨v1, v2, rfl, p1, p2⟩ := hd.two
      refine hs_ifN ((et_neI (ee_callD D1 (hr.mono (by omega)) ⟨d, rfl, rfl⟩ (ea_1 (ee_var 0 rfl p1))) (ee_callD D1 (hr.mono (by omega)) ⟨d, rfl, rfl⟩ (ea_1 (ee_var 1 rfl p2)))).is (by simp)) s fun S1 H1 g4 => ?_
      have p1 := p1.up g4.st
      have p2 := p2.up g4.st
      refine hs_if (et_inT (ns := [4, 5]) (ee_callD D1 (hr.mono (by omega)) ⟨d, rfl, rfl⟩ (ea_1 (ee_var 1 rfl p2))) (ee_tup (ds := [.int 4, .int 5]) (ea_2 ee_int ee_int))) g4.sub (fun hk S2 H2 g5 => ?_) (fun hk S2 H2 g5 => hs_nil ?_)
      · have p1 := p1.up g5.st
        have p2 := p2.up g5.st
        obtain ⟨m, rfl⟩ : ∃ m, n = m + 1 := by
          cases n with
          | zero => exfalso; cases d <;> first | (simp [kindN] at hk; done) | exact hbd
          | succ m => exact ⟨m, rfl⟩
        have D2 : KD P w K mg base "_law_same" (m + 2) (spD K (Fsame m)) := ⟨f, fd, _, ih m rfl, hm, F.kp, hb⟩
        cases d with
        | list xs =>
          have hz : xs.length ≤ sizeLine := by obtain ⟨l, ys, _, _, hx, z⟩ := p1.lst_inv; rw [← hx.1]; exact z
          refine hs_ret ((ee_and (ee_eqI (ee_len g1 rfl (ee_var 0 rfl p1)) (ee_len g1 rfl (ee_var 1 rfl p2))) fun _ => ee_one (ee_all (bs := (xs.zip xs).map fun _ => true) rfl g2
            (ee_lc2 (i := 2) (j := 3) (enc := .bool) (f := fun _ => true) rfl scL_same.nd (blkOk_by (N := ["_law_found", "_law_due", "_law_a", "_law_b"]) (sc := defScope sL_same) (by decide +kernel)) (by rw [← zipD_eq]; exact ei_zipL g3 (ee_var 0 rfl p1) (ee_var 1 rfl p2)) (by rw [zip_self, List.length_map]; exact hz) ?_))).isd ?_) g5.sub fun v S3 H3 g6 pv => q v S3 H3 (g4.trans (g5.trans g6)) pv
          · intro p hp v u S2 s2 pv pu sh' H0 C cl fp
            rw [zip_self] at hp
            obtain ⟨x, hx, rfl⟩ := List.mem_map.mp hp
            exact ee_callD D2 (hr.mono (by omega)) ⟨x, rfl, hbd x hx, rfl⟩ (ea_2 (ee_var 2 rfl pv) (ee_var 3 rfl pu))
          · rw [okL_same_all]; simp
        | tuple xs =>
          have hz : xs.length ≤ sizeLine := by obtain ⟨l, ys, _, _, hx, z⟩ := p1.tup_inv; rw [← hx.1]; exact z
          refine hs_ret ((ee_and (ee_eqI (ee_len g1 rfl (ee_var 0 rfl p1)) (ee_len g1 rfl (ee_var 1 rfl p2))) fun _ => ee_one (ee_all (bs := (xs.zip xs).map fun _ => true) rfl g2
            (ee_lc2 (i := 2) (j := 3) (enc := .bool) (f := fun _ => true) rfl scL_same.nd (blkOk_by (N := ["_law_found", "_law_due", "_law_a", "_law_b"]) (sc := defScope sL_same) (by decide +kernel)) (by rw [← zipD_eq]; exact ei_zipT g3 (ee_var 0 rfl p1) (ee_var 1 rfl p2)) (by rw [zip_self, List.length_map]; exact hz) ?_))).isd ?_) g5.sub fun v S3 H3 g6 pv => q v S3 H3 (g4.trans (g5.trans g6)) pv
          · intro p hp v u S2 s2 pv pu sh' H0 C cl fp
            rw [zip_self] at hp
            obtain ⟨x, hx, rfl⟩ := List.mem_map.mp hp
            exact ee_callD D2 (hr.mono (by omega)) ⟨x, rfl, hbd x hx, rfl⟩ (ea_2 (ee_var 2 rfl pv) (ee_var 3 rfl pu))
          · rw [okL_same_all]; simp
        | _ => exfalso; simp [kindN] at hk; done
      · have p1 := p1.up g5.st
        have p2 := p2.up g5.st
        have fin : ∀ b : Bool, b = true → ∀ v S3 H3, Gr S2 H2 S3 H3 → Dt K (.bool b) v S3 → Q v H3 := fun b hb v S3 H3 g6 pv => q v S3 H3 (g4.trans (g5.trans g6)) (hb ▸ pv)
        cases d with
        | none => exact hs_ret (ee_eq hr (by decide +kernel) (by decide +kernel) (ee_var 0 rfl p1) (ee_var 1 rfl p2)) g5.sub (fin _ rfl)
        | bool b => exact hs_ret (ee_eq hr (by cases b <;> decide +kernel) (by cases b <;> decide +kernel) (ee_var 0 rfl p1) (ee_var 1 rfl p2)) g5.sub (fin _ (by cases b <;> rfl))
        | int i => exact hs_ret (ee_eqI (ee_var 0 rfl p1) (ee_var 1 rfl p2)) g5.sub (fin _ (by simp))
        | str x => exact hs_ret (ee_eqS (ee_var 0 rfl p1) (ee_var 1 rfl p2)) g5.sub (fin _ (by simp))
        | list xs => exfalso; simp [kindN] at hk; done
        | tuple xs => exfalso; simp [kindN] at hk; done
        | dict xs => exfalso; cases n <;> exact hbd
  intro n
  induction n with
  | zero => exact step 0 fun m h => nomatch h
  | succ n ih => exact step (n + 1) fun m h => by cases h; exact ih
end
end K08
namespace K08
open PySem PySem.Spec PyProof.Rows L2 Z Y
def alpha : Str := "abcdefghijklmnopqrstuvwxyz"
theorem alpha_at : ∀ n : Nat, n < 26 → atI alpha.cps.toList (n : Int) = some (97 + n) := by
  have h : ((List.range 26).all fun n => decide (atI alpha.cps.toList ((n : Nat) : Int) = some (97 + n))) = true := by decide +kernel
  intro n hn
  exact of_decide_eq_true (List.all_eq_true.mp h n (List.mem_range.mpr hn))
theorem alpha_len : alpha.length ≤ sizeLine := by decide +kernel
/-- the columns that a law draws -/
def colCode (a s : Int) (i : Nat) : Nat := 97 + ((a + s * (i : Int)) % 26).toNat
def cols (a s : Int) (n : Nat) : Str := ⟨((List.range n).map (colCode a s)).toArray⟩
def stepOk (s : Int) : Prop := s ∈ ([1, 25, 3, 7, 11] : List Int)
theorem col_range (a s : Int) (i : Nat) : 97 ≤ colCode a s i ∧ colCode a s i ≤ 122 := by
  unfold colCode
  have h1 := Int.emod_nonneg (a + s * (i : Int)) (show (26 : Int) ≠ 0 by decide)
  have h2 := Int.emod_lt_of_pos (a + s * (i : Int)) (show (0 : Int) < 26 by decide)
  omega
theorem col_inj {a s : Int} (hs : stepOk s) {i j : Nat} (hi : i < 3) (hj : j < 3) (h : colCode a s i = colCode a s j) : i = j := by
  unfold colCode at h
  have hs : s = 1 ∨ s = 25 ∨ s = 3 ∨ s = 7 ∨ s = 11 := by simpa [stepOk] using hs
  have hi : i = 0 ∨ i = 1 ∨ i = 2 := by omega
  have hj : j = 0 ∨ j = 1 ∨ j = 2 := by omega
  rcases hs with rfl | rfl | rfl | rfl | rfl <;> rcases hi with rfl | rfl | rfl <;> rcases hj with rfl | rfl | rfl <;> omega
theorem cols_nodup {a s : Int} (hs : stepOk s) {n : Nat} (hn : n ≤ 3) : ((List.range n).map (colCode a s)).Nodup := by
  rw [List.nodup_iff_pairwise_ne, List.pairwise_map]
  refine List.Pairwise.imp_of_mem (fun {x y} hx hy hxy h => hxy ?_) List.nodup_range
  rw [List.mem_range] at hx hy
  exact col_inj hs (by omega) (by omega) h
theorem cols_size (a s : Int) (n : Nat) : (cols a s n).cps.size = n := by unfold cols; simp
theorem joinL_nil : ∀ ps : List (List Nat), TL.joinL [] ps = ps.flatten
  | [] => rfl
  | [p] => by simp [TL.joinL]
  | p :: q :: r => by
    show p ++ ([] ++ TL.joinL [] (q :: r)) = _
    rw [joinL_nil (q :: r), List.nil_append]
    simp
theorem join_signs (cs : List Nat) : Txt.join Str.empty (cs.map fun c => (⟨#[c]⟩ : Str)) = ⟨cs.toArray⟩ := by
  refine TL.ext_tl ?_
  rw [TL.join_eq, TL.tl_join]
  show TL.joinL [] _ = cs
  rw [joinL_nil, List.map_map]
  induction cs with
  | nil => rfl
  | cons c cs ih => rw [List.map_cons, List.flatten_cons, ih]; rfl
section
variable {P : Program} {w : World} {K : PySem.W.Frag} {mg : Str → Option Value} {base : Heap} {f : Addr} {fd : FuncData}
def Fletters : List PyData → (PyData → Prop) → Prop := fun ds G => ∃ n : Nat, ds = [.int n] ∧ n ≤ 1000 ∧ G = fun d => ∃ a st : Int, d = .str (cols a st n) ∧ stepOk st
theorem scL_letters : FnScope ["_law_box", "_law_many", "_law_letters_here", "_law_first", "_law_step", "_law_at"] ["_law_box", "_law_many"] (defScope sL_letters) := ⟨rfl, rfl, rfl, by decide +kernel, rfl, by decide +kernel, by decide +kernel⟩
theorem ok_L_letters (F : FnT K "_law_letters" sL_letters f fd) (D1 : KD P w K mg base "_law_take" 1 (spB K Ftake)) (D2 : KD P w K mg base "_law_one" 2 (spB K Fone)) (g1 : mg "range" = none) (g2 : mg "int" = none) : FnOk P w K mg base CX0 3 f fd ["_law_box", "_law_many"] (spB K Fletters) := by
  refine fn_hs F scL_letters (fun vs H Q E h => ?_) (fun cdv A outer sh H vs Q E hr h => ?_)
  · obtain ⟨S, v, ws, ds, G, rfl, _, _, hd, ⟨n, rfl, _⟩, _⟩ := h
    have := hd.1
    simp at this
    simp [this]
  · obtain ⟨S, v, ws, ds, G, rfl, s, hb, hd, ⟨n, rfl, hn, rfl⟩, q⟩ := h
    obtain ⟨v1, rfl, p1⟩ := hd.one
    refine hs_set (i := 2) ee_str s scL_letters.nd fun w1 S1 H1 gr1 q1 => ?_
    have hb1 : BX v S1 := Mn.up gr1.st hb
    refine hs_unpackE (i := 3) (j := 4) (F := fun d => ∃ a : Int, d = .int a ∧ 0 ≤ a ∧ a < 26) (G := fun d => ∃ a : Int, d = .int a ∧ stepOk a) rfl scL_letters.nd
      (ee_pairE ((ee_callBx D1 (hr.mono (by decide)) ⟨26, rfl, by decide, by decide, rfl⟩ (ea_2 (ee_var 0 rfl hb1) ee_int)).exi fun d h => h)
        ((ee_callBx D2 hr ⟨[.int 1, .int 25, .int 3, .int 7, .int 11], rfl, by decide, by decide, rfl⟩ (ea_2 (ee_var 0 rfl hb1) (ee_lst (ds := [.int 1, .int 25, .int 3, .int 7, .int 11]) (ea_cons ee_int (ea_cons ee_int (ea_cons ee_int (ea_cons ee_int (ea_cons ee_int ea_nil)))))))).exi fun d h => by
          rcases List.mem_cons.mp h with rfl | h
          · exact ⟨1, rfl, by simp [stepOk]⟩
          rcases List.mem_cons.mp h with rfl | h
          · exact ⟨25, rfl, by simp [stepOk]⟩
          rcases List.mem_cons.mp h with rfl | h
          · exact ⟨3, rfl, by simp [stepOk]⟩
          rcases List.mem_cons.mp h with rfl | h
          · exact ⟨7, rfl, by simp [stepOk]⟩
          rcases List.mem_cons.mp h with rfl | h
          · exact ⟨11, rfl, by simp [stepOk]⟩
          cases h)) gr1.sub ?_
    rintro d1 d2 u1 u2 S2 H2 ⟨a, rfl, a0, a1⟩ ⟨st, rfl, hst⟩ gr2 k1 k2
    have p2 := (p1.up gr1.st).up gr2.st
    have q2 : Dt K (.str alpha) w1 S2 := q1.up gr2.st
    let el : PyData → Str := fun d => match d with
      | .int i => ⟨#[colCode a st i.toNat]⟩
      | _ => Str.empty
    have hst' : st = 1 ∨ st = 25 ∨ st = 3 ∨ st = 7 ∨ st = 11 := by simpa [stepOk] using hst
    have e0 : (upto n).map el = ((List.range n).map (colCode a st)).map fun c => (⟨#[c]⟩ : Str) := by
      unfold upto
      rw [List.map_map, List.map_map]
      rfl
    have elen : ∀ z ∈ (upto n).map el, z.length = 1 := fun z hz => by
      rw [e0] at hz
      obtain ⟨c, _, rfl⟩ := List.mem_map.mp hz
      rfl
    have esum : (((upto n).map el).map (·.length)).sum = n := by
      have e1 : ((upto n).map el).map (·.length) = (upto n).map fun _ => 1 := by
        rw [List.map_map]
        refine List.map_congr_left fun d hd => elen (el d) (List.mem_map.mpr ⟨d, hd, rfl⟩)
      rw [e1]
      have : ∀ l : List PyData, (l.map fun _ => 1).sum = l.length := fun l => by
        induction l with
        | nil => rfl
        | cons a l ih => simp [ih]; omega
      rw [this, upto_len]
    refine hs_ret (ee_join (z := Str.empty) (ys := (upto n).map el) (by rw [esum, List.length_map, upto_len]; show n + n * 0 ≤ _; omega) ee_str (ee_lc (i := 5) (enc := .str) (f := el) rfl scL_letters.nd (blkOk_by (N := ["_law_box", "_law_many", "_law_letters_here", "_law_first", "_law_step", "_law_at"]) (sc := defScope sL_letters) (by decide +kernel))
      (ei_range g1 (by omega) (ee_var 1 rfl p2)) (by rw [upto_len]; show _ ≤ 16777216; omega) ?_)) gr2.sub ?_
    · intro d hd v S3 s3 pv sh' H0 C cl fp
      obtain ⟨i, hi, rfl⟩ := List.mem_map.mp hd
      rw [List.mem_range] at hi
      have b := @Int.emod_nonneg (a + st * (i : Nat)) 26 (by decide)
      have b2 := Int.emod_lt_of_pos (a + st * (i : Nat)) (show (0 : Int) < 26 by decide)
      have hat := alpha_at ((a + st * (i : Nat)) % 26).toNat (by omega)
      rw [Int.toNat_of_nonneg b] at hat
      exact ee_ixS alpha_len hat (ee_var 2 rfl (q2.up s3)) (ee_mod (by decide) (ee_intOf g2 (ee_add (ee_var 3 rfl (k1.up s3)) (ee_mulS (.inl (by rcases hst' with rfl | rfl | rfl | rfl | rfl <;> decide)) (ee_var 4 rfl (k2.up s3)) (ee_var 5 rfl pv)))) ee_int)
    · intro u S3 H3 gr3 pu
      rw [e0, join_signs] at pu
      exact q _ ⟨a, st, rfl, hst⟩ u S3 H3 (gr1.trans (gr2.trans gr3)) pu
end
abbrev FnM (K : PySem.W.Frag) (x q : Str) (st : Stmt) (f : Addr) (fd : FuncData) : Prop := FunD K x q (defArgs st) (defBody st) (defScope st) [] [] f fd
/-! ## schemas -/
def ColOk (z : Str) : Prop := z.cps.all (· < 128) = true ∧ z.cps.toList.Nodup ∧ 1 ≤ z.cps.size ∧ z.cps.size ≤ 3 ∧ ∀ c ∈ z.cps.toList, 97 ≤ c ∧ c ≤ 122
def RuleOk (n : Nat) (p : List Int × List Int) : Prop := (p.1.length = n ∧ ∀ x ∈ p.1, 0 ≤ x ∧ x ≤ 6) ∧ (p.2.length = n ∧ ∀ x ∈ p.2, 0 ≤ x ∧ x ≤ 6)
abbrev Rules := List (List Int × List Int)
def SchOk (z : Str) (ps : Rules) : Prop := ColOk z ∧ ps.length ≤ 4 ∧ ∀ p ∈ ps, RuleOk z.cps.size p
def schF (z : Str) (l : Addr) : List (Str × V) := [("columns", .str z), ("width", .int z.cps.size), ("_facts", .ref l)]
def SchL (K : PySem.W.Frag) (C : Addr) (z : Str) (ps : Rules) (l : Addr) : V → Hp → Prop := fun v S => ∃ a dx xs, v = .ref a ∧ S a = some (.ins C dx (schF z l)) ∧ S l = some (.lst xs) ∧ Dts K (ps.map ruleD) xs S ∧ xs.length ≤ sizeLine
def SchP (K : PySem.W.Frag) (C : Addr) (z : Str) (ps : Rules) : V → Hp → Prop := fun v S => ∃ l, SchL K C z ps l v S
instance {K : PySem.W.Frag} {C : Addr} {z : Str} {ps : Rules} {l : Addr} : Mn (SchL K C z ps l) := ⟨fun s ⟨a, dx, xs, e, h1, h2, h3, h4⟩ => ⟨a, dx, xs, e, s _ _ h1, s _ _ h2, h3.up s, h4⟩⟩
instance {K : PySem.W.Frag} {C : Addr} {z : Str} {ps : Rules} : Mn (SchP K C z ps) := ⟨fun s ⟨l, h⟩ => ⟨l, Mn.up s h⟩⟩
/-- the width is told -/
def WidP (C : Addr) (w : Int) (P0 : V → Hp → Prop) : Prop := ∀ v S, P0 v S → ∃ a dx fs, v = .ref a ∧ S a = some (.ins C dx fs) ∧ fs.lookup ("width" : Str) = some (.int w)
theorem SchP.wid {K : PySem.W.Frag} {C : Addr} {z : Str} {ps : Rules} : WidP C z.cps.size (SchP K C z ps) := fun v S ⟨l, a, dx, xs, e, h, _⟩ => ⟨a, dx, _, e, h, rfl⟩
theorem SchP.ins {K : PySem.W.Frag} {C : Addr} {z : Str} {ps : Rules} : ∀ v S, SchP K C z ps v S → ∃ a dx fs, v = .ref a ∧ S a = some (.ins C dx fs) := fun v S ⟨l, a, dx, xs, e, h, _⟩ => ⟨a, dx, _, e, h⟩
theorem SchP.insP {K : PySem.W.Frag} {C : Addr} {z : Str} {ps : Rules} {m : Str} (h : ∀ l, (schF z l).lookup m = none := by intro _; rfl) : InsP C m (SchP K C z ps) := fun v S ⟨l, a, dx, xs, e, q, _⟩ => ⟨a, dx, _, e, q, h l⟩
/-- a method that tells data -/
def spO (K : PySem.W.Frag) (F : (V → Hp → Prop) → List PyData → PyData → Prop) : Sp := fun vs H Q _ => ∃ S P0 v ws ds d, vs = v :: ws ∧ Same S H ∧ Mn P0 ∧ P0 v S ∧ Dts K ds ws S ∧ F P0 ds d ∧ ∀ u S' H', Gr S H S' H' → Dt K d u S' → Q u H'
theorem spO_E {K : PySem.W.Frag} {S : Hp} {ds : List PyData} {d : PyData} {P0 : V → Hp → Prop} {F : (V → Hp → Prop) → List PyData → PyData → Prop} [m : Mn P0] (hF : F P0 ds d) : SpE (spO K F) S (P0 :: Ds K ds) (Dt K d) := fun vs S1 H1 _ s al Q q => by
  cases al with
  | cons p r => exact ⟨S1, P0, _, _, ds, d, rfl, s, m, p, al_dts r, hF, q⟩
section
variable {P : Program} {w : World} {K : PySem.W.Frag} {mg : Str → Option Value} {base : Heap} {f : Addr} {fd : FuncData}
def FchkC : List PyData → PyData → Prop := fun ds r => ∃ z, ds = [.str z] ∧ r = .none ∧ ColOk z
theorem sc_check_columns : FnScope ["columns", "letter"] ["columns"] (defScope scheck_columns) := ⟨rfl, rfl, rfl, by decide +kernel, rfl, by decide +kernel, by decide +kernel⟩
theorem abc_mem {c : Nat} (h : 97 ≤ c ∧ c ≤ 122) : c ∈ ("abcdefghijklmnopqrstuvwxyz" : Str).cps.toList := by
  have key : ∀ k, k < 26 → 97 + k ∈ ("abcdefghijklmnopqrstuvwxyz" : Str).cps.toList := by decide +kernel
  have := key (c - 97) (by omega)
  rwa [show 97 + (c - 97) = c by omega] at this
theorem ok_check_columns (F : FnT K "check_columns" scheck_columns f fd) (g1 : mg "isinstance" = none) (g2 : mg "str" = none) (g3 : mg "len" = none) (g4 : mg "set" = none) : FnOk P w K mg base CX0 1 f fd ["columns"] (spD K FchkC) := by
  refine fn_hs F sc_check_columns (fun vs H Q E h => ?_) (fun cdv A outer sh H vs Q E hr h => ?_)
  · obtain ⟨S, ds, d, _, hd, ⟨_, rfl, _⟩, _⟩ := h
    exact hd.1
  · obtain ⟨S, ds, r, s, hd, ⟨z, rfl, rfl, ha, hnd, h1, h3, hc⟩, q⟩ := h
    obtain ⟨v1, rfl, p1⟩ := hd.one
    have hz : z.length ≤ sizeLine := Nat.le_trans h3 (by show 3 ≤ 16777216; decide)
    refine hs_ifN ((et_w (ew_or (et_not (et_val (ee_isi (isD_ok (.str z) (T := "str") (by simp)) g1 g2 boot_str (ee_var 0 rfl p1)))) fun _ => ew_or (et_not (et_chainLE ee_int (ee_len g3 rfl (ee_var 0 rfl p1) (fun x hx => by cases hx; exact hz)) ee_int)) fun _ =>
      ew_or1 (et_neI (ee_lenSetS g3 g4 (ee_var 0 rfl p1) ha hnd (by omega) rfl) (ee_len g3 rfl (ee_var 0 rfl p1) (fun x hx => by cases hx; exact hz))))).is ?_) s fun S1 H1 g => ?_
    · have e1 : ((1 : Int) ≤ (z.length : Int)) := by have : z.length = z.cps.size := rfl; omega
      have e2 : ((z.length : Int) ≤ 3) := by have : z.length = z.cps.size := rfl; omega
      have e3 : ((z.cps.size : Nat) : Int) = (z.length : Int) := rfl
      simp [isDs, e1, e2, e3]
    · refine hs_for (fun i σ S2 => ∃ a, σ = [some (.str z), a]) PassesOwn.never rfl (ei_str (ee_var 0 rfl (p1.up g.st))) g.sub (fun S2 H2 g3 => ⟨none, by cases p1; rfl⟩) ?_ ?_
      · rintro i Pi σ1 S2 H2 x S3 H3 hP g3 ⟨a, rfl⟩ g4 px
        have hi : i < z.cps.toList.length := by
          have := (List.getElem?_eq_some_iff.mp hP).1
          rw [ds_len] at this; unfold strD at this; simpa using this
        have hzi : (strD z)[i]? = some (.str ⟨#[z.cps.toList[i]]⟩) := by unfold strD; rw [List.getElem?_map, List.getElem?_eq_getElem hi]; rfl
        rw [ds_get hzi] at hP
        obtain rfl := Option.some.inj hP
        refine (eg_name (i := 1) sc_check_columns.nd rfl (Or.inl rfl)) H3 g4.sub _ ?_
        have hm := abc_mem (hc _ (List.getElem_mem hi))
        refine hs_ifN ((et_notInC (ee_var 1 rfl px) ee_str).is ?_) g4.sub fun S4 H4 g5 => hs_nil ?_
        · rw [decide_eq_true hm]; rfl
        · exact ⟨S4, g5, _, rfl⟩
      · rintro σ1 S2 H2 g3 ⟨a, rfl⟩
        exact hs_nil (q _ _ _ (g.trans g3) .non)
def Fsch_isExp (C : Addr) : (V → Hp → Prop) → List PyData → PyData → Prop := fun P0 ds d => ∃ x w, WidP C w P0 ∧ ds = [x] ∧ d = .bool (isExp x w)
theorem sc_Sis_exponent : FnScope ["self", "value"] ["self", "value"] (defScope sSchema__is_exponent) := ⟨rfl, rfl, rfl, by decide +kernel, rfl, by decide +kernel, by decide +kernel⟩
theorem ok_Sis_exponent {C : Addr} (F : FnM K "is_exponent" "Schema.is_exponent" sSchema__is_exponent f fd) (D1 : KD P w K mg base "is_exponent_schemas" 2 (spD K FisExp)) (c : Cls K C) (n1 : NoAttr K C "width") : FnOk P w K mg base CX0 3 f fd ["self", "value"] (spO K (Fsch_isExp C)) := by
  refine fn_hs F sc_Sis_exponent (fun vs H Q E h => ?_) (fun cdv A outer sh H vs Q E hr h => ?_)
  · obtain ⟨S, P0, v, ws, ds, d, rfl, _, _, _, hd, ⟨_, _, _, rfl, _⟩, _⟩ := h
    have := hd.1
    simp at this
    simp [this]
  · obtain ⟨S, P0, v, ws, ds, d, rfl, s, m, pv, hd, ⟨x, w', hw, rfl, rfl⟩, q⟩ := h
    obtain ⟨u, rfl, pu⟩ := hd.one
    haveI := m
    exact hs_ret (ee_callD D1 hr ⟨x, w', rfl, rfl⟩ (ea_2 (ee_var 1 rfl pu) (ee_fld (P := Dt K (.int w')) (ee_var 0 rfl pv) (fun v S1 h => by
      obtain ⟨a, dx, fs, e, h1, h2⟩ := hw v S1 h
      exact ⟨a, dx, fs, .int w', e, h1, h2, .int w'⟩) c n1))) s q
theorem SchP.cfld {K : PySem.W.Frag} {C : Addr} {z : Str} {ps : Rules} : ∀ v S1, SchP K C z ps v S1 → ∃ a dx fs u, v = .ref a ∧ S1 a = some (.ins C dx fs) ∧ fs.lookup ("columns" : Str) = some u ∧ Dt K (.str z) u S1 := fun v S ⟨l, a, dx, xs, e, h, _⟩ => ⟨a, dx, _, _, e, h, rfl, .str _⟩
theorem SchP.ffld {K : PySem.W.Frag} {C : Addr} {z : Str} {ps : Rules} : ∀ v S1, SchP K C z ps v S1 → ∃ a dx fs u, v = .ref a ∧ S1 a = some (.ins C dx fs) ∧ fs.lookup ("_facts" : Str) = some u ∧ Dt K (.list (ps.map ruleD)) u S1 := fun v S ⟨l, a, dx, xs, e, h, h2, h3, h4⟩ => ⟨a, dx, _, _, e, h, rfl, Dt.lst_mk h2 h3 h4⟩
inductive TD : PyData → Prop
  | int (i : Int) : TD (.int i)
  | tup {ds : List PyData} : (∀ d ∈ ds, TD d) → TD (.tuple ds)
theorem td_ints (l : List Int) : TD (.tuple (l.map .int)) := .tup fun d hd => by
  obtain ⟨i, _, rfl⟩ := List.mem_map.mp hd
  exact .int i
theorem td_rule (p : List Int × List Int) : TD (ruleD p) := .tup (ds := [tI p.1, tI p.2]) fun d hd => by
  rcases List.mem_cons.mp hd with rfl | hd
  · exact td_ints _
  · obtain rfl := List.mem_singleton.mp hd
    exact td_ints _
/-- data of tuples and ints stand where the tuples stand -/
theorem td_keep {K : PySem.W.Frag} {S S' : Hp} (k : ∀ b ys, TuS K S b ys → TuS K S' b ys) {d : PyData} (t : TD d) : ∀ {v : V}, Dt K d v S → Dt K d v S' := by
  induction t with
  | int i => intro v h; obtain rfl := h.int_inv; exact .int i
  | tup _ ih =>
    intro v h
    obtain ⟨a, xs, rfl, ht, hx, z⟩ := h.tup_invS
    exact Dt.tup_mk (k _ _ ht) ⟨hx.1, fun i x d hi hd => ih d (List.mem_of_getElem? hd) (hx.2 i x d hi hd)⟩ z
theorem tds_keep {K : PySem.W.Frag} {S S' : Hp} (k : ∀ b ys, TuS K S b ys → TuS K S' b ys) {ds : List PyData} (t : ∀ d ∈ ds, TD d) {xs : List V} (h : Dts K ds xs S) : Dts K ds xs S' :=
  ⟨h.1, fun i x d hi hd => td_keep k (t d (List.mem_of_getElem? hd)) (h.2 i x d hi hd)⟩
theorem rules_keep {K : PySem.W.Frag} {S S' : Hp} {ps : Rules} {xs : List V} (k : ∀ b ys, TuS K S b ys → TuS K S' b ys) (h : Dts K (ps.map ruleD) xs S) : Dts K (ps.map ruleD) xs S' :=
  tds_keep k (fun d hd => by obtain ⟨p, _, rfl⟩ := List.mem_map.mp hd; exact td_rule p) h
theorem sqt_put0 {K : PySem.W.Frag} {S : Hp} {a : Addr} {o u : HO} (h : S a = some o) (n1 : ∀ xs, o ≠ .tup xs) (n2 : ∀ x y, o ≠ .frz x y) : ∀ b ys, SqT K S b ys → SqT K (upd S a u) b ys := fun b ys q => by
  rcases q with (q | ⟨w, q⟩) | q
  · exact .inl (.inl (by rw [upd_ne (fun z => by subst z; rw [h] at q; cases q; exact n1 _ rfl)]; exact q))
  · exact .inl (.inr ⟨w, by rw [upd_ne (fun z => by subst z; rw [h] at q; cases q; exact n2 _ _ rfl)]; exact q⟩)
  · exact .inr q
theorem sqt_put {K : PySem.W.Frag} {S : Hp} {a : Addr} {o u : HO} (h : S a = some o) (n1 : ∀ xs, o ≠ .tup xs) (n2 : ∀ x y, o ≠ .frz x y) : ∀ b ys, TuS K S b ys → TuS K (upd S a u) b ys := fun b ys q => by
  rcases q with q | ⟨e, q⟩
  · exact .inl (by rw [upd_ne (fun z => by subst z; rw [h] at q; cases q; exact n1 _ rfl)]; exact q)
  · exact .inr ⟨e, sqt_put0 h n1 n2 _ _ q⟩
def Finit (K : PySem.W.Frag) (C : Addr) : List PyData → (Addr → V → Hp → Prop) → Prop := fun ds R => ∃ z d ps, ds = [.str z, d] ∧ (d = .list (ps.map ruleD) ∨ d = .tuple (ps.map ruleD)) ∧ SchOk z ps ∧ R = SchL K C z ps
theorem sc_Sinit : FnScope ["self", "columns", "facts", "at", "fact"] ["self", "columns", "facts"] (defScope sSchema____init__) := ⟨rfl, rfl, rfl, by decide +kernel, rfl, by decide +kernel, by decide +kernel⟩
theorem exp_rule {n : Nat} {l : List Int} (h1 : l.length = n) (h2 : ∀ x ∈ l, 0 ≤ x ∧ x ≤ 6) : isExp (tI l) n = true := by
  show (decide (((l.map PyData.int).length : Int) = n) && (l.map PyData.int).all fun x => isNum x 0 && leNum x 6) = true
  rw [List.length_map, h1, List.all_map, Bool.and_eq_true]
  refine ⟨by simp, ?_⟩
  rw [List.all_eq_true]
  intro x hx
  show (decide (0 ≤ x) && decide (x ≤ 6)) = true
  rw [Bool.and_eq_true, decide_eq_true_eq, decide_eq_true_eq]
  exact h2 x hx
/-- C.f, a constant of the class -/
theorem ee_cval {X : Cx} {σ : L2.St} {S : Hp} {x f : Str} {p pos : Pos} {C : Addr} {mc : Value} {v : V} {u : Value} {P : V → Hp → Prop} (hm : X.mg x = some (.ref C)) (r : ClX.CRead X.K C mc) (k : ClX.CVal X.K C mc f v u) (h : ∀ S1, P v S1) (hg : Gl X x := by rfl) (hd : (x == ("__debug__" : Str)) = false := by decide) (hb : attributeBase (.Name x p) f X.env (eval (.Name x p) X.env) = eval (.Name x p) X.env := by rfl) : EE X σ S (.Attribute (.Name x p) f pos) P := fun H s Q q =>
  he_of (ClX.pe_cval (pe_glob hg hm (v := .ref C) rfl hd) hb) ⟨C, mc, v, u, rfl, r, k, q v S H (Gr.refl s) (h S)⟩
theorem enum_get {ds : List PyData} {i : Nat} {d : PyData} (h : ds[i]? = some d) : (enumD ds)[i]? = some (.tuple [.int i, d]) := by
  unfold enumD
  have hi := (List.getElem?_eq_some_iff.mp h).1
  exact zipD_get (upto_get hi) h
theorem enum_len {K : PySem.W.Frag} {ds : List PyData} : (Ds K (enumD ds)).length = ds.length := by
  rw [ds_len]; unfold enumD zipD; rw [List.length_zipWith, upto_len]; omega
theorem ok_Sinit {C : Addr} {mc : Value} {dvs : List V} {t : Tok} (F : FunD K "__init__" "Schema.__init__" (defArgs sSchema____init__) (defBody sSchema____init__) (defScope sSchema____init__) dvs [] f fd) (D1 : KD P w K mg base "check_columns" 1 (spD K FchkC)) (D2 : KM P w K mg base C "is_exponent" 3 (spO K (Fsch_isExp C))) (c : Cls K C)
    (n1 : NoAttr K C "columns") (n2 : NoAttr K C "width") (n3 : NoAttr K C "_facts") (gS : mg "Schema" = some (.ref C)) (cr : ClX.CRead K C mc) (cv : ClX.CVal K C mc "MOST" (.int 4) (.int 4 t)) (g1 : mg "len" = none) (g2 : mg "isinstance" = none) (g3 : mg "list" = none) (g4 : mg "tuple" = none) (g5 : mg "enumerate" = none) :
    FnOk P w K mg base CX0 4 f fd ["self", "columns", "facts"] (spI C K (Finit K C)) := by
  refine fn_hs F sc_Sinit (fun vs H Q E h => ?_) (fun cdv A outer sh H vs Q E hr h => ?_)
  · obtain ⟨S, a, dx, ws, ds, R, rfl, _, _, _, hd, ⟨_, _, _, rfl, _⟩, _⟩ := h
    have := hd.1
    simp at this
    simp [this]
  · obtain ⟨S, a, dx, ws, ds, R, rfl, s, hSa, hHa, hd, ⟨z, d, ps, rfl, hdd, ho, rfl⟩, q⟩ := h
    obtain ⟨vc, vf, rfl, p1, p2⟩ := hd.two
    obtain rfl := p1.str_inv
    have h3 := ho.1.2.2.2.1
    have i0 := GrI.start (o := .ins C dx []) s hSa hHa
    refine hs_expr (ee_callD D1 (hr.mono (by decide)) ⟨z, rfl, rfl, ho.1⟩ (ea_1 (ee_var 1 rfl (.str z)))) i0.sub fun _ S1 H1 g6 _ => ?_
    have i1 := i0.step g6
    have a1 : S1 a = some (.ins C dx []) := g6.st _ _ upd_same
    refine hs_fld (P := Dt K (.str z)) (r := a) (C := C) (dx := dx) (fs := []) (ee_var 1 rfl (.str z)) i1.sub (fun S2 _ => ee_var 0 rfl rfl) (i1.sub _ _ a1) c n1 (by decide) fun v S2 H2 g7 pv e2 => ?_
    obtain rfl := pv.str_inv
    have i2 := (i1.step g7).put (o := .ins C dx [("columns", .str z)]) hSa
    refine hs_fld (P := Dt K (.int (z.length : Nat))) (r := a) (C := C) (dx := dx) (fs := [("columns", .str z)]) (ee_len g1 rfl (ee_var 1 rfl (.str z)) (fun x hx => by cases hx; exact Nat.le_trans h3 (by show 3 ≤ 16777216; decide))) i2.sub (fun S3 _ => ee_var 0 rfl rfl) upd_same c n2 (show 1 < 1000 by decide) fun v S3 H3 g8 pv e3 => ?_
    obtain rfl := pv.int_inv
    have i3 := (i2.step g8).put (o := .ins C dx [("columns", .str z), ("width", .int (z.length : Nat))]) hSa
    have eH3 : upd H3 a (.ins C dx (putF "width" (.int (z.length : Nat)) [("columns", .str z)])) = upd H3 a (.ins C dx [("columns", .str z), ("width", .int (z.length : Nat))]) := rfl
    rw [eH3]
    have p23 : Dt K d vf (upd S3 a (.ins C dx [("columns", .str z), ("width", .int (z.length : Nat))])) := p2.up i3.st
    generalize hS4 : upd S3 a (.ins C dx [("columns", .str z), ("width", .int (z.length : Nat))]) = S4 at i3 p23
    have a4 : S4 a = some (.ins C dx [("columns", .str z), ("width", .int (z.length : Nat))]) := by rw [← hS4]; exact upd_same
    generalize upd H3 a (.ins C dx [("columns", .str z), ("width", .int (z.length : Nat))]) = H4 at i3
    have hlt : (isD d "list" || isD d "tuple") = true := by rcases hdd with rfl | rfl <;> rfl
    refine hs_ifN ((et_not (et_val (ee_isiLT rfl g2 g3 g4 (ee_var 2 rfl p23)))).is (by rw [hlt]; rfl)) i3.sub fun S5 H5 g9 => ?_
    have i5 := i3.step g9
    have a5 := g9.st _ _ a4
    have p25 := p23.up g9.st
    have hps : ps.length ≤ sizeLine := Nat.le_trans ho.2.1 (by show 4 ≤ 16777216; decide)
    let SP : V → Hp → Prop := fun v S => v = .ref a ∧ S a = some (.ins C dx [("columns", .str z), ("width", .int (z.length : Nat))])
    haveI mSP : Mn SP := ⟨fun s ⟨e, h⟩ => ⟨e, s _ _ h⟩⟩
    have hSPw : WidP C (z.length : Nat) SP := fun v S ⟨e, h⟩ => ⟨a, dx, _, e, h, rfl⟩
    have hSPi : InsP C "is_exponent" SP := fun v S ⟨e, h⟩ => ⟨a, dx, _, e, h, rfl⟩
    refine hs_for (Ps := Ds K (enumD (ps.map ruleD))) (fun i σ S2 => ∃ x y, σ = [some (.ref a), some (.str z), some vf, x, y]) PassesOwn.never rfl (by
      rcases hdd with rfl | rfl
      · exact ei_enumL g5 (ee_var 2 rfl p25)
      · exact ei_enumT g5 (ee_var 2 rfl p25)) i5.sub (fun S2 H2 g3 => ⟨none, none, rfl⟩) ?_ ?_
    · rintro i Pi σ1 S6 H6 x S7 H7 hP g10 ⟨y, y', rfl⟩ g11 px
      have hi : i < ps.length := by
        have := (List.getElem?_eq_some_iff.mp hP).1
        rw [enum_len, List.length_map] at this; exact this
      have hz : (ps.map ruleD)[i]? = some (ruleD ps[i]) := by rw [List.getElem?_map, List.getElem?_eq_getElem hi]; rfl
      rw [ds_get (enum_get hz)] at hP
      obtain rfl := Option.some.inj hP
      have hro := ho.2.2 ps[i] (List.getElem_mem hi)
      obtain ⟨u1, u2, k1, k2, hg⟩ := eg_pair (σ := [some (.ref a), some (.str z), some vf, y, y']) (i := 3) (j := 4) (x := "at") (y := "fact") (kk := _) (px := _) (py := _) (pos := _) (X := (cxOf CX0 P w K mg base ["self", "columns", "facts", "at", "fact"] "Schema.__init__" (defScope sSchema____init__) f cdv A outer sh H E).nox) rfl sc_Sinit.nd rfl rfl (Or.inl rfl) (Or.inl rfl) px
      refine hg H7 g11.sub _ ?_
      have a7 := g11.st _ _ (g10.st _ _ a5)
      refine hs_ifN ((et_w (ew_or (et_not (et_val (ee_isi (isD_ok (ruleD ps[i]) (T := "tuple") (by simp)) g2 g4 boot_tuple (ee_var 4 rfl k2)))) fun _ => ew_or1 (et_neI (ee_len g1 (d := ruleD ps[i]) (n := 2) rfl (ee_var 4 rfl k2)) ee_int))).is (by rfl)) g11.sub fun S8 H8 g12 => ?_
      have k8 := k2.up g12.st
      have a8 : SP (.ref a) S8 := ⟨rfl, g12.st _ _ a7⟩
      refine hs_ifN ((et_w (ew_or (et_not (et_val ((ee_meth D2 c (hr.mono (by decide)) (ee_var (P := SP) 0 rfl a8) hSPi (ea_1 (ee_ixT (ds := [tI ps[i].1, tI ps[i].2]) (d := tI ps[i].1) rfl (ee_var 4 rfl k8) ee_int)) (spO_E (F := Fsch_isExp C) (P0 := SP) (ds := [tI ps[i].1]) (d := .bool (isExp (tI ps[i].1) (z.length : Nat))) ⟨_, _, hSPw, rfl, rfl⟩))))) fun _ =>
        ew_or1 (et_not (et_val ((ee_meth D2 c (hr.mono (by decide)) (ee_var (P := SP) 0 rfl a8) hSPi (ea_1 (ee_ixT (ds := [tI ps[i].1, tI ps[i].2]) (d := tI ps[i].2) rfl (ee_var 4 rfl k8) ee_int)) (spO_E (F := Fsch_isExp C) (P0 := SP) (ds := [tI ps[i].2]) (d := .bool (isExp (tI ps[i].2) (z.length : Nat))) ⟨_, _, hSPw, rfl, rfl⟩))))))).is ?_) g12.sub fun S9 H9 g13 => hs_nil ?_
      · rw [exp_rule (n := z.length) hro.1.1 hro.1.2, exp_rule (n := z.length) hro.2.1 hro.2.2]; rfl
      · exact ⟨S9, g12.trans g13, _, _, rfl⟩
    · rintro σ1 S6 H6 g10 ⟨y, y', rfl⟩
      have i6 := i5.step g10
      have a6 := g10.st _ _ a5
      have p26 := p25.up g10.st
      have hlen : lenD d = some ps.length := by rcases hdd with rfl | rfl <;> (show some (ps.map ruleD).length = _; rw [List.length_map])
      refine hs_ifN ((et_gt (ee_len g1 hlen (ee_var 2 rfl p26) (fun x hx => by rcases hdd with rfl | rfl <;> cases hx)) (ee_cval (P := Dt K (.int 4)) gS cr cv (fun _ => .int 4))).is (by have := ho.2.1; rw [decide_eq_false (by omega)])) i6.sub fun S7 H7 g11 => ?_
      have i7 := i6.step g11
      have a7 := g11.st _ _ a6
      refine hs_fld (r := a) (C := C) (dx := dx) (fs := [("columns", .str z), ("width", .int (z.length : Nat))]) (ee_listN g3 hdd (ee_var 2 rfl (p26.up g11.st))) i7.sub (fun S3 _ => ee_var 0 rfl rfl) (i7.sub _ _ a7) c n3 (show 2 < 1000 by decide) fun v S8 H8 g12 pv e8 => hs_nil ?_
      obtain ⟨l, xs, rfl, h0, hl1, hx, hz⟩ := pv
      have a8 := g12.st _ _ a7
      have i8 := (i7.step g12).put (o := .ins C dx (schF z l)) hSa
      have lne : l ≠ a := fun e => by subst e; rw [a7] at h0; cases h0
      refine q l _ _ i8 (i7.st.free h0) ⟨a, dx, xs, rfl, upd_same, by rw [upd_ne lne]; exact hl1, rules_keep (sqt_put a8 (fun _ z => nomatch z) (fun _ _ z => nomatch z)) hx, hz⟩
/-- Schema is made: by two values, by one, by names -/
structure MkS (P : Program) (w : World) (K : PySem.W.Frag) (mg : Str → Option Value) (base : Heap) (C : Addr) : Prop where
  ex : ∃ fi fdi ps dv, Mk K C fi ∧ FnOk P w K mg base CX0 4 fi fdi ps (spI C K (Finit K C)) ∧ Binds K fdi ps [] ∧ (∃ us, Vals [dv] us ∧ Binds K fdi ps us) ∧ (∀ S, Dt K (.tuple []) dv S) ∧ ∃ g gV, KBn K fdi ps 1 ["facts", "columns"] g gV ∧ ∀ s v w, gV [s] [v, w] = [s, w, v]
section
variable {X : Cx} {σ : L2.St} {S : Hp} {C : Addr} {a b : Expr} {p pos q1 q2 : Pos} {z : Str} {d : PyData} {ps : Rules}
theorem ee_mk2 (M : MkS X.prog X.w X.K X.mg X.base C) (hr : Room 5 X.A) (gS : X.mg "Schema" = some (.ref C)) (ho : SchOk z ps) (hd : d = .list (ps.map ruleD) ∨ d = .tuple (ps.map ruleD)) (ha : EE X σ S a (Dt X.K (.str z))) (hb : EE X σ S b (Dt X.K d)) (hg : Gl X "Schema" := by rfl)
    (he : starEach [a, b] X.env = (false, eval a X.env) :: starEach [b] X.env := by rfl) (he2 : starEach [b] X.env = (false, eval b X.env) :: starEach [] X.env := by rfl) (hpl : (backTo pos (starEach [b] X.env)).any (·.1) = false := by rfl) : EE X σ S (.Call (.Name "Schema" p) [a, b] [] pos) (NewR (SchL X.K C z ps) S) := by
  obtain ⟨fi, fdi, ps', dv, m, G, b3, _, _, _⟩ := M.ex
  exact ee_make (ds := [.str z, d]) (dd := []) m G hr gS b3 .nil (fun _ => .nil) (ea_2 ha hb he he2) ⟨z, d, ps, rfl, hd, ho, rfl⟩ hg (by decide) he hpl
theorem ee_mk1 (M : MkS X.prog X.w X.K X.mg X.base C) (hr : Room 5 X.A) (gS : X.mg "Schema" = some (.ref C)) (ho : ColOk z) (ha : EE X σ S a (Dt X.K (.str z))) (hg : Gl X "Schema" := by rfl)
    (he : starEach [a] X.env = (false, eval a X.env) :: starEach [] X.env := by rfl) (hpl : (backTo pos (starEach [] X.env)).any (·.1) = false := by rfl) : EE X σ S (.Call (.Name "Schema" p) [a] [] pos) (NewR (SchL X.K C z []) S) := by
  obtain ⟨fi, fdi, ps', dv, m, G, _, ⟨us, hu, b2⟩, hdv, _⟩ := M.ex
  exact ee_make (ds := [.str z]) (dd := [.tuple []]) m G hr gS b2 hu (fun S => Dts.cons (hdv S) .nil) (ea_1 ha he) ⟨z, .tuple [], [], rfl, .inr rfl, ⟨ho, by simp, fun p hp => nomatch hp⟩, rfl⟩ hg (by decide) he hpl
end
theorem newR_sch {K : PySem.W.Frag} {C : Addr} {z : Str} {ps : Rules} {S S' : Hp} {v : V} (h : NewR (SchL K C z ps) S v S') : SchP K C z ps v S' := let ⟨l, _, h⟩ := h; ⟨l, h⟩
theorem sc_Swith : FnScope ["self", "facts", "at", "fact", "part"] ((["self"] : List Str) ++ (["facts"] : List Str)) (defScope sSchema__with_facts) := ⟨rfl, rfl, rfl, by decide +kernel, rfl, by decide +kernel, by decide +kernel⟩
end
end K08
namespace K08
open PySem PySem.Spec PyProof.Rows L2 Z Y
section
variable {P : Program} {w : World} {K : PySem.W.Frag} {mg : Str → Option Value} {base : Heap} {f : Addr} {fd : FuncData}
/-! ## check_columns refused -/
/-- what check_columns refuses -/
def BadC (d : PyData) : Prop := isD d "str" = false ∨ ∃ z, d = .str z ∧ z.cps.all (· < 128) = true ∧ z.cps.size ≤ 1000 ∧ ¬ (1 ≤ z.cps.size ∧ z.cps.size ≤ 3 ∧ (outG z.cps.toList []).length = z.cps.size ∧ ∀ c ∈ z.cps.toList, 97 ≤ c ∧ c ≤ 122)
def GchkC (k0 : EK) (K : PySem.W.Frag) : List V → Hp → EK → PyData → Prop := fun vs S k g => ∃ d, Dts K [d] vs S ∧ BadC d ∧ k = k0 ∧ g = d
theorem abc_inv {c : Nat} (h : c ∈ ("abcdefghijklmnopqrstuvwxyz" : Str).cps.toList) : 97 ≤ c ∧ c ≤ 122 := by
  have key : ∀ c ∈ ("abcdefghijklmnopqrstuvwxyz" : Str).cps.toList, 97 ≤ c ∧ c ≤ 122 := by decide +kernel
  exact key c h
theorem ok_chkCX {k0 : EK} (F : FnT K "check_columns" scheck_columns f fd) (R : Err P w K mg base "InvalidColumns" k0.C "given" k0.code) (hf : k0.fn = some "given") (g1 : mg "isinstance" = none) (g2 : mg "str" = none) (g3 : mg "len" = none) (g4 : mg "set" = none) : FnOk P w K mg base (L2.CX P w) 3 f fd ["columns"] (spX K (GchkC k0 K)) := by
  refine fn_hsX F sc_check_columns (fun vs H Q E h => ?_) (fun cdv A outer sh H vs Q E hr h tk => ?_)
  · obtain ⟨S, k, g, _, ⟨d, hd, _⟩, _⟩ := h
    exact hd.1
  · obtain ⟨S, k, g, s, ⟨d, hd, hw, rfl, rfl⟩, hx⟩ := h
    obtain ⟨v1, rfl, p1⟩ := hd.one
    rcases hw with h0 | ⟨z, rfl, ha, hl, hb⟩
    · refine hs_ifT ((et_w (ew_or (k2 := true) (et_not (et_val (ee_isi (isD_ok g (T := "str") (by simp)) g1 g2 boot_str (ee_var 0 rfl p1)))) fun h => ?_)).is (by simp)) s fun S1 H1 e1 => ?_
      · rw [h0] at h; cases h
      · exact hs_raise1 rfl tk R hf (by decide) (hr.mono (by decide)) (ee_var 0 rfl (p1.up e1.st)) e1.sub (hx.up e1)
    have hz : z.length ≤ sizeLine := Nat.le_trans hl (by show 1000 ≤ 16777216; decide)
    have hzl : z.length = z.cps.size := rfl
    have hif : ∀ b, b = !(decide (1 ≤ z.cps.size ∧ z.cps.size ≤ 3) && decide ((outG z.cps.toList []).length = z.cps.size)) → ET (cxOf (L2.CX P w) P w K mg base ["columns", "letter"] "check_columns" (defScope scheck_columns) f cdv A outer sh H E) [some v1, none] S (match defBody scheck_columns with | [.If c _ _ _, _] => c | _ => .Constant .none 0 ⟨0, 0, 0, 0⟩) b := fun b hb => by
      refine ET.is (et_w (ew_or (et_not (et_val (ee_isi (isD_ok (.str z) (T := "str") (by simp)) g1 g2 boot_str (ee_var 0 rfl p1)))) fun _ => ew_or (et_not (et_chainLE ee_int (ee_len g3 rfl (ee_var 0 rfl p1) (fun x hx => by cases hx; exact hz)) ee_int)) fun _ =>
        ew_or1 (et_neI (ee_lenSetD g3 g4 (ee_var 0 rfl p1) ha hl) (ee_len g3 rfl (ee_var 0 rfl p1) (fun x hx => by cases hx; exact hz))))) ?_
      rw [hb, isDs]
      have e3 : (1 : Int) ≤ (z.length : Int) ↔ 1 ≤ z.cps.size := by omega
      have e4 : (z.length : Int) ≤ 3 ↔ z.cps.size ≤ 3 := by omega
      have e5 : (((outG z.cps.toList []).length : Nat) : Int) = (z.length : Int) ↔ (outG z.cps.toList []).length = z.cps.size := by omega
      simp only [e3, e4, e5]
      by_cases h1 : 1 ≤ z.cps.size <;> by_cases h2 : z.cps.size ≤ 3 <;> by_cases h3 : (outG z.cps.toList []).length = z.cps.size <;> simp [h1, h2, h3]
    by_cases hgood : (decide (1 ≤ z.cps.size ∧ z.cps.size ≤ 3) && decide ((outG z.cps.toList []).length = z.cps.size)) = true
    · rw [Bool.and_eq_true, decide_eq_true_eq, decide_eq_true_eq] at hgood
      obtain ⟨⟨h1, h3⟩, h4⟩ := hgood
      refine hs_ifN (hif false (by simp [h1, h3, h4])) s fun S1 H1 e1 => ?_
      have hx1 := hx.up e1
      obtain rfl := p1.str_inv
      refine hs_for (fun i σ S2 => (∃ a, σ = [some (.str z), a]) ∧ ∀ j (hj : j < z.cps.toList.length), j < i → 97 ≤ z.cps.toList[j] ∧ z.cps.toList[j] ≤ 122) (passes_of rfl) rfl (ei_str (ee_var 0 rfl (p1.up e1.st))) e1.sub (fun S2 H2 g3 => ⟨⟨none, rfl⟩, fun j _ h => absurd h (Nat.not_lt_zero _)⟩) ?_ ?_
      · rintro i Pi σ1 S2 H2 x S3 H3 hP g3 ⟨⟨a, rfl⟩, hall⟩ g4 px
        have hi : i < z.cps.toList.length := by
          have := (List.getElem?_eq_some_iff.mp hP).1
          rw [ds_len] at this; unfold strD at this; simpa using this
        have hzi : (strD z)[i]? = some (.str ⟨#[z.cps.toList[i]]⟩) := by unfold strD; rw [List.getElem?_map, List.getElem?_eq_getElem hi]; rfl
        rw [ds_get hzi] at hP
        obtain rfl := Option.some.inj hP
        refine (eg_name (i := 1) sc_check_columns.nd rfl (Or.inl rfl)) H3 g4.sub _ ?_
        by_cases hm : 97 ≤ z.cps.toList[i] ∧ z.cps.toList[i] ≤ 122
        · refine hs_ifN ((et_notInC (ee_var 1 rfl px) ee_str).is ?_) g4.sub fun S4 H4 g5 => hs_nil ?_
          · rw [decide_eq_true (abc_mem hm)]; rfl
          · refine ⟨S4, g5, ⟨_, rfl⟩, fun j hj hji => ?_⟩
            rcases Nat.lt_or_ge j i with h | h
            · exact hall j hj h
            · obtain rfl : j = i := by omega
              exact hm
        · refine hs_ifT ((et_notInC (ee_var 1 rfl px) ee_str).is ?_) g4.sub fun S4 H4 g5 => ?_
          · rw [decide_eq_false (fun h => hm (abc_inv h))]; rfl
          · exact hs_raise1 rfl tk R hf (by decide) (hr.mono (by decide)) (ee_var 0 rfl (.str z)) g5.sub ((hx1.up g3).up (g4.trans g5))
      · rintro σ1 S2 H2 g3 ⟨⟨a, rfl⟩, hall⟩
        refine absurd ⟨h1, h3, h4, fun c hc => ?_⟩ hb
        obtain ⟨j, hj, rfl⟩ := List.mem_iff_getElem.mp hc
        refine hall j hj ?_
        show j < (Ds K (strD z)).length
        rw [ds_len]; unfold strD; rw [List.length_map]; exact hj
    · have hgood : (decide (1 ≤ z.cps.size ∧ z.cps.size ≤ 3) && decide ((outG z.cps.toList []).length = z.cps.size)) = false := by simpa using hgood
      refine hs_ifT (hif true (by rw [hgood]; rfl)) s fun S1 H1 e1 => ?_
      exact hs_raise1 rfl tk R hf (by decide) (hr.mono (by decide)) (ee_var 0 rfl (p1.up e1.st)) e1.sub (hx.up e1)
/-! ## __init__ that raises behind stores of its own -/
def XErrI (K : PySem.W.Frag) (k : EK) (g : PyData) (a : Addr) (S H : Hp) (E : XK) : Prop := ∀ T H', GrI a S H T H' → XErr K k g T H' E
def spXI2 (C : Addr) (K : PySem.W.Frag) (G : List V → Hp → EK → PyData → Prop) : Sp := fun vs H _ E => ∃ S a dx ws k g, vs = .ref a :: ws ∧ Same S H ∧ S a = none ∧ H a = some (.ins C dx []) ∧ G ws S k g ∧ XErrI K k g a S H E
theorem XErrI.of {K : PySem.W.Frag} {k : EK} {g : PyData} {a dx : Addr} {S H : Hp} {o o2 : HO} {E : XK} (h : XErr K k g S H E) (ha : H a = none) (hdx : H dx = none) (hne : dx ≠ a) : XErrI K k g a S (upd (upd H dx o) a o2) E := fun T H' i => by
  refine h.up ⟨i.st, i.sub, fun z u e => ?_, fun z u e m => ?_⟩
  · have n1 := ne_of_none e ha
    have n2 := ne_of_none e hdx
    exact i.hh z u n1 (by rw [upd_ne n1, upd_ne n2]; exact e)
  · have n1 := ne_of_none e ha
    have n2 := ne_of_none e hdx
    exact i.old z u n1 (by rw [upd_ne n1, upd_ne n2]; exact e) m
section
variable {X : Cx} {σ : L2.St} {S S' H : Hp} {e : Expr} {es : List Expr} {R : V → Hp → Prop} {Ps : List (V → Hp → Prop)} {pos p : Pos} {k : Nat} {x : Str} {C : Addr} {O : EK → PyData → Prop} {E : XK}
theorem er_make2 {f : Addr} {fd : FuncData} {ps : List Str} {us : List Value} {dvs : List V} {G : List V → Hp → EK → PyData → Prop} (tk : Takes X (fun cls d _ H => E cls d H)) (M : Mk X.K C f) (F : FnOk X.prog X.w X.K X.mg X.base (L2.CX X.prog X.w) k f fd ps (spXI2 C X.K G)) (hr : Room (k + 1) X.A) (hm : X.mg x = some (.ref C)) (hb : Binds X.K fd ps us) (hd : Vals dvs us) (ha : EA X σ S (e :: es) Ps)
    (hG : ∀ ws S1, Same S S1 → Al Ps ws S1 → ∃ k g, G (ws ++ dvs) S1 k g ∧ O k g) (hg : Gl X x := by rfl) (hdb : (x == ("__debug__" : Str)) = false := by decide) (he : starEach (e :: es) X.env = (false, eval e X.env) :: starEach es X.env := by rfl) (hpl : (backTo pos (starEach es X.env)).any (·.1) = false := by rfl) : ER X E σ S (.Call (.Name x p) (e :: es) [] pos) R O := fun H s hx Q q =>
  he_of (pe_make M F hr hg hm hb hd (passes_call tk fun _ _ _ _ h => h) pab hdb he hpl) (ha.2 H s _ fun vs S1 H1 g1 al a dx h1 h2 h3 => by
    obtain ⟨k, g, hk, ho⟩ := hG vs S1 g1.st al
    have hst : Same H1 (upd (upd H1 dx (.own a)) a (.ins C dx [])) := (Same.new h2).trans (Same.new (by rw [upd_ne h3.symm]; exact h1))
    exact ⟨S1, a, dx, vs ++ dvs, k, g, rfl, g1.sub.trans hst, g1.sub.free h1, upd_same, hk, XErrI.of ((hx k g ho).up g1) h1 h2 h3⟩)
end
/-! ## schemas refused -/
def LT (d : PyData) (ds : List PyData) : Prop := d = .list ds ∨ d = .tuple ds
def isRule (n : Nat) (d : PyData) : Bool := match d with
  | .tuple [a, b] => isExp a (n : Nat) && isExp b (n : Nat)
  | _ => false
def RulesOk (n : Nat) (ps : Rules) : Prop := ∀ p ∈ ps, RuleOk n p
/-- what Schema(d1, d2) raises -/
def BadS (kC kF kT : EK) (d1 d2 : PyData) (k : EK) (g : PyData) : Prop := (BadC d1 ∧ k = kC ∧ g = d1) ∨ ∃ z, d1 = .str z ∧ ColOk z ∧
  (((isD d2 "list" || isD d2 "tuple") = false ∧ k = kF ∧ g = .int (-1)) ∨ (∃ ps bad rest, LT d2 (ps.map ruleD ++ bad :: rest) ∧ ps.length ≤ 1000 ∧ RulesOk z.cps.size ps ∧ isRule z.cps.size bad = false ∧ k = kF ∧ g = .int (ps.length : Nat)) ∨ ∃ ps, LT d2 (ps.map ruleD) ∧ ps.length ≤ 1000 ∧ RulesOk z.cps.size ps ∧ 4 < ps.length ∧ k = kT ∧ g = .int 4)
def GS (kC kF kT : EK) (K : PySem.W.Frag) : List V → Hp → EK → PyData → Prop := fun ws S k g => ∃ d1 d2, Dts K [d1, d2] ws S ∧ BadS kC kF kT d1 d2 k g
theorem take_mapR {ps : Rules} {bad : PyData} {rest : List PyData} {i : Nat} (h : i < ps.length) : (ps.map ruleD ++ bad :: rest)[i]? = some (ruleD ps[i]) := by
  rw [List.getElem?_append_left (by rw [List.length_map]; exact h), List.getElem?_map, List.getElem?_eq_getElem h]; rfl
theorem at_badR {ps : Rules} {bad : PyData} {rest : List PyData} : (ps.map ruleD ++ bad :: rest)[ps.length]? = some bad := by
  rw [List.getElem?_append_right (by rw [List.length_map]; exact Nat.le_refl _), List.length_map, Nat.sub_self]; rfl
theorem ok_SinitX {C : Addr} {mc : Value} {t : Tok} {dvs : List V} {kC kF kT : EK} (F : FunD K "__init__" "Schema.__init__" (defArgs sSchema____init__) (defBody sSchema____init__) (defScope sSchema____init__) dvs [] f fd) (D1 : KD P w K mg base "check_columns" 1 (spD K FchkC)) (DX : KDX P w K mg base "check_columns" 3 (spX K (GchkC kC K))) (D2 : KM P w K mg base C "is_exponent" 3 (spO K (Fsch_isExp C))) (c : Cls K C)
    (RF : Err P w K mg base "InvalidFact" kF.C "at" kF.code) (hF : kF.fn = some "at") (RT : Err P w K mg base "TooMany" kT.C "most" kT.code) (hT0 : kT.fn = some "most")
    (n1 : NoAttr K C "columns") (n2 : NoAttr K C "width") (gS : mg "Schema" = some (.ref C)) (cr : ClX.CRead K C mc) (cv : ClX.CVal K C mc "MOST" (.int 4) (.int 4 t)) (g1 : mg "len" = none) (g2 : mg "isinstance" = none) (g3 : mg "list" = none) (g4 : mg "tuple" = none) (g5 : mg "enumerate" = none) :
    FnOk P w K mg base (L2.CX P w) 4 f fd ["self", "columns", "facts"] (spXI2 C K (GS kC kF kT K)) := by
  refine fn_hsX F sc_Sinit (fun vs H Q E h => ?_) (fun cdv A outer sh H vs Q E hr h tk => ?_)
  · obtain ⟨S, a, dx, ws, k, g, rfl, _, _, _, ⟨_, _, hd, _⟩, _⟩ := h
    have := hd.1
    simp at this
    simp [this]
  · obtain ⟨S, a, dx, ws, k, g, rfl, s, hSa, hHa, ⟨d1, d, hd, hb⟩, hx⟩ := h
    obtain ⟨vc, vf, rfl, p1, p2⟩ := hd.two
    have i0 := GrI.start (o := .ins C dx []) s hSa hHa
    rcases hb with ⟨hw, rfl, rfl⟩ | ⟨z, rfl, hcol, hb⟩
    · refine hs_exprX (er_call (P := NoP) (O := O1 k g) tk DX hr (ea_1 (ee_var 1 rfl (p1.up i0.st))) (spX_O fun vs S1 s1 al => ?_)) i0.sub (fun k' g' h => by obtain ⟨rfl, rfl⟩ := h; exact hx _ _ i0) fun _ _ _ _ z => z.elim
      exact ⟨k, g, ⟨g, al_dts (ds := [g]) al, hw, rfl, rfl⟩, rfl, rfl⟩
    obtain rfl := p1.str_inv
    have h3 := hcol.2.2.2.1
    refine hs_expr (ee_callD D1 (hr.mono (by decide)) ⟨z, rfl, rfl, hcol⟩ (ea_1 (ee_var 1 rfl (.str z)))) i0.sub fun _ S1 H1 g6 _ => ?_
    have i1 := i0.step g6
    have a1 : S1 a = some (.ins C dx []) := g6.st _ _ upd_same
    refine hs_fld (P := Dt K (.str z)) (r := a) (C := C) (dx := dx) (fs := []) (ee_var 1 rfl (.str z)) i1.sub (fun S2 _ => ee_var 0 rfl rfl) (i1.sub _ _ a1) c n1 (by decide) fun v S2 H2 g7 pv e2 => ?_
    obtain rfl := pv.str_inv
    have i2 := (i1.step g7).put (o := .ins C dx [("columns", .str z)]) hSa
    refine hs_fld (P := Dt K (.int (z.length : Nat))) (r := a) (C := C) (dx := dx) (fs := [("columns", .str z)]) (ee_len g1 rfl (ee_var 1 rfl (.str z)) (fun x hx => by cases hx; exact Nat.le_trans h3 (by show 3 ≤ 16777216; decide))) i2.sub (fun S3 _ => ee_var 0 rfl rfl) upd_same c n2 (show 1 < 1000 by decide) fun v S3 H3 g8 pv e3 => ?_
    obtain rfl := pv.int_inv
    have i3 := (i2.step g8).put (o := .ins C dx [("columns", .str z), ("width", .int (z.length : Nat))]) hSa
    have eH3 : upd H3 a (.ins C dx (putF "width" (.int (z.length : Nat)) [("columns", .str z)])) = upd H3 a (.ins C dx [("columns", .str z), ("width", .int (z.length : Nat))]) := rfl
    rw [eH3]
    have p23 : Dt K d vf (upd S3 a (.ins C dx [("columns", .str z), ("width", .int (z.length : Nat))])) := p2.up i3.st
    generalize hS4 : upd S3 a (.ins C dx [("columns", .str z), ("width", .int (z.length : Nat))]) = S4 at i3 p23
    have a4 : S4 a = some (.ins C dx [("columns", .str z), ("width", .int (z.length : Nat))]) := by rw [← hS4]; exact upd_same
    generalize upd H3 a (.ins C dx [("columns", .str z), ("width", .int (z.length : Nat))]) = H4 at i3
    rcases hb with ⟨hlt, rfl, rfl⟩ | hb
    · refine hs_ifT ((et_not (et_val (ee_isiLT rfl g2 g3 g4 (ee_var 2 rfl p23)))).is (by rw [hlt]; rfl)) i3.sub fun S5 H5 g9 => ?_
      exact hs_raise1 rfl tk RF hF (by decide) (hr.mono (by decide)) (ee_neg ee_int) g9.sub (hx _ _ (i3.step g9))
    obtain ⟨ds, hLT, ps, hpl, hpo, hpre, hend⟩ : ∃ ds, LT d ds ∧ ∃ ps : Rules, ps.length ≤ 1000 ∧ RulesOk z.cps.size ps ∧ (∀ i (h : i < ps.length), ds[i]? = some (ruleD ps[i])) ∧ ((∃ bad, ds[ps.length]? = some bad ∧ isRule z.cps.size bad = false ∧ k = kF ∧ g = .int (ps.length : Nat)) ∨ (ds.length = ps.length ∧ 4 < ps.length ∧ k = kT ∧ g = .int 4)) := by
      rcases hb with ⟨ps, bad, rest, h0, h1, h2, h3, h4, h5⟩ | ⟨ps, h0, h1, h2, h3, h4, h5⟩
      · exact ⟨_, h0, ps, h1, h2, fun i h => take_mapR h, .inl ⟨bad, at_badR, h3, h4, h5⟩⟩
      · exact ⟨_, h0, ps, h1, h2, fun i h => by rw [List.getElem?_map, List.getElem?_eq_getElem h]; rfl, .inr ⟨List.length_map _, h3, h4, h5⟩⟩
    have hlt : (isD d "list" || isD d "tuple") = true := by rcases hLT with rfl | rfl <;> rfl
    refine hs_ifN ((et_not (et_val (ee_isiLT rfl g2 g3 g4 (ee_var 2 rfl p23)))).is (by rw [hlt]; rfl)) i3.sub fun S5 H5 g9 => ?_
    have i5 := i3.step g9
    have a5 := g9.st _ _ a4
    have p25 := p23.up g9.st
    let SP : V → Hp → Prop := fun v S => v = .ref a ∧ S a = some (.ins C dx [("columns", .str z), ("width", .int (z.length : Nat))])
    haveI mSP : Mn SP := ⟨fun s ⟨e, h⟩ => ⟨e, s _ _ h⟩⟩
    have hSPw : WidP C (z.length : Nat) SP := fun v S ⟨e, h⟩ => ⟨a, dx, _, e, h, rfl⟩
    have hSPi : InsP C "is_exponent" SP := fun v S ⟨e, h⟩ => ⟨a, dx, _, e, h, rfl⟩
    refine hs_for (Ps := Ds K (enumD ds)) (fun i σ S2 => i ≤ ps.length ∧ ∃ x y, σ = [some (.ref a), some (.str z), some vf, x, y]) (passes_of rfl) rfl (by
      rcases hLT with rfl | rfl
      · exact ei_enumL g5 (ee_var 2 rfl p25)
      · exact ei_enumT g5 (ee_var 2 rfl p25)) i5.sub (fun S2 H2 g3 => ⟨Nat.zero_le _, none, none, rfl⟩) ?_ ?_
    · rintro i Pi σ1 S6 H6 x S7 H7 hP g10 ⟨hle, y, y', rfl⟩ g11 px
      have a7 := g11.st _ _ (g10.st _ _ a5)
      have i7 := (i5.step g10).step g11
      rcases Nat.lt_or_ge i ps.length with hi | hi
      · rw [ds_get (enum_get (hpre i hi))] at hP
        obtain rfl := Option.some.inj hP
        have hro := hpo ps[i] (List.getElem_mem hi)
        obtain ⟨u1, u2, k1, k2, hg⟩ := eg_pair (σ := [some (.ref a), some (.str z), some vf, y, y']) (i := 3) (j := 4) (x := "at") (y := "fact") (kk := _) (px := _) (py := _) (pos := _) (X := cxOf (L2.CX P w) P w K mg base ["self", "columns", "facts", "at", "fact"] "Schema.__init__" (defScope sSchema____init__) f cdv A outer sh H E) rfl sc_Sinit.nd rfl rfl (Or.inl rfl) (Or.inl rfl) px
        refine hg H7 g11.sub _ ?_
        refine hs_ifN ((et_w (ew_or (et_not (et_val (ee_isi (isD_ok (ruleD ps[i]) (T := "tuple") (by simp)) g2 g4 boot_tuple (ee_var 4 rfl k2)))) fun _ => ew_or1 (et_neI (ee_len g1 (d := ruleD ps[i]) (n := 2) rfl (ee_var 4 rfl k2)) ee_int))).is (by rfl)) g11.sub fun S8 H8 g12 => ?_
        have k8 := k2.up g12.st
        have a8 : SP (.ref a) S8 := ⟨rfl, g12.st _ _ a7⟩
        refine hs_ifN ((et_w (ew_or (et_not (et_val ((ee_meth D2 c (hr.mono (by decide)) (ee_var (P := SP) 0 rfl a8) hSPi (ea_1 (ee_ixT (ds := [tI ps[i].1, tI ps[i].2]) (d := tI ps[i].1) rfl (ee_var 4 rfl k8) ee_int)) (spO_E (F := Fsch_isExp C) (P0 := SP) (ds := [tI ps[i].1]) (d := .bool (isExp (tI ps[i].1) (z.length : Nat))) ⟨_, _, hSPw, rfl, rfl⟩))))) fun _ =>
          ew_or1 (et_not (et_val ((ee_meth D2 c (hr.mono (by decide)) (ee_var (P := SP) 0 rfl a8) hSPi (ea_1 (ee_ixT (ds := [tI ps[i].1, tI ps[i].2]) (d := tI ps[i].2) rfl (ee_var 4 rfl k8) ee_int)) (spO_E (F := Fsch_isExp C) (P0 := SP) (ds := [tI ps[i].2]) (d := .bool (isExp (tI ps[i].2) (z.length : Nat))) ⟨_, _, hSPw, rfl, rfl⟩))))))).is ?_) g12.sub fun S9 H9 g13 => hs_nil ?_
        · rw [exp_rule (n := z.length) hro.1.1 hro.1.2, exp_rule (n := z.length) hro.2.1 hro.2.2]; rfl
        · exact ⟨S9, g12.trans g13, hi, _, _, rfl⟩
      · obtain rfl : i = ps.length := by omega
        rcases hend with ⟨bad, hbad, hrule, rfl, rfl⟩ | ⟨hl, _⟩
        · rw [ds_get (enum_get hbad)] at hP
          obtain rfl := Option.some.inj hP
          obtain ⟨u1, u2, k1, k2, hg⟩ := eg_pair (σ := [some (.ref a), some (.str z), some vf, y, y']) (i := 3) (j := 4) (x := "at") (y := "fact") (kk := _) (px := _) (py := _) (pos := _) (X := cxOf (L2.CX P w) P w K mg base ["self", "columns", "facts", "at", "fact"] "Schema.__init__" (defScope sSchema____init__) f cdv A outer sh H E) rfl sc_Sinit.nd rfl rfl (Or.inl rfl) (Or.inl rfl) px
          refine hg H7 g11.sub _ ?_
          by_cases htup : ∃ xs, bad = .tuple xs
          · obtain ⟨xs, rfl⟩ := htup
            by_cases h2 : xs.length = 2
            · obtain ⟨e0, p0, rfl⟩ : ∃ e0 p0, xs = [e0, p0] := by
                match xs, h2 with
                | [e0, p0], _ => exact ⟨e0, p0, rfl⟩
              refine hs_ifN ((et_w (ew_or (et_not (et_val (ee_isi (isD_ok (.tuple [e0, p0]) (T := "tuple") (by simp)) g2 g4 boot_tuple (ee_var 4 rfl k2)))) fun _ => ew_or1 (et_neI (ee_len g1 (d := .tuple [e0, p0]) (n := 2) rfl (ee_var 4 rfl k2)) ee_int))).is (by rfl)) g11.sub fun S8 H8 g12 => ?_
              have k8 := k2.up g12.st
              have a8 : SP (.ref a) S8 := ⟨rfl, g12.st _ _ a7⟩
              have hrule : (isExp e0 (z.length : Nat) && isExp p0 (z.length : Nat)) = false := hrule
              refine hs_ifT ((et_w (ew_or (et_not (et_val ((ee_meth D2 c (hr.mono (by decide)) (ee_var (P := SP) 0 rfl a8) hSPi (ea_1 (ee_ixT (ds := [e0, p0]) (d := e0) rfl (ee_var 4 rfl k8) ee_int)) (spO_E (F := Fsch_isExp C) (P0 := SP) (ds := [e0]) (d := .bool (isExp e0 (z.length : Nat))) ⟨_, _, hSPw, rfl, rfl⟩))))) fun _ =>
                ew_or1 (et_not (et_val ((ee_meth D2 c (hr.mono (by decide)) (ee_var (P := SP) 0 rfl a8) hSPi (ea_1 (ee_ixT (ds := [e0, p0]) (d := p0) rfl (ee_var 4 rfl k8) ee_int)) (spO_E (F := Fsch_isExp C) (P0 := SP) (ds := [p0]) (d := .bool (isExp p0 (z.length : Nat))) ⟨_, _, hSPw, rfl, rfl⟩))))))).is ?bb) g12.sub fun S9 H9 g13 => ?_
              case bb => cases h1 : isExp e0 (z.length : Nat) <;> cases h2 : isExp p0 (z.length : Nat) <;> rw [h1, h2] at hrule <;> first | rfl | cases hrule
              exact hs_raise1 rfl tk RF hF (by decide) (hr.mono (by decide)) (ee_var 3 rfl (k1.up (g12.st.trans g13.st))) g13.sub (hx _ _ ((i7.step g12).step g13))
            · refine hs_ifT ((et_w (ew_or (et_not (et_val (ee_isi (isD_ok (.tuple xs) (T := "tuple") (by simp)) g2 g4 boot_tuple (ee_var 4 rfl k2)))) fun _ => ew_or1 (et_neI (ee_len g1 (d := .tuple xs) (n := xs.length) rfl (ee_var 4 rfl k2)) ee_int))).is ?bt) g11.sub fun S8 H8 g12 => ?_
              case bt => rw [decide_eq_false (by omega)]; simp
              exact hs_raise1 rfl tk RF hF (by decide) (hr.mono (by decide)) (ee_var 3 rfl (k1.up g12.st)) g12.sub (hx _ _ (i7.step g12))
          · refine hs_ifT ((et_w (ew_or (k2 := true) (et_not (et_val (ee_isi (isD_ok bad (T := "tuple") (by simp)) g2 g4 boot_tuple (ee_var 4 rfl k2)))) fun h => ?_)).is (by simp)) g11.sub fun S8 H8 g12 => ?_
            · exfalso; cases bad <;> first | (simp [isDt] at h; done) | exact htup ⟨_, rfl⟩
            · exact hs_raise1 rfl tk RF hF (by decide) (hr.mono (by decide)) (ee_var 3 rfl (k1.up g12.st)) g12.sub (hx _ _ (i7.step g12))
        · exfalso
          have := (List.getElem?_eq_some_iff.mp hP).1
          rw [enum_len] at this
          omega
    · rintro σ1 S6 H6 g10 ⟨hle, y, y', rfl⟩
      have hlen : (Ds K (enumD ds)).length = ds.length := enum_len
      rcases hend with ⟨bad, hbad, _⟩ | ⟨hl, h12, rfl, rfl⟩
      · exfalso
        have := (List.getElem?_eq_some_iff.mp hbad).1
        have hle : (Ds K (enumD ds)).length ≤ ps.length := hle
        omega
      · have i6 := i5.step g10
        have p26 := p25.up g10.st
        have hll : lenD d = some ps.length := by rcases hLT with rfl | rfl <;> (show some ds.length = _; rw [hl])
        refine hs_ifT ((et_gt (ee_len g1 hll (ee_var 2 rfl p26) (fun x hx => by rcases hLT with rfl | rfl <;> cases hx)) (ee_cval (P := Dt K (.int 4)) gS cr cv (fun _ => .int 4))).is (by rw [decide_eq_true (by omega)])) i6.sub fun S7 H7 g11 => ?_
        exact hs_raise1 rfl tk RT hT0 (by decide) (hr.mono (by decide)) (ee_cval (P := Dt K (.int 4)) gS cr cv (fun _ => .int 4)) g11.sub (hx _ _ (i6.step g11))
end
end K08
namespace K08
open PySem PySem.Spec PyProof.Rows L2 Z Y
section
variable {P : Program} {w : World} {K : PySem.W.Frag} {mg : Str → Option Value} {base : Heap} {f : Addr} {fd : FuncData}
/-! ## Schema(d1, d2) refused -/
structure MkSX (P : Program) (w : World) (K : PySem.W.Frag) (mg : Str → Option Value) (base : Heap) (C : Addr) (kC kF kT : EK) : Prop where
  ex : ∃ fi fdi ps, Mk K C fi ∧ FnOk P w K mg base (L2.CX P w) 4 fi fdi ps (spXI2 C K (GS kC kF kT K)) ∧ Binds K fdi ps []
section
variable {X : Cx} {σ : L2.St} {S : Hp} {C : Addr} {a b : Expr} {p pos : Pos} {kC kF kT : EK} {E : XK} {O : EK → PyData → Prop} {P1 P2 R : V → Hp → Prop}
theorem er_mkS (tk : Takes X (fun cls d _ H => E cls d H)) (M : MkSX X.prog X.w X.K X.mg X.base C kC kF kT) (hr : Room 5 X.A) (gS : X.mg "Schema" = some (.ref C)) [Mn P1] [Mn P2] (ha : EE X σ S a P1) (hb : EE X σ S b P2) (hG : ∀ v w S1, Same S S1 → P1 v S1 → P2 w S1 → ∃ k g, (∃ d1 d2, Dts X.K [d1, d2] [v, w] S1 ∧ BadS kC kF kT d1 d2 k g) ∧ O k g) (hg : Gl X "Schema" := by rfl)
    (he : starEach [a, b] X.env = (false, eval a X.env) :: starEach [b] X.env := by rfl) (he2 : starEach [b] X.env = (false, eval b X.env) :: starEach [] X.env := by rfl) (hpl : (backTo pos (starEach [b] X.env)).any (·.1) = false := by rfl) : ER X E σ S (.Call (.Name "Schema" p) [a, b] [] pos) R O := by
  obtain ⟨fi, fdi, ps', m, G, b2⟩ := M.ex
  exact er_make2 tk m G hr gS b2 .nil (ea_2 ha hb he he2) (fun ws S1 s1 al => by
    obtain ⟨v, w, rfl, pv, pw⟩ := al.two
    rw [List.append_nil]
    exact hG v w S1 s1 pv pw) hg (by decide) he hpl
/-- both told as data -/
theorem er_mkS2 {d1 d2 : PyData} (tk : Takes X (fun cls d _ H => E cls d H)) (M : MkSX X.prog X.w X.K X.mg X.base C kC kF kT) (hr : Room 5 X.A) (gS : X.mg "Schema" = some (.ref C)) (ha : EE X σ S a (Dt X.K d1)) (hb : EE X σ S b (Dt X.K d2)) {k : EK} {g : PyData} (hG : BadS kC kF kT d1 d2 k g) (hg : Gl X "Schema" := by rfl)
    (he : starEach [a, b] X.env = (false, eval a X.env) :: starEach [b] X.env := by rfl) (he2 : starEach [b] X.env = (false, eval b X.env) :: starEach [] X.env := by rfl) (hpl : (backTo pos (starEach [b] X.env)).any (·.1) = false := by rfl) : ER X E σ S (.Call (.Name "Schema" p) [a, b] [] pos) R (O1 k g) :=
  er_mkS tk M hr gS ha hb (fun v w S1 _ pv pw => ⟨k, g, ⟨d1, d2, Dts.cons pv (Dts.cons pw .nil), hG⟩, rfl, rfl⟩) hg he he2 hpl
end
/-! ## methods m(self, *xs) that raise -/
theorem fn_starX {K : PySem.W.Frag} {mg : Str → Option Value} {base : Heap} {P : Program} {w : World} {x q pv : Str} {st : Stmt} {f : Addr} {fd : FuncData} {N : List Str} {k : Nat} {G : List V → Hp → EK → PyData → Prop} (F : FnM K x q st f fd) (Sc : FnScope N ((["self"] : List Str) ++ ([pv] : List Str)) (defScope st))
    (hbd : ∀ (kV : Value) doc pm an cdv ct (us rest : List Value), us.length = (["self"] : List Str).length → bindArgs (PySem.W.fnOf x q (defArgs st) (defBody st) (defScope st) .none kV doc pm an cdv ct) ⟨us ++ rest, []⟩ = (newTuple rest >>= fun t => pure ((["self"] : List Str).zip us ++ [(pv, t)])))
    (up : ∀ vs S S' k g, Same S S' → G vs S k g → G vs S' k g) (len : ∀ vs S k g, G vs S k g → ∃ v ws, vs = v :: ws ∧ ws.length ≤ sizeLine)
    (hb : ∀ (cdv : Value) (A : Around) (outer : List Env) (s : Shared) (S H : Hp) (v u : V) (ws : List V) (p : Addr) (k0 : EK) (g : PyData) (E : XK) (Q : VK), Room k (A.deeper (envOfC q (defScope st) s.heap.objs.size f cdv)) → Same S H → u = V.ref p → S p = some (.tup ws) → G (v :: ws) S k0 g → XErr K k0 g S H E →
      Takes (cxOf (L2.CX P w) P w K mg base N q (defScope st) f cdv A outer s H E) (fun cls d _ H' => E cls d H') →
      HS (cxOf (L2.CX P w) P w K mg base N q (defScope st) f cdv A outer s H E) { nx := fun _ H' => Q .non H', rt := Q } (defBody st) (start N [v, u]) H) : FnR P w K mg base (L2.CX P w) (k + 1) f (spX K G) := by
  obtain ⟨oc, od, dV, kV, doc, pm, an, cdv, ct, osl, rfl, lk, hcd, hD, hK⟩ := F.ex
  obtain rfl : dV = .none := by
    rcases hD with ⟨_, e⟩ | ⟨e, _⟩
    · exact e
    · exact absurd rfl e
  have key := StX.fn_star (P := P) (w := w) (mg := mg) (base := base) (CX := L2.CX P w) (k := k) (N := N) (ps := ["self"]) (pv := pv) (sp := fun vs H _ E => ∃ S v u ws p k0 g, vs = [v, u] ∧ Same S H ∧ u = V.ref p ∧ S p = some (.tup ws) ∧ G (v :: ws) S k0 g ∧ XErr K k0 g S H E) lk hcd Sc StX.cxUp (hbd kV doc pm an cdv ct) fun A outer sh H vs Q E hr h => ⟨_, psb, by
    obtain ⟨S, v, u, ws, p, k0, g, rfl, s, e, hp, hG, hx⟩ := h
    exact hb cdv A outer sh S H v u ws p k0 g E Q hr s e hp hG hx (takes_of rfl rfl rfl rfl)⟩
  intro A outer sh H us vs Q E hr e0 rv h
  obtain ⟨S, k0, g, s, hG, hx⟩ := h
  obtain ⟨v, ws, rfl, hl⟩ := len _ _ _ _ hG
  refine key A outer sh H us _ Q E hr e0 rv ⟨[v], ws, rfl, rfl, hl, fun p hp => ⟨upd S p (.tup ws), v, .ref p, ws, p, k0, g, rfl, (Gr.new s hp).sub, rfl, upd_same, up _ _ _ _ _ (Same.new (s.free hp)) hG, hx.up (Gr.new s hp)⟩⟩
/-- what o.check_exponents(..) raises -/
def GCE (C : Addr) (kE : EK) (K : PySem.W.Frag) : List V → Hp → EK → PyData → Prop := fun vs S k g => ∃ (z : Str) (ps : Rules) (v : V) (ws : List V) (ds : List PyData) (i : Nat), vs = v :: ws ∧ SchP K C z ps v S ∧ Dts K ds ws S ∧ ds.length ≤ 1000 ∧ ds[i]? = some g ∧ isExp g z.cps.size = false ∧ (∀ j d, j < i → ds[j]? = some d → isExp d z.cps.size = true) ∧ k = kE
theorem sc_SceX : FnScope ["self", "values", "value"] ((["self"] : List Str) ++ (["values"] : List Str)) (defScope sSchema__check_exponents) := ⟨rfl, rfl, rfl, by decide +kernel, rfl, by decide +kernel, by decide +kernel⟩
theorem ok_SceX {C : Addr} {kE : EK} (F : FnM K "check_exponents" "Schema.check_exponents" sSchema__check_exponents f fd) (RE : Err P w K mg base "InvalidExponent" kE.C "given" kE.code) (hE : kE.fn = some "given") (D2 : KM P w K mg base C "is_exponent" 3 (spO K (Fsch_isExp C))) (c : Cls K C) : FnR P w K mg base (L2.CX P w) 4 f (spX K (GCE C kE K)) := by
  refine fn_starX F sc_SceX (fun kV doc pm an cdv ct => StX.bind_star1 (B := fun us => bindArgs (PySem.W.fnOf "check_exponents" "Schema.check_exponents" (defArgs sSchema__check_exponents) (defBody sSchema__check_exponents) (defScope sSchema__check_exponents) .none kV doc pm an cdv ct) ⟨us, []⟩) (p1 := "self") (pv := "values") (fun a => rfl) (fun a r rs => rfl))
    (fun vs S S' k g s ⟨z, ps, v, ws, ds, i, e, pv, hd, r⟩ => ⟨z, ps, v, ws, ds, i, e, Mn.up s pv, hd.up s, r⟩)
    (fun vs S k g ⟨z, ps, v, ws, ds, i, e, pv, hd, hl, _⟩ => ⟨v, ws, e, by rw [hd.1]; exact Nat.le_trans hl (by show 1000 ≤ 16777216; decide)⟩) ?_
  rintro cdv A outer sh S H v u ws p k0 g E Q hr s eu hp ⟨z, ps, v', ws', ds, i0, e, pv, hd, hl, hi0, hbad, hgood, rfl⟩ hx tk
  cases e
  subst eu
  have pf : Dt K (.tuple ds) (.ref p) S := Dt.tup_mk (tus_of hp) hd (by rw [hd.1]; exact Nat.le_trans hl (by show 1000 ≤ 16777216; decide))
  refine hs_for (Ps := Ds K ds) (fun i σ S2 => i ≤ i0 ∧ ∃ x, σ = [some v, some (.ref p), x]) (passes_of rfl) rfl (ei_tup (ee_var 1 rfl pf)) s (fun S2 H2 g3 => ⟨Nat.zero_le _, none, rfl⟩) ?_ ?_
  · rintro i Pi σ1 S6 H6 x S7 H7 hP g10 ⟨hle, y, rfl⟩ g11 px
    have hi : i < ds.length := by
      have := (List.getElem?_eq_some_iff.mp hP).1
      rw [ds_len] at this; exact this
    have hdi : ds[i]? = some ds[i] := List.getElem?_eq_getElem hi
    rw [ds_get hdi] at hP
    obtain rfl := Option.some.inj hP
    refine (eg_name (i := 2) sc_SceX.nd rfl (Or.inl rfl)) H7 g11.sub _ ?_
    have pv7 : SchP K C z ps v S7 := Mn.up (g10.st.trans g11.st) pv
    have hex : ET (cxOf (L2.CX P w) P w K mg base ["self", "values", "value"] "Schema.check_exponents" (defScope sSchema__check_exponents) f cdv A outer sh H E) [some v, some (.ref p), some x] S7 (match defBody sSchema__check_exponents with | [.For _ _ (.If c _ _ _ :: _) _ _] => c | _ => .Constant .none 0 ⟨0, 0, 0, 0⟩) (!isExp ds[i] z.cps.size) :=
      et_not (et_val (ee_meth D2 c (hr.mono (by decide)) (ee_var (P := SchP K C z ps) 0 rfl pv7) SchP.insP (ea_1 (ee_var 2 rfl px)) (spO_E (F := Fsch_isExp C) (P0 := SchP K C z ps) (ds := [ds[i]]) (d := .bool (isExp ds[i] z.cps.size)) ⟨_, _, SchP.wid, rfl, rfl⟩)))
    rcases Nat.lt_or_ge i i0 with hlt | hge
    · refine hs_ifN (hex.is (by rw [hgood i _ hlt hdi]; rfl)) g11.sub fun S8 H8 g12 => hs_nil ⟨S8, g12, by omega, _, rfl⟩
    · obtain rfl : i = i0 := by omega
      rw [hdi] at hi0
      obtain rfl := Option.some.inj hi0
      refine hs_ifT (hex.is (by rw [hbad]; rfl)) g11.sub fun S8 H8 g12 => ?_
      exact hs_raise1 rfl tk RE hE (by decide) (hr.mono (by decide)) (ee_var 2 rfl (px.up g12.st)) g12.sub ((hx.up g10).up (g11.trans g12))
  · rintro σ1 S6 H6 g10 ⟨hle, y, rfl⟩
    exfalso
    have hle : (Ds K ds).length ≤ i0 := hle
    rw [ds_len] at hle
    have := (List.getElem?_eq_some_iff.mp hi0).1
    omega
/-- what o.follows(d1, d2), o.reason(d1, d2), o.equal_sums(d1, d2) raise -/
def GFo (C : Addr) (kE : EK) (K : PySem.W.Frag) : List V → Hp → EK → PyData → Prop := fun vs S k g => ∃ z ps v u1 u2 d1 d2, vs = [v, u1, u2] ∧ SchP K C z ps v S ∧ Dt K d1 u1 S ∧ Dt K d2 u2 S ∧ ((isExp d1 z.cps.size = false ∧ g = d1) ∨ (isExp d1 z.cps.size = true ∧ isExp d2 z.cps.size = false ∧ g = d2)) ∧ k = kE
theorem gce_of {K : PySem.W.Frag} {C : Addr} {kE : EK} {z : Str} {ps : Rules} {d1 d2 g : PyData} {vs : List V} {S : Hp} (h : (isExp d1 z.cps.size = false ∧ g = d1) ∨ (isExp d1 z.cps.size = true ∧ isExp d2 z.cps.size = false ∧ g = d2)) (al : Al [SchP K C z ps, Dt K d1, Dt K d2] vs S) : GCE C kE K vs S kE g := by
  cases al with
  | cons p r =>
    have hd : Dts K [d1, d2] _ S := al_dts (ds := [d1, d2]) r
    rcases h with ⟨h, rfl⟩ | ⟨h1, h2, rfl⟩
    · exact ⟨z, ps, _, _, [g, d2], 0, rfl, p, hd, by simp, rfl, h, fun j d hj => absurd hj (Nat.not_lt_zero _), rfl⟩
    · exact ⟨z, ps, _, _, [d1, g], 1, rfl, p, hd, by simp, rfl, h2, fun j d hj e => by
        obtain rfl : j = 0 := by omega
        cases e
        exact h1, rfl⟩
theorem sc_SfoX : FnScope ["self", "low", "high"] ["self", "low", "high"] (defScope sSchema__follows) := ⟨rfl, rfl, rfl, by decide +kernel, rfl, by decide +kernel, by decide +kernel⟩
theorem sc_SreX : FnScope ["self", "low", "high"] ["self", "low", "high"] (defScope sSchema__reason) := ⟨rfl, rfl, rfl, by decide +kernel, rfl, by decide +kernel, by decide +kernel⟩
theorem sc_SeqX : FnScope ["self", "one", "other"] ["self", "one", "other"] (defScope sSchema__equal_sums) := ⟨rfl, rfl, rfl, by decide +kernel, rfl, by decide +kernel, by decide +kernel⟩
theorem ok_SfoX {C : Addr} {kE : EK} (F : FnM K "follows" "Schema.follows" sSchema__follows f fd) (D : KMSX P w K mg base C "check_exponents" 4 (spX K (GCE C kE K))) (c : Cls K C) : FnOk P w K mg base (L2.CX P w) 5 f fd ["self", "low", "high"] (spX K (GFo C kE K)) := by
  refine fn_hsX F sc_SfoX (fun vs H Q E h => ?_) (fun cdv A outer sh H vs Q E hr h tk => ?_)
  · obtain ⟨S, k, g, _, ⟨z, ps, v, u1, u2, d1, d2, rfl, _⟩, _⟩ := h
    rfl
  · obtain ⟨S, k, g, s, ⟨z, ps, v, u1, u2, d1, d2, rfl, pv, p1, p2, hb, rfl⟩, hx⟩ := h
    exact hs_exprX (er_methS (P0 := SchP K C z ps) (R := NoP) (O := O1 k g) tk D c (hr.mono (by decide)) (ee_var 0 rfl pv) SchP.insP (ea_2 (ee_var 1 rfl p1) (ee_var 2 rfl p2)) (spX_O fun vs S1 s1 al => ⟨k, g, gce_of hb al, rfl, rfl⟩)) s (fun k' g' h => by obtain ⟨rfl, rfl⟩ := h; exact hx) fun _ _ _ _ z => z.elim
theorem ok_SreX {C : Addr} {kE : EK} (F : FnM K "reason" "Schema.reason" sSchema__reason f fd) (D : KMSX P w K mg base C "check_exponents" 4 (spX K (GCE C kE K))) (c : Cls K C) : FnOk P w K mg base (L2.CX P w) 5 f fd ["self", "low", "high"] (spX K (GFo C kE K)) := by
  refine fn_hsX F sc_SreX (fun vs H Q E h => ?_) (fun cdv A outer sh H vs Q E hr h tk => ?_)
  · obtain ⟨S, k, g, _, ⟨z, ps, v, u1, u2, d1, d2, rfl, _⟩, _⟩ := h
    rfl
  · obtain ⟨S, k, g, s, ⟨z, ps, v, u1, u2, d1, d2, rfl, pv, p1, p2, hb, rfl⟩, hx⟩ := h
    exact hs_exprX (er_methS (P0 := SchP K C z ps) (R := NoP) (O := O1 k g) tk D c (hr.mono (by decide)) (ee_var 0 rfl pv) SchP.insP (ea_2 (ee_var 1 rfl p1) (ee_var 2 rfl p2)) (spX_O fun vs S1 s1 al => ⟨k, g, gce_of hb al, rfl, rfl⟩)) s (fun k' g' h => by obtain ⟨rfl, rfl⟩ := h; exact hx) fun _ _ _ _ z => z.elim
theorem ok_SeqX {C : Addr} {kE : EK} (F : FnM K "equal_sums" "Schema.equal_sums" sSchema__equal_sums f fd) (D : KMSX P w K mg base C "check_exponents" 4 (spX K (GCE C kE K))) (c : Cls K C) : FnOk P w K mg base (L2.CX P w) 5 f fd ["self", "one", "other"] (spX K (GFo C kE K)) := by
  refine fn_hsX F sc_SeqX (fun vs H Q E h => ?_) (fun cdv A outer sh H vs Q E hr h tk => ?_)
  · obtain ⟨S, k, g, _, ⟨z, ps, v, u1, u2, d1, d2, rfl, _⟩, _⟩ := h
    rfl
  · obtain ⟨S, k, g, s, ⟨z, ps, v, u1, u2, d1, d2, rfl, pv, p1, p2, hb, rfl⟩, hx⟩ := h
    exact hs_exprX (er_methS (P0 := SchP K C z ps) (R := NoP) (O := O1 k g) tk D c (hr.mono (by decide)) (ee_var 0 rfl pv) SchP.insP (ea_2 (ee_var 1 rfl p1) (ee_var 2 rfl p2)) (spX_O fun vs S1 s1 al => ⟨k, g, gce_of hb al, rfl, rfl⟩)) s (fun k' g' h => by obtain ⟨rfl, rfl⟩ := h; exact hx) fun _ _ _ _ z => z.elim
end
end K08
namespace K08
open PySem PySem.Spec PyProof.Rows L2 Z Y
section
variable {P : Program} {w : World} {K : PySem.W.Frag} {mg : Str → Option Value} {base : Heap} {f : Addr} {fd : FuncData}
/-! ## with_facts refused -/
def GWF (C : Addr) (kF kT : EK) (K : PySem.W.Frag) : List V → Hp → EK → PyData → Prop := fun vs S k g => ∃ (z : Str) (ps : Rules) (v : V) (ws : List V) (ds : List PyData) (qs : Rules), vs = v :: ws ∧ SchP K C z ps v S ∧ Dts K ds ws S ∧ ds.length ≤ 900 ∧ ColOk z ∧ ps.length ≤ 4 ∧ RulesOk z.cps.size ps ∧ RulesOk z.cps.size qs ∧
  ((∃ bad rest, ds = qs.map ruleD ++ bad :: rest ∧ isRule z.cps.size bad = false ∧ k = kF ∧ g = .int (qs.length : Nat)) ∨ (ds = qs.map ruleD ∧ 4 < ps.length + qs.length ∧ k = kT ∧ g = .int 4))
theorem ok_SwithX {C : Addr} {kC kF kT : EK} (F : FnM K "with_facts" "Schema.with_facts" sSchema__with_facts f fd) (M : MkSX P w K mg base C kC kF kT) (RF : Err P w K mg base "InvalidFact" kF.C "at" kF.code) (hF : kF.fn = some "at") (D2 : KM P w K mg base C "is_exponent" 3 (spO K (Fsch_isExp C))) (c : Cls K C) (n1 : NoAttr K C "columns") (n3 : NoAttr K C "_facts") (gS : mg "Schema" = some (.ref C)) (g1 : mg "len" = none) (g2 : mg "isinstance" = none) (g4 : mg "tuple" = none) (g5 : mg "enumerate" = none) (g6 : mg "all" = none) :
    FnR P w K mg base (L2.CX P w) 6 f (spX K (GWF C kF kT K)) := by
  refine fn_starX F sc_Swith (fun kV doc pm an cdv ct => StX.bind_star1 (B := fun us => bindArgs (PySem.W.fnOf "with_facts" "Schema.with_facts" (defArgs sSchema__with_facts) (defBody sSchema__with_facts) (defScope sSchema__with_facts) .none kV doc pm an cdv ct) ⟨us, []⟩) (p1 := "self") (pv := "facts") (fun a => rfl) (fun a r rs => rfl))
    (fun vs S S' k g s ⟨z, ps, v, ws, ds, qs, e, pv, hd, r⟩ => ⟨z, ps, v, ws, ds, qs, e, Mn.up s pv, hd.up s, r⟩)
    (fun vs S k g ⟨z, ps, v, ws, ds, qs, e, pv, hd, hl, _⟩ => ⟨v, ws, e, by rw [hd.1]; exact Nat.le_trans hl (by show 900 ≤ 16777216; decide)⟩) ?_
  rintro cdv A outer sh S H v u ws p k0 g E Q hr s eu hp ⟨z, ps, v', ws', ds, qs, e, pv, hd, hl, hcol, hps, hpo, hqo, hb⟩ hx tk
  cases e
  subst eu
  have pf : Dt K (.tuple ds) (.ref p) S := Dt.tup_mk (tus_of hp) hd (by rw [hd.1]; exact Nat.le_trans hl (by show 900 ≤ 16777216; decide))
  obtain ⟨hpre, hend⟩ : (∀ i (h : i < qs.length), ds[i]? = some (ruleD qs[i])) ∧ ((∃ bad, ds[qs.length]? = some bad ∧ isRule z.cps.size bad = false ∧ k0 = kF ∧ g = .int (qs.length : Nat)) ∨ (ds = qs.map ruleD ∧ 4 < ps.length + qs.length ∧ k0 = kT ∧ g = .int 4)) := by
    rcases hb with ⟨bad, rest, rfl, h3, h4, h5⟩ | ⟨rfl, h3, h4, h5⟩
    · exact ⟨fun i h => take_mapR h, .inl ⟨bad, at_badR, h3, h4, h5⟩⟩
    · exact ⟨fun i h => by rw [List.getElem?_map, List.getElem?_eq_getElem h]; rfl, .inr ⟨rfl, h3, h4, h5⟩⟩
  refine hs_for (Ps := Ds K (enumD ds)) (fun i σ S2 => i ≤ qs.length ∧ ∃ x y b, σ = [some v, some (.ref p), x, y, b]) (passes_of rfl) rfl (ei_enumT g5 (ee_var 1 rfl pf)) s (fun S2 H2 g3 => ⟨Nat.zero_le _, none, none, none, rfl⟩) ?_ ?_
  · rintro i Pi σ1 S6 H6 x S7 H7 hP g10 ⟨hle, y, y', y'', rfl⟩ g11 px
    have pv7 : SchP K C z ps v S7 := Mn.up (g10.st.trans g11.st) pv
    have hall : ∀ (a b : PyData) (k2 : V) (u1 : V) (T : Hp), Same S7 T → Dt K (.tuple [a, b]) k2 T → EE (cxOf (L2.CX P w) P w K mg base ["self", "facts", "at", "fact", "part"] "Schema.with_facts" (defScope sSchema__with_facts) f cdv A outer sh H E) [some v, some (.ref p), some u1, some k2, y''] T (match defBody sSchema__with_facts with | [.For _ _ (.If (.BoolOp _ [_, _, .UnaryOp _ c _] _) _ _ _ :: _) _ _, _] => c | _ => .Constant .none 0 ⟨0, 0, 0, 0⟩) (Dt K (.bool (isExp a z.cps.size && isExp b z.cps.size))) := fun a b k2 u1 T sT pk => by
      refine EE.isd (d := .bool (([a, b].map fun d => isExp d z.cps.size).all fun b => b)) (ee_all (bs := [a, b].map fun d => isExp d z.cps.size) rfl g6 (ee_lc (i := 4) (enc := .bool) (f := fun d => isExp d z.cps.size) rfl sc_Swith.nd (blkOk_by (N := ["self", "facts", "at", "fact", "part"]) (sc := defScope sSchema__with_facts) (by decide +kernel)) (ei_tup (ds := [a, b]) (ee_var 3 rfl pk)) (by show 2 ≤ 16777216; decide) ?_)) ?_
      · intro d hd v9 S9 s9 pv9 sh' H0 C' cl fp
        exact ee_meth D2 c (hr.mono (by decide)) (ee_var (P := SchP K C z ps) 0 rfl (Mn.up (sT.trans s9) pv7)) SchP.insP (ea_1 (ee_var 4 rfl pv9)) (spO_E (F := Fsch_isExp C) (P0 := SchP K C z ps) (ds := [d]) ⟨_, _, SchP.wid, rfl, rfl⟩)
      · simp
    rcases Nat.lt_or_ge i qs.length with hi | hi
    · rw [ds_get (enum_get (hpre i hi))] at hP
      obtain rfl := Option.some.inj hP
      have hro := hqo qs[i] (List.getElem_mem hi)
      obtain ⟨u1, u2, k1, k2, hg⟩ := eg_pair (σ := [some v, some (.ref p), y, y', y'']) (i := 2) (j := 3) (x := "at") (y := "fact") (kk := _) (px := _) (py := _) (pos := _) (X := cxOf (L2.CX P w) P w K mg base ["self", "facts", "at", "fact", "part"] "Schema.with_facts" (defScope sSchema__with_facts) f cdv A outer sh H E) rfl sc_Swith.nd rfl rfl (Or.inl rfl) (Or.inl rfl) px
      refine hg H7 g11.sub _ ?_
      refine hs_ifN ((et_w (ew_or (et_not (et_val (ee_isi (isD_ok (ruleD qs[i]) (T := "tuple") (by simp)) g2 g4 boot_tuple (ee_var 3 rfl k2)))) fun _ => ew_or (et_neI (ee_len g1 (d := ruleD qs[i]) (n := 2) rfl (ee_var 3 rfl k2)) ee_int) fun _ => ew_or1 (et_not (et_val (hall _ _ _ _ _ (fun _ _ z => z) k2))))).is ?_) g11.sub fun S8 H8 g12 => hs_nil ⟨S8, g12, hi, _, _, _, rfl⟩
      have e1 : isExp (tI qs[i].1) z.cps.size = true := exp_rule (n := z.cps.size) hro.1.1 hro.1.2
      have e2 : isExp (tI qs[i].2) z.cps.size = true := exp_rule (n := z.cps.size) hro.2.1 hro.2.2
      rw [e1, e2]; rfl
    · obtain rfl : i = qs.length := by omega
      rcases hend with ⟨bad, hbad, hrule, rfl, rfl⟩ | ⟨rfl, _⟩
      · rw [ds_get (enum_get hbad)] at hP
        obtain rfl := Option.some.inj hP
        obtain ⟨u1, u2, k1, k2, hg⟩ := eg_pair (σ := [some v, some (.ref p), y, y', y'']) (i := 2) (j := 3) (x := "at") (y := "fact") (kk := _) (px := _) (py := _) (pos := _) (X := cxOf (L2.CX P w) P w K mg base ["self", "facts", "at", "fact", "part"] "Schema.with_facts" (defScope sSchema__with_facts) f cdv A outer sh H E) rfl sc_Swith.nd rfl rfl (Or.inl rfl) (Or.inl rfl) px
        refine hg H7 g11.sub _ ?_
        by_cases htup : ∃ xs, bad = .tuple xs
        · obtain ⟨xs, rfl⟩ := htup
          by_cases h2 : xs.length = 2
          · obtain ⟨e0, p0, rfl⟩ : ∃ e0 p0, xs = [e0, p0] := by
              match xs, h2 with
              | [e0, p0], _ => exact ⟨e0, p0, rfl⟩
            have hrule : (isExp e0 (z.cps.size : Nat) && isExp p0 (z.cps.size : Nat)) = false := hrule
            refine hs_ifT ((et_w (ew_or (et_not (et_val (ee_isi (isD_ok (.tuple [e0, p0]) (T := "tuple") (by simp)) g2 g4 boot_tuple (ee_var 3 rfl k2)))) fun _ => ew_or (et_neI (ee_len g1 (d := .tuple [e0, p0]) (n := 2) rfl (ee_var 3 rfl k2)) ee_int) fun _ => ew_or1 (et_not (et_val (hall _ _ _ _ _ (fun _ _ z => z) k2))))).is ?_) g11.sub fun S8 H8 g12 => hs_raise1 rfl tk RF hF (by decide) (hr.mono (by decide)) (ee_var 2 rfl (k1.up g12.st)) g12.sub ((hx.up g10).up (g11.trans g12))
            rw [hrule]; rfl
          · refine hs_ifT ((et_w (ew_or (et_not (et_val (ee_isi (isD_ok (.tuple xs) (T := "tuple") (by simp)) g2 g4 boot_tuple (ee_var 3 rfl k2)))) fun _ => ew_or (k2 := true) (et_neI (ee_len g1 (d := .tuple xs) (n := xs.length) rfl (ee_var 3 rfl k2)) ee_int) fun h => ?bt)).is ?bu) g11.sub fun S8 H8 g12 => hs_raise1 rfl tk RF hF (by decide) (hr.mono (by decide)) (ee_var 2 rfl (k1.up g12.st)) g12.sub ((hx.up g10).up (g11.trans g12))
            case bt =>
              exfalso
              rw [decide_eq_false (show ¬ ((xs.length : Int) = 2) by omega)] at h
              cases h
            case bu => simp
        · refine hs_ifT ((et_w (ew_or (k2 := true) (et_not (et_val (ee_isi (isD_ok bad (T := "tuple") (by simp)) g2 g4 boot_tuple (ee_var 3 rfl k2)))) fun h => ?_)).is (by simp)) g11.sub fun S8 H8 g12 => hs_raise1 rfl tk RF hF (by decide) (hr.mono (by decide)) (ee_var 2 rfl (k1.up g12.st)) g12.sub ((hx.up g10).up (g11.trans g12))
          exfalso; cases bad <;> first | (simp [isDt] at h; done) | exact htup ⟨_, rfl⟩
      · exfalso
        have := (List.getElem?_eq_some_iff.mp hP).1
        rw [enum_len, List.length_map] at this
        omega
  · rintro σ1 S6 H6 g10 ⟨hle, y, y', y'', rfl⟩
    have hlen : (Ds K (enumD ds)).length = ds.length := enum_len
    rcases hend with ⟨bad, hbad, _⟩ | ⟨rfl, h12, rfl, rfl⟩
    · exfalso
      have := (List.getElem?_eq_some_iff.mp hbad).1
      have hle : (Ds K (enumD ds)).length ≤ qs.length := hle
      omega
    · have pv6 : SchP K C z ps v S6 := Mn.up g10.st pv
      have hl : qs.length ≤ 900 := by rw [List.length_map] at hl; exact hl
      refine hs_retX (P := NoP) (O := O1 k0 (.int 4)) (er_mkS2 (d1 := .str z) (d2 := .list (ps.map ruleD ++ qs.map ruleD)) tk M hr gS (ee_fld (ee_var 0 rfl pv6) SchP.cfld c n1) (ee_lst2 (.inl rfl) (.inr rfl) (by rw [List.length_map, List.length_map]; show _ ≤ 16777216; omega) (ee_fld (ee_var 0 rfl pv6) SchP.ffld c n3) (ee_var 1 rfl (pf.up g10.st))) (.inr ⟨z, rfl, hcol, .inr (.inr ⟨ps ++ qs, .inl (by rw [List.map_append]), by rw [List.length_append]; omega, fun q hq => (List.mem_append.mp hq).elim (hpo q) (hqo q), by rw [List.length_append]; omega, rfl, rfl⟩)⟩)) g10.sub (fun k' g' h => by obtain ⟨rfl, rfl⟩ := h; exact hx.up g10) fun _ _ _ _ z => z.elim
end
end K08
namespace K08
open PySem PySem.Spec PyProof.Rows L2 Z Y
section
variable {P : Program} {w : World} {K : PySem.W.Frag} {mg : Str → Option Value} {base : Heap} {f : Addr} {fd : FuncData}
/-! ## monomial_text -/
def signW (s : Str) (p : Int) : Str := if p = 1 then s else ([s, ((toString p : String) : Str)] : List Str).foldl (· ++ ·) Str.empty
def monoPs (cs : List Nat) (l : List Int) : List (PyData × PyData) := (cs.zip l).map fun q => (.str ⟨#[q.1]⟩, .int q.2)
def posP (q : PyData × PyData) : Bool := match q.2 with
  | .int i => decide (0 < i)
  | _ => false
def sgD (q : PyData × PyData) : PyData := match q with
  | (.str s, .int i) => .str (signW s i)
  | _ => .none
def monoW (cs : List Nat) (l : List Int) : List Str := ((cs.zip l).filter fun q => decide (0 < q.2)).map fun q => signW ⟨#[q.1]⟩ q.2
def monoT (z : Str) (l : List Int) : Str := Txt.join " " (monoW z.cps.toList l)
theorem monoPs_zip : ∀ (cs : List Nat) (l : List Int), List.zipWith (fun x y => PyData.tuple [x, y]) (cs.map fun c => PyData.str ⟨#[c]⟩) (l.map .int) = (monoPs cs l).map tupP
  | [], _ => rfl
  | _ :: _, [] => rfl
  | c :: cs, i :: l => by
    show PyData.tuple [.str ⟨#[c]⟩, .int i] :: List.zipWith _ _ _ = _
    rw [monoPs_zip cs l]; rfl
theorem zip_mono (z : Str) (l : List Int) : zipD (strD z) (l.map .int) = (monoPs z.cps.toList l).map tupP := monoPs_zip _ _
theorem monoPs_sg : ∀ (cs : List Nat) (l : List Int), ((monoPs cs l).filter posP).map sgD = (monoW cs l).map .str
  | [], _ => rfl
  | _ :: _, [] => rfl
  | c :: cs, i :: l => by
    have ih := monoPs_sg cs l
    unfold monoPs monoW at ih ⊢
    show (((PyData.str ⟨#[c]⟩, PyData.int i) :: ((cs.zip l).map fun q => (PyData.str ⟨#[q.1]⟩, PyData.int q.2))).filter posP).map sgD = (((c, i) :: cs.zip l).filter (fun q => decide (0 < q.2)) |>.map fun q => signW ⟨#[q.1]⟩ q.2).map .str
    by_cases h : 0 < i
    · rw [List.filter_cons_of_pos (by exact decide_eq_true h), List.filter_cons_of_pos (by exact decide_eq_true h), List.map_cons, List.map_cons, List.map_cons, ih]; rfl
    · rw [List.filter_cons_of_neg (by show ¬ (decide (0 < i)) = true; simp [h]), List.filter_cons_of_neg (by simp [h]), ih]
theorem tostr1 {i : Int} (h0 : 0 ≤ i) (h9 : i ≤ 9) : Str.length ((toString i : String) : Str) = 1 := by
  have key : ∀ k : Nat, k ≤ 9 → Str.length ((toString (k : Int) : String) : Str) = 1 := by decide +kernel
  have := key i.toNat (by omega)
  rwa [Int.toNat_of_nonneg h0] at this
theorem signW_len {c : Nat} {i : Int} (h0 : 0 ≤ i) (h9 : i ≤ 9) : (signW ⟨#[c]⟩ i).length ≤ 2 := by
  unfold signW
  split
  · show 1 ≤ 2; omega
  · show (Str.length ((Str.empty ++ (⟨#[c]⟩ : Str)) ++ ((toString i : String) : Str))) ≤ 2
    have e1 : Str.length ((Str.empty ++ (⟨#[c]⟩ : Str)) ++ ((toString i : String) : Str)) = Str.length (Str.empty ++ (⟨#[c]⟩ : Str)) + Str.length ((toString i : String) : Str) := Array.size_append
    rw [e1, tostr1 h0 h9]
    exact Nat.le_refl _
theorem monoW_sum : ∀ (cs : List Nat) (l : List Int), (∀ x ∈ l, 0 ≤ x ∧ x ≤ 9) → ((monoW cs l).map (·.length)).sum ≤ 2 * cs.length ∧ (monoW cs l).length ≤ cs.length
  | [], _, _ => ⟨Nat.le_refl _, Nat.le_refl _⟩
  | _ :: _, [], _ => ⟨Nat.zero_le _, Nat.zero_le _⟩
  | c :: cs, i :: l, h => by
    obtain ⟨h1, h2⟩ := monoW_sum cs l fun x hx => h x (List.mem_cons_of_mem _ hx)
    obtain ⟨b0, b9⟩ := h i List.mem_cons_self
    have e : monoW (c :: cs) (i :: l) = (if 0 < i then signW ⟨#[c]⟩ i :: monoW cs l else monoW cs l) := by
      unfold monoW
      show (((c, i) :: cs.zip l).filter (fun q => decide (0 < q.2)) |>.map fun q => signW ⟨#[q.1]⟩ q.2) = _
      by_cases hp : 0 < i
      · rw [List.filter_cons_of_pos (by exact decide_eq_true hp), if_pos hp]; rfl
      · rw [List.filter_cons_of_neg (by simp [hp]), if_neg hp]
    have hs := signW_len (c := c) b0 b9
    rw [e, List.length_cons]
    split
    · rw [List.map_cons, List.sum_cons, List.length_cons]; omega
    · omega
def FmT : List PyData → PyData → Prop := fun ds r => ∃ z d l, ds = [.str z, d] ∧ (d = .list (l.map .int) ∨ d = tI l) ∧ l.length = z.cps.size ∧ z.cps.size ≤ 3 ∧ (∀ x ∈ l, 0 ≤ x ∧ x ≤ 9) ∧ r = .str (monoT z l)
theorem sc_mT : FnScope ["columns", "exponent", "words", "letter", "power"] ["columns", "exponent"] (defScope smonomial_text) := ⟨rfl, rfl, rfl, by decide +kernel, rfl, by decide +kernel, by decide +kernel⟩
theorem ok_mT {K : PySem.W.Frag} {mg : Str → Option Value} {base : Heap} {P : Program} {w : World} {f : Addr} {fd : FuncData} (F : FnT K "monomial_text" smonomial_text f fd) (g1 : mg "zip" = none) : FnOk P w K mg base CX0 1 f fd ["columns", "exponent"] (spD K FmT) := by
  refine fn_hs F sc_mT (fun vs H Q E h => ?_) (fun cdv A outer sh H vs Q E hr h => ?_)
  · obtain ⟨S, ds, r, _, hd, ⟨_, _, _, rfl, _⟩, _⟩ := h
    exact hd.1
  · obtain ⟨S, ds, r, s, hd, ⟨z, d, l, rfl, hdl, hl, hz, hb, rfl⟩, q⟩ := h
    obtain ⟨v1, v2, rfl, p1, p2⟩ := hd.two
    have hlen : (l.map PyData.int).length = z.cps.size := by rw [List.length_map, hl]
    have hps : (monoPs z.cps.toList l).length ≤ 3 := by
      unfold monoPs; rw [List.length_map, List.length_zip, Array.length_toList]; omega
    have hmw := monoW_sum z.cps.toList l hb
    rw [Array.length_toList] at hmw
    refine hs_setLc2f (m := 2) (i := 3) (j := 4) (ps := monoPs z.cps.toList l) (p := posP) (f := sgD) rfl sc_mT.nd s (blkOk_by (N := ["columns", "exponent", "words", "letter", "power"]) (sc := defScope smonomial_text) (by decide +kernel)) ?it (Nat.le_trans hps (by show 3 ≤ 16777216; decide)) ?el fun v S1 H1 e1 p3 => ?_
    case it =>
      rw [← zip_mono]
      rcases hdl with rfl | rfl
      · exact ei_zipSL hlen g1 (ee_var 0 rfl p1) (ee_var 1 rfl p2)
      · exact ei_zipST hlen g1 (ee_var 0 rfl p1) (ee_var 1 rfl p2)
    case el =>
      intro q hq v w S' s' pv pw sh' H0 C' cl fp
      obtain ⟨⟨c, i⟩, hci, rfl⟩ := List.mem_map.mp hq
      have hi := hb i (List.of_mem_zip hci).2
      have pv : Dt K (.str ⟨#[c]⟩) v S' := pv
      have pw : Dt K (.int i) w S' := pw
      refine ⟨ets_one (et_gt (ee_var 4 rfl pw) ee_int), fun _ => ?_⟩
      show EE _ _ _ _ (Dt K (.str (signW ⟨#[c]⟩ i)))
      refine ee_if (k := decide (i = 1)) (et_eqI (ee_var 4 rfl pw) ee_int) (fun hk => ?_) (fun hk => ?_)
      · have hk := of_decide_eq_true hk
        unfold signW; rw [if_pos hk]
        exact ee_var 3 rfl pv
      · have hk := of_decide_eq_false hk
        unfold signW; rw [if_neg hk]
        refine ee_joined (.cons (ee_fmtS (by show 1 ≤ 16777216; decide) (ee_var 3 rfl pv)) (.cons (ee_fmtI ?_ (ee_var 4 rfl pw)) .nil)) ?_
        · exact Nat.lt_of_le_of_lt (Nat.log2_le_self _) (by omega)
        · simp only [List.map_cons, List.map_nil, List.sum_cons, List.sum_nil]
          rw [tostr1 hi.1 hi.2]
          show 1 + (1 + 0) ≤ 16777216; decide
    · rw [monoPs_sg] at p3
      exact hs_ret (ee_join (z := " ") (ys := monoW z.cps.toList l) (by have : Str.length " " = 1 := rfl; rw [this]; omega) ee_str (ee_var 2 rfl p3)) e1.sub fun v S' H' g pv => q v S' H' (e1.trans g) pv
end
end K08
namespace K08
open PySem PySem.Spec PyProof.Rows L2 Z Y
section
variable {P : Program} {w : World} {K : PySem.W.Frag} {mg : Str → Option Value} {base : Heap} {f : Addr} {fd : FuncData}
/-! ## read_monomial -/
def ixC (c : Nat) : List Nat → Nat
  | [] => 0
  | a :: r => if a = c then 0 else ixC c r + 1
theorem ixC_eq {c : Nat} : ∀ (cs : List Nat) (i : Nat), cs[i]? = some c → (∀ k, k < i → cs[k]? ≠ some c) → ixC c cs = i
  | [], i, h, _ => by simp at h
  | a :: r, 0, h, _ => by
    simp at h
    subst h
    show (if a = a then 0 else ixC a r + 1) = 0
    rw [if_pos rfl]
  | a :: r, i + 1, h, hb => by
    have h0 : a ≠ c := fun e => hb 0 (Nat.succ_pos _) (by simp [e])
    show (if a = c then 0 else ixC c r + 1) = i + 1
    rw [if_neg h0, ixC_eq r i (by simpa using h) fun k hk => by simpa using hb (k + 1) (by omega)]
theorem ixC_lt {c : Nat} : ∀ (cs : List Nat), c ∈ cs → ixC c cs < cs.length
  | a :: r, h => by
    show (if a = c then 0 else ixC c r + 1) < r.length + 1
    by_cases e : a = c
    · rw [if_pos e]; omega
    · rw [if_neg e]
      have := ixC_lt r ((List.mem_cons.mp h).resolve_left fun z => e z.symm)
      omega
theorem occ1 {z : Str} {c : Nat} (h : c ∈ z.cps.toList) : ∃ r, Builtin.Str.occurrences z ⟨#[c]⟩ 0 z.length 1 = ixC c z.cps.toList :: r := by
  rcases PySem.StrLaws.occ_head z ⟨#[c]⟩ 1 (Nat.le_refl _) with ⟨_, hn⟩ | ⟨i, r, e, ha, hb⟩
  · exfalso
    obtain ⟨i, hi⟩ := List.mem_iff_getElem?.mp h
    exact hn i ((PySem.StrLaws.subAt_one z c i).mpr hi)
  · refine ⟨r, ?_⟩
    rw [e, ixC_eq z.cps.toList i ((PySem.StrLaws.subAt_one z c i).mp ha) fun k hk z1 => hb k hk ((PySem.StrLaws.subAt_one z c k).mpr z1)]
theorem cut1S {w : Str} {c : Nat} {r : List Nat} (h : w.cps.toList = c :: r) : cutS w (some 1) none = ⟨r.toArray⟩ := by
  have hl : w.length = r.length + 1 := by
    show w.cps.size = _
    rw [← Array.length_toList, h]; rfl
  unfold cutS
  rw [hl, h]
  have e1 : HT.sIx (r.length + 1) 0 (some 1) = 1 := by
    show HT.sIx (r.length + 1) 0 (some ((1 : Nat) : Int)) = 1
    rw [HT.sIx_nat]; omega
  rw [e1, HT.sIx_none]
  congr 1
  show List.toArray (List.take (r.length + 1 - 1) r) = r.toArray
  rw [Nat.add_sub_cancel, List.take_length]
def expW : List Str := ["", "2", "3", "4", "5", "6"]
/-- what a word says: the column's place and the power -/
def wdOk (cs : List Nat) (w : Str) : Option (Nat × Int) := match w.cps.toList with
  | [] => none
  | c :: r => if c ∈ cs then (if r = [] then some (ixC c cs, 1) else match r with
    | [d] => if 50 ≤ d ∧ d ≤ 54 then some (ixC c cs, (d : Int) - 48) else none
    | _ => none) else none
def rdL (cs : List Nat) : List Str → List Int → Option (List Int)
  | [], l => some l
  | w :: ws, l => match wdOk cs w with
    | some q => rdL cs ws (l.set q.1 q.2)
    | none => none
def wordsT (t : Str) : List Str := if t.length = 0 then [] else Txt.split t " "
def rdM (z t : Str) : Option (List Int) := match rdL z.cps.toList (wordsT t) (List.replicate z.cps.size 0) with
  | some l => if monoT z l = t then some l else none
  | none => none
def resM (z t : Str) : PyData := match rdM z t with
  | some l => tI l
  | none => .none
theorem expW_in {r : List Nat} : (expW.any fun m => decide (m = (⟨r.toArray⟩ : Str))) = true ↔ r = [] ∨ ∃ d, r = [d] ∧ 50 ≤ d ∧ d ≤ 54 := by
  have e : ∀ s : Str, decide (s = (⟨r.toArray⟩ : Str)) = true ↔ s.cps.toList = r := fun s => by
    rw [decide_eq_true_eq]
    constructor
    · rintro rfl; rfl
    · intro h
      obtain ⟨a⟩ := s
      show (⟨a⟩ : Str) = ⟨r.toArray⟩
      rw [← h]
  unfold expW
  rw [List.any_eq_true]
  constructor
  · rintro ⟨s, hs, he⟩
    have he := (e s).mp he
    simp only [List.mem_cons, List.not_mem_nil, or_false] at hs
    rcases hs with rfl | rfl | rfl | rfl | rfl | rfl
    · exact .inl he.symm
    all_goals exact .inr ⟨_, he.symm, by decide, by decide⟩
  · rintro (rfl | ⟨d, rfl, h1, h2⟩)
    · exact ⟨"", by simp, (e _).mpr rfl⟩
    · obtain rfl | rfl | rfl | rfl | rfl : d = 50 ∨ d = 51 ∨ d = 52 ∨ d = 53 ∨ d = 54 := by omega
      · exact ⟨"2", by simp, (e _).mpr rfl⟩
      · exact ⟨"3", by simp, (e _).mpr rfl⟩
      · exact ⟨"4", by simp, (e _).mpr rfl⟩
      · exact ⟨"5", by simp, (e _).mpr rfl⟩
      · exact ⟨"6", by simp, (e _).mpr rfl⟩
theorem intW {d : Nat} (h1 : 50 ≤ d) (h2 : d ≤ 54) : PySem.intText? ⟨#[d]⟩ = some ((d : Int) - 48) := by
  obtain rfl | rfl | rfl | rfl | rfl : d = 50 ∨ d = 51 ∨ d = 52 ∨ d = 53 ∨ d = 54 := by omega
  all_goals decide +kernel
theorem wdOk_some {cs : List Nat} {w : Str} {q : Nat × Int} (h : wdOk cs w = some q) : q.1 < cs.length ∧ 1 ≤ q.2 ∧ q.2 ≤ 6 := by
  unfold wdOk at h
  split at h
  · cases h
  · rename_i c r hw
    split at h
    · rename_i hc
      have hl := ixC_lt cs hc
      split at h
      · cases h; exact ⟨hl, Int.le_refl 1, show (1 : Int) ≤ 6 by decide⟩
      · split at h
        · split at h
          · cases h
            exact ⟨hl, by dsimp only; omega, by dsimp only; omega⟩
          · cases h
        · cases h
    · cases h
def FrdM : List PyData → PyData → Prop := fun ds r => ∃ z t, ds = [.str z, .str t] ∧ 1 ≤ z.cps.size ∧ z.cps.size ≤ 3 ∧ t.length ≤ 1000 ∧ (wordsT t).length ≤ 1000 ∧ (∀ w ∈ wordsT t, w.length ≤ 1000) ∧ r = resM z t
theorem sc_rdM : FnScope ["columns", "text", "found", "word"] ["columns", "text"] (defScope sread_monomial) := ⟨rfl, rfl, rfl, by decide +kernel, rfl, by decide +kernel, by decide +kernel⟩
/-- a list made, then changed: what stood stands -/
theorem gr_back {S H S1 H1 S3 H3 T H' : Hp} {b : Addr} {xs : List V} (g : Gr S H S1 H1) (hSb : S b = none) (h1 : S1 b = some (.lst xs)) (e3 : Gr S H1 S3 H3) (j : GrI b S3 H3 T H') : Gr S H T H' := by
  have hHb : H b = none := by
    cases e : H b with
    | none => rfl
    | some o =>
      have e1 := g.hh _ _ e
      rw [g.sub _ _ h1] at e1
      cases e1
      have := g.old b _ e (by intro ys z; cases z)
      rw [h1, hSb] at this
      cases this
  refine ⟨e3.st.trans j.st, j.sub, fun z o e => j.hh z o (ne_of_none e hHb) (e3.hh _ _ (g.hh _ _ e)), fun z o e m => ?_⟩
  rw [j.old z o (ne_of_none e hHb) (e3.hh _ _ (g.hh _ _ e)) m, e3.old z o (g.hh _ _ e) m]
theorem dts_ints {K : PySem.W.Frag} {S : Hp} : ∀ {l : List Int} {xs : List V}, Dts K (l.map .int) xs S → xs = l.map V.int
  | [], xs, h => by
    have := h.1
    simpa using this
  | i :: l, xs, h => by
    have h1 := h.1
    match xs, h1 with
    | x :: r, h1 =>
      have hx : Dt K (.int i) x S := h.2 0 x _ rfl rfl
      have hr : Dts K (l.map .int) r S := ⟨by simpa using h1, fun k y d hy hd => h.2 (k + 1) y d hy hd⟩
      rw [hx.int_inv, dts_ints hr]; rfl
theorem ints_dts {K : PySem.W.Frag} {S : Hp} (l : List Int) : Dts K (l.map .int) (l.map V.int) S := ⟨by rw [List.length_map, List.length_map], fun i x d hx hd => by
  rw [List.getElem?_map] at hx hd
  cases e : l[i]? with
  | none => rw [e] at hx; cases hx
  | some y => rw [e] at hx hd; cases hx; cases hd; exact .int y⟩
theorem ok_rdM {K : PySem.W.Frag} {mg : Str → Option Value} {base : Heap} {P : Program} {w : World} {f : Addr} {fd : FuncData} (F : FnT K "read_monomial" sread_monomial f fd) (D1 : KD P w K mg base "monomial_text" 1 (spD K FmT)) (g1 : mg "len" = none) (g2 : mg "tuple" = none) (g3 : mg "int" = none) : FnOk P w K mg base CX0 2 f fd ["columns", "text"] (spD K FrdM) := by
  refine fn_hs F sc_rdM (fun vs H Q E h => ?_) (fun cdv A outer sh H vs Q E hr h => ?_)
  · obtain ⟨S, ds, r, _, hd, ⟨_, _, rfl, _⟩, _⟩ := h
    exact hd.1
  · obtain ⟨S, ds, r, s, hd, ⟨z, t, rfl, hz1, hz3, ht, hwl, hww, rfl⟩, q⟩ := h
    obtain ⟨v1, v2, rfl, p1, p2⟩ := hd.two
    obtain rfl := p1.str_inv
    obtain rfl := p2.str_inv
    have hzl : z.length = z.cps.size := rfl
    have n1000 : ∀ n : Nat, n ≤ 1000 → n ≤ sizeLine := fun n h => Nat.le_trans h (by show 1000 ≤ 16777216; decide)
    have hz0 : -(2 ^ 63) ≤ ((z.length : Nat) : Int) := by omega
    have hz63 : ((z.length : Nat) : Int) < 2 ^ 63 := by
      have h3 : (3 : Int) < 2 ^ 63 := by decide
      have h4 : ((z.length : Nat) : Int) ≤ 3 := by omega
      exact Int.lt_of_le_of_lt h4 h3
    have hrz : ([.int 0] : List PyData).length * ((z.length : Nat) : Int).toNat ≤ sizeLine := by
      rw [Int.toNat_natCast]; show 1 * z.length ≤ 16777216; omega
    refine hs_set (i := 2) (ee_repN (ds := [.int 0]) hz0 hz63 hrz (ee_lst (ds := [.int 0]) (ea_1 ee_int)) (ee_len g1 rfl (ee_var 0 rfl (.str z)) (fun x hx => by cases hx; exact n1000 _ (by omega)))) s sc_rdM.nd fun v S1 H1 e1 pv => ?_
    obtain ⟨b, xs0, rfl, hSb, hS1b, hx0, hxz⟩ := pv
    have ex0 : xs0 = (List.replicate z.cps.size (0 : Int)).map V.int := by
      have e : (List.replicate (z.length : Int).toNat [PyData.int 0]).flatten = (List.replicate z.cps.size (0 : Int)).map PyData.int := by
        rw [hzl, Int.toNat_natCast]
        generalize z.cps.size = n
        induction n with
        | zero => rfl
        | succ n ih => rw [List.replicate_succ, List.flatten_cons, ih, List.replicate_succ, List.map_cons]; rfl
      rw [e] at hx0
      exact dts_ints hx0
    subst ex0
    have hH1b := e1.sub _ _ hS1b
    let cs := z.cps.toList
    have hcl : cs.length = z.cps.size := Array.length_toList
    let l0 := List.replicate z.cps.size (0 : Int)
    let ws := wordsT t
    refine hs_forH (Ps := Ds K (ws.map .str)) PassesOwn.never rfl ?it (e1.st.trans e1.sub) fun S3 H3 e3 => ?_
    case it =>
      refine ei_list (ee_if (k := truD (.str t)) (et_tru (ee_var 1 rfl (.str t)) (fun x hx => by cases hx; exact n1000 _ ht)) (fun hk => ?_) (fun hk => ?_))
      · have ht0 : ¬ t.length = 0 := by
          have hk : ((t.length : Int) != 0) = true := hk
          rw [bne_iff_ne] at hk; omega
        have e : ws = Txt.split t " " := if_neg ht0
        rw [e]
        exact ee_split rfl (by show _ ≤ 16777216; omega) (n1000 _ (by rw [← e]; exact hwl)) (ee_var 1 rfl (.str t)) ee_str
      · have ht0 : t.length = 0 := by
          have hk : ((t.length : Int) != 0) = false := hk
          simpa using hk
        have e : ws = [] := if_pos ht0
        rw [e]
        exact ee_lst (ds := []) ea_nil
    have hS3b : S3 b = none := (e3.old b _ hH1b (by intro ys z; cases z)).trans hSb
    have hH3b := e3.hh _ _ hH1b
    refine ⟨fun i σ' H' => ∃ T l x3, σ' = [some (.str z), some (.str t), some (.ref b), x3] ∧ GrI b S3 H3 T H' ∧ T b = some (.lst (l.map V.int)) ∧ l.length = z.cps.size ∧ (∀ x ∈ l, (0 : Int) ≤ x ∧ x ≤ 9) ∧ rdL cs (ws.drop i) l = rdL cs ws l0, ⟨upd S3 b (.lst (l0.map V.int)), l0, none, rfl, GrI.start e3.sub hS3b hH3b, upd_same, List.length_replicate, fun x hx => by
      obtain rfl := List.eq_of_mem_replicate hx
      exact ⟨Int.le_refl 0, show (0 : Int) ≤ 9 by decide⟩, rfl⟩, fun i σ' H' ⟨T, l, x3, _, j, _⟩ => j.st.trans j.sub, ?_, ?_⟩
    · rintro i Pi σ1 H4 x H5 hP ⟨T, l, x3, rfl, j, hT, hll, hlb, hrd⟩ y
      obtain ⟨T5, e5, px⟩ := y T j.st j.sub
      have j5 := j.step e5
      have hi : i < ws.length := by
        have := (List.getElem?_eq_some_iff.mp hP).1
        rw [ds_len, List.length_map] at this; exact this
      have hwi : (ws.map PyData.str)[i]? = some (.str ws[i]) := by rw [List.getElem?_map, List.getElem?_eq_getElem hi]; rfl
      rw [ds_get hwi] at hP
      obtain rfl := Option.some.inj hP
      have hdrop : ws.drop i = ws[i] :: ws.drop (i + 1) := List.drop_eq_getElem_cons hi
      have hwlen : ws[i].length ≤ 1000 := hww _ (List.getElem_mem hi)
      generalize hW : ws[i] = wd at px hwlen hdrop
      obtain rfl := px.str_inv
      refine (eg_name (i := 3) sc_rdM.nd rfl (Or.inl rfl)) H5 e5.sub _ ?_
      have hT5 : T5 b = some (.lst (l.map V.int)) := e5.st _ _ hT
      have bad : wdOk cs wd = none → ∀ S6 H6, Gr T5 H5 S6 H6 → Q .non H6 := fun hn S6 H6 g6 => by
        have e0 : rdL cs ws l0 = none := by
          rw [← hrd, hdrop]
          show (match wdOk cs wd with | some q => rdL cs (ws.drop (i + 1)) (l.set q.1 q.2) | none => none) = none
          rw [hn]
        have er : resM z t = .none := by
          unfold resM rdM
          show (match (match rdL cs ws l0 with | some l => if monoT z l = t then some l else none | none => none) with | some l => tI l | none => PyData.none) = _
          rw [e0]
        rw [er] at q
        exact q _ _ _ (gr_back e1 hSb hS1b e3 (j5.step g6)) .non
      cases hwc : wd.cps.toList with
      | nil =>
        have hw0 : wd.length = 0 := by
          show wd.cps.size = 0
          rw [← Array.length_toList, hwc]; rfl
        refine hs_ifT ((et_w (ew_or (k2 := true) (et_not (et_tru (ee_var 3 rfl (.str wd)) (fun x hx => by cases hx; exact n1000 _ hwlen))) fun h => ?_)).is (by simp)) j5.sub fun S6 H6 e6 => ?_
        · exfalso
          have : truD (.str wd) = false := by show ((wd.length : Int) != 0) = false; rw [hw0]; rfl
          rw [this] at h; cases h
        · exact hs_ret ee_non e6.sub fun v S7 H7 e7 pv => by
            cases pv
            exact bad (by unfold wdOk; rw [hwc]) _ _ (e6.trans e7)
      | cons c r =>
        have hwl2 : wd.length = r.length + 1 := by
          show wd.cps.size = _
          rw [← Array.length_toList, hwc]; rfl
        have htr : truD (.str wd) = true := by show ((wd.length : Int) != 0) = true; rw [hwl2, bne_iff_ne]; omega
        have hat : atI wd.cps.toList 0 = some c := by
          rw [hwc]
          unfold atI ixN
          rw [if_pos (Int.le_refl 0), if_pos (by rw [List.length_cons]; omega)]
          rfl
        have hcond : ET ((cxOf CX0 P w K mg base ["columns", "text", "found", "word"] "read_monomial" (defScope sread_monomial) f cdv A outer sh H E).nox) [some (.str z), some (.str t), some (.ref b), some (.str wd)] T5 (match defBody sread_monomial with | [_, .For _ _ (.If c _ _ _ :: _) _ _, _] => c | _ => .Constant .none 0 ⟨0, 0, 0, 0⟩) ((!truD (.str wd)) || ((!decide (c ∈ z.cps.toList)) || !expW.any fun m => decide (m = cutS wd (some 1) none))) :=
          et_w (ew_or (et_not (et_tru (ee_var 3 rfl (.str wd)) (fun x hx => by cases hx; exact n1000 _ hwlen))) fun _ => ew_or (et_notInC (n := c) (z := z) (ee_ixS (n1000 _ hwlen) hat (ee_var 3 rfl (.str wd)) ee_int) (ee_var 0 rfl (.str z))) fun _ => ew_or1 (et_notInTs (n := cutS wd (some 1) none) (ns := expW) (ee_slS (n1000 _ hwlen) (ee_var 3 rfl (.str wd)) (eo_some ee_int) eo_none) (ee_tup (ds := expW.map .str) (ea_cons ee_str (ea_cons ee_str (ea_cons ee_str (ea_cons ee_str (ea_cons ee_str (ea_1 ee_str)))))))))
        rw [htr, cut1S hwc] at hcond
        cases hok : wdOk cs wd with
        | none =>
          refine hs_ifT (hcond.is ?_) j5.sub fun S6 H6 e6 => ?_
          · unfold wdOk at hok
            rw [hwc] at hok
            dsimp only at hok
            by_cases hc : c ∈ cs
            · rw [if_pos hc] at hok
              have : (expW.any fun m => decide (m = (⟨r.toArray⟩ : Str))) = false := by
                rw [Bool.eq_false_iff]
                intro h
                rcases expW_in.mp h with rfl | ⟨d, rfl, h1, h2⟩
                · rw [if_pos rfl] at hok; cases hok
                · rw [if_neg (by simp)] at hok
                  dsimp only at hok
                  rw [if_pos ⟨h1, h2⟩] at hok; cases hok
              rw [this]; simp
            · rw [decide_eq_false hc]; rfl
          · exact hs_ret ee_non e6.sub fun v S7 H7 e7 pv => by
              cases pv
              exact bad hok _ _ (e6.trans e7)
        | some q0 =>
          obtain ⟨q1, q2, q3⟩ := wdOk_some hok
          have hc : c ∈ cs := by
            unfold wdOk at hok
            rw [hwc] at hok
            dsimp only at hok
            by_cases hc : c ∈ cs
            · exact hc
            · rw [if_neg hc] at hok; cases hok
          have hrr : (r = [] ∧ q0 = (ixC c cs, 1)) ∨ ∃ d, r = [d] ∧ 50 ≤ d ∧ d ≤ 54 ∧ q0 = (ixC c cs, (d : Int) - 48) := by
            unfold wdOk at hok
            rw [hwc] at hok
            dsimp only at hok
            rw [if_pos hc] at hok
            split at hok
            · rename_i h; cases hok; exact .inl ⟨h, rfl⟩
            · split at hok
              · split at hok
                · rename_i d _ h; cases hok; exact .inr ⟨d, rfl, h.1, h.2, rfl⟩
                · cases hok
              · cases hok
          refine hs_ifN (hcond.is ?_) j5.sub fun S6 H6 e6 => ?_
          · have : (expW.any fun m => decide (m = (⟨r.toArray⟩ : Str))) = true := expW_in.mpr (by
              rcases hrr with ⟨h, _⟩ | ⟨d, h, h1, h2, _⟩
              · exact .inl h
              · exact .inr ⟨d, h, h1, h2⟩)
            rw [this, decide_eq_true (show c ∈ z.cps.toList from hc)]; rfl
          have j6 := j5.step e6
          have hT6 : S6 b = some (.lst (l.map V.int)) := e6.st _ _ hT5
          obtain ⟨rest, hocc⟩ := occ1 (z := z) (c := c) hc
          have hi0 : ixC c cs = q0.1 := by rcases hrr with ⟨_, rfl⟩ | ⟨d, _, _, _, rfl⟩ <;> rfl
          refine hs_setL (P := Dt K (.int q0.2)) (b := b) (xs := l.map V.int) (k := ((ixC c cs : Nat) : Int)) (j := q0.1) ?va (ee_var 2 rfl rfl) (ee_index hocc (ee_var 0 rfl (.str z)) (ee_ixS (n1000 _ hwlen) hat (ee_var 3 rfl (.str wd)) ee_int)) (j6.sub _ _ hT6) ?ix fun v H7 h7 pv => ?_
          case va =>
            refine ee_if (k := truD (.str (cutS wd (some 1) none))) (et_tru (ee_slS (n1000 _ hwlen) (ee_var 3 rfl (.str wd)) (eo_some ee_int) eo_none) (fun x hx => by cases hx; exact n1000 _ (by rw [cut1S hwc]; show r.toArray.size ≤ 1000; rw [List.size_toArray]; omega))) (fun hk => ?_) (fun hk => ?_)
            · rw [cut1S hwc] at hk
              rcases hrr with ⟨rfl, _⟩ | ⟨d, rfl, h1, h2, rfl⟩
              · cases hk
              · exact ee_intS g3 (z := cutS wd (some 1) none) (by rw [cut1S hwc]; exact intW h1 h2) (by rw [cut1S hwc]; show 1 ≤ 640; decide) (ee_slS (n1000 _ hwlen) (ee_var 3 rfl (.str wd)) (eo_some ee_int) eo_none)
            · rw [cut1S hwc] at hk
              rcases hrr with ⟨rfl, rfl⟩ | ⟨d, rfl, h1, h2, rfl⟩
              · exact ee_int
              · cases hk
          case ix =>
            rw [List.length_map, hll, hi0]
            unfold ixN
            rw [if_pos (by omega), if_pos (by rw [← hcl]; omega)]
            simp
          obtain rfl := pv.int_inv
          have e7 : Gr S6 H6 S6 H7 := ⟨fun _ _ z => z, j6.sub.trans h7, h7, fun _ _ _ _ => rfl⟩
          have exs : (l.map V.int).set q0.1 (V.int q0.2) = (l.set q0.1 q0.2).map V.int := by rw [List.map_set]
          rw [exs]
          refine hs_nil ⟨_, l.set q0.1 q0.2, _, rfl, (j6.step e7).put hS3b, upd_same, by rw [List.length_set]; exact hll, fun x hx => ?_, ?_⟩
          · rcases List.mem_or_eq_of_mem_set hx with h | rfl
            · exact hlb x h
            · exact ⟨by omega, by omega⟩
          · rw [← hrd, hdrop]
            show _ = (match wdOk cs wd with | some q => rdL cs (ws.drop (i + 1)) (l.set q.1 q.2) | none => none)
            rw [hok]
    · rintro σ1 H4 ⟨T, l, x3, rfl, j, hT, hll, hlb, hrd⟩
      have hlen : (Ds K (ws.map PyData.str)).length = ws.length := by rw [ds_len, List.length_map]
      have hl : some l = rdL cs ws l0 := by
        rw [← hrd]
        show some l = rdL cs (ws.drop (Ds K (ws.map PyData.str)).length) l
        rw [hlen, List.drop_length]; rfl
      have er : resM z t = if monoT z l = t then tI l else .none := by
        unfold resM rdM
        show (match (match rdL cs ws l0 with | some l => if monoT z l = t then some l else none | none => none) with | some l => tI l | none => PyData.none) = _
        rw [← hl]
        dsimp only
        by_cases h : monoT z l = t
        · rw [if_pos h, if_pos h]
        · rw [if_neg h, if_neg h]
      have pl : Dt K (.list (l.map .int)) (.ref b) T := Dt.lst_mk hT (ints_dts l) (by rw [List.length_map, hll]; exact n1000 _ (by omega))
      refine hs_ret (P := Dt K (if monoT z l = t then tI l else .none)) (ee_if (k := decide (monoT z l = t)) (et_eqS (ee_callD D1 hr ⟨z, .list (l.map .int), l, rfl, .inl rfl, hll, hz3, hlb, rfl⟩ (ea_2 (ee_var 0 rfl (.str z)) (ee_var 2 rfl pl))) (ee_var 1 rfl (.str t))) (fun hk => ?_) (fun hk => ?_)) j.sub fun v S7 H7 e7 pv => q _ _ _ (gr_back e1 hSb hS1b e3 (j.step e7)) (by rw [er]; exact pv)
      · rw [if_pos (of_decide_eq_true hk)]
        exact ee_tupleOf g2 (ee_var 2 rfl pl)
      · rw [if_neg (of_decide_eq_false hk)]
        exact ee_non
end
end K08
namespace K08
open PySem PySem.Spec PyProof.Rows L2 Z Y
section
variable {P : Program} {w : World} {K : PySem.W.Frag} {mg : Str → Option Value} {base : Heap} {f : Addr} {fd : FuncData}
/-! ## read_fact refused -/
def arg1 (w : Str) : Str := if w = "1" then "" else w
def partO (z w : Str) : Option (List Int) := if w.length = 0 then none else rdM z (arg1 w)
def partM (z w : Str) : PyData := match partO z w with
  | some l => tI l
  | none => .none
def txtOk (t : Str) : Bool := decide (t.length ≤ 1000) && (decide ((wordsT t).length ≤ 1000) && (wordsT t).all fun w => decide (w.length ≤ 1000))
def badF (z t : Str) : Bool := decide (t.length ≤ 1000) && ((!decide ((Txt.count t " <= " : Int) = 1)) || (decide ((Txt.partition t " <= ").1.length ≤ 1000) && (decide ((Txt.partition t " <= ").2.2.length ≤ 1000) && (txtOk (arg1 (Txt.partition t " <= ").1) && (txtOk (arg1 (Txt.partition t " <= ").2.2) && ((partO z (Txt.partition t " <= ").1).isNone || (partO z (Txt.partition t " <= ").2.2).isNone))))))
/-- what o.read_fact(d) raises -/
def GRF (C : Addr) (kX : EK) (K : PySem.W.Frag) : List V → Hp → EK → PyData → Prop := fun vs S k g => ∃ z ps v u d, vs = [v, u] ∧ SchP K C z ps v S ∧ Dt K d u S ∧ 1 ≤ z.cps.size ∧ z.cps.size ≤ 3 ∧ (isD d "str" = false ∨ ∃ t, d = .str t ∧ badF z t = true) ∧ k = kX ∧ g = .none
theorem sc_SrfX : FnScope ["self", "text", "low", "_", "high", "found", "word", "part"] ["self", "text"] (defScope sSchema__read_fact) := ⟨rfl, rfl, rfl, by decide +kernel, rfl, by decide +kernel, by decide +kernel⟩
theorem ok_SrfX {K : PySem.W.Frag} {mg : Str → Option Value} {base : Heap} {P : Program} {w : World} {f : Addr} {fd : FuncData} {C : Addr} {kX : EK} (F : FnM K "read_fact" "Schema.read_fact" sSchema__read_fact f fd) (R : Err0 P w K mg base "InvalidText" kX.C kX.code) (hf : kX.fn = none) (D1 : KD P w K mg base "read_monomial" 2 (spD K FrdM)) (c : Cls K C) (n1 : NoAttr K C "columns") (g1 : mg "isinstance" = none) (g2 : mg "str" = none) : FnOk P w K mg base (L2.CX P w) 4 f fd ["self", "text"] (spX K (GRF C kX K)) := by
  refine fn_hsX F sc_SrfX (fun vs H Q E h => ?_) (fun cdv A outer sh H vs Q E hr h tk => ?_)
  · obtain ⟨S, k, g, _, ⟨z, ps, v, u, d, rfl, _⟩, _⟩ := h
    rfl
  · obtain ⟨S, k, g, s, ⟨z, ps, v, u, d, rfl, pv, pu, hz1, hz3, hb, rfl, rfl⟩, hx⟩ := h
    have n1000 : ∀ n : Nat, n ≤ 1000 → n ≤ sizeLine := fun n h => Nat.le_trans h (by show 1000 ≤ 16777216; decide)
    rcases hb with h0 | ⟨t, rfl, hbad⟩
    · refine hs_ifT ((et_w (ew_or (k2 := true) (et_not (et_val (ee_isi (isD_ok d (T := "str") (by simp)) g1 g2 boot_str (ee_var 1 rfl pu)))) fun h => ?_)).is (by simp)) s fun S1 H1 e1 => ?_
      · rw [h0] at h; cases h
      · exact hs_raise0 rfl tk R hf (hr.mono (by decide)) e1.sub (hx.up e1)
    obtain rfl := pu.str_inv
    unfold badF at hbad
    rw [Bool.and_eq_true, decide_eq_true_eq] at hbad
    obtain ⟨ht, hbad⟩ := hbad
    have hcond : ET (cxOf (L2.CX P w) P w K mg base ["self", "text", "low", "_", "high", "found", "word", "part"] "Schema.read_fact" (defScope sSchema__read_fact) f cdv A outer sh H E) [some v, some (.str t), none, none, none, none, none, none] S (match defBody sSchema__read_fact with | .If c _ _ _ :: _ => c | _ => .Constant .none 0 ⟨0, 0, 0, 0⟩) (!decide ((Txt.count t " <= " : Int) = 1)) :=
      (et_w (ew_or (et_not (et_val (ee_isi (isD_ok (.str t) (T := "str") (by simp)) g1 g2 boot_str (ee_var 1 rfl (.str t))))) fun _ => ew_or1 (et_neI (ee_count (ee_var 1 rfl (.str t)) ee_str) ee_int))).is (by simp [isDs])
    rw [Bool.or_eq_true] at hbad
    by_cases hcnt : ¬ ((Txt.count t " <= " : Int) = 1)
    · refine hs_ifT (hcond.is (by rw [decide_eq_false hcnt]; rfl)) s fun S1 H1 e1 => ?_
      exact hs_raise0 rfl tk R hf (hr.mono (by decide)) e1.sub (hx.up e1)
    have hcnt := Classical.not_not.mp hcnt
    rcases hbad with h | hbad
    · rw [decide_eq_true hcnt] at h; cases h
    simp only [Bool.and_eq_true, decide_eq_true_eq] at hbad
    obtain ⟨hl1, hl2, ho1, ho2, hno⟩ := hbad
    refine hs_ifN (hcond.is (by rw [decide_eq_true hcnt]; rfl)) s fun S1 H1 e1 => ?_
    have hx1 := hx.up e1
    refine hs_unpack3 (i := 2) (j := 3) (m := 4) rfl sc_SrfX.nd (ee_partition (z := t) (y := " <= ") rfl (n1000 _ ht) (ee_var 1 rfl (.str t)) ee_str) e1.sub fun w1 w2 w3 S2 H2 e2 q1 q2 q3 => ?_
    obtain rfl := q1.str_inv
    obtain rfl := q2.str_inv
    obtain rfl := q3.str_inv
    generalize hlo : (Txt.partition t " <= ").1 = lo at hl1 ho1 hno
    generalize hhi : (Txt.partition t " <= ").2.2 = hi at hl2 ho2 hno
    have e12 := e1.trans e2
    have hx2 := hx1.up e2
    refine hs_set (i := 5) ee_lstNew0 e2.sub sc_SrfX.nd fun vb S3 H3 e3 pb => ?_
    obtain ⟨b, xs0, rfl, hS2b, hS3b, hx0, _⟩ := pb
    have hxs0 : xs0.length = 0 := hx0.1
    have hH3b := e3.sub _ _ hS3b
    let ws : List Str := [lo, hi]
    refine hs_forH (Ps := Ds K (ws.map .str)) (passes_of rfl) rfl (ei_tup (ee_tup (ds := ws.map .str) (ea_2 (ee_var 2 rfl (.str lo)) (ee_var 4 rfl (.str hi))))) (e3.st.trans e3.sub) fun S4 H4 e4 => ?_
    have hS4b : S4 b = none := (e4.old b _ hH3b (by intro ys z; cases z)).trans hS2b
    have hH4b := e4.hh _ _ hH3b
    refine ⟨fun i σ' H' => ∃ T xs x6 x7, σ' = [some v, some (.str t), some (.str lo), some (.str (Txt.partition t " <= ").2.1), some (.str hi), some (.ref b), x6, x7] ∧ GrI b S4 H4 T H' ∧ T b = some (.lst xs) ∧ xs.length ≤ i ∧ ∀ k (hk : k < ws.length), k < i → (partO z ws[k]).isSome = true, ⟨_, xs0, none, none, rfl, GrI.start e4.sub hS4b hH4b, upd_same, by omega, fun k _ h => absurd h (Nat.not_lt_zero _)⟩, fun i σ' H' ⟨T, xs, x6, x7, _, j, _⟩ => j.st.trans j.sub, ?_, ?_⟩
    · rintro i Pi σ1 H5 x H6 hP ⟨T, xs, x6, x7, rfl, j, hT, hxl, hsome⟩ y
      obtain ⟨T6, e6, px⟩ := y T j.st j.sub
      have j6 := j.step e6
      have hi' : i < ws.length := by
        have := (List.getElem?_eq_some_iff.mp hP).1
        rw [ds_len, List.length_map] at this; exact this
      have hw2 : ws.length = 2 := rfl
      have hwi : (ws.map PyData.str)[i]? = some (.str ws[i]) := by rw [List.getElem?_map, List.getElem?_eq_getElem hi']; rfl
      rw [ds_get hwi] at hP
      obtain rfl := Option.some.inj hP
      obtain ⟨hwl, hwo⟩ : ws[i].length ≤ 1000 ∧ txtOk (arg1 ws[i]) = true := by
        match i, hi' with
        | 0, _ => exact ⟨hl1, ho1⟩
        | 1, _ => exact ⟨hl2, ho2⟩
      have hsn : ∀ k (hk : k < ws.length), k < i + 1 → (k < i ∨ k = i) := fun k _ h => by omega
      generalize hW : ws[i] = wd at px hwl hwo
      obtain rfl := px.str_inv
      refine (eg_name (i := 6) sc_SrfX.nd rfl (Or.inl rfl)) H6 e6.sub _ ?_
      have pv6 : SchP K C z ps v T6 := Mn.up (e12.st.trans (e4.st.trans j6.st)) pv
      have hT6 : T6 b = some (.lst xs) := e6.st _ _ hT
      unfold txtOk at hwo
      simp only [Bool.and_eq_true, decide_eq_true_eq, List.all_eq_true] at hwo
      obtain ⟨k1, k2, k3⟩ := hwo
      refine hs_set (i := 7) (P := Dt K (partM z wd)) (ee_if (k := truD (.str wd)) (et_tru (ee_var 6 rfl (.str wd)) (fun x hx => by cases hx; exact n1000 _ hwl)) (fun hk => ?_) (fun hk => ?_)) j6.sub sc_SrfX.nd fun vp T7 H7 e7 pp => ?_
      · have hw0 : ¬ wd.length = 0 := by
          have hk : ((wd.length : Int) != 0) = true := hk
          rw [bne_iff_ne] at hk; omega
        have ep : partM z wd = resM z (arg1 wd) := by unfold partM partO; rw [if_neg hw0]; rfl
        rw [ep]
        refine ee_callD D1 (hr.mono (by decide)) ⟨z, arg1 wd, rfl, hz1, hz3, k1, k2, k3, rfl⟩ (ea_2 (ee_fld (ee_var 0 rfl pv6) SchP.cfld c n1) ?_)
        refine ee_if (k := decide (wd = "1")) (et_eqS (ee_var 6 rfl (.str wd)) ee_str) (fun hk => ?_) (fun hk => ?_)
        · unfold arg1; rw [if_pos (of_decide_eq_true hk)]; exact ee_str
        · unfold arg1; rw [if_neg (of_decide_eq_false hk)]; exact ee_var 6 rfl (.str wd)
      · have hw0 : wd.length = 0 := by
          have hk : ((wd.length : Int) != 0) = false := hk
          simpa using hk
        have ep : partM z wd = .none := by unfold partM partO; rw [if_pos hw0]
        rw [ep]
        exact ee_non
      have j7 := j6.step e7
      have hT7 := e7.st _ _ hT6
      have hxT : XErr K k .none T7 H7 E := hx2.up (gr_back e3 hS2b hS3b e4 j7)
      cases hpo : partO z wd with
      | none =>
        have ep : partM z wd = .none := by unfold partM; rw [hpo]
        rw [ep] at pp
        cases pp
        refine hs_ifT ((et_isN (v := .non) (ee_var 7 rfl rfl)).is (by simp)) j7.sub fun T8 H8 e8 => ?_
        exact hs_raise0 rfl tk R hf (hr.mono (by decide)) e8.sub (hxT.up e8)
      | some l =>
        have ep : partM z wd = tI l := by unfold partM; rw [hpo]
        rw [ep] at pp
        have hne : vp ≠ .non := fun e => by
          subst e
          obtain ⟨a, ys, ea, _⟩ := pp.tup_inv
          cases ea
        refine hs_ifN ((et_isN (v := vp) (ee_var 7 rfl rfl)).is (decide_eq_false hne)) j7.sub fun T8 H8 e8 => ?_
        have j8 := j7.step e8
        refine hs_appendS (P := Dt K (tI l)) (r := b) (xs := xs) (ee_var 5 rfl rfl) j8.sub (e8.st _ _ hT7) (by omega) (ee_var 7 rfl (pp.up e8.st)) fun v9 T9 H9 e9 p9 => hs_nil ?_
        refine ⟨_, xs ++ [v9], _, _, rfl, (j8.step e9).put hS4b, upd_same, by rw [List.length_append]; show _ + 1 ≤ _; omega, fun m hm hmi => ?_⟩
        rcases hsn m hm hmi with h | rfl
        · exact hsome m hm h
        · rw [hW, hpo]; rfl
    · rintro σ1 H5 ⟨T, xs, x6, x7, rfl, j, hT, hxl, hsome⟩
      exfalso
      have hlen : (Ds K (ws.map PyData.str)).length = 2 := by rw [ds_len, List.length_map]; rfl
      have s0 : (partO z lo).isSome = true := hsome 0 (show 0 < 2 by omega) (by show 0 < (Ds K (ws.map PyData.str)).length; omega)
      have s1 : (partO z hi).isSome = true := hsome 1 (show 1 < 2 by omega) (by show 1 < (Ds K (ws.map PyData.str)).length; omega)
      rw [Bool.or_eq_true] at hno
      cases e0 : partO z lo <;> cases e1 : partO z hi <;> rw [e0] at s0 hno <;> rw [e1] at s1 hno <;> simp at s0 s1 hno
end
end K08
namespace K08
open PySem PySem.Spec PyProof.Rows L2 Z Y
section
variable {P : Program} {w : World} {K : PySem.W.Frag} {mg : Str → Option Value} {base : Heap} {f : Addr} {fd : FuncData}
/-! ## _law_field: any kind -/
theorem sc_law_field : FnScope ["_law_e"] ["_law_e"] (defScope sL_field) := ⟨rfl, rfl, rfl, by decide +kernel, rfl, by decide +kernel, by decide +kernel⟩
theorem ok_law_fieldG {tup : List Value} (F : FnT K "_law_field" sL_field f fd) : FnP P w K mg base 1 f fd ["_law_e"] (spFieldG K tup) := by
  refine fn_hsP F sc_law_field (fun p vs H Q h => ?_) (fun cdv A outer sh H vs Q p hr h => ?_)
  · obtain ⟨S, k, g, _, rfl, _⟩ := h
    rfl
  · obtain ⟨S, k, g, s, rfl, ok, px, q⟩ := h
    have hp : p ∈ [p] := List.mem_cons_self
    have hfld := ok.fld
    have fin : ∀ {S1 H1 : Hp} {v : V} {S' H' : Hp}, Gr S H S1 H1 → Gr S1 H1 S' H' → Dt K g v S' → Q v H' := fun a b c => q _ _ _ (a.trans b) c
    refine hs_if (et_inLs (ns := fldAt) (ee_codeG hp px ok (ee_var 0 rfl rfl)) (ee_lst (ds := fldAt.map .str) (by repeat (first | exact ea_nil | refine ea_cons ee_str ?_)))) s (fun hk S1 H1 g1 => ?_) (fun hk S1 H1 g1 => hs_nil ?_)
    · unfold fieldOf at hfld
      rw [if_pos hk] at hfld
      exact hs_ret (ee_keptG hp (px.up g1.st) ok hfld (ee_var 0 rfl rfl)) g1.sub fun v S' H' g' pv => fin g1 g' pv
    unfold fieldOf at hfld
    rw [if_neg (by rw [hk]; exact Bool.false_ne_true)] at hfld
    have px := px.up g1.st
    refine hs_if (et_inLs (ns := fldNm) (ee_codeG hp px ok (ee_var 0 rfl rfl)) (ee_lst (ds := fldNm.map .str) (by repeat (first | exact ea_nil | refine ea_cons ee_str ?_)))) g1.sub (fun hk S2 H2 g2 => ?_) (fun hk S2 H2 g2 => hs_nil ?_)
    · rw [if_pos hk] at hfld
      exact hs_ret (ee_keptG hp (px.up g2.st) ok hfld (ee_var 0 rfl rfl)) g2.sub fun v S' H' g' pv => fin (g1.trans g2) g' pv
    rw [if_neg (by rw [hk]; exact Bool.false_ne_true)] at hfld
    have px := px.up g2.st
    have g12 := g1.trans g2
    refine hs_if (et_inLs (ns := fldNo) (ee_codeG hp px ok (ee_var 0 rfl rfl)) (ee_lst (ds := fldNo.map .str) (by repeat (first | exact ea_nil | refine ea_cons ee_str ?_)))) g2.sub (fun hk S3 H3 g3 => ?_) (fun hk S3 H3 g3 => hs_nil ?_)
    · rw [if_pos hk] at hfld
      obtain ⟨dd, fs, _, _, _, _, _, h6, _⟩ := px
      have e := h6 hfld
      subst e
      exact hs_ret (P := Dt K .none) ee_non g3.sub fun v S' H' g' pv => fin (g12.trans g3) g' pv
    rw [if_neg (by rw [hk]; exact Bool.false_ne_true)] at hfld
    have px := px.up g3.st
    have g13 := g12.trans g3
    refine hs_if (et_eqS (ee_codeG hp px ok (ee_var 0 rfl rfl)) ee_str) g3.sub (fun hk S4 H4 g4 => ?_) (fun hk S4 H4 g4 => hs_nil ?_)
    · rw [if_pos hk] at hfld
      exact hs_ret (ee_keptG hp (px.up g4.st) ok hfld (ee_var 0 rfl rfl)) g4.sub fun v S' H' g' pv => fin (g13.trans g4) g' pv
    rw [if_neg (by rw [hk]; exact Bool.false_ne_true)] at hfld
    have px := px.up g4.st
    have g14 := g13.trans g4
    refine hs_if (et_eqS (ee_codeG hp px ok (ee_var 0 rfl rfl)) ee_str) g4.sub (fun hk S5 H5 g5 => ?_) (fun hk S5 H5 g5 => hs_nil ?_)
    · rw [if_pos hk] at hfld
      exact hs_ret (ee_keptG hp (px.up g5.st) ok hfld (ee_var 0 rfl rfl)) g5.sub fun v S' H' g' pv => fin (g14.trans g5) g' pv
    rw [if_neg (by rw [hk]; exact Bool.false_ne_true)] at hfld
    have px := px.up g5.st
    have g15 := g14.trans g5
    refine hs_if (et_eqS (ee_codeG hp px ok (ee_var 0 rfl rfl)) ee_str) g5.sub (fun hk S6 H6 g6 => ?_) (fun hk S6 H6 g6 => hs_nil ?_)
    · rw [if_pos hk] at hfld
      exact hs_ret (ee_keptG hp (px.up g6.st) ok hfld (ee_var 0 rfl rfl)) g6.sub fun v S' H' g' pv => fin (g15.trans g6) g' pv
    rw [if_neg (by rw [hk]; exact Bool.false_ne_true)] at hfld
    have px := px.up g6.st
    have g16 := g15.trans g6
    refine hs_ifN ((et_eqS (ee_codeG hp px ok (ee_var 0 rfl rfl)) ee_str).is ok.nt) g6.sub fun S7 H7 g7 => ?_
    have px := px.up g7.st
    refine hs_ifN ((et_eqS (ee_codeG hp px ok (ee_var 0 rfl rfl)) ee_str).is ok.nb) g7.sub fun S8 H8 g8 => ?_
    have px := px.up g8.st
    have g18 := (g16.trans g7).trans g8
    refine hs_ret (ee_if (Q' := Dt K g) (et_eqS (ee_codeG hp px ok (ee_var 0 rfl rfl)) ee_str) (fun hk => ?_) fun hk => ?_) g8.sub fun v S' H' g' pv => fin g18 g' pv
    · rw [if_pos hk] at hfld
      exact ee_keptG hp px ok hfld (ee_var 0 rfl rfl)
    · rw [if_neg (by rw [hk]; exact Bool.false_ne_true)] at hfld
      exact ee_keptG hp px ok hfld (ee_var 0 rfl rfl)
/-! ## _law_try, _law_tries: asks of any kind -/
theorem sc_law_try : FnScope ["_law_ask", "_law_e"] ["_law_ask"] (defScope sL_try) := ⟨rfl, rfl, rfl, by decide +kernel, rfl, by decide +kernel, by decide +kernel⟩
theorem ok_law_try {C1 C2 C3 : Addr} {k : Nat} (F : FnT K "_law_try" sL_try f fd) (D1 : ∃ f fd, FnP P w K mg base 1 f fd ["_law_e"] (spFieldG K [.ref C1, .ref C2, .ref C3]) ∧ mg "_law_field" = some (.ref f) ∧ PySem.W.keepIn K (.ref f) = true ∧ Binds K fd ["_law_e"] [])
    (m1 : mg "DealError" = some (.ref C1)) (m2 : mg "Missing" = some (.ref C2)) (m3 : mg "NothingLeft" = some (.ref C3)) (hk : 1 ≤ k) : FnOk P w K mg base CX0 (k + 1) f fd ["_law_ask"] (spTry P w K mg base [.ref C1, .ref C2, .ref C3] k) := by
  refine fn_hs F sc_law_try (fun vs H Q E h => ?_) (fun cdv A outer sh H vs Q E hr h => ?_)
  · obtain ⟨S, f', F', fr, dvs, ws, L, sp, Od, O, rfl, _⟩ := h
    rfl
  · obtain ⟨S, f', F', fr, dvs, ws, L, sp, Od, O, rfl, LO, KH, s, hok, hR, q⟩ := h
    obtain ⟨fF, fdF, FP, hmF, hkF, hbF⟩ := D1
    refine hs_tryAs (Wout := fun _ _ _ _ => False) (i := 1) (n := "_law_e") rfl rfl (show (["_law_ask", "_law_e"] : List Str).Nodup by decide) rfl rfl LamX.takes0 fun pn xe tk _ => ?_
    refine hs_cons (ps_ret (pe_tup (pa_cons (te := tC (.str "")) pe_str (pa_cons (te := bE _ _) peb pa_nil)))) ?_
    refine he_callLam (i := 0) (E := fun cls d H' => ∀ σ', WAs _ _ 1 _ (fun _ _ _ _ => False) _ cls d σ' H') tk (fun cls d σ' H' h => h σ') LO hr rfl KH (hR _ _ (fun v S1 H1 g1 ⟨d, hd, pv⟩ hL => ?_) fun e g ho => ?_) rfl (Or.inl rfl)
    · -- a value
      have g2 : Gr S H S1 (shownL H1 L) := Y.Gr.shownL g1 hL KH.shw KH.nd
      refine ⟨by show 2 ≤ 16777216; omega, fun p hp => ?_⟩
      exact q _ _ _ (g2.trans (Gr.new g2.sub hp)) ⟨_, .inl ⟨d, hd, rfl⟩, Dt.tup_mk (tus_of upd_same) (al_dts (ds := [.str "", d]) (.cons (.str _) (.cons (pv.up (Same.new (g2.sub.free hp))) .nil))) (by show 2 ≤ 16777216; omega)⟩
    · intro d fs S3 H3 g1 hd hxd hcode hnone hat hL σ' hlen
      have ok := hok e g ho
      have g2 : Gr S H S3 (shownL H3 L) := Y.Gr.shownL g1 hL KH.shw KH.nd
      refine ⟨true, tst3 ⟨rfl, by decide, .inl m1⟩ ⟨rfl, by decide, .inl m2⟩ ⟨rfl, by decide, .inl m3⟩ ok.ex, fun _ a oe pn na nb hz hf => ?_, fun z => nomatch z⟩
      have px : ExcG K e g (a, oe) S3 := ⟨d, fs, hz.1, hz.2, hf, hxd, hcode, hnone, hat⟩
      have hσ : (σ'.set 1 (some (V.ref a)))[1]? = some (some (V.ref a)) := by
        have z : σ'.length = 2 := hlen
        rw [List.getElem?_set_self (by omega)]
      refine hs_cons (ps_ret (pe_tup (pa_cons (te := bE _ _) peb (pa_cons (te := bE _ _) peb pa_nil)))) ?_
      refine (ee_codeG (p := (a, oe)) List.mem_cons_self px ok (ee_var (P := fun w _ => w = .ref a) 1 hσ rfl)) _ g2.sub _ fun x S4 H4 g4 px4 => ?_
      cases px4
      refine he_callP FP ⟨(L2H.roomH_of (hr.mono hk)).dp, (L2H.roomH_of (hr.mono hk)).un⟩ hmF hkF hbF (he_of (pv 1 rfl (Or.inl rfl) (by decide) (by decide)) ⟨.ref a, hσ, rfl, rfl⟩) ⟨S4, e, g, g4.sub, rfl, ok, px.up g4.st, fun v S5 H5 g5 pv5 => ⟨by show 2 ≤ 16777216; omega, fun p hp => ?_⟩⟩
      refine q _ _ _ (((g2.trans g4).trans g5).trans (Gr.new g5.sub hp)) ⟨_, .inr ⟨e, g, ho, rfl⟩, Dt.tup_mk (tus_of upd_same) (al_dts (ds := [.str e.code, g]) (.cons (.str _) (.cons (pv5.up (Same.new (g5.sub.free hp))) .nil))) (by show 2 ≤ 16777216; omega)⟩
theorem sc_law_tries : FnScope ["_law_asks", "_law_ask"] ["_law_asks"] (defScope sL_tries) := ⟨rfl, rfl, rfl, by decide +kernel, rfl, by decide +kernel, by decide +kernel⟩
theorem ok_law_tries {tup : List Value} {k : Nat} (F : FnT K "_law_tries" sL_tries f fd) (D1 : KD P w K mg base "_law_try" (k + 1) (spTry P w K mg base tup k)) : FnOk P w K mg base CX0 (k + 3) f fd ["_law_asks"] (spTries P w K mg base tup k) := by
  refine fn_hs F sc_law_tries (fun vs H Q E h => ?_) (fun cdv A outer sh H vs Q E hr h => ?_)
  · obtain ⟨S, its, l, _, rfl, _⟩ := h
    rfl
  · obtain ⟨S, its, l, s, rfl, hl, hz, q⟩ := h
    refine hs_ret (ee_lcA (R := AskJ) (ds := its) (own := [("_law_ask", 1)]) (p := fun _ => true) (G := fun it r => RtD it.Od it.O r) rfl sc_law_tries.nd (blkOk_by (N := ["_law_asks", "_law_ask"]) (sc := defScope sL_tries) (by decide +kernel)) (ei_lstP (fun P hP => ?_) (ee_var 0 rfl hl)) (Nat.le_trans hz (by show 1000 ≤ 16777216; omega)) fun it _ v S' s' pv => ⟨_, wipe1, fun sh' H0 C' cl fp => ⟨eg_name (i := 1) sc_law_tries.nd rfl (by first | exact Or.inl rfl | exact Or.inr rfl) (by first | exact .inl rfl | exact .inr rfl), ets_nil, fun _ => ?_⟩⟩) s fun u S1 H1 g h => ?_
    · obtain ⟨it, _, rfl⟩ := List.mem_map.mp hP
      exact askMn
    · exact ee_call D1 (hr.mono (by omega)) (ea_1 (ee_var 1 rfl pv)) (try_E it)
    · obtain ⟨rs, h1, h2⟩ := h
      rw [filter_true] at h1
      exact q u S1 H1 g ⟨rs, h1, h2⟩
end
end K08
namespace K08
open PySem PySem.Spec PyProof.Rows L2 Z Y
/-! ## the texts that are no facts, the columns that are none: over all columns that the law draws -/
def x0 (a st : Int) : Str := ⟨#[colCode a st 0]⟩
def noneT (x : Str) : List Str := ["", "1", "1 <= ", " <= 1", "1 <= 1 <= 1", "1 < 1", x ++ "1 <= 1", x ++ "7 <= 1", "1 <= " ++ x ++ " " ++ x, x ++ "02 <= 1", "1  <= 1", "1 <= 1 ", " 1 <= 1", x ++ "0 <= 1", "1 <= S[]", x ++ " 1 <= 1", x ++ "22 <= 1", "1 <= 1\n"]
def badT (z x xu : Str) : List Str := ["", z ++ x, Txt.mul x 2, "abcd", "A", "x1", " ", xu, "x y"]
def badCb (z : Str) : Bool := z.cps.all (· < 128) && (decide (z.cps.size ≤ 1000) && !(decide (1 ≤ z.cps.size) && (decide (z.cps.size ≤ 3) && (decide ((outG z.cps.toList []).length = z.cps.size) && z.cps.toList.all fun c => decide (97 ≤ c) && decide (c ≤ 122)))))
def chkC (a : Nat) (st : Int) (n : Nat) : Bool := (noneT (x0 (a : Int) st)).all (badF (cols (a : Int) st n)) && (badT (cols (a : Int) st n) (x0 (a : Int) st) ⟨#[colCode (a : Int) st 0 - 32]⟩).all badCb
theorem chk_0 : ∀ a : Nat, a < 4 → ∀ st ∈ ([1, 25, 3, 7, 11] : List Int), ∀ n ∈ ([1, 2, 3] : List Nat), chkC (a + 0) st n = true := by decide +kernel
theorem chk_1 : ∀ a : Nat, a < 4 → ∀ st ∈ ([1, 25, 3, 7, 11] : List Int), ∀ n ∈ ([1, 2, 3] : List Nat), chkC (a + 4) st n = true := by decide +kernel
theorem chk_2 : ∀ a : Nat, a < 4 → ∀ st ∈ ([1, 25, 3, 7, 11] : List Int), ∀ n ∈ ([1, 2, 3] : List Nat), chkC (a + 8) st n = true := by decide +kernel
theorem chk_3 : ∀ a : Nat, a < 4 → ∀ st ∈ ([1, 25, 3, 7, 11] : List Int), ∀ n ∈ ([1, 2, 3] : List Nat), chkC (a + 12) st n = true := by decide +kernel
theorem chk_4 : ∀ a : Nat, a < 4 → ∀ st ∈ ([1, 25, 3, 7, 11] : List Int), ∀ n ∈ ([1, 2, 3] : List Nat), chkC (a + 16) st n = true := by decide +kernel
theorem chk_5 : ∀ a : Nat, a < 4 → ∀ st ∈ ([1, 25, 3, 7, 11] : List Int), ∀ n ∈ ([1, 2, 3] : List Nat), chkC (a + 20) st n = true := by decide +kernel
theorem chk_6 : ∀ a : Nat, a < 2 → ∀ st ∈ ([1, 25, 3, 7, 11] : List Int), ∀ n ∈ ([1, 2, 3] : List Nat), chkC (a + 24) st n = true := by decide +kernel
theorem chk_all {a n : Nat} {st : Int} (ha : a < 26) (hs : st ∈ ([1, 25, 3, 7, 11] : List Int)) (hn : n ∈ ([1, 2, 3] : List Nat)) : chkC a st n = true := by
  have key : ∀ lo k : Nat, (∀ a : Nat, a < k → ∀ st ∈ ([1, 25, 3, 7, 11] : List Int), ∀ n ∈ ([1, 2, 3] : List Nat), chkC (a + lo) st n = true) → lo ≤ a → a < lo + k → chkC a st n = true := fun lo k h h1 h2 => by
    have := h (a - lo) (by omega) st hs n hn
    rwa [Nat.sub_add_cancel h1] at this
  rcases Nat.lt_or_ge a 4 with h | h
  · exact key 0 4 chk_0 (by omega) (by omega)
  rcases Nat.lt_or_ge a 8 with h | h
  · exact key 4 4 chk_1 (by omega) (by omega)
  rcases Nat.lt_or_ge a 12 with h | h
  · exact key 8 4 chk_2 (by omega) (by omega)
  rcases Nat.lt_or_ge a 16 with h | h
  · exact key 12 4 chk_3 (by omega) (by omega)
  rcases Nat.lt_or_ge a 20 with h | h
  · exact key 16 4 chk_4 (by omega) (by omega)
  rcases Nat.lt_or_ge a 24 with h | h
  · exact key 20 4 chk_5 (by omega) (by omega)
  · exact key 24 2 chk_6 (by omega) (by omega)
end K08
namespace K08
open PySem PySem.Spec PyProof.Rows L2 Z Y
/-! ## plain facts for k08 -/
theorem col_mod (a st : Int) (i : Nat) : colCode a st i = colCode (((a % 26).toNat : Nat) : Int) st i := by
  unfold colCode
  have h1 := Int.emod_nonneg a (show (26 : Int) ≠ 0 by decide)
  rw [Int.toNat_of_nonneg h1, Int.emod_add_emod]
theorem cols_mod (a st : Int) (n : Nat) : cols a st n = cols (((a % 26).toNat : Nat) : Int) st n := by
  unfold cols
  have : colCode a st = colCode (((a % 26).toNat : Nat) : Int) st := funext fun i => col_mod a st i
  rw [this]
theorem col_ok {a st : Int} {n : Nat} (hs : stepOk st) (n1 : 1 ≤ n) (n3 : n ≤ 3) : ColOk (cols a st n) := by
  have e : (cols a st n).cps.toList = (List.range n).map (colCode a st) := by unfold cols; simp
  refine ⟨?_, ?_, ?_, ?_, fun c hc => ?_⟩
  · rw [← Array.all_toList, e, List.all_eq_true]
    intro c hc
    obtain ⟨i, _, rfl⟩ := List.mem_map.mp hc
    have := col_range a st i
    exact decide_eq_true (by omega)
  · rw [e]; exact cols_nodup hs n3
  · rw [cols_size]; exact n1
  · rw [cols_size]; exact n3
  · rw [e] at hc
    obtain ⟨i, _, rfl⟩ := List.mem_map.mp hc
    exact col_range a st i
theorem chk_cols {a st : Int} {n : Nat} (hs : stepOk st) (n1 : 1 ≤ n) (n3 : n ≤ 3) : (∀ t ∈ noneT (x0 a st), badF (cols a st n) t = true) ∧ ∀ t ∈ badT (cols a st n) (x0 a st) ⟨#[colCode a st 0 - 32]⟩, badCb t = true := by
  have h26 := Int.emod_lt_of_pos a (show (0 : Int) < 26 by decide)
  have h0 := Int.emod_nonneg a (show (26 : Int) ≠ 0 by decide)
  have h := chk_all (a := (a % 26).toNat) (n := n) (st := st) (by omega) hs (by simp; omega)
  unfold chkC at h
  rw [Bool.and_eq_true, ← cols_mod, ← col_mod] at h
  have ex : x0 (((a % 26).toNat : Nat) : Int) st = x0 a st := by unfold x0; rw [← col_mod]
  rw [ex] at h
  exact ⟨List.all_eq_true.mp h.1, List.all_eq_true.mp h.2⟩
theorem badC_of {z : Str} (h : badCb z = true) : BadC (.str z) := by
  unfold badCb at h
  rw [Bool.and_eq_true, Bool.and_eq_true, decide_eq_true_eq] at h
  obtain ⟨h1, h2, h3⟩ := h
  refine .inr ⟨z, rfl, h1, h2, fun ⟨k1, k2, k3, k4⟩ => ?_⟩
  rw [decide_eq_true k1, decide_eq_true k2, decide_eq_true k3] at h3
  have : (z.cps.toList.all fun c => decide (97 ≤ c) && decide (c ≤ 122)) = true := List.all_eq_true.mpr fun c hc => by
    have := k4 c hc
    rw [decide_eq_true this.1, decide_eq_true this.2]; rfl
  rw [this] at h3
  cases h3
def badsL (z x : Str) : List PyData := [.none, .str "", .str (z ++ x), .str (Txt.mul x 2), .str "abcd", .str "A", .str "x1", .str " ", .int 3, .tuple [.str z], .list [.str z], .bool true, .str (Txt.upper x), .str "x y"]
theorem up_x0 (a st : Int) : Txt.upper (x0 a st) = ⟨#[colCode a st 0 - 32]⟩ := by
  have h := col_range a st 0
  unfold x0
  rw [PySem.W.KOpn.upper_one (by omega), if_pos h]
theorem bads_bad {a st : Int} {n : Nat} (hs : stepOk st) (n1 : 1 ≤ n) (n3 : n ≤ 3) {d : PyData} (h : d ∈ badsL (cols a st n) (x0 a st)) : BadC d := by
  have hT := (chk_cols (a := a) hs n1 n3).2
  unfold badsL at h
  rw [up_x0] at h
  simp only [List.mem_cons, List.not_mem_nil, or_false] at h
  rcases h with rfl | rfl | rfl | rfl | rfl | rfl | rfl | rfl | rfl | rfl | rfl | rfl | rfl | rfl
  all_goals first | exact .inl rfl | exact badC_of (hT _ (by unfold badT; simp))
def nonesL (x : Str) : List PyData := .none :: .int 3 :: (noneT x).map .str
theorem nones_bad {a st : Int} {n : Nat} (hs : stepOk st) (n1 : 1 ≤ n) (n3 : n ≤ 3) {d : PyData} (h : d ∈ nonesL (x0 a st)) : isD d "str" = false ∨ ∃ t, d = .str t ∧ badF (cols a st n) t = true := by
  have hT := (chk_cols (a := a) hs n1 n3).1
  unfold nonesL at h
  rcases List.mem_cons.mp h with rfl | h
  · exact .inl rfl
  rcases List.mem_cons.mp h with rfl | h
  · exact .inl rfl
  · obtain ⟨t, ht, rfl⟩ := List.mem_map.mp h
    exact .inr ⟨t, rfl, hT t ht⟩
theorem ex_len {n : Nat} {l : List PyData} (h : l.length ≠ n) : isExp (.tuple l) (n : Nat) = false := by
  show (decide ((l.length : Int) = n) && _) = false
  rw [decide_eq_false (by omega)]; rfl
theorem ex_rep {n : Nat} (n1 : 1 ≤ n) {d : PyData} (h : (isNum d 0 && leNum d 6) = false) : isExp (.tuple (List.replicate n d)) (n : Nat) = false := by
  show (decide (((List.replicate n d).length : Int) = n) && (List.replicate n d).all fun x => isNum x 0 && leNum x 6) = false
  obtain ⟨m, rfl⟩ : ∃ m, n = m + 1 := ⟨n - 1, by omega⟩
  rw [List.replicate_succ, List.all_cons, h]
  simp
theorem tI_rep (n : Nat) (c : Int) : tI (List.replicate n c) = .tuple (List.replicate n (.int c)) := by
  show PyData.tuple ((List.replicate n c).map .int) = _
  rw [List.map_replicate]
def wrongsR (n : Nat) (l1 l2 : List Int) : List PyData := [.none, tI l1, .tuple [tI l1], .tuple [tI l1, tI l2, tI l1], .list [tI l1, tI l2], .tuple [tI l1, .list (l2.map .int)], .tuple [tI (l1 ++ [1]), tI l2], .tuple [tI l1, tI (l2.drop 1)], .tuple [tI l1, tI (List.replicate n 7)], .tuple [.tuple (List.replicate n (.bool true)), tI l2], .tuple [tI (List.replicate n (-1)), tI l2], .str "1 <= 1", .tuple [tI l1, .none]]
theorem wrong_rule {n : Nat} {l1 l2 : List Int} (n1 : 1 ≤ n) (h1 : l1.length = n) (h2 : l2.length = n) {d : PyData} (h : d ∈ wrongsR n l1 l2) : isRule n d = false := by
  have na : ∀ r s : PyData, isExp r (n : Nat) = false → isRule n (.tuple [r, s]) = false := fun r s h => by
    show (isExp r (n : Nat) && isExp s (n : Nat)) = false
    rw [h]; rfl
  have nb : ∀ r s : PyData, isExp s (n : Nat) = false → isRule n (.tuple [r, s]) = false := fun r s h => by
    show (isExp r (n : Nat) && isExp s (n : Nat)) = false
    rw [h, Bool.and_false]
  unfold wrongsR at h
  simp only [List.mem_cons, List.not_mem_nil, or_false] at h
  rcases h with rfl | rfl | rfl | rfl | rfl | rfl | rfl | rfl | rfl | rfl | rfl | rfl | rfl
  · rfl
  · match l1 with
    | [] => rfl
    | [_] => rfl
    | [a, b] => exact na _ _ rfl
    | _ :: _ :: _ :: _ => rfl
  · rfl
  · rfl
  · rfl
  · exact nb _ _ rfl
  · exact na _ _ (ex_len (by rw [List.length_map, List.length_append]; show l1.length + 1 ≠ n; omega))
  · exact nb _ _ (ex_len (by rw [List.length_map, List.length_drop]; omega))
  · rw [tI_rep]; exact nb _ _ (ex_rep n1 rfl)
  · exact na _ _ (ex_rep n1 rfl)
  · rw [tI_rep]; exact na _ _ (ex_rep n1 rfl)
  · rfl
  · exact nb _ _ rfl
def oddM (n : Nat) (l : List Int) : List PyData := [tI (l ++ [1]), tI (l.drop 1), tI (List.replicate n 7), .list (l.map .int)]
theorem oddL_exp {n : Nat} (n1 : 1 ≤ n) (n3 : n ≤ 3) {d : PyData} (h : d ∈ oddL) : isExp d (n : Nat) = false := by
  have key : ∀ m : Nat, m ≤ 3 → 1 ≤ m → (oddL.all fun d => !isExp d (m : Nat)) = true := by decide +kernel
  have := List.all_eq_true.mp (key n n3 n1) d h
  simpa using this
theorem odd_exp {n : Nat} {l : List Int} (n1 : 1 ≤ n) (n3 : n ≤ 3) (hl : l.length = n) {d : PyData} (h : d ∈ oddL ++ oddM n l) : isExp d (n : Nat) = false := by
  rcases List.mem_append.mp h with h | h
  · exact oddL_exp n1 n3 h
  unfold oddM at h
  simp only [List.mem_cons, List.not_mem_nil, or_false] at h
  rcases h with rfl | rfl | rfl | rfl
  · exact ex_len (by rw [List.length_map, List.length_append]; show l.length + 1 ≠ n; omega)
  · exact ex_len (by rw [List.length_map, List.length_drop]; omega)
  · rw [tI_rep]; exact ex_rep n1 rfl
  · rfl
theorem far_exp {n : Nat} (n1 : 1 ≤ n) (n3 : n ≤ 3) {d : PyData} (h : d ∈ oddL ++ [tI (List.replicate n (-1))]) : isExp d (n : Nat) = false := by
  rcases List.mem_append.mp h with h | h
  · exact oddL_exp n1 n3 h
  · obtain rfl := List.mem_singleton.mp h
    rw [tI_rep]; exact ex_rep n1 rfl
theorem rule_exp {n : Nat} {p : List Int × List Int} (h : RuleOk n p) : isExp (tI p.1) (n : Nat) = true := exp_rule h.1.1 h.1.2
/-! ### not deep -/
theorem bd_ints : ∀ l : List Int, Bd 1 (tI l) := fun l x hx => by
  obtain ⟨i, _, rfl⟩ := List.mem_map.mp hx
  trivial
theorem bd_intsL : ∀ l : List Int, Bd 1 (.list (l.map .int)) := fun l x hx => by
  obtain ⟨i, _, rfl⟩ := List.mem_map.mp hx
  trivial
theorem oddL_bd {d : PyData} (h : d ∈ oddL) : Bd 1 d := by
  unfold oddL at h
  simp only [List.mem_cons, List.not_mem_nil, or_false] at h
  rcases h with rfl | rfl | rfl | rfl | rfl | rfl | rfl | rfl | rfl | rfl | rfl
  all_goals first | trivial | (intro x hx; cases hx; done) | (intro x hx; simp only [List.mem_cons, List.not_mem_nil, or_false] at hx; obtain rfl := hx; trivial) | (intro x hx; simp only [List.mem_cons, List.not_mem_nil, or_false] at hx; rcases hx with rfl | rfl <;> trivial)
theorem odd_bd {n : Nat} {l : List Int} {d : PyData} (h : d ∈ oddL ++ oddM n l) : Bd 1 d := by
  rcases List.mem_append.mp h with h | h
  · exact oddL_bd h
  unfold oddM at h
  simp only [List.mem_cons, List.not_mem_nil, or_false] at h
  rcases h with rfl | rfl | rfl | rfl
  · exact bd_ints _
  · exact bd_ints _
  · exact bd_ints _
  · exact bd_intsL _
theorem far_bd {n : Nat} {d : PyData} (h : d ∈ oddL ++ [tI (List.replicate n (-1))]) : Bd 1 d := by
  rcases List.mem_append.mp h with h | h
  · exact oddL_bd h
  · obtain rfl := List.mem_singleton.mp h
    exact bd_ints _
theorem bads_bd {z x : Str} {d : PyData} (h : d ∈ badsL z x) : Bd 1 d := by
  unfold badsL at h
  simp only [List.mem_cons, List.not_mem_nil, or_false] at h
  rcases h with rfl | rfl | rfl | rfl | rfl | rfl | rfl | rfl | rfl | rfl | rfl | rfl | rfl | rfl
  all_goals first | trivial | (intro x hx; simp only [List.mem_cons, List.not_mem_nil, or_false] at hx; obtain rfl := hx; trivial)
theorem pair_bd {c : Str} {g : PyData} (h : Bd 1 g) : Bd 2 (.tuple [.str c, g]) := fun y hy => by
  simp only [List.mem_cons, List.not_mem_nil, or_false] at hy
  rcases hy with rfl | rfl
  · trivial
  · exact h
theorem bd_list {L : List PyData} (h : ∀ d ∈ L, Bd 2 d) : Bd 3 (.list L) := h
/-! ### cuts -/
theorem cut_to {α : Type} (xs : List α) {i : Nat} (h : i ≤ xs.length) : Z.cutD xs none (some (i : Int)) = xs.take i := by
  unfold Z.cutD
  have e1 : HT.sIx xs.length 0 none = 0 := rfl
  have e2 : HT.sIx xs.length xs.length (some (i : Int)) = i := by
    show (if (i : Int) < 0 then ((i : Int) + xs.length).toNat else min (i : Int).toNat xs.length) = i
    rw [if_neg (by omega)]; omega
  rw [e1, e2]; simp
theorem cut_from {α : Type} (xs : List α) {i : Nat} (h : i ≤ xs.length) : Z.cutD xs (some (i : Int)) none = xs.drop i := by
  unfold Z.cutD
  have e1 : HT.sIx xs.length 0 (some (i : Int)) = i := by
    show (if (i : Int) < 0 then ((i : Int) + xs.length).toNat else min (i : Int).toNat xs.length) = i
    rw [if_neg (by omega)]; omega
  have e2 : HT.sIx xs.length xs.length none = xs.length := rfl
  rw [e1, e2]
  exact List.take_of_length_le (by rw [List.length_drop]; omega)
theorem rep_c {n : Nat} {d : PyData} : (List.replicate n [d]).flatten = List.replicate n d := by
  induction n with
  | zero => rfl
  | succ n ih => rw [List.replicate_succ, List.flatten_cons, ih]; rfl
end K08
namespace K08
open PySem PySem.Spec PyProof.Rows L2 Z Y LamX NdefX
section
variable {P : Program} {w : World} {K : PySem.W.Frag} {mg : Str → Option Value} {base : Heap} {f : Addr} {fd : FuncData}
theorem paired_any {α : Type} {enc : α → PyData} {ds rs : List PyData} {G : α → Prop} (h : Paired (fun _ d => ∃ i, d = enc i ∧ G i) ds rs) : ∃ l : List α, rs = l.map enc ∧ l.length = ds.length ∧ ∀ x ∈ l, G x := by
  induction h with
  | nil => exact ⟨[], rfl, rfl, fun _ h => nomatch h⟩
  | cons g _ ih =>
    obtain ⟨i, rfl, gi⟩ := g
    obtain ⟨l, rfl, h2, h3⟩ := ih
    exact ⟨i :: l, rfl, by simp [h2], fun x hx => by
      rcases List.mem_cons.mp hx with rfl | hx
      · exact gi
      · exact h3 x hx⟩
abbrev kIC (C : Addr) : EK := ⟨C, "InvalidColumns", some "given"⟩
abbrev kIF (C : Addr) : EK := ⟨C, "InvalidFact", some "at"⟩
abbrev kIE (C : Addr) : EK := ⟨C, "InvalidExponent", some "given"⟩
abbrev kTM (C : Addr) : EK := ⟨C, "TooMany", some "most"⟩
abbrev kIX (C : Addr) : EK := ⟨C, "InvalidText", none⟩
/-- what stands around the law -/
structure LE (P : Program) (w : World) (K : PySem.W.Frag) (mg : Str → Option Value) (base : Heap) (C CC CF CE CT CX : Addr) (tup : List Value) (c Pt : Addr) : Prop where
  openD : KD P w K mg base "_law_open" 1 (spOpen K)
  take : KD P w K mg base "_law_take" 1 (spB K Ftake)
  one : KD P w K mg base "_law_one" 2 (spB K Fone)
  expo : KD P w K mg base "_law_exp" 2 (spB K Fexp)
  odd : KD P w K mg base "_law_odd" 3 (spB K Fodd)
  letters : KD P w K mg base "_law_letters" 3 (spB K Fletters)
  same : ∀ n, KD P w K mg base "_law_same" (n + 2) (spD K (Fsame n))
  try_ : KD P w K mg base "_law_try" 9 (spTry P w K mg base tup 8)
  tries : KD P w K mg base "_law_tries" 11 (spTries P w K mg base tup 8)
  mkS : MkS P w K mg base C
  mkX : MkSX P w K mg base C (kIC CC) (kIF CF) (kTM CT)
  gS : mg "Schema" = some (.ref C)
  cls : Cls K C
  folX : KMX P w K mg base C "follows" 5 (spX K (GFo C (kIE CE) K))
  reaX : KMX P w K mg base C "reason" 5 (spX K (GFo C (kIE CE) K))
  eqsX : KMX P w K mg base C "equal_sums" 5 (spX K (GFo C (kIE CE) K))
  withX : KMSX P w K mg base C "with_facts" 6 (spX K (GWF C (kIF CF) (kTM CT) K))
  rdX : KMX P w K mg base C "read_fact" 4 (spX K (GRF C (kIX CX) K))
  okC : KOk K tup (kIC CC)
  okF : KOk K tup (kIF CF)
  okE : KOk K tup (kIE CE)
  okT : KOk K tup (kTM CT)
  okX : KOk K tup (kIX CX)
  tab : TabB base mg c Pt
  flist : mg "list" = none
  frange : mg "range" = none
abbrev NL : List Str := ["_law_script", "_law_box", "_law_turn", "_law_many", "_law_letters_here", "_law_rules", "_law_at", "_law_bad", "_law_spot", "_law_pair", "_law_wrong", "_law_bent", "_law_good", "_law_asks", "_law_due", "_law_odd_here", "_law_far", "_law_none"]
theorem sc_law : FnScope NL ["_law_script"] (defScope slaw) := ⟨rfl, rfl, rfl, by decide +kernel, rfl, by decide +kernel, by decide +kernel⟩
def forBody (s : Stmt) : List Stmt := match s with
  | .For _ _ b _ _ => b
  | _ => []
def stAt (l : List Stmt) (i : Nat) : Stmt := l.getD i (.Pass ⟨0, 0, 0, 0⟩)
def turnBody : List Stmt := forBody (stAt (defBody slaw) 1)
/-- the i-th lambda of the list in a statement -/
def lamOf (s : Stmt) (i : Nat) : Expr := match s with
  | .Assign _ (.List es _) _ => es.getD i (.Constant .none 0 ⟨0, 0, 0, 0⟩)
  | .Assign _ (.BinOp _ _ (.List es _) _) _ => es.getD i (.Constant .none 0 ⟨0, 0, 0, 0⟩)
  | _ => .Constant .none 0 ⟨0, 0, 0, 0⟩
def lamQ : Str := (envOfC "law" (defScope slaw) 0 0 .none).qual ++ "<lambda>"
abbrev LX (P : Program) (w : World) (K : PySem.W.Frag) (mg : Str → Option Value) (base : Heap) (f c : Addr) (A : Around) (outer : List Env) (sh : Shared) (H0 : Hp) (E : XK) : Cx := (cxOf CX0 P w K mg base NL "law" (defScope slaw) f (.ref c) A outer sh H0 E).nox
theorem LE.U {C CC CF CE CT CX : Addr} {tup : List Value} {c Pt : Addr} (L : LE P w K mg base C CC CF CE CT CX tup c Pt) {A : Around} {outer : List Env} {sh : Shared} {H0 : Hp} {E : XK} : TabU (LX P w K mg base f c A outer sh H0 E) c Pt lamQ := ⟨L.tab, rfl, rfl⟩
theorem tab_step {S H Hf : Hp} (s : Same S H) (nT : ∀ a ps, S a ≠ some (.tbl ps)) (x : ExtN H Hf) : Same S (Y.noTab Hf) := fun a o e => noTab_at (x a o (s a o e) fun ps z => nT a ps (by rw [e, z])) fun ps z => nT a ps (by rw [e, z])
theorem noTab_up {S S1 : Hp} (s : Same S S1) (nT : ∀ a ps, S a ≠ some (.tbl ps)) : Same S (Y.noTab S1) := fun a o e => noTab_at (s a o e) fun ps z => nT a ps (by rw [e, z])
theorem sch_noTab {C : Addr} {z : Str} {ps : Rules} {v : V} {S : Hp} (h : SchP K C z ps v S) : SchP K C z ps v (Y.noTab S) := by
  obtain ⟨l, a, dx, xs, e, h1, h2, h3, h4⟩ := h
  exact ⟨l, a, dx, xs, e, noTab_at h1 (fun _ z => nomatch z), noTab_at h2 (fun _ z => nomatch z), ⟨h3.1, fun i x d hx hd => dt_noTab (h3.2 i x d hx hd)⟩, h4⟩
/-- the names that the lambdas capture -/
abbrev capN : List Str := ["_law_bad", "_law_bent", "_law_letters_here", "_law_rules", "_law_pair", "_law_box", "_law_good", "_law_wrong", "_law_odd_here", "_law_far", "_law_none"]
theorem cap_cells {c : Addr} {A : Around} {outer : List Env} {sh : Shared} {H0 : Hp} {E : XK} : ∀ y ∈ capN, (LX P w K mg base f c A outer sh H0 E).env.scope.names.lookup y = some .cell ∧ (LX P w K mg base f c A outer sh H0 E).fn y = true := fun y hy => by
  simp only [capN, List.mem_cons, List.not_mem_nil, or_false] at hy
  rcases hy with rfl | rfl | rfl | rfl | rfl | rfl | rfl | rfl | rfl | rfl | rfl <;> exact ⟨rfl, rfl⟩
def lamB (e : Expr) : Bool := (LamSc e).names.all fun y => !decide (y.2 = .free) || (decide ((defScope slaw).names.lookup y.1 = some .cell) && decide (y.1 ∈ capN))
theorem lamB_free {e : Expr} (h : lamB e = true) : ∀ y ∈ (LamSc e).names, y.2 = .free → (defScope slaw).names.lookup y.1 = some .cell ∨ (defScope slaw).names.lookup y.1 = some .free := fun y hy hf => by
  have := List.all_eq_true.mp h y hy
  rw [hf] at this
  simp only [decide_true, Bool.not_true, Bool.false_or, Bool.and_eq_true, decide_eq_true_eq] at this
  exact .inl this.1
theorem lamB_sub {e : Expr} (h : lamB e = true) : ∀ y ∈ (LamSc e).names, y.2 = .free → y.1 ∈ capN := fun y hy hf => by
  have := List.all_eq_true.mp h y hy
  rw [hf] at this
  simp only [decide_true, Bool.not_true, Bool.false_or, Bool.and_eq_true, decide_eq_true_eq] at this
  exact this.2
def NoD : PyData → Prop := fun _ => False
theorem rt_err {k : EK} {g r : PyData} (h : RtD NoD (O1 k g) r) : r = .tuple [.str k.code, g] := by
  rcases h with ⟨d, hd, _⟩ | ⟨k', g', ⟨rfl, rfl⟩, e⟩
  · exact hd.elim
  · exact e
theorem ok_one {K : PySem.W.Frag} {tup : List Value} {k : EK} {g : PyData} (h : KOk K tup k) : ∀ e g', O1 k g e g' → KOk K tup e := fun e g' ⟨a, _⟩ => by subst a; exact h
/-- each answer, when all are errors -/
theorem all_err {X : Cx} {q : Str} {tup : List Value} {k : Nat} {σ : L2.St} {xs : List Str} {S : Hp} : ∀ {its : List (AskC X q tup k σ xs S)} {kg : List (EK × PyData)} {rs : List PyData}, its.map (fun i => (i.Od, i.O)) = kg.map (fun p => (NoD, O1 p.1 p.2)) → Paired (fun (it : AskC X q tup k σ xs S) r => RtD it.Od it.O r) its rs → rs = kg.map fun p => .tuple [.str p.1.code, p.2]
  | [], [], _, _, h => by cases h; rfl
  | [], _ :: _, _, e, _ => nomatch e
  | _ :: _, [], _, e, _ => nomatch e
  | i :: its, p :: kg, _, e, h => by
    rw [List.map_cons, List.map_cons] at e
    obtain ⟨e1, e2⟩ := List.cons.inj e
    obtain ⟨e3, e4⟩ := Prod.mk.inj e1
    cases h with
    | cons a t =>
      rw [e3, e4] at a
      rw [rt_err a, all_err e2 t]; rfl
/-- what a turn draws -/
structure TurnH (n : Nat) (a st : Int) (ps : Rules) (sp : Nat) (p : List Int × List Int) (bd wr : PyData) : Prop where
  n1 : 1 ≤ n
  n3 : n ≤ 3
  hs : stepOk st
  hl : ps.length = 4
  ok : RulesOk n ps
  hsp : sp < 4
  hp : ps[sp]? = some p
  hb : bd ∈ badsL (cols a st n) (x0 a st)
  hw : wr ∈ wrongsR n p.1 p.2
theorem TurnH.pok {n : Nat} {a st : Int} {ps : Rules} {sp : Nat} {p : List Int × List Int} {bd wr : PyData} (h : TurnH n a st ps sp p bd wr) : RuleOk n p := h.ok p (List.mem_of_getElem? h.hp)
theorem TurnH.col {n : Nat} {a st : Int} {ps : Rules} {sp : Nat} {p : List Int × List Int} {bd wr : PyData} (h : TurnH n a st ps sp p bd wr) : ColOk (cols a st n) := col_ok h.hs h.n1 h.n3
theorem TurnH.sch {n : Nat} {a st : Int} {ps : Rules} {sp : Nat} {p : List Int × List Int} {bd wr : PyData} (h : TurnH n a st ps sp p bd wr) : SchOk (cols a st n) ps := ⟨h.col, by have := h.hl; omega, fun q hq => by rw [cols_size]; exact h.ok q hq⟩
def bentD (ps : Rules) (sp : Nat) (wr : PyData) : PyData := .list ((ps.take sp).map ruleD ++ wr :: (ps.drop sp).map ruleD)
end
end K08
namespace K08
open PySem PySem.Spec PyProof.Rows L2 Z Y LamX NdefX
section
variable {P : Program} {w : World} {K : PySem.W.Frag} {mg : Str → Option Value} {base : Heap} {f : Addr} {fd : FuncData}
section
variable {C CC CF CE CT CX : Addr} {tup : List Value} {c Pt : Addr} {A : Around} {outer : List Env} {sh : Shared} {H0 : Hp} {E : XK} {vs vb : V} {S H : Hp} {D : Ends} {rest : List Stmt}
theorem x0_at (a st : Int) {n : Nat} (n1 : 1 ≤ n) : atI (cols a st n).cps.toList 0 = some (colCode a st 0) := by
  have e : (cols a st n).cps.toList = (List.range n).map (colCode a st) := by unfold cols; simp
  obtain ⟨m, rfl⟩ : ∃ m, n = m + 1 := ⟨n - 1, by omega⟩
  refine L2.atI_nat (j := 0) ?_
  rw [e, List.getElem?_map, List.getElem?_range (by omega)]; rfl
/-- many, letters and rules -/
theorem turn_a (L : LE P w K mg base C CC CF CE CT CX tup c Pt) (hr : Room 12 (LX P w K mg base f c A outer sh H0 E).A) {a2 a3 a4 a5 a6 a7 a8 a9 a10 a11 a12 a13 a14 a15 a16 a17 : Option V} (s : Same S H) (hb : BX vb S)
    (nx : ∀ n a st ps v3 v4 v5 S' H', Gr S H S' H' → 1 ≤ n → n ≤ 3 → stepOk st → List.length ps = 4 → RulesOk n ps → Dt K (.int (n : Nat)) v3 S' → Dt K (.str (cols a st n)) v4 S' → Dt K (.list (ps.map ruleD)) v5 S' →
      HS (LX P w K mg base f c A outer sh H0 E) D rest [some vs, some vb, a2, some v3, some v4, some v5, a6, a7, a8, a9, a10, a11, a12, a13, a14, a15, a16, a17] H') :
    HS (LX P w K mg base f c A outer sh H0 E) D (stAt turnBody 0 :: stAt turnBody 1 :: rest) [some vs, some vb, a2, a3, a4, a5, a6, a7, a8, a9, a10, a11, a12, a13, a14, a15, a16, a17] H := by
  refine hs_set (i := 3) (P := Ex K fun d => ∃ n : Nat, d = .int n ∧ 1 ≤ n ∧ n ≤ 3) ((ee_addE (F := fun i => i = 1) (G := fun i => 0 ≤ i ∧ i < 3) (ee_int.ex ⟨1, rfl, rfl⟩) (ee_callBx L.take (hr.mono (by decide)) ⟨3, rfl, by decide, by decide, rfl⟩ (ea_2 (ee_var 1 rfl hb) ee_int))).exi fun d ⟨i, e, x, y, hx, hy, hi⟩ => ⟨(1 + y).toNat, by rw [e]; congr 1; omega, by omega, by omega⟩) s sc_law.nd fun v3 S1 H1 g1 pm => ?_
  obtain ⟨_, ⟨n, rfl, n1, n3⟩, pm⟩ := pm
  have hb1 : BX vb S1 := Mn.up g1.st hb
  refine hs_unpackF (i := 4) (j := 5) (F := fun d => ∃ a st : Int, d = .str (cols a st n) ∧ stepOk st) (G := fun d => ∃ ps : Rules, d = .list (ps.map ruleD) ∧ ps.length = 4 ∧ RulesOk n ps) rfl sc_law.nd (ee_pairE (ee_callBx L.letters (hr.mono (by decide)) ⟨n, rfl, by omega, rfl⟩ (ea_2 (ee_var 1 rfl hb1) (ee_var 3 rfl pm))) ?lc) g1.sub fun d1 d2 v4 v5 S2 H2 h1 h2 g2 p4 p5 => ?_
  case lc =>
    refine (ee_lcN (i := 6) (F := fun _ d => ∃ p : List Int × List Int, d = ruleD p ∧ RuleOk n p) rfl sc_law.nd (blkOk_by (N := NL) (sc := defScope slaw) (by decide +kernel)) (ei_range (n := 4) L.frange (by decide) ee_int) (by decide) fun x hx v S2 s2 pv sh' H0' C' cl fp => ?_).exi fun d ⟨rs, e, hp⟩ => ?_
    · have hb2 : BX vb S2 := Mn.up s2 hb1
      have pm2 := pm.up s2
      refine EE.exi (F := fun d => ∃ d1 d2, d = .tuple [d1, d2] ∧ (∃ l : List Int, d1 = tI l ∧ l.length = n ∧ ∀ x ∈ l, 0 ≤ x ∧ x ≤ 6) ∧ (∃ l : List Int, d2 = tI l ∧ l.length = n ∧ ∀ x ∈ l, 0 ≤ x ∧ x ≤ 6)) ?pe ?_
      case pe => exact ee_pairE (ee_callBx L.expo (hr.mono (by decide)) ⟨n, 6, rfl, by omega, by decide, by decide, rfl⟩ (ea_cons (ee_var 1 rfl hb2) (ea_2 (ee_var 3 rfl pm2) ee_int))) (ee_callBx L.expo (hr.mono (by decide)) ⟨n, 6, rfl, by omega, by decide, by decide, rfl⟩ (ea_cons (ee_var 1 rfl hb2) (ea_2 (ee_var 3 rfl pm2) ee_int)))
      rintro d ⟨d1, d2, rfl, ⟨l1, rfl, h1⟩, ⟨l2, rfl, h2⟩⟩
      exact ⟨(l1, l2), rfl, h1, h2⟩
    · obtain ⟨l, rfl, h2, h3⟩ := paired_any (enc := ruleD) hp
      exact ⟨l, e, by rw [h2]; rfl, h3⟩
  obtain ⟨a, st, rfl, hs⟩ := h1
  obtain ⟨ps, rfl, hl, ho⟩ := h2
  exact nx n a st ps v3 v4 v5 S2 H2 (g1.trans g2) n1 n3 hs hl ho (pm.up g2.st) p4 p5
/-- bad, spot, pair, wrong, bent, good -/
theorem turn_b (L : LE P w K mg base C CC CF CE CT CX tup c Pt) (hr : Room 12 (LX P w K mg base f c A outer sh H0 E).A) {n : Nat} {a st : Int} {ps : Rules} {v3 v4 v5 : V} {a2 a6 a7 a8 a9 a10 a11 a12 a13 a14 a15 a16 a17 : Option V} (s : Same S H) (hb : BX vb S) (n1 : 1 ≤ n) (n3 : n ≤ 3) (hst : stepOk st) (hl4 : ps.length = 4) (hro : RulesOk n ps) (pm : Dt K (.int (n : Nat)) v3 S) (pz : Dt K (.str (cols a st n)) v4 S) (pr : Dt K (.list (ps.map ruleD)) v5 S)
    (nx : ∀ sp p bd wr v7 v8 v9 v10 v11 v12 S' H', Gr S H S' H' → TurnH n a st ps sp p bd wr → Dt K bd v7 S' → Dt K (.int (sp : Nat)) v8 S' → Dt K (ruleD p) v9 S' → Dt K wr v10 S' → Dt K (bentD ps sp wr) v11 S' → SchP K C (cols a st n) ps v12 S' →
      HS (LX P w K mg base f c A outer sh H0 E) D rest [some vs, some vb, a2, some v3, some v4, some v5, a6, some v7, some v8, some v9, some v10, some v11, some v12, a13, a14, a15, a16, a17] H') :
    HS (LX P w K mg base f c A outer sh H0 E) D (stAt turnBody 2 :: stAt turnBody 3 :: stAt turnBody 4 :: stAt turnBody 5 :: stAt turnBody 6 :: stAt turnBody 7 :: rest) [some vs, some vb, a2, some v3, some v4, some v5, a6, a7, a8, a9, a10, a11, a12, a13, a14, a15, a16, a17] H := by
  have hzl : (cols a st n).length = n := cols_size a st n
  have n16 : ∀ m : Nat, m ≤ 1000 → m ≤ sizeLine := fun n h => Nat.le_trans h (by show 1000 ≤ 16777216; decide)
  have zl : (cols a st n).length ≤ sizeLine := n16 _ (by omega)
  have hcat : (cols a st n).length + (x0 a st).length ≤ sizeLine := n16 _ (by have : (x0 a st).length = 1 := rfl; omega)
  refine hs_set (i := 7) (P := Ex K fun d => d ∈ badsL (cols a st n) (x0 a st)) (ee_callBx L.one (hr.mono (by decide)) ⟨badsL (cols a st n) (x0 a st), rfl, by show 0 < 14; decide, by show 14 < 1073741824; decide, rfl⟩ (ea_2 (ee_var 1 rfl hb) ?bl)) s sc_law.nd fun v7 S1 H1 g1 pbd => ?_
  case bl =>
    refine ee_lst (ds := badsL (cols a st n) (x0 a st)) ?_ (by show 14 ≤ 16777216; decide)
    exact (ea_cons ee_non (ea_cons ee_str (ea_cons (ee_catS hcat (ee_var 4 rfl pz) (ee_ixS zl (x0_at a st n1) (ee_var 4 rfl pz) ee_int)) (ea_cons (ee_mulTx (z := x0 a st) (by show 1 ≤ 16; decide) (by decide) (by decide) (ee_ixS zl (x0_at a st n1) (ee_var 4 rfl pz) ee_int) ee_int) (ea_cons ee_str (ea_cons ee_str (ea_cons ee_str (ea_cons ee_str (ea_cons ee_int (ea_cons (ee_tup (ds := [.str (cols a st n)]) (ea_1 (ee_var 4 rfl pz))) (ea_cons (ee_lst (ds := [.str (cols a st n)]) (ea_1 (ee_var 4 rfl pz))) (ea_cons ee_bl (ea_cons (ee_upperS (z := x0 a st) (by show 1 ≤ 1000; decide) (ee_ixS zl (x0_at a st n1) (ee_var 4 rfl pz) ee_int)) (ea_cons ee_str ea_nil))))))))))))))
  obtain ⟨bd, hbd, pbd⟩ := pbd
  have hb1 : BX vb S1 := Mn.up g1.st hb
  refine hs_set (i := 8) (P := Ex K fun d => ∃ k : Nat, d = .int k ∧ k < 4) ((ee_callBx L.take (hr.mono (by decide)) ⟨4, rfl, by decide, by decide, rfl⟩ (ea_2 (ee_var 1 rfl hb1) ee_int)).exi fun d ⟨i, e, i0, i1⟩ => ⟨i.toNat, by rw [e]; congr 1; omega, by omega⟩) g1.sub sc_law.nd fun v8 S2 H2 g2 psp => ?_
  obtain ⟨_, ⟨sp, rfl, hsp⟩, psp⟩ := psp
  have G2 := g1.trans g2
  have hb2 : BX vb S2 := Mn.up g2.st hb1
  have pr2 := pr.up G2.st
  obtain ⟨p, hp⟩ : ∃ p, ps[sp]? = some p := ⟨_, List.getElem?_eq_getElem (show sp < ps.length by omega)⟩
  have hpD : (ps.map ruleD)[sp]? = some (ruleD p) := by rw [List.getElem?_map, hp]; rfl
  refine hs_set (i := 9) (P := Dt K (ruleD p)) (ee_ixL (d := ruleD p) (L2.atI_nat hpD) (ee_var 5 rfl pr2) (ee_var 8 rfl psp)) G2.sub sc_law.nd fun v9 S3 H3 g3 pp => ?_
  have G3 := G2.trans g3
  have hb3 : BX vb S3 := Mn.up g3.st hb2
  have pm3 := pm.up G3.st
  have hpo : RuleOk n p := hro p (List.mem_of_getElem? hp)
  obtain ⟨l1, l2⟩ := p
  have q1 : l1.length = n := hpo.1.1
  have q2 : l2.length = n := hpo.2.1
  have c1 : Z.cutD (l2.map PyData.int) (some 1) none = (l2.drop 1).map .int := by
    have := cut_from (l2.map PyData.int) (i := 1) (by rw [List.length_map]; omega)
    rw [List.map_drop]
    exact this
  refine hs_set (i := 10) (P := Ex K fun d => d ∈ wrongsR n l1 l2) (ee_callBx L.one (hr.mono (by decide)) ⟨wrongsR n l1 l2, rfl, by show 0 < 13; decide, by show 13 < 1073741824; decide, rfl⟩ (ea_2 (ee_var 1 rfl hb3) ?wl)) G3.sub sc_law.nd fun v10 S4 H4 g4 pw => ?_
  case wl =>
    refine ee_lst (ds := wrongsR n l1 l2) ?_ (by show 13 ≤ 16777216; decide)
    exact (ea_cons ee_non (ea_cons (ee_ixT (ds := [tI l1, tI l2]) (d := tI l1) rfl (ee_var 9 rfl pp) ee_int) (ea_cons (ee_tup (ds := [tI l1]) (ea_1 (ee_ixT (ds := [tI l1, tI l2]) (d := tI l1) rfl (ee_var 9 rfl pp) ee_int))) (ea_cons (ee_catT (ds1 := [tI l1, tI l2]) (ds2 := [tI l1]) (by show 2 + 1 ≤ 16777216; decide) (ee_var 9 rfl pp) (ee_tup (ds := [tI l1]) (ea_1 (ee_ixT (ds := [tI l1, tI l2]) (d := tI l1) rfl (ee_var 9 rfl pp) ee_int)))) (ea_cons (ee_list L.flist (.inr rfl) (ee_var 9 rfl pp)) (ea_cons (ee_tup (ds := [tI l1, .list (l2.map .int)]) (ea_2 (ee_ixT (ds := [tI l1, tI l2]) (d := tI l1) rfl (ee_var 9 rfl pp) ee_int) (ee_list L.flist (.inr rfl) (show EE _ _ _ _ (Dt K (.tuple (l2.map .int))) from (ee_ixT (ds := [tI l1, tI l2]) (d := tI l2) rfl (ee_var 9 rfl pp) ee_int))))) (ea_cons (ee_tup (ds := [tI (l1 ++ [1]), tI l2]) (ea_2 ((ee_catT (ds1 := l1.map .int) (ds2 := [.int 1]) (by rw [List.length_map]; show _ + 1 ≤ 16777216; omega) (ee_ixT (ds := [tI l1, tI l2]) (d := tI l1) rfl (ee_var 9 rfl pp) ee_int) (ee_tup (ds := [.int 1]) (ea_1 ee_int))).isd (by unfold tI; rw [List.map_append]; rfl)) (ee_ixT (ds := [tI l1, tI l2]) (d := tI l2) rfl (ee_var 9 rfl pp) ee_int))) (ea_cons (ee_tup (ds := [tI l1, tI (l2.drop 1)]) (ea_2 (ee_ixT (ds := [tI l1, tI l2]) (d := tI l1) rfl (ee_var 9 rfl pp) ee_int) ((ee_slT (ds := l2.map .int) (ee_ixT (ds := [tI l1, tI l2]) (d := tI l2) rfl (ee_var 9 rfl pp) ee_int) (eo_some ee_int) eo_none).isd (by rw [c1]; rfl)))) (ea_cons (ee_tup (ds := [tI l1, tI (List.replicate n 7)]) (ea_2 (ee_ixT (ds := [tI l1, tI l2]) (d := tI l1) rfl (ee_var 9 rfl pp) ee_int) ((ee_repT n1 (by omega) (by show 1 ≤ 1000; decide) (by simp) (ee_tup (ds := [.int 7]) (ea_1 ee_int)) (ee_var 3 rfl pm3)).isd (by rw [rep_c, tI_rep])))) (ea_cons (ee_tup (ds := [.tuple (List.replicate n (.bool true)), tI l2]) (ea_2 ((ee_repT n1 (by omega) (by show 1 ≤ 1000; decide) (by simp) (ee_tup (ds := [.bool true]) (ea_1 ee_bl)) (ee_var 3 rfl pm3)).isd (by rw [rep_c])) (ee_ixT (ds := [tI l1, tI l2]) (d := tI l2) rfl (ee_var 9 rfl pp) ee_int))) (ea_cons (ee_tup (ds := [tI (List.replicate n (-1)), tI l2]) (ea_2 ((ee_repT n1 (by omega) (by show 1 ≤ 1000; decide) (by simp) (ee_tup (ds := [.int (-1)]) (ea_1 (ee_neg ee_int))) (ee_var 3 rfl pm3)).isd (by rw [rep_c, tI_rep])) (ee_ixT (ds := [tI l1, tI l2]) (d := tI l2) rfl (ee_var 9 rfl pp) ee_int))) (ea_cons ee_str (ea_cons (ee_tup (ds := [tI l1, .none]) (ea_2 (ee_ixT (ds := [tI l1, tI l2]) (d := tI l1) rfl (ee_var 9 rfl pp) ee_int) ee_non)) ea_nil)))))))))))))
  obtain ⟨wr, hwr, pw⟩ := pw
  have G4 := G3.trans g4
  have pr4 := pr.up G4.st
  have psp4 := psp.up (g3.st.trans g4.st)
  have hl4' : (ps.map ruleD).length = 4 := by rw [List.length_map]; exact hl4
  refine hs_set (i := 11) (P := Dt K (bentD ps sp wr)) (EE.isd (ee_catL (ds1 := (ps.map ruleD).take sp ++ [wr]) (ds2 := (ps.map ruleD).drop sp) ?z1 (ee_catL ?z2 ((ee_slL (ee_var 5 rfl pr4) eo_none (eo_some (ee_var 8 rfl psp4))).isd (by rw [cut_to _ (show sp ≤ (ps.map ruleD).length by omega)])) (ee_lst (ds := [wr]) (ea_1 (ee_var 10 rfl pw)))) ((ee_slL (ee_var 5 rfl pr4) (eo_some (ee_var 8 rfl psp4)) eo_none).isd (by rw [cut_from _ (show sp ≤ (ps.map ruleD).length by omega)]))) ?eq) G4.sub sc_law.nd fun v11 S5 H5 g5 pbt => ?_
  case z1 => rw [List.length_append, List.length_take, List.length_drop, hl4']; show _ + 1 + _ ≤ 16777216; omega
  case z2 => rw [List.length_take, hl4']; show _ + 1 ≤ 16777216; omega
  case eq => unfold bentD; rw [List.map_take, List.map_drop]; simp
  have G5 := G4.trans g5
  have T0 : TurnH n a st ps sp (l1, l2) bd wr := ⟨n1, n3, hst, hl4, hro, hsp, hp, hbd, hwr⟩
  refine hs_set (i := 12) (P := SchP K C (cols a st n) ps) ((ee_mk2 L.mkS (hr.mono (by decide)) L.gS T0.sch (.inl rfl) (ee_var 4 rfl (pz.up G5.st)) (ee_var 5 rfl (pr.up G5.st))).imp fun v S' h => newR_sch h) G5.sub sc_law.nd fun v12 S6 H6 g6 pgd => ?_
  have s46 := g5.st.trans g6.st
  have s36 := g4.st.trans s46
  have s26 := g3.st.trans s36
  exact nx sp (l1, l2) bd wr v7 v8 v9 v10 v11 v12 S6 H6 (G5.trans g6) T0 (pbd.up (g2.st.trans s26)) (psp.up s26) (pp.up s36) (pw.up s46) (pbt.up g6.st) pgd
end
end
end K08
namespace K08
open PySem PySem.Spec PyProof.Rows L2 Z Y LamX NdefX
section
variable {P : Program} {w : World} {K : PySem.W.Frag} {mg : Str → Option Value} {base : Heap} {f : Addr} {fd : FuncData}
section
variable {C CC CF CE CT CX : Addr} {tup : List Value} {c Pt : Addr} {n : Nat} {a st : Int} {ps : Rules} {sp : Nat} {p : List Int × List Int} {bd wr od fr no : PyData}
theorem TurnH.ok' (T0 : TurnH n a st ps sp p bd wr) : RulesOk (cols a st n).cps.size ps := by rw [cols_size]; exact T0.ok
theorem TurnH.pok' (T0 : TurnH n a st ps sp p bd wr) : RuleOk (cols a st n).cps.size p := by rw [cols_size]; exact T0.pok
theorem TurnH.bad (T0 : TurnH n a st ps sp p bd wr) : isRule (cols a st n).cps.size wr = false := by rw [cols_size]; exact wrong_rule T0.n1 T0.pok.1.1 T0.pok.2.1 T0.hw
theorem la0 (L : LE P w K mg base C CC CF CE CT CX tup c Pt) (T0 : TurnH n a st ps sp p bd wr) {f' c' : Addr} {cells : List (Str × Addr)} : LOk P w K mg base (L2.CX P w) 8 f' (LamF (lamOf (stAt turnBody 8) 0) lamQ cells c' none) ["_law_bad", "_law_bent"] [] (spAsk K (fun ws S => ∃ v1 v2, ws = [some v1, some v2] ∧ (Dt K bd) v1 S ∧ (Dt K (bentD ps sp wr)) v2 S) (Ex K NoD) (O1 (kIC CC) bd)) := by
  refine lok_ask (N := ["_law_bad", "_law_bent"]) (ps := []) (nscope_by (sc := LamSc (lamOf (stAt turnBody 8) 0)) (by decide +kernel)) (lbind0 rfl fun _ _ => rfl) rfl fun A outer s H ws E S hr hlen hw tk => ?_
  obtain ⟨v1, v2, rfl, p1, p2⟩ := hw
  exact er_mkS2 (d1 := bd) (d2 := bentD ps sp wr) tk L.mkX (hr.mono (by decide)) L.gS (ee_var 0 rfl p1) (ee_var 1 rfl p2) (.inl ⟨bads_bad T0.hs T0.n1 T0.n3 T0.hb, rfl, rfl⟩)
theorem la1 (L : LE P w K mg base C CC CF CE CT CX tup c Pt) (T0 : TurnH n a st ps sp p bd wr) (hsp4 : sp ≤ 4) {f' c' : Addr} {cells : List (Str × Addr)} {T : Addr} : LOk P w K mg base (L2.CX P w) 8 f' (LamF (lamOf (stAt turnBody 8) 1) lamQ cells c' (some T)) ["_law_letters_here", "_law_bent"] [.int 0] (spAsk K (fun ws S => ∃ v1 v2, ws = [some v1, some v2] ∧ (Dt K (.str (cols a st n))) v1 S ∧ (Dt K (bentD ps sp wr)) v2 S) (Ex K NoD) (O1 (kIF CF) (.int (sp : Nat)))) := by
  refine lok_ask (N := ["_law_a", "_law_letters_here", "_law_bent"]) (ps := ["_law_a"]) (nscope_by (sc := LamSc (lamOf (stAt turnBody 8) 1)) (by decide +kernel)) (lbind1 rfl fun _ _ => ⟨_, rfl, fun _ => rfl⟩) rfl fun A outer s H ws E S hr hlen hw tk => ?_
  obtain ⟨v1, v2, rfl, p1, p2⟩ := hw
  exact er_mkS2 (d1 := .str (cols a st n)) (d2 := bentD ps sp wr) tk L.mkX (hr.mono (by decide)) L.gS (ee_var 1 rfl p1) (ee_var 2 rfl p2) (.inr ⟨_, rfl, T0.col, .inr (.inl ⟨ps.take sp, wr, (ps.drop sp).map ruleD, .inl rfl, by rw [List.length_take]; omega, fun q hq => T0.ok' q (List.mem_of_mem_take hq), T0.bad, rfl, by have := T0.hl; have := T0.hsp; rw [List.length_take]; congr 1; omega⟩)⟩)
theorem la2 (L : LE P w K mg base C CC CF CE CT CX tup c Pt) (T0 : TurnH n a st ps sp p bd wr) {f' c' : Addr} {cells : List (Str × Addr)} {T : Addr} : LOk P w K mg base (L2.CX P w) 8 f' (LamF (lamOf (stAt turnBody 8) 2) lamQ cells c' (some T)) ["_law_letters_here", "_law_rules", "_law_pair"] [.int 0] (spAsk K (fun ws S => ∃ v1 v2 v3, ws = [some v1, some v2, some v3] ∧ (Dt K (.str (cols a st n))) v1 S ∧ (Dt K (.list (ps.map ruleD))) v2 S ∧ (Dt K (ruleD p)) v3 S) (Ex K NoD) (O1 (kTM CT) (.int 4))) := by
  refine lok_ask (N := ["_law_b", "_law_letters_here", "_law_rules", "_law_pair"]) (ps := ["_law_b"]) (nscope_by (sc := LamSc (lamOf (stAt turnBody 8) 2)) (by decide +kernel)) (lbind1 rfl fun _ _ => ⟨_, rfl, fun _ => rfl⟩) rfl fun A outer s H ws E S hr hlen hw tk => ?_
  obtain ⟨v1, v2, v3, rfl, p1, p2, p3⟩ := hw
  have h4 := T0.hl
  exact er_mkS2 (d1 := .str (cols a st n)) (d2 := .list (ps.map ruleD ++ [ruleD p])) tk L.mkX (hr.mono (by decide)) L.gS (ee_var 1 rfl p1) (ee_catL (by rw [List.length_map, h4]; show 4 + 1 ≤ 16777216; decide) (ee_var 2 rfl p2) (ee_lst (ds := [ruleD p]) (ea_1 (ee_var 3 rfl p3)))) (.inr ⟨_, rfl, T0.col, .inr (.inr ⟨ps ++ [p], .inl (by rw [List.map_append]; rfl), by rw [List.length_append, h4]; show 4 + 1 ≤ 1000; decide, fun q hq => (List.mem_append.mp hq).elim (T0.ok' q) (fun h => by obtain rfl := List.mem_singleton.mp h; exact T0.pok'), by rw [List.length_append, h4]; show 4 < 4 + 1; decide, rfl, rfl⟩)⟩)
theorem la3 (L : LE P w K mg base C CC CF CE CT CX tup c Pt) (T0 : TurnH n a st ps sp p bd wr) {f' c' : Addr} {cells : List (Str × Addr)} {T : Addr} : LOk P w K mg base (L2.CX P w) 8 f' (LamF (lamOf (stAt turnBody 8) 3) lamQ cells c' (some T)) ["_law_letters_here", "_law_box"] [.int 0] (spAsk K (fun ws S => ∃ v1 v2, ws = [some v1, some v2] ∧ (Dt K (.str (cols a st n))) v1 S ∧ BX v2 S) (Ex K NoD) (O1 (kIF CF) (.int (-1)))) := by
  refine lok_ask (N := ["_law_c", "_law_letters_here", "_law_box"]) (ps := ["_law_c"]) (nscope_by (sc := LamSc (lamOf (stAt turnBody 8) 3)) (by decide +kernel)) (lbind1 rfl fun _ _ => ⟨_, rfl, fun _ => rfl⟩) rfl fun A outer s H ws E S hr hlen hw tk => ?_
  obtain ⟨v1, v2, rfl, p1, p2⟩ := hw
  refine er_mkS (P1 := Dt K (.str (cols a st n))) (P2 := Ex K fun d => d ∈ ([.none, .int 3, .str "x"] : List PyData)) tk L.mkX (hr.mono (by decide)) L.gS (ee_var 1 rfl p1) (ee_callBx L.one (hr.mono (by decide)) ⟨[.none, .int 3, .str "x"], rfl, by decide, by decide, rfl⟩ (ea_2 (ee_var 2 rfl p2) (ee_lst (ds := [.none, .int 3, .str "x"]) (ea_cons ee_non (ea_2 ee_int ee_str))))) (fun v w S1 _ pv ⟨d, hd, pw⟩ => ⟨_, _, ⟨_, d, Dts.cons pv (Dts.cons pw .nil), .inr ⟨_, rfl, T0.col, .inl ⟨?_, rfl, rfl⟩⟩⟩, rfl, rfl⟩)
  simp only [List.mem_cons, List.not_mem_nil, or_false] at hd
  rcases hd with rfl | rfl | rfl <;> rfl
theorem lb0 (L : LE P w K mg base C CC CF CE CT CX tup c Pt) (T0 : TurnH n a st ps sp p bd wr) {f' c' : Addr} {cells : List (Str × Addr)} : LOk P w K mg base (L2.CX P w) 8 f' (LamF (lamOf (stAt turnBody 9) 0) lamQ cells c' none) ["_law_good", "_law_pair"] [] (spAsk K (fun ws S => ∃ v1 v2, ws = [some v1, some v2] ∧ (SchP K C (cols a st n) ps) v1 S ∧ (Dt K (ruleD p)) v2 S) (Ex K NoD) (O1 (kTM CT) (.int 4))) := by
  refine lok_ask (N := ["_law_good", "_law_pair"]) (ps := []) (nscope_by (sc := LamSc (lamOf (stAt turnBody 9) 0)) (by decide +kernel)) (lbind0 rfl fun _ _ => rfl) rfl fun A outer s H ws E S hr hlen hw tk => ?_
  obtain ⟨v1, v2, rfl, p1, p2⟩ := hw
  refine er_methS (P0 := SchP K C (cols a st n) ps) (Ps := Ds K [ruleD p]) tk L.withX L.cls (hr.mono (by decide)) (ee_var 0 rfl p1) SchP.insP (ea_1 (ee_var 1 rfl p2)) (spX_O fun vs S1 _ al => ?_)
  have h4 := T0.hl
  cases al with
  | cons pv r => exact ⟨_, _, ⟨_, ps, _, _, [ruleD p], [p], rfl, pv, al_dts r, (by show 1 ≤ 900; decide), T0.col, by omega, T0.ok', fun q hq => by obtain rfl := List.mem_singleton.mp hq; exact T0.pok', .inr ⟨rfl, by rw [h4]; show 4 < 4 + 1; decide, rfl, rfl⟩⟩, rfl, rfl⟩
theorem lb1 (L : LE P w K mg base C CC CF CE CT CX tup c Pt) (T0 : TurnH n a st ps sp p bd wr) {f' c' : Addr} {cells : List (Str × Addr)} {T : Addr} : LOk P w K mg base (L2.CX P w) 8 f' (LamF (lamOf (stAt turnBody 9) 1) lamQ cells c' (some T)) ["_law_good", "_law_wrong", "_law_pair"] [.int 0] (spAsk K (fun ws S => ∃ v1 v2 v3, ws = [some v1, some v2, some v3] ∧ (SchP K C (cols a st n) ps) v1 S ∧ (Dt K wr) v2 S ∧ (Dt K (ruleD p)) v3 S) (Ex K NoD) (O1 (kIF CF) (.int 0))) := by
  refine lok_ask (N := ["_law_a", "_law_good", "_law_wrong", "_law_pair"]) (ps := ["_law_a"]) (nscope_by (sc := LamSc (lamOf (stAt turnBody 9) 1)) (by decide +kernel)) (lbind1 rfl fun _ _ => ⟨_, rfl, fun _ => rfl⟩) rfl fun A outer s H ws E S hr hlen hw tk => ?_
  obtain ⟨v1, v2, v3, rfl, p1, p2, p3⟩ := hw
  refine er_methS (P0 := SchP K C (cols a st n) ps) (Ps := Ds K [wr, ruleD p]) tk L.withX L.cls (hr.mono (by decide)) (ee_var 1 rfl p1) SchP.insP (ea_2 (ee_var 2 rfl p2) (ee_var 3 rfl p3)) (spX_O fun vs S1 _ al => ?_)
  have h4 := T0.hl
  cases al with
  | cons pv r => exact ⟨_, _, ⟨_, ps, _, _, [wr, ruleD p], [], rfl, pv, al_dts r, (by show 2 ≤ 900; decide), T0.col, by omega, T0.ok', (fun q hq => nomatch hq), .inl ⟨wr, [ruleD p], rfl, T0.bad, rfl, rfl⟩⟩, rfl, rfl⟩
theorem lb2 (L : LE P w K mg base C CC CF CE CT CX tup c Pt) (T0 : TurnH n a st ps sp p bd wr) {f' c' : Addr} {cells : List (Str × Addr)} {T : Addr} : LOk P w K mg base (L2.CX P w) 8 f' (LamF (lamOf (stAt turnBody 9) 2) lamQ cells c' (some T)) ["_law_letters_here", "_law_pair", "_law_wrong"] [.int 0] (spAsk K (fun ws S => ∃ v1 v2 v3, ws = [some v1, some v2, some v3] ∧ (Dt K (.str (cols a st n))) v1 S ∧ (Dt K (ruleD p)) v2 S ∧ (Dt K wr) v3 S) (Ex K NoD) (O1 (kIF CF) (.int 2))) := by
  refine lok_ask (N := ["_law_b", "_law_letters_here", "_law_pair", "_law_wrong"]) (ps := ["_law_b"]) (nscope_by (sc := LamSc (lamOf (stAt turnBody 9) 2)) (by decide +kernel)) (lbind1 rfl fun _ _ => ⟨_, rfl, fun _ => rfl⟩) rfl fun A outer s H ws E S hr hlen hw tk => ?_
  obtain ⟨v1, v2, v3, rfl, p1, p2, p3⟩ := hw
  refine er_methS (P0 := SchP K C (cols a st n) []) (Ps := Ds K [ruleD p, ruleD p, wr, .none]) tk L.withX L.cls (hr.mono (by decide)) ((ee_mk1 L.mkS (hr.mono (by decide)) L.gS T0.col (ee_var 1 rfl p1)).imp fun v S' h => newR_sch h) SchP.insP (ea_cons (ee_var 2 rfl p2) (ea_cons (ee_var 2 rfl p2) (ea_2 (ee_var 3 rfl p3) ee_non))) (spX_O fun vs S1 _ al => ?_)
  have h4 := T0.hl
  cases al with
  | cons pv r => exact ⟨_, _, ⟨_, [], _, _, [ruleD p, ruleD p, wr, .none], [p, p], rfl, pv, al_dts r, (by show 4 ≤ 900; decide), T0.col, (by show 0 ≤ 4; decide), (fun q hq => nomatch hq), (fun q hq => by
      simp only [List.mem_cons, List.not_mem_nil, or_false, or_self] at hq
      subst hq
      exact T0.pok'), .inl ⟨wr, [.none], rfl, T0.bad, rfl, rfl⟩⟩, rfl, rfl⟩
theorem lc0 (L : LE P w K mg base C CC CF CE CT CX tup c Pt) (hod : isExp od (n : Nat) = false) {f' c' : Addr} {cells : List (Str × Addr)} : LOk P w K mg base (L2.CX P w) 8 f' (LamF (lamOf (stAt turnBody 13) 0) lamQ cells c' none) ["_law_good", "_law_odd_here", "_law_far"] [] (spAsk K (fun ws S => ∃ v1 v2 v3, ws = [some v1, some v2, some v3] ∧ (SchP K C (cols a st n) ps) v1 S ∧ (Dt K od) v2 S ∧ (Dt K fr) v3 S) (Ex K NoD) (O1 (kIE CE) od)) := by
  refine lok_ask (N := ["_law_good", "_law_odd_here", "_law_far"]) (ps := []) (nscope_by (sc := LamSc (lamOf (stAt turnBody 13) 0)) (by decide +kernel)) (lbind0 rfl fun _ _ => rfl) rfl fun A outer s H ws E S hr hlen hw tk => ?_
  obtain ⟨v1, v2, v3, rfl, p1, p2, p3⟩ := hw
  refine er_meth (P0 := SchP K C (cols a st n) ps) (Ps := [Dt K od, Dt K fr]) tk L.folX L.cls (hr.mono (by decide)) (ee_var 0 rfl p1) SchP.insP (ea_2 (ee_var 1 rfl p2) (ee_var 2 rfl p3)) (spX_O fun vs S1 _ al => ?_)
  obtain ⟨v, u1, u2, rfl, pv, q1, q2⟩ := al.three
  exact ⟨_, _, ⟨_, ps, v, u1, u2, od, fr, rfl, pv, q1, q2, .inl ⟨by rw [cols_size]; exact hod, rfl⟩, rfl⟩, rfl, rfl⟩
theorem ld0 (L : LE P w K mg base C CC CF CE CT CX tup c Pt) (T0 : TurnH n a st ps sp p bd wr) (hfr : isExp fr (n : Nat) = false) {f' c' : Addr} {cells : List (Str × Addr)} : LOk P w K mg base (L2.CX P w) 8 f' (LamF (lamOf (stAt turnBody 14) 0) lamQ cells c' none) ["_law_good", "_law_pair", "_law_far"] [] (spAsk K (fun ws S => ∃ v1 v2 v3, ws = [some v1, some v2, some v3] ∧ (SchP K C (cols a st n) ps) v1 S ∧ (Dt K (ruleD p)) v2 S ∧ (Dt K fr) v3 S) (Ex K NoD) (O1 (kIE CE) fr)) := by
  refine lok_ask (N := ["_law_good", "_law_pair", "_law_far"]) (ps := []) (nscope_by (sc := LamSc (lamOf (stAt turnBody 14) 0)) (by decide +kernel)) (lbind0 rfl fun _ _ => rfl) rfl fun A outer s H ws E S hr hlen hw tk => ?_
  obtain ⟨v1, v2, v3, rfl, p1, p2, p3⟩ := hw
  refine er_meth (P0 := SchP K C (cols a st n) ps) (Ps := [Dt K (tI p.1), Dt K fr]) tk L.folX L.cls (hr.mono (by decide)) (ee_var 0 rfl p1) SchP.insP (ea_2 (ee_ixT (ds := [tI p.1, tI p.2]) (d := tI p.1) rfl (ee_var 1 rfl p2) ee_int) (ee_var 2 rfl p3)) (spX_O fun vs S1 _ al => ?_)
  obtain ⟨v, u1, u2, rfl, pv, q1, q2⟩ := al.three
  exact ⟨_, _, ⟨_, ps, v, u1, u2, tI p.1, fr, rfl, pv, q1, q2, .inr ⟨rule_exp T0.pok', by rw [cols_size]; exact hfr, rfl⟩, rfl⟩, rfl, rfl⟩
theorem lc1 (L : LE P w K mg base C CC CF CE CT CX tup c Pt) (hod : isExp od (n : Nat) = false) {f' c' : Addr} {cells : List (Str × Addr)} {T : Addr} : LOk P w K mg base (L2.CX P w) 8 f' (LamF (lamOf (stAt turnBody 13) 1) lamQ cells c' (some T)) ["_law_good", "_law_odd_here", "_law_far"] [.int 0] (spAsk K (fun ws S => ∃ v1 v2 v3, ws = [some v1, some v2, some v3] ∧ (SchP K C (cols a st n) ps) v1 S ∧ (Dt K od) v2 S ∧ (Dt K fr) v3 S) (Ex K NoD) (O1 (kIE CE) od)) := by
  refine lok_ask (N := ["_law_a", "_law_good", "_law_odd_here", "_law_far"]) (ps := ["_law_a"]) (nscope_by (sc := LamSc (lamOf (stAt turnBody 13) 1)) (by decide +kernel)) (lbind1 rfl fun _ _ => ⟨_, rfl, fun _ => rfl⟩) rfl fun A outer s H ws E S hr hlen hw tk => ?_
  obtain ⟨v1, v2, v3, rfl, p1, p2, p3⟩ := hw
  refine er_meth (P0 := SchP K C (cols a st n) ps) (Ps := [Dt K od, Dt K fr]) tk L.reaX L.cls (hr.mono (by decide)) (ee_var 1 rfl p1) SchP.insP (ea_2 (ee_var 2 rfl p2) (ee_var 3 rfl p3)) (spX_O fun vs S1 _ al => ?_)
  obtain ⟨v, u1, u2, rfl, pv, q1, q2⟩ := al.three
  exact ⟨_, _, ⟨_, ps, v, u1, u2, od, fr, rfl, pv, q1, q2, .inl ⟨by rw [cols_size]; exact hod, rfl⟩, rfl⟩, rfl, rfl⟩
theorem ld1 (L : LE P w K mg base C CC CF CE CT CX tup c Pt) (T0 : TurnH n a st ps sp p bd wr) (hfr : isExp fr (n : Nat) = false) {f' c' : Addr} {cells : List (Str × Addr)} {T : Addr} : LOk P w K mg base (L2.CX P w) 8 f' (LamF (lamOf (stAt turnBody 14) 1) lamQ cells c' (some T)) ["_law_good", "_law_pair", "_law_far"] [.int 0] (spAsk K (fun ws S => ∃ v1 v2 v3, ws = [some v1, some v2, some v3] ∧ (SchP K C (cols a st n) ps) v1 S ∧ (Dt K (ruleD p)) v2 S ∧ (Dt K fr) v3 S) (Ex K NoD) (O1 (kIE CE) fr)) := by
  refine lok_ask (N := ["_law_a", "_law_good", "_law_pair", "_law_far"]) (ps := ["_law_a"]) (nscope_by (sc := LamSc (lamOf (stAt turnBody 14) 1)) (by decide +kernel)) (lbind1 rfl fun _ _ => ⟨_, rfl, fun _ => rfl⟩) rfl fun A outer s H ws E S hr hlen hw tk => ?_
  obtain ⟨v1, v2, v3, rfl, p1, p2, p3⟩ := hw
  refine er_meth (P0 := SchP K C (cols a st n) ps) (Ps := [Dt K (tI p.1), Dt K fr]) tk L.reaX L.cls (hr.mono (by decide)) (ee_var 1 rfl p1) SchP.insP (ea_2 (ee_ixT (ds := [tI p.1, tI p.2]) (d := tI p.1) rfl (ee_var 2 rfl p2) ee_int) (ee_var 3 rfl p3)) (spX_O fun vs S1 _ al => ?_)
  obtain ⟨v, u1, u2, rfl, pv, q1, q2⟩ := al.three
  exact ⟨_, _, ⟨_, ps, v, u1, u2, tI p.1, fr, rfl, pv, q1, q2, .inr ⟨rule_exp T0.pok', by rw [cols_size]; exact hfr, rfl⟩, rfl⟩, rfl, rfl⟩
theorem lc2 (L : LE P w K mg base C CC CF CE CT CX tup c Pt) (hod : isExp od (n : Nat) = false) {f' c' : Addr} {cells : List (Str × Addr)} {T : Addr} : LOk P w K mg base (L2.CX P w) 8 f' (LamF (lamOf (stAt turnBody 13) 2) lamQ cells c' (some T)) ["_law_good", "_law_odd_here", "_law_far"] [.int 0] (spAsk K (fun ws S => ∃ v1 v2 v3, ws = [some v1, some v2, some v3] ∧ (SchP K C (cols a st n) ps) v1 S ∧ (Dt K od) v2 S ∧ (Dt K fr) v3 S) (Ex K NoD) (O1 (kIE CE) od)) := by
  refine lok_ask (N := ["_law_b", "_law_good", "_law_odd_here", "_law_far"]) (ps := ["_law_b"]) (nscope_by (sc := LamSc (lamOf (stAt turnBody 13) 2)) (by decide +kernel)) (lbind1 rfl fun _ _ => ⟨_, rfl, fun _ => rfl⟩) rfl fun A outer s H ws E S hr hlen hw tk => ?_
  obtain ⟨v1, v2, v3, rfl, p1, p2, p3⟩ := hw
  refine er_meth (P0 := SchP K C (cols a st n) ps) (Ps := [Dt K od, Dt K fr]) tk L.eqsX L.cls (hr.mono (by decide)) (ee_var 1 rfl p1) SchP.insP (ea_2 (ee_var 2 rfl p2) (ee_var 3 rfl p3)) (spX_O fun vs S1 _ al => ?_)
  obtain ⟨v, u1, u2, rfl, pv, q1, q2⟩ := al.three
  exact ⟨_, _, ⟨_, ps, v, u1, u2, od, fr, rfl, pv, q1, q2, .inl ⟨by rw [cols_size]; exact hod, rfl⟩, rfl⟩, rfl, rfl⟩
theorem ld2 (L : LE P w K mg base C CC CF CE CT CX tup c Pt) (T0 : TurnH n a st ps sp p bd wr) (hfr : isExp fr (n : Nat) = false) {f' c' : Addr} {cells : List (Str × Addr)} {T : Addr} : LOk P w K mg base (L2.CX P w) 8 f' (LamF (lamOf (stAt turnBody 14) 2) lamQ cells c' (some T)) ["_law_good", "_law_pair", "_law_far"] [.int 0] (spAsk K (fun ws S => ∃ v1 v2 v3, ws = [some v1, some v2, some v3] ∧ (SchP K C (cols a st n) ps) v1 S ∧ (Dt K (ruleD p)) v2 S ∧ (Dt K fr) v3 S) (Ex K NoD) (O1 (kIE CE) fr)) := by
  refine lok_ask (N := ["_law_b", "_law_good", "_law_pair", "_law_far"]) (ps := ["_law_b"]) (nscope_by (sc := LamSc (lamOf (stAt turnBody 14) 2)) (by decide +kernel)) (lbind1 rfl fun _ _ => ⟨_, rfl, fun _ => rfl⟩) rfl fun A outer s H ws E S hr hlen hw tk => ?_
  obtain ⟨v1, v2, v3, rfl, p1, p2, p3⟩ := hw
  refine er_meth (P0 := SchP K C (cols a st n) ps) (Ps := [Dt K (tI p.1), Dt K fr]) tk L.eqsX L.cls (hr.mono (by decide)) (ee_var 1 rfl p1) SchP.insP (ea_2 (ee_ixT (ds := [tI p.1, tI p.2]) (d := tI p.1) rfl (ee_var 2 rfl p2) ee_int) (ee_var 3 rfl p3)) (spX_O fun vs S1 _ al => ?_)
  obtain ⟨v, u1, u2, rfl, pv, q1, q2⟩ := al.three
  exact ⟨_, _, ⟨_, ps, v, u1, u2, tI p.1, fr, rfl, pv, q1, q2, .inr ⟨rule_exp T0.pok', by rw [cols_size]; exact hfr, rfl⟩, rfl⟩, rfl, rfl⟩
def lamTry : Expr := match stAt turnBody 17 with
  | .If (.UnaryOp _ (.Call _ [.Call _ [e] _ _, _] _ _) _) _ _ _ => e
  | _ => .Constant .none 0 ⟨0, 0, 0, 0⟩
theorem lt0 (L : LE P w K mg base C CC CF CE CT CX tup c Pt) (T0 : TurnH n a st ps sp p bd wr) (hno : no ∈ nonesL (x0 a st)) {f' c' : Addr} {cells : List (Str × Addr)} : LOk P w K mg base (L2.CX P w) 8 f' (LamF lamTry lamQ cells c' none) ["_law_good", "_law_none"] [] (spAsk K (fun ws S => ∃ v1 v2, ws = [some v1, some v2] ∧ (SchP K C (cols a st n) ps) v1 S ∧ (Dt K no) v2 S) (Ex K NoD) (O1 (kIX CX) .none)) := by
  refine lok_ask (N := ["_law_good", "_law_none"]) (ps := []) (nscope_by (sc := LamSc lamTry) (by decide +kernel)) (lbind0 rfl fun _ _ => rfl) rfl fun A outer s H ws E S hr hlen hw tk => ?_
  obtain ⟨v1, v2, rfl, p1, p2⟩ := hw
  refine er_meth (P0 := SchP K C (cols a st n) ps) (Ps := [Dt K no]) tk L.rdX L.cls (hr.mono (by decide)) (ee_var 0 rfl p1) SchP.insP (ea_1 (ee_var 1 rfl p2)) (spX_O fun vs S1 _ al => ?_)
  obtain ⟨v, u, rfl, pv, pu⟩ := al.two
  exact ⟨_, _, ⟨_, ps, v, u, no, rfl, pv, pu, by rw [cols_size]; exact T0.n1, by rw [cols_size]; exact T0.n3, nones_bad T0.hs T0.n1 T0.n3 hno, rfl, rfl⟩, rfl, rfl⟩
end
end
end K08
namespace K08
open PySem PySem.Spec PyProof.Rows L2 Z Y LamX NdefX
section
variable {P : Program} {w : World} {K : PySem.W.Frag} {mg : Str → Option Value} {base : Heap} {f : Addr} {fd : FuncData}
abbrev es8 : List (Expr × Bool) := [(lamOf (stAt turnBody 8) 0, false), (lamOf (stAt turnBody 8) 1, true), (lamOf (stAt turnBody 8) 2, true), (lamOf (stAt turnBody 8) 3, true)]
abbrev es9 : List (Expr × Bool) := [(lamOf (stAt turnBody 9) 0, false), (lamOf (stAt turnBody 9) 1, true), (lamOf (stAt turnBody 9) 2, true)]
abbrev es13 : List (Expr × Bool) := [(lamOf (stAt turnBody 13) 0, false), (lamOf (stAt turnBody 13) 1, true), (lamOf (stAt turnBody 13) 2, true)]
abbrev es14 : List (Expr × Bool) := [(lamOf (stAt turnBody 14) 0, false), (lamOf (stAt turnBody 14) 1, true), (lamOf (stAt turnBody 14) 2, true)]
section
variable {C CC CF CE CT CX : Addr} {tup : List Value} {c Pt : Addr} {A : Around} {outer : List Env} {sh : Shared} {H0 : Hp} {E : XK} {vs vb : V} {S H : Hp} {D : Ends} {rest : List Stmt} {n : Nat} {a st : Int} {ps : Rules} {sp : Nat} {p : List Int × List Int} {bd wr od fr no : PyData}
/-- the first asks -/
theorem turn_c (L : LE P w K mg base C CC CF CE CT CX tup c Pt) (hr : Room 12 (LX P w K mg base f c A outer sh H0 E).A) {v4 v5 v7 v8 v9 v10 v11 v12 : V} {a2 a3 a6 a13 a14 a15 a16 a17 : Option V} (s : Same S H) (nT : ∀ a ps, S a ≠ some (.tbl ps)) (hT : TabsN (TabQ Pt lamQ) H) (hb : BX vb S) (T0 : TurnH n a st ps sp p bd wr) (pz : Dt K (.str (cols a st n)) v4 S) (pr : Dt K (.list (ps.map ruleD)) v5 S) (pbd : Dt K bd v7 S) (psp : Dt K (.int (sp : Nat)) v8 S) (pp : Dt K (ruleD p) v9 S) (pw : Dt K wr v10 S) (pbt : Dt K (bentD ps sp wr) v11 S) (pgd : SchP K C (cols a st n) ps v12 S)
    (nx : ∀ b13 b14 Hf, Same S Hf → TabsN (TabQ Pt lamQ) Hf → HS (LX P w K mg base f c A outer sh H0 E) D rest [some vs, some vb, a2, a3, some v4, some v5, a6, some v7, some v8, some v9, some v10, some v11, some v12, b13, b14, a15, a16, a17] Hf) :
    HS (LX P w K mg base f c A outer sh H0 E) D (stAt turnBody 8 :: stAt turnBody 9 :: stAt turnBody 10 :: stAt turnBody 11 :: rest) [some vs, some vb, a2, a3, some v4, some v5, a6, some v7, some v8, some v9, some v10, some v11, some v12, a13, a14, a15, a16, a17] H := by
  refine hs_asks (es := es8) (i := 13) L.U sc_law.nd hT (fun p hp => ?_) (by decide) fun l xs Hf xf hTf al hl => ?_
  · simp only [es8, List.mem_cons, List.not_mem_nil, or_false] at hp
    rcases hp with rfl | rfl | rfl | rfl
    · exact ⟨_, _, _, _, rfl, lamB_free (e := lamOf (stAt turnBody 8) 0) (by decide +kernel), fun _ => rfl, (by intro z; cases z)⟩
    · exact ⟨_, _, _, _, rfl, lamB_free (e := lamOf (stAt turnBody 8) 1) (by decide +kernel), (by intro z; cases z), fun _ => ⟨_, _, rfl⟩⟩
    · exact ⟨_, _, _, _, rfl, lamB_free (e := lamOf (stAt turnBody 8) 2) (by decide +kernel), (by intro z; cases z), fun _ => ⟨_, _, rfl⟩⟩
    · exact ⟨_, _, _, _, rfl, lamB_free (e := lamOf (stAt turnBody 8) 3) (by decide +kernel), (by intro z; cases z), fun _ => ⟨_, _, rfl⟩⟩
  refine hs_asksMore (es := es9) (es0 := es8) (i := 13) L.U sc_law.nd hTf (fun p hp => ?_) (by decide) (askEs_up noTab_sub al) (noTab_sub _ _ hl) rfl fun l2 xs2 Hg xg hTg al2 hl2 => ?_
  · simp only [es9, List.mem_cons, List.not_mem_nil, or_false] at hp
    rcases hp with rfl | rfl | rfl
    · exact ⟨_, _, _, _, rfl, lamB_free (e := lamOf (stAt turnBody 9) 0) (by decide +kernel), fun _ => rfl, (by intro z; cases z)⟩
    · exact ⟨_, _, _, _, rfl, lamB_free (e := lamOf (stAt turnBody 9) 1) (by decide +kernel), (by intro z; cases z), fun _ => ⟨_, _, rfl⟩⟩
    · exact ⟨_, _, _, _, rfl, lamB_free (e := lamOf (stAt turnBody 9) 2) (by decide +kernel), (by intro z; cases z), fun _ => ⟨_, _, rfl⟩⟩
  have s1 : Same S (Y.noTab Hf) := tab_step s nT xf
  have sf : Same S (Y.noTab Hg) := tab_step (s1.trans noTab_sub) nT xg
  have f7 : Dt K bd v7 (Y.noTab Hg) := pbd.up sf
  have f8 : Dt K (.int (sp : Nat)) v8 (Y.noTab Hg) := psp.up sf
  let told : List PyData := [.tuple [.str "InvalidColumns", bd], .tuple [.str "InvalidFact", .int (sp : Nat)], .tuple [.str "TooMany", .int 4], .tuple [.str "InvalidFact", .int (-1)], .tuple [.str "TooMany", .int 4], .tuple [.str "InvalidFact", .int 0], .tuple [.str "InvalidFact", .int 2]]
  refine hs_set (i := 14) (P := Dt K (.list told)) (ee_lst (ds := told) (ea_cons (ee_tup (ds := [.str "InvalidColumns", bd]) (ea_2 ee_str (ee_var 7 rfl f7))) (ea_cons (ee_tup (ds := [.str "InvalidFact", .int (sp : Nat)]) (ea_2 ee_str (ee_var 8 rfl f8))) (ea_cons (ee_tup (ds := [.str "TooMany", .int 4]) (ea_2 ee_str ee_int)) (ea_cons (ee_tup (ds := [.str "InvalidFact", .int (-1)]) (ea_2 ee_str (ee_neg ee_int))) (ea_cons (ee_tup (ds := [.str "TooMany", .int 4]) (ea_2 ee_str ee_int)) (ea_cons (ee_tup (ds := [.str "InvalidFact", .int 0]) (ea_2 ee_str ee_int)) (ea_cons (ee_tup (ds := [.str "InvalidFact", .int 2]) (ea_2 ee_str ee_int)) ea_nil))))))) (by show 7 ≤ 16777216; decide)) noTab_sub sc_law.nd fun v14 S1 H1 g1 pd => ?_
  have sg : Same S S1 := sf.trans g1.st
  have hl3 := g1.st _ _ hl2
  have al3 := askEs_up g1.st al2
  have e1 : BX vb S1 := Mn.up sg hb
  have e4 : Dt K (.str (cols a st n)) v4 S1 := Mn.up sg pz
  have e5 : Dt K (.list (ps.map ruleD)) v5 S1 := Mn.up sg pr
  have e7 : Dt K bd v7 S1 := Mn.up sg pbd
  have e8 : Dt K (.int (sp : Nat)) v8 S1 := Mn.up sg psp
  have e9 : Dt K (ruleD p) v9 S1 := Mn.up sg pp
  have e10 : Dt K wr v10 S1 := Mn.up sg pw
  have e11 : Dt K (bentD ps sp wr) v11 S1 := Mn.up sg pbt
  have e12 : SchP K C (cols a st n) ps v12 S1 := Mn.up sg pgd
  let σ : L2.St := [some vs, some vb, a2, a3, some v4, some v5, a6, some v7, some v8, some v9, some v10, some v11, some v12, some (.ref l2), some v14, a15, a16, a17]
  let X0 := LX P w K mg base f c A outer sh H0 E
  let i1 : AskC X0 lamQ tup 8 σ capN S1 := { e := lamOf (stAt turnBody 8) 0, b := false, fr := ["_law_bad", "_law_bent"], js := [7, 11], Od := NoD, O := O1 (kIC CC) (bd), W := fun ws S => ∃ v1 v2, ws = [some v1, some v2] ∧ (Dt K bd) v1 S ∧ (Dt K (bentD ps sp wr)) v2 S, lam := ⟨_, _, _, _, rfl⟩, lok := fun f' c' dT h0 _ => by obtain rfl := h0 rfl; exact la0 L T0, free := lamB_free (by decide +kernel), sub := lamB_sub (by decide +kernel), hfr := by decide +kernel, hjs := rfl, ok := ok_one L.okC, hW := fun S' s' => ⟨v7, v11, rfl, Mn.up s' e7, Mn.up s' e11⟩ }
  let i2 : AskC X0 lamQ tup 8 σ capN S1 := { e := lamOf (stAt turnBody 8) 1, b := true, fr := ["_law_letters_here", "_law_bent"], js := [4, 11], Od := NoD, O := O1 (kIF CF) (.int (sp : Nat)), W := fun ws S => ∃ v1 v2, ws = [some v1, some v2] ∧ (Dt K (.str (cols a st n))) v1 S ∧ (Dt K (bentD ps sp wr)) v2 S, lam := ⟨_, _, _, _, rfl⟩, lok := fun f' c' dT _ h0 => by obtain ⟨T, rfl⟩ := h0 rfl; exact la1 L T0 (Nat.le_of_lt T0.hsp), free := lamB_free (by decide +kernel), sub := lamB_sub (by decide +kernel), hfr := by decide +kernel, hjs := rfl, ok := ok_one L.okF, hW := fun S' s' => ⟨v4, v11, rfl, Mn.up s' e4, Mn.up s' e11⟩ }
  let i3 : AskC X0 lamQ tup 8 σ capN S1 := { e := lamOf (stAt turnBody 8) 2, b := true, fr := ["_law_letters_here", "_law_rules", "_law_pair"], js := [4, 5, 9], Od := NoD, O := O1 (kTM CT) (.int 4), W := fun ws S => ∃ v1 v2 v3, ws = [some v1, some v2, some v3] ∧ (Dt K (.str (cols a st n))) v1 S ∧ (Dt K (.list (ps.map ruleD))) v2 S ∧ (Dt K (ruleD p)) v3 S, lam := ⟨_, _, _, _, rfl⟩, lok := fun f' c' dT _ h0 => by obtain ⟨T, rfl⟩ := h0 rfl; exact la2 L T0, free := lamB_free (by decide +kernel), sub := lamB_sub (by decide +kernel), hfr := by decide +kernel, hjs := rfl, ok := ok_one L.okT, hW := fun S' s' => ⟨v4, v5, v9, rfl, Mn.up s' e4, Mn.up s' e5, Mn.up s' e9⟩ }
  let i4 : AskC X0 lamQ tup 8 σ capN S1 := { e := lamOf (stAt turnBody 8) 3, b := true, fr := ["_law_letters_here", "_law_box"], js := [4, 1], Od := NoD, O := O1 (kIF CF) (.int (-1)), W := fun ws S => ∃ v1 v2, ws = [some v1, some v2] ∧ (Dt K (.str (cols a st n))) v1 S ∧ BX v2 S, lam := ⟨_, _, _, _, rfl⟩, lok := fun f' c' dT _ h0 => by obtain ⟨T, rfl⟩ := h0 rfl; exact la3 L T0, free := lamB_free (by decide +kernel), sub := lamB_sub (by decide +kernel), hfr := by decide +kernel, hjs := rfl, ok := ok_one L.okF, hW := fun S' s' => ⟨v4, vb, rfl, Mn.up s' e4, Mn.up s' e1⟩ }
  let i5 : AskC X0 lamQ tup 8 σ capN S1 := { e := lamOf (stAt turnBody 9) 0, b := false, fr := ["_law_good", "_law_pair"], js := [12, 9], Od := NoD, O := O1 (kTM CT) (.int 4), W := fun ws S => ∃ v1 v2, ws = [some v1, some v2] ∧ (SchP K C (cols a st n) ps) v1 S ∧ (Dt K (ruleD p)) v2 S, lam := ⟨_, _, _, _, rfl⟩, lok := fun f' c' dT h0 _ => by obtain rfl := h0 rfl; exact lb0 L T0, free := lamB_free (by decide +kernel), sub := lamB_sub (by decide +kernel), hfr := by decide +kernel, hjs := rfl, ok := ok_one L.okT, hW := fun S' s' => ⟨v12, v9, rfl, Mn.up s' e12, Mn.up s' e9⟩ }
  let i6 : AskC X0 lamQ tup 8 σ capN S1 := { e := lamOf (stAt turnBody 9) 1, b := true, fr := ["_law_good", "_law_wrong", "_law_pair"], js := [12, 10, 9], Od := NoD, O := O1 (kIF CF) (.int 0), W := fun ws S => ∃ v1 v2 v3, ws = [some v1, some v2, some v3] ∧ (SchP K C (cols a st n) ps) v1 S ∧ (Dt K wr) v2 S ∧ (Dt K (ruleD p)) v3 S, lam := ⟨_, _, _, _, rfl⟩, lok := fun f' c' dT _ h0 => by obtain ⟨T, rfl⟩ := h0 rfl; exact lb1 L T0, free := lamB_free (by decide +kernel), sub := lamB_sub (by decide +kernel), hfr := by decide +kernel, hjs := rfl, ok := ok_one L.okF, hW := fun S' s' => ⟨v12, v10, v9, rfl, Mn.up s' e12, Mn.up s' e10, Mn.up s' e9⟩ }
  let i7 : AskC X0 lamQ tup 8 σ capN S1 := { e := lamOf (stAt turnBody 9) 2, b := true, fr := ["_law_letters_here", "_law_pair", "_law_wrong"], js := [4, 9, 10], Od := NoD, O := O1 (kIF CF) (.int 2), W := fun ws S => ∃ v1 v2 v3, ws = [some v1, some v2, some v3] ∧ (Dt K (.str (cols a st n))) v1 S ∧ (Dt K (ruleD p)) v2 S ∧ (Dt K wr) v3 S, lam := ⟨_, _, _, _, rfl⟩, lok := fun f' c' dT _ h0 => by obtain ⟨T, rfl⟩ := h0 rfl; exact lb2 L T0, free := lamB_free (by decide +kernel), sub := lamB_sub (by decide +kernel), hfr := by decide +kernel, hjs := rfl, ok := ok_one L.okF, hW := fun S' s' => ⟨v4, v9, v10, rfl, Mn.up s' e4, Mn.up s' e9, Mn.up s' e10⟩ }
  have hbd : Bd 3 (.list told) := bd_list fun d hd => by
    simp only [told, List.mem_cons, List.not_mem_nil, or_false] at hd
    have bb := bads_bd T0.hb
    rcases hd with rfl | rfl | rfl | rfl | rfl | rfl | rfl <;> first | exact pair_bd trivial | exact pair_bd bb
  have htr : EE X0 σ S1 (match stAt turnBody 11 with | .If (.UnaryOp _ (.Call _ [e, _] _ _) _) _ _ _ => e | _ => .Constant .none 0 ⟨0, 0, 0, 0⟩) (Dt K (.list told)) := by
    refine EE.imp (ee_tries (X := X0) (σ := σ) (S := S1) (xs := capN) (by decide) cap_cells L.tries (hr.mono (by decide)) [i1, i2, i3, i4, i5, i6, i7] (by show 7 ≤ 1000; decide) (i := 13) rfl hl3 al3) fun v S' ⟨d, ⟨rs, e, hp⟩, pv⟩ => ?_
    have ers := all_err (kg := [(kIC CC, bd), (kIF CF, .int (sp : Nat)), (kTM CT, .int 4), (kIF CF, .int (-1)), (kTM CT, .int 4), (kIF CF, .int 0), (kIF CF, .int 2)]) rfl hp
    subst e
    rw [ers] at pv
    exact pv
  refine hs_ifN (ET.is (et_not (et_val (ee_callD (L.same 3) (hr.mono (by decide)) ⟨.list told, rfl, hbd, rfl⟩ (ea_2 htr (ee_var 14 rfl pd))))) (by rfl)) g1.sub fun S2 H2 g2 => ?_
  exact nx _ _ H2 (sg.trans (g2.st.trans g2.sub)) ((hTg.ext g1.hh).ext g2.hh)
end
end
end K08
namespace K08
open PySem PySem.Spec PyProof.Rows L2 Z Y LamX NdefX
section
variable {P : Program} {w : World} {K : PySem.W.Frag} {mg : Str → Option Value} {base : Heap} {f : Addr} {fd : FuncData}
section
variable {C CC CF CE CT CX : Addr} {tup : List Value} {c Pt : Addr} {A : Around} {outer : List Env} {sh : Shared} {H0 : Hp} {E : XK} {vs vb : V} {S H : Hp} {D : Ends} {rest : List Stmt} {n : Nat} {a st : Int} {ps : Rules} {sp : Nat} {p : List Int × List Int} {bd wr od fr no : PyData}
/-- odd, far -/
theorem turn_d0 (L : LE P w K mg base C CC CF CE CT CX tup c Pt) (hr : Room 12 (LX P w K mg base f c A outer sh H0 E).A) {v3 v9 v12 : V} {a2 a4 a5 a6 a7 a8 a10 a11 a13 a14 a15 a16 a17 : Option V} (s : Same S H) (hb : BX vb S) (T0 : TurnH n a st ps sp p bd wr) (pm : Dt K (.int (n : Nat)) v3 S) (pp : Dt K (ruleD p) v9 S)
    (nx : ∀ od fr v15 v16 S' H', Gr S H S' H' → od ∈ oddL ++ oddM n p.1 → fr ∈ oddL ++ [tI (List.replicate n (-1))] → Dt K od v15 S' → Dt K fr v16 S' → HS (LX P w K mg base f c A outer sh H0 E) D rest [some vs, some vb, a2, some v3, a4, a5, a6, a7, a8, some v9, a10, a11, some v12, a13, a14, some v15, some v16, a17] H') :
    HS (LX P w K mg base f c A outer sh H0 E) D (stAt turnBody 12 :: rest) [some vs, some vb, a2, some v3, a4, a5, a6, a7, a8, some v9, a10, a11, some v12, a13, a14, a15, a16, a17] H := by
  have n1 := T0.n1
  have n3 := T0.n3
  obtain ⟨l1, l2⟩ := p
  have q1 : l1.length = n := T0.pok.1.1
  have c1 : Z.cutD (l1.map PyData.int) (some 1) none = (l1.drop 1).map .int := by
    have := cut_from (l1.map PyData.int) (i := 1) (by rw [List.length_map]; omega)
    rw [List.map_drop]
    exact this
  refine hs_unpackF (i := 15) (j := 16) (F := fun d => d ∈ oddL ++ oddM n l1) (G := fun d => d ∈ oddL ++ [tI (List.replicate n (-1))]) rfl sc_law.nd (ee_pairE (ee_callBx L.odd (hr.mono (by decide)) ⟨oddM n l1, rfl, by show 4 ≤ 1000; decide, rfl⟩ (ea_2 (ee_var 1 rfl hb) ?ol)) (ee_callBx L.odd (hr.mono (by decide)) ⟨[tI (List.replicate n (-1))], rfl, by show 1 ≤ 1000; decide, rfl⟩ (ea_2 (ee_var 1 rfl hb) ?fl))) s fun od fr v15 v16 S1 H1 hod hfr g1 po pf => nx od fr v15 v16 S1 H1 g1 hod hfr po pf
  case ol =>
    refine ee_lst (ds := oddM n l1) ?_ (by show 4 ≤ 16777216; decide)
    exact (ea_cons ((ee_catT (ds1 := l1.map .int) (ds2 := [.int 1]) (by rw [List.length_map]; show _ + 1 ≤ 16777216; omega) (ee_ixT (ds := [tI l1, tI l2]) (d := tI l1) rfl (ee_var 9 rfl pp) ee_int) (ee_tup (ds := [.int 1]) (ea_1 ee_int))).isd (by unfold tI; rw [List.map_append]; rfl)) (ea_cons ((ee_slT (ds := l1.map .int) (ee_ixT (ds := [tI l1, tI l2]) (d := tI l1) rfl (ee_var 9 rfl pp) ee_int) (eo_some ee_int) eo_none).isd (by rw [c1]; rfl)) (ea_cons ((ee_repT n1 (by omega) (by show 1 ≤ 1000; decide) (by simp) (ee_tup (ds := [.int 7]) (ea_1 ee_int)) (ee_var 3 rfl pm)).isd (by rw [rep_c, tI_rep])) (ea_cons (ee_list L.flist (.inr rfl) (show EE _ _ _ _ (Dt K (.tuple (l1.map .int))) from (ee_ixT (ds := [tI l1, tI l2]) (d := tI l1) rfl (ee_var 9 rfl pp) ee_int))) ea_nil))))
  case fl =>
    refine ee_lst (ds := [tI (List.replicate n (-1))]) ?_
    exact (ea_cons ((ee_repT n1 (by omega) (by show 1 ≤ 1000; decide) (by simp) (ee_tup (ds := [.int (-1)]) (ea_1 (ee_neg ee_int))) (ee_var 3 rfl pm)).isd (by rw [rep_c, tI_rep])) ea_nil)
/-- the asks of exponents -/
theorem turn_d (L : LE P w K mg base C CC CF CE CT CX tup c Pt) (hr : Room 12 (LX P w K mg base f c A outer sh H0 E).A) {v9 v12 v15 v16 : V} {a2 a3 a4 a5 a6 a7 a8 a10 a11 a13 a14 a17 : Option V} (s : Same S H) (nT : ∀ a ps, S a ≠ some (.tbl ps)) (hT : TabsN (TabQ Pt lamQ) H) (T0 : TurnH n a st ps sp p bd wr) (hod : od ∈ oddL ++ oddM n p.1) (hfr : fr ∈ oddL ++ [tI (List.replicate n (-1))]) (pp : Dt K (ruleD p) v9 S) (pgd : SchP K C (cols a st n) ps v12 S) (pod : Dt K od v15 S) (pfr : Dt K fr v16 S)
    (nx : ∀ b13 Hf, Same S Hf → TabsN (TabQ Pt lamQ) Hf → HS (LX P w K mg base f c A outer sh H0 E) D rest [some vs, some vb, a2, a3, a4, a5, a6, a7, a8, some v9, a10, a11, some v12, b13, a14, some v15, some v16, a17] Hf) :
    HS (LX P w K mg base f c A outer sh H0 E) D (stAt turnBody 13 :: stAt turnBody 14 :: stAt turnBody 15 :: rest) [some vs, some vb, a2, a3, a4, a5, a6, a7, a8, some v9, a10, a11, some v12, a13, a14, some v15, some v16, a17] H := by
  have hodx : isExp od (n : Nat) = false := odd_exp T0.n1 T0.n3 T0.pok.1.1 hod
  have hfrx : isExp fr (n : Nat) = false := far_exp T0.n1 T0.n3 hfr
  refine hs_asks (es := es13) (i := 13) L.U sc_law.nd hT (fun p hp => ?_) (by decide) fun l xs Hf xf hTf al hl => ?_
  · simp only [es13, List.mem_cons, List.not_mem_nil, or_false] at hp
    rcases hp with rfl | rfl | rfl
    · exact ⟨_, _, _, _, rfl, lamB_free (e := lamOf (stAt turnBody 13) 0) (by decide +kernel), fun _ => rfl, (by intro z; cases z)⟩
    · exact ⟨_, _, _, _, rfl, lamB_free (e := lamOf (stAt turnBody 13) 1) (by decide +kernel), (by intro z; cases z), fun _ => ⟨_, _, rfl⟩⟩
    · exact ⟨_, _, _, _, rfl, lamB_free (e := lamOf (stAt turnBody 13) 2) (by decide +kernel), (by intro z; cases z), fun _ => ⟨_, _, rfl⟩⟩
  refine hs_asksMore (es := es14) (es0 := es13) (i := 13) L.U sc_law.nd hTf (fun p hp => ?_) (by decide) (askEs_up noTab_sub al) (noTab_sub _ _ hl) rfl fun l2 xs2 Hg xg hTg al2 hl2 => ?_
  · simp only [es14, List.mem_cons, List.not_mem_nil, or_false] at hp
    rcases hp with rfl | rfl | rfl
    · exact ⟨_, _, _, _, rfl, lamB_free (e := lamOf (stAt turnBody 14) 0) (by decide +kernel), fun _ => rfl, (by intro z; cases z)⟩
    · exact ⟨_, _, _, _, rfl, lamB_free (e := lamOf (stAt turnBody 14) 1) (by decide +kernel), (by intro z; cases z), fun _ => ⟨_, _, rfl⟩⟩
    · exact ⟨_, _, _, _, rfl, lamB_free (e := lamOf (stAt turnBody 14) 2) (by decide +kernel), (by intro z; cases z), fun _ => ⟨_, _, rfl⟩⟩
  have s1 : Same S (Y.noTab Hf) := tab_step s nT xf
  have sf : Same S (Y.noTab Hg) := tab_step (s1.trans noTab_sub) nT xg
  let told : List PyData := [.tuple [.str "InvalidExponent", od], .tuple [.str "InvalidExponent", od], .tuple [.str "InvalidExponent", od], .tuple [.str "InvalidExponent", fr], .tuple [.str "InvalidExponent", fr], .tuple [.str "InvalidExponent", fr]]
  have e9 : Dt K (ruleD p) v9 (Y.noTab Hg) := Mn.up sf pp
  have e12 : SchP K C (cols a st n) ps v12 (Y.noTab Hg) := Mn.up sf pgd
  have e15 : Dt K od v15 (Y.noTab Hg) := Mn.up sf pod
  have e16 : Dt K fr v16 (Y.noTab Hg) := Mn.up sf pfr
  let σ : L2.St := [some vs, some vb, a2, a3, a4, a5, a6, a7, a8, some v9, a10, a11, some v12, some (.ref l2), a14, some v15, some v16, a17]
  let X0 := LX P w K mg base f c A outer sh H0 E
  let i1 : AskC X0 lamQ tup 8 σ capN (Y.noTab Hg) := { e := lamOf (stAt turnBody 13) 0, b := false, fr := ["_law_good", "_law_odd_here", "_law_far"], js := [12, 15, 16], Od := NoD, O := O1 (kIE CE) od, W := fun ws S => ∃ v1 v2 v3, ws = [some v1, some v2, some v3] ∧ (SchP K C (cols a st n) ps) v1 S ∧ (Dt K od) v2 S ∧ (Dt K fr) v3 S, lam := ⟨_, _, _, _, rfl⟩, lok := fun f' c' dT h0 _ => by obtain rfl := h0 rfl; exact lc0 L hodx, free := lamB_free (by decide +kernel), sub := lamB_sub (by decide +kernel), hfr := by decide +kernel, hjs := rfl, ok := ok_one L.okE, hW := fun S' s' => ⟨v12, v15, v16, rfl, Mn.up s' e12, Mn.up s' e15, Mn.up s' e16⟩ }
  let i2 : AskC X0 lamQ tup 8 σ capN (Y.noTab Hg) := { e := lamOf (stAt turnBody 13) 1, b := true, fr := ["_law_good", "_law_odd_here", "_law_far"], js := [12, 15, 16], Od := NoD, O := O1 (kIE CE) od, W := fun ws S => ∃ v1 v2 v3, ws = [some v1, some v2, some v3] ∧ (SchP K C (cols a st n) ps) v1 S ∧ (Dt K od) v2 S ∧ (Dt K fr) v3 S, lam := ⟨_, _, _, _, rfl⟩, lok := fun f' c' dT _ h0 => by obtain ⟨T, rfl⟩ := h0 rfl; exact lc1 L hodx, free := lamB_free (by decide +kernel), sub := lamB_sub (by decide +kernel), hfr := by decide +kernel, hjs := rfl, ok := ok_one L.okE, hW := fun S' s' => ⟨v12, v15, v16, rfl, Mn.up s' e12, Mn.up s' e15, Mn.up s' e16⟩ }
  let i3 : AskC X0 lamQ tup 8 σ capN (Y.noTab Hg) := { e := lamOf (stAt turnBody 13) 2, b := true, fr := ["_law_good", "_law_odd_here", "_law_far"], js := [12, 15, 16], Od := NoD, O := O1 (kIE CE) od, W := fun ws S => ∃ v1 v2 v3, ws = [some v1, some v2, some v3] ∧ (SchP K C (cols a st n) ps) v1 S ∧ (Dt K od) v2 S ∧ (Dt K fr) v3 S, lam := ⟨_, _, _, _, rfl⟩, lok := fun f' c' dT _ h0 => by obtain ⟨T, rfl⟩ := h0 rfl; exact lc2 L hodx, free := lamB_free (by decide +kernel), sub := lamB_sub (by decide +kernel), hfr := by decide +kernel, hjs := rfl, ok := ok_one L.okE, hW := fun S' s' => ⟨v12, v15, v16, rfl, Mn.up s' e12, Mn.up s' e15, Mn.up s' e16⟩ }
  let i4 : AskC X0 lamQ tup 8 σ capN (Y.noTab Hg) := { e := lamOf (stAt turnBody 14) 0, b := false, fr := ["_law_good", "_law_pair", "_law_far"], js := [12, 9, 16], Od := NoD, O := O1 (kIE CE) fr, W := fun ws S => ∃ v1 v2 v3, ws = [some v1, some v2, some v3] ∧ (SchP K C (cols a st n) ps) v1 S ∧ (Dt K (ruleD p)) v2 S ∧ (Dt K fr) v3 S, lam := ⟨_, _, _, _, rfl⟩, lok := fun f' c' dT h0 _ => by obtain rfl := h0 rfl; exact ld0 L T0 hfrx, free := lamB_free (by decide +kernel), sub := lamB_sub (by decide +kernel), hfr := by decide +kernel, hjs := rfl, ok := ok_one L.okE, hW := fun S' s' => ⟨v12, v9, v16, rfl, Mn.up s' e12, Mn.up s' e9, Mn.up s' e16⟩ }
  let i5 : AskC X0 lamQ tup 8 σ capN (Y.noTab Hg) := { e := lamOf (stAt turnBody 14) 1, b := true, fr := ["_law_good", "_law_pair", "_law_far"], js := [12, 9, 16], Od := NoD, O := O1 (kIE CE) fr, W := fun ws S => ∃ v1 v2 v3, ws = [some v1, some v2, some v3] ∧ (SchP K C (cols a st n) ps) v1 S ∧ (Dt K (ruleD p)) v2 S ∧ (Dt K fr) v3 S, lam := ⟨_, _, _, _, rfl⟩, lok := fun f' c' dT _ h0 => by obtain ⟨T, rfl⟩ := h0 rfl; exact ld1 L T0 hfrx, free := lamB_free (by decide +kernel), sub := lamB_sub (by decide +kernel), hfr := by decide +kernel, hjs := rfl, ok := ok_one L.okE, hW := fun S' s' => ⟨v12, v9, v16, rfl, Mn.up s' e12, Mn.up s' e9, Mn.up s' e16⟩ }
  let i6 : AskC X0 lamQ tup 8 σ capN (Y.noTab Hg) := { e := lamOf (stAt turnBody 14) 2, b := true, fr := ["_law_good", "_law_pair", "_law_far"], js := [12, 9, 16], Od := NoD, O := O1 (kIE CE) fr, W := fun ws S => ∃ v1 v2 v3, ws = [some v1, some v2, some v3] ∧ (SchP K C (cols a st n) ps) v1 S ∧ (Dt K (ruleD p)) v2 S ∧ (Dt K fr) v3 S, lam := ⟨_, _, _, _, rfl⟩, lok := fun f' c' dT _ h0 => by obtain ⟨T, rfl⟩ := h0 rfl; exact ld2 L T0 hfrx, free := lamB_free (by decide +kernel), sub := lamB_sub (by decide +kernel), hfr := by decide +kernel, hjs := rfl, ok := ok_one L.okE, hW := fun S' s' => ⟨v12, v9, v16, rfl, Mn.up s' e12, Mn.up s' e9, Mn.up s' e16⟩ }
  have hbd : Bd 3 (.list told) := bd_list fun d hd => by
    simp only [told, List.mem_cons, List.not_mem_nil, or_false] at hd
    have b1 := odd_bd hod
    have b2 := far_bd hfr
    rcases hd with rfl | rfl | rfl | rfl | rfl | rfl <;> first | exact pair_bd b1 | exact pair_bd b2
  have htr : EE X0 σ (Y.noTab Hg) (match stAt turnBody 15 with | .If (.UnaryOp _ (.Call _ [e, _] _ _) _) _ _ _ => e | _ => .Constant .none 0 ⟨0, 0, 0, 0⟩) (Dt K (.list told)) := by
    refine EE.imp (ee_tries (X := X0) (σ := σ) (S := (Y.noTab Hg)) (xs := capN) (by decide) cap_cells L.tries (hr.mono (by decide)) [i1, i2, i3, i4, i5, i6] (by show 6 ≤ 1000; decide) (i := 13) rfl hl2 al2) fun v S' ⟨d, ⟨rs, e, hp⟩, pv⟩ => ?_
    have ers := all_err (kg := [(kIE CE, od), (kIE CE, od), (kIE CE, od), (kIE CE, fr), (kIE CE, fr), (kIE CE, fr)]) rfl hp
    subst e
    rw [ers] at pv
    exact pv
  refine hs_ifN (ET.is (et_not (et_val (ee_callD (L.same 3) (hr.mono (by decide)) ⟨.list told, rfl, hbd, rfl⟩ (ea_2 htr (ee_catL (ds1 := [.tuple [.str "InvalidExponent", od], .tuple [.str "InvalidExponent", od], .tuple [.str "InvalidExponent", od]]) (ds2 := [.tuple [.str "InvalidExponent", fr], .tuple [.str "InvalidExponent", fr], .tuple [.str "InvalidExponent", fr]]) (by show 3 + 3 ≤ 16777216; decide) ((ee_repL (ds := [.tuple [.str "InvalidExponent", od]]) (i := 3) (by decide) (by decide) (by show 1 * 3 ≤ 16777216; decide) (ee_lst (ds := [.tuple [.str "InvalidExponent", od]]) (ea_1 (ee_tup (ds := [.str "InvalidExponent", od]) (ea_2 ee_str (ee_var 15 rfl e15))))) ee_int).isd (d' := .list [.tuple [.str "InvalidExponent", od], .tuple [.str "InvalidExponent", od], .tuple [.str "InvalidExponent", od]]) rfl) ((ee_repL (ds := [.tuple [.str "InvalidExponent", fr]]) (i := 3) (by decide) (by decide) (by show 1 * 3 ≤ 16777216; decide) (ee_lst (ds := [.tuple [.str "InvalidExponent", fr]]) (ea_1 (ee_tup (ds := [.str "InvalidExponent", fr]) (ea_2 ee_str (ee_var 16 rfl e16))))) ee_int).isd (d' := .list [.tuple [.str "InvalidExponent", fr], .tuple [.str "InvalidExponent", fr], .tuple [.str "InvalidExponent", fr]]) rfl)))))) (by rfl)) noTab_sub fun S2 H2 g2 => ?_
  exact nx _ H2 (sf.trans (g2.st.trans g2.sub)) (hTg.ext g2.hh)
end
end
end K08
namespace K08
open PySem PySem.Spec PyProof.Rows L2 Z Y LamX NdefX
section
variable {P : Program} {w : World} {K : PySem.W.Frag} {mg : Str → Option Value} {base : Heap} {f : Addr} {fd : FuncData}
section
variable {C CC CF CE CT CX : Addr} {tup : List Value} {c Pt : Addr} {A : Around} {outer : List Env} {sh : Shared} {H0 : Hp} {E : XK} {vs vb : V} {S H : Hp} {D : Ends} {rest : List Stmt} {n : Nat} {a st : Int} {ps : Rules} {sp : Nat} {p : List Int × List Int} {bd wr od fr no : PyData}
theorem lenA (x y : Str) : (x ++ y).length = x.length + y.length := Array.size_append
theorem len_le {m : Nat} (h : m ≤ 1000) : m ≤ sizeLine := Nat.le_trans h (by show 1000 ≤ 16777216; decide)
theorem x0_len (a st : Int) : (x0 a st).length = 1 := rfl
/-- none -/
theorem turn_e0 (L : LE P w K mg base C CC CF CE CT CX tup c Pt) (hr : Room 12 (LX P w K mg base f c A outer sh H0 E).A) {v4 v12 : V} {a2 a3 a5 a6 a7 a8 a9 a10 a11 a13 a14 a15 a16 a17 : Option V} (s : Same S H) (hb : BX vb S) (T0 : TurnH n a st ps sp p bd wr) (pz : Dt K (.str (cols a st n)) v4 S)
    (nx : ∀ no v17 S' H', Gr S H S' H' → no ∈ nonesL (x0 a st) → Dt K no v17 S' → HS (LX P w K mg base f c A outer sh H0 E) D rest [some vs, some vb, a2, a3, some v4, a5, a6, a7, a8, a9, a10, a11, some v12, a13, a14, a15, a16, some v17] H') :
    HS (LX P w K mg base f c A outer sh H0 E) D (stAt turnBody 16 :: rest) [some vs, some vb, a2, a3, some v4, a5, a6, a7, a8, a9, a10, a11, some v12, a13, a14, a15, a16, a17] H := by
  have n1 := T0.n1
  have n3 := T0.n3
  have zl : (cols a st n).length ≤ sizeLine := len_le (by have : (cols a st n).length = n := cols_size a st n; omega)
  refine hs_set (i := 17) (P := Ex K fun d => d ∈ nonesL (x0 a st)) (ee_callBx L.one (hr.mono (by decide)) ⟨nonesL (x0 a st), rfl, by show 0 < 20; decide, by show 20 < 1073741824; decide, rfl⟩ (ea_2 (ee_var 1 rfl hb) ?nl)) s sc_law.nd fun v17 S1 H1 g1 pn => ?_
  case nl =>
    refine ee_lst (ds := nonesL (x0 a st)) ?_ (by show 20 ≤ 16777216; decide)
    exact (ea_cons ee_non (ea_cons ee_int (ea_cons ee_str (ea_cons ee_str (ea_cons ee_str (ea_cons ee_str (ea_cons ee_str (ea_cons ee_str (ea_cons (ee_catS (by simp only [lenA, x0_len]; exact len_le (by decide +kernel)) (ee_ixS zl (x0_at a st n1) (ee_var 4 rfl pz) ee_int) ee_str) (ea_cons (ee_catS (by simp only [lenA, x0_len]; exact len_le (by decide +kernel)) (ee_ixS zl (x0_at a st n1) (ee_var 4 rfl pz) ee_int) ee_str) (ea_cons (ee_catS (by simp only [lenA, x0_len]; exact len_le (by decide +kernel)) (ee_catS (by simp only [lenA, x0_len]; exact len_le (by decide +kernel)) (ee_catS (by simp only [lenA, x0_len]; exact len_le (by decide +kernel)) ee_str (ee_ixS zl (x0_at a st n1) (ee_var 4 rfl pz) ee_int)) ee_str) (ee_ixS zl (x0_at a st n1) (ee_var 4 rfl pz) ee_int)) (ea_cons (ee_catS (by simp only [lenA, x0_len]; exact len_le (by decide +kernel)) (ee_ixS zl (x0_at a st n1) (ee_var 4 rfl pz) ee_int) ee_str) (ea_cons ee_str (ea_cons ee_str (ea_cons ee_str (ea_cons (ee_catS (by simp only [lenA, x0_len]; exact len_le (by decide +kernel)) (ee_ixS zl (x0_at a st n1) (ee_var 4 rfl pz) ee_int) ee_str) (ea_cons ee_str (ea_cons (ee_catS (by simp only [lenA, x0_len]; exact len_le (by decide +kernel)) (ee_ixS zl (x0_at a st n1) (ee_var 4 rfl pz) ee_int) ee_str) (ea_cons (ee_catS (by simp only [lenA, x0_len]; exact len_le (by decide +kernel)) (ee_ixS zl (x0_at a st n1) (ee_var 4 rfl pz) ee_int) ee_str) (ea_cons ee_str ea_nil))))))))))))))))))))
  obtain ⟨no, hno, pn⟩ := pn
  exact nx no v17 S1 H1 g1 hno pn
/-- a text that is no fact -/
theorem turn_e (L : LE P w K mg base C CC CF CE CT CX tup c Pt) (hr : Room 12 (LX P w K mg base f c A outer sh H0 E).A) {v12 v17 : V} {a2 a3 a4 a5 a6 a7 a8 a9 a10 a11 a13 a14 a15 a16 : Option V} (s : Same S H) (nT : ∀ a ps, S a ≠ some (.tbl ps)) (hT : TabsN (TabQ Pt lamQ) H) (T0 : TurnH n a st ps sp p bd wr) (hno : no ∈ nonesL (x0 a st)) (pgd : SchP K C (cols a st n) ps v12 S) (pno : Dt K no v17 S)
    (nx : ∀ Hf, Same S Hf → TabsN (TabQ Pt lamQ) Hf → D.nx [some vs, some vb, a2, a3, a4, a5, a6, a7, a8, a9, a10, a11, some v12, a13, a14, a15, a16, some v17] Hf) :
    HS (LX P w K mg base f c A outer sh H0 E) D [stAt turnBody 17] [some vs, some vb, a2, a3, a4, a5, a6, a7, a8, a9, a10, a11, some v12, a13, a14, a15, a16, some v17] H := by
  let σ : L2.St := [some vs, some vb, a2, a3, a4, a5, a6, a7, a8, a9, a10, a11, some v12, a13, a14, a15, a16, some v17]
  let X0 := LX P w K mg base f c A outer sh H0 E
  let it : AskC X0 lamQ tup 8 σ capN S := { e := lamTry, b := false, fr := ["_law_good", "_law_none"], js := [12, 17], Od := NoD, O := O1 (kIX CX) .none, W := fun ws S => ∃ v1 v2, ws = [some v1, some v2] ∧ (SchP K C (cols a st n) ps) v1 S ∧ (Dt K no) v2 S, lam := ⟨_, _, _, _, rfl⟩, lok := fun f' c' dT h0 _ => by obtain rfl := h0 rfl; exact lt0 L T0 hno, free := lamB_free (by decide +kernel), sub := lamB_sub (by decide +kernel), hfr := by decide +kernel, hjs := rfl, ok := ok_one L.okX, hW := fun S' s' => ⟨v12, v17, rfl, Mn.up s' pgd, Mn.up s' pno⟩ }
  let told : PyData := .tuple [.str "InvalidText", .none]
  have hbd : Bd 2 told := pair_bd (g := .none) trivial
  refine hs_cons (ps_if ptb psb psb) ?_
  refine ht_of (pt_not (pt_val peb (by intro _; rfl))) ?_
  refine he_callD2 (X := X0) (r := .bool true) (d1 := told) (d2 := told) (L.same 2) (hr.mono (by decide)) ⟨told, rfl, hbd, rfl⟩ (he_try (X := X0) (σ := σ) (S := S) (xs := capN) (by decide) cap_cells L.try_ (hr.mono (by decide)) L.U hT it ⟨_, _, _, _, rfl, lamB_free (e := lamTry) (by decide +kernel), fun _ => rfl, (by intro z; cases z)⟩ s nT fun v S2 H2 s2 sS2 hT2 nT2 pv => ?_)
  obtain ⟨d, hd, pv⟩ := pv
  obtain rfl := rt_err hd
  refine ⟨S2, sS2, pv, ee_tup (ds := [.str "InvalidText", .none]) (ea_2 ee_str ee_non), fun u S3 H3 g3 pu => ?_⟩
  cases pu
  refine ⟨true, rfl, ?_⟩
  exact iteF (hs_nil (hs_nil (nx H3 (s2.trans (g3.st.trans g3.sub)) (hT2.ext g3.hh))))
end
def spLaw (K : PySem.W.Frag) (Pt : Addr) : Sp := fun vs H Q _ => ∃ (a : Addr) (ns : List Int), vs = [.ref a] ∧ SqL K H a (ns.map V.int) ∧ ns.length ≤ 63 ∧ H Pt = some (.tbl #[]) ∧ ∀ H', Q (.bl true) H'
def OSt (vs vb : V) (σ : L2.St) : Prop := ∃ a2 a3 a4 a5 a6 a7 a8 a9 a10 a11 a12 a13 a14 a15 a16 a17, σ = [some vs, some vb, a2, a3, a4, a5, a6, a7, a8, a9, a10, a11, a12, a13, a14, a15, a16, a17]
theorem ok_law {C CC CF CE CT CX : Addr} {tup : List Value} {c Pt : Addr} (F : FnT K "law" slaw f fd) (hcode : fd.code = .ref c) (L : LE P w K mg base C CC CF CE CT CX tup c Pt) : FnOk P w K mg base CX0 13 f fd ["_law_script"] (spLaw K Pt) := by
  refine fn_hsC F sc_law hcode (fun vs H Q E h => by obtain ⟨a, ns, rfl, _⟩ := h; rfl) (fun A outer sh H vs Q E hr h => ?_)
  obtain ⟨a, ns, rfl, hS, hl, hP, q⟩ := h
  obtain ⟨fo, fdo, pso, G, hm, hk, hb⟩ := L.openD.ex
  refine hs_cons (ps_set (i := 1) sc_law.nd rfl (by first | exact Or.inl rfl | exact Or.inr rfl) (pe_call G (hr.mono (by decide)) rfl hm hk hb .nil pass0 (pa_cons (pv 0) pa_nil)) rfl (by first | exact .inl rfl | exact .inr rfl)) ?_
  refine ⟨_, rfl, ?_⟩
  refine ⟨a, ns, rfl, hS, hl, fun vb H1 sm hbx => ?_⟩
  have hT : TabsN (TabQ Pt lamQ) H1 := fun p hp => by rw [List.mem_singleton.mp hp]; exact TabN.nil (sm _ _ hP)
  refine hs_forR (S := H1) (n := 5) (fun i σ H' => BX vb H' ∧ TabsN (TabQ Pt lamQ) H' ∧ OSt (.ref a) vb σ) PassesOwn.never rfl L.frange (by decide) ee_int (Same.refl H1) (fun S' H' g => ⟨Mn.up (g.st.trans g.sub) hbx, hT.ext g.hh, _, _, _, _, _, _, _, _, _, _, _, _, _, _, _, _, rfl⟩) ?_ ?_
  · rintro i σ1 H2 _ ⟨hb2, hT2, a2, a3, a4, a5, a6, a7, a8, a9, a10, a11, a12, a13, a14, a15, a16, a17, rfl⟩
    refine (eg_name (S := Y.noTab H2) (i := 2) sc_law.nd rfl (by first | exact Or.inl rfl | exact Or.inr rfl)) H2 noTab_sub _ ?_
    have hb2 := bx_noTab hb2
    refine turn_a L hr noTab_sub hb2 fun n a st ps v3 v4 v5 S3 H3 g3 n1 n3 hst hl4 hro pm pz pr => ?_
    have hb3 : BX vb S3 := Mn.up g3.st hb2
    refine turn_b L hr g3.sub hb3 n1 n3 hst hl4 hro pm pz pr fun sp p bd wr v7 v8 v9 v10 v11 v12 S4 H4 g4 T0 pbd psp pp pw pbt pgd => ?_
    have nT : ∀ a ps, Y.noTab S4 a ≠ some (.tbl ps) := fun _ _ => noTab_no
    have hb4 : BX vb (Y.noTab S4) := bx_noTab (Mn.up g4.st hb3)
    have pm4 : Dt K (.int (n : Nat)) v3 (Y.noTab S4) := dt_noTab (pm.up g4.st)
    have pz4 : Dt K (.str (cols a st n)) v4 (Y.noTab S4) := dt_noTab (pz.up g4.st)
    have pr4 : Dt K (.list (ps.map ruleD)) v5 (Y.noTab S4) := dt_noTab (pr.up g4.st)
    have pp4 : Dt K (ruleD p) v9 (Y.noTab S4) := dt_noTab pp
    have pgd4 := sch_noTab pgd
    refine turn_c L hr (noTab_sub.trans g4.sub) nT ((hT2.ext g3.hh).ext g4.hh) hb4 T0 pz4 pr4 (dt_noTab pbd) (dt_noTab psp) pp4 (dt_noTab pw) (dt_noTab pbt) pgd4 fun b13 b14 H5 s5 hT5 => ?_
    refine turn_d0 L hr s5 hb4 T0 pm4 pp4 fun od fr v15 v16 S6 H6 g6 hod hfr po pf => ?_
    have nT6 : ∀ a ps, Y.noTab S6 a ≠ some (.tbl ps) := fun _ _ => noTab_no
    have s46 : Same (Y.noTab S4) (Y.noTab S6) := noTab_up g6.st nT
    refine turn_d L hr (noTab_sub.trans g6.sub) nT6 (hT5.ext g6.hh) T0 hod hfr (pp4.up s46) (Mn.up s46 pgd4) (dt_noTab po) (dt_noTab pf) fun c13 H7 s7 hT7 => ?_
    refine turn_e0 L hr s7 (Mn.up s46 hb4) T0 (pz4.up s46) fun no v17 S8 H8 g8 hno pno => ?_
    have s68 : Same (Y.noTab S6) (Y.noTab S8) := noTab_up g8.st nT6
    refine turn_e L hr (noTab_sub.trans g8.sub) (fun _ _ => noTab_no) (hT7.ext g8.hh) T0 hno (Mn.up (s46.trans s68) pgd4) (dt_noTab pno) fun H9 s9 hT9 => ?_
    exact ⟨Mn.up ((s46.trans s68).trans s9) hb4, hT9, _, _, _, _, _, _, _, _, _, _, _, _, _, _, _, _, rfl⟩
  · rintro σ1 H2 ⟨hb2, hT2, a2, a3, a4, a5, a6, a7, a8, a9, a10, a11, a12, a13, a14, a15, a16, a17, rfl⟩
    exact hs_ret ee_bl (Same.refl H2) fun v S' H' g pv => by
      cases pv
      exact q H'
end
end K08
namespace K08
open PySem PySem.Spec PyProof.Rows L2 Z Y LamX NdefX
section
variable {P : Program} {w : World} {K : PySem.W.Frag} {mg : Str → Option Value} {base : Heap} {f : Addr} {fd : FuncData}
/-! ## the errors of k08 -/
theorem sc_iInvalidColumns : FnScope ["self", "given"] ["self", "given"] (defScope sInvalidColumns____init__) := ⟨rfl, rfl, rfl, by decide +kernel, rfl, by decide +kernel, by decide +kernel⟩
theorem ok_init_InvalidColumns {C : Addr} (F : FunD K "__init__" "InvalidColumns.__init__" (defArgs sInvalidColumns____init__) (defBody sInvalidColumns____init__) (defScope sInvalidColumns____init__) [] [] f fd) (T : OexC K C) (n1 : PySem.W.findIn K (.ref C) "given" = some none) (n2 : PySem.W.findIn K (.ref C) "code" = some none) : FnOk P w K mg base CX0 1 f fd ["self", "given"] (spXI C "given" "InvalidColumns") := by
  refine fn_hs F sc_iInvalidColumns (fun vs H Q E h => ?_) (fun cdv A outer sh H vs Q E hr h => ?_)
  · obtain ⟨a, v, rfl, _⟩ := h
    rfl
  · obtain ⟨a, v, rfl, ha, q⟩ := h
    refine hs_cons (ps_ost (pv 0) (pv 1)) ⟨_, rfl, _, rfl, a, C, rfl, T, n1, .inl ⟨ha, fun dx h1 h2 => ?_⟩⟩
    refine hs_cons (ps_ost (pv 0) pe_str) ⟨_, rfl, a, C, rfl, T, n2, .inr ⟨dx, [("given", v)], upd_same, by rw [upd_ne h2, upd_same], (show 1 ≤ 900 by decide), ?_⟩⟩
    exact hs_nil (q dx h1 h2)
theorem sc_iInvalidFact : FnScope ["self", "at"] ["self", "at"] (defScope sInvalidFact____init__) := ⟨rfl, rfl, rfl, by decide +kernel, rfl, by decide +kernel, by decide +kernel⟩
theorem ok_init_InvalidFact {C : Addr} (F : FunD K "__init__" "InvalidFact.__init__" (defArgs sInvalidFact____init__) (defBody sInvalidFact____init__) (defScope sInvalidFact____init__) [] [] f fd) (T : OexC K C) (n1 : PySem.W.findIn K (.ref C) "at" = some none) (n2 : PySem.W.findIn K (.ref C) "code" = some none) : FnOk P w K mg base CX0 1 f fd ["self", "at"] (spXI C "at" "InvalidFact") := by
  refine fn_hs F sc_iInvalidFact (fun vs H Q E h => ?_) (fun cdv A outer sh H vs Q E hr h => ?_)
  · obtain ⟨a, v, rfl, _⟩ := h
    rfl
  · obtain ⟨a, v, rfl, ha, q⟩ := h
    refine hs_cons (ps_ost (pv 0) (pv 1)) ⟨_, rfl, _, rfl, a, C, rfl, T, n1, .inl ⟨ha, fun dx h1 h2 => ?_⟩⟩
    refine hs_cons (ps_ost (pv 0) pe_str) ⟨_, rfl, a, C, rfl, T, n2, .inr ⟨dx, [("at", v)], upd_same, by rw [upd_ne h2, upd_same], (show 1 ≤ 900 by decide), ?_⟩⟩
    exact hs_nil (q dx h1 h2)
theorem sc_iInvalidExponent : FnScope ["self", "given"] ["self", "given"] (defScope sInvalidExponent____init__) := ⟨rfl, rfl, rfl, by decide +kernel, rfl, by decide +kernel, by decide +kernel⟩
theorem ok_init_InvalidExponent {C : Addr} (F : FunD K "__init__" "InvalidExponent.__init__" (defArgs sInvalidExponent____init__) (defBody sInvalidExponent____init__) (defScope sInvalidExponent____init__) [] [] f fd) (T : OexC K C) (n1 : PySem.W.findIn K (.ref C) "given" = some none) (n2 : PySem.W.findIn K (.ref C) "code" = some none) : FnOk P w K mg base CX0 1 f fd ["self", "given"] (spXI C "given" "InvalidExponent") := by
  refine fn_hs F sc_iInvalidExponent (fun vs H Q E h => ?_) (fun cdv A outer sh H vs Q E hr h => ?_)
  · obtain ⟨a, v, rfl, _⟩ := h
    rfl
  · obtain ⟨a, v, rfl, ha, q⟩ := h
    refine hs_cons (ps_ost (pv 0) (pv 1)) ⟨_, rfl, _, rfl, a, C, rfl, T, n1, .inl ⟨ha, fun dx h1 h2 => ?_⟩⟩
    refine hs_cons (ps_ost (pv 0) pe_str) ⟨_, rfl, a, C, rfl, T, n2, .inr ⟨dx, [("given", v)], upd_same, by rw [upd_ne h2, upd_same], (show 1 ≤ 900 by decide), ?_⟩⟩
    exact hs_nil (q dx h1 h2)
theorem sc_iTooMany : FnScope ["self", "most"] ["self", "most"] (defScope sTooMany____init__) := ⟨rfl, rfl, rfl, by decide +kernel, rfl, by decide +kernel, by decide +kernel⟩
theorem ok_init_TooMany {C : Addr} (F : FunD K "__init__" "TooMany.__init__" (defArgs sTooMany____init__) (defBody sTooMany____init__) (defScope sTooMany____init__) [] [] f fd) (T : OexC K C) (n1 : PySem.W.findIn K (.ref C) "most" = some none) (n2 : PySem.W.findIn K (.ref C) "code" = some none) : FnOk P w K mg base CX0 1 f fd ["self", "most"] (spXI C "most" "TooMany") := by
  refine fn_hs F sc_iTooMany (fun vs H Q E h => ?_) (fun cdv A outer sh H vs Q E hr h => ?_)
  · obtain ⟨a, v, rfl, _⟩ := h
    rfl
  · obtain ⟨a, v, rfl, ha, q⟩ := h
    refine hs_cons (ps_ost (pv 0) (pv 1)) ⟨_, rfl, _, rfl, a, C, rfl, T, n1, .inl ⟨ha, fun dx h1 h2 => ?_⟩⟩
    refine hs_cons (ps_ost (pv 0) pe_str) ⟨_, rfl, a, C, rfl, T, n2, .inr ⟨dx, [("most", v)], upd_same, by rw [upd_ne h2, upd_same], (show 1 ≤ 900 by decide), ?_⟩⟩
    exact hs_nil (q dx h1 h2)
theorem sc_iInvalidText : FnScope ["self"] ["self"] (defScope sInvalidText____init__) := ⟨rfl, rfl, rfl, by decide +kernel, rfl, by decide +kernel, by decide +kernel⟩
theorem ok_init_InvalidText {C : Addr} (F : FunD K "__init__" "InvalidText.__init__" (defArgs sInvalidText____init__) (defBody sInvalidText____init__) (defScope sInvalidText____init__) [] [] f fd) (T : OexC K C) (n2 : PySem.W.findIn K (.ref C) "code" = some none) : FnOk P w K mg base CX0 1 f fd ["self"] (spXI0 C "InvalidText") := by
  refine fn_hs F sc_iInvalidText (fun vs H Q E h => ?_) (fun cdv A outer sh H vs Q E hr h => ?_)
  · obtain ⟨a, rfl, _⟩ := h
    rfl
  · obtain ⟨a, rfl, ha, q⟩ := h
    refine hs_cons (ps_ost (pv 0) pe_str) ⟨_, rfl, a, C, rfl, T, n2, .inl ⟨ha, fun dx h1 h2 => ?_⟩⟩
    exact hs_nil (q dx h1 h2)
def gK {α : Type} : List α → List α → List α → List α
  | us, _, [a, b] => us ++ [b, a]
  | us, _, ws => us ++ ws
theorem gK_rel {vs ds zs : List V} {us its ws : List Value} (r1 : Vals vs us) (_ : Vals ds its) (r3 : Vals zs ws) : Vals (gK vs ds zs) (gK us its ws) := by
  cases r3 with
  | nil => exact r1.append .nil
  | cons a t =>
    cases t with
    | nil => exact r1.append (.cons a .nil)
    | cons b t =>
      cases t with
      | nil => exact r1.append (.cons b (.cons a .nil))
      | cons c t => exact r1.append (.cons a (.cons b (.cons c t)))
theorem facts {P : Program} {w : World} {K : PySem.W.Frag} {h : Heap} {mg : Str → Option Value} {f : Addr} (X : K.In h) (G : h.Ns mainGlobals mg) (hfa : mg ("law" : Str) = some (.ref f)) (c0 : SaysG fa fn pn sn tf ex h K) :
    ∃ fd : FuncData, (∀ (s : Shared) (v : Value), BindsTo s fd ⟨[v], []⟩ [("_law_script", v)]) ∧ ∀ base : Heap, K.In base → base.Ns mainGlobals mg → TabB base mg (He.cT K ("law", none)).1 (He.cT K ("law", none)).2 → FnOk P w K mg base CX0 13 f fd ["_law_script"] (spLaw K (He.cT K ("law", none)).2) := by
  have d := c0.d
  have more := c0.more
  unfold ex at more
  rw [Bool.and_eq_true] at more
  obtain ⟨x_dflS, more⟩ := more
  rw [Bool.and_eq_true] at more
  obtain ⟨x_alias, more⟩ := more
  rw [Bool.and_eq_true] at more
  obtain ⟨x_Schema_rd, more⟩ := more
  rw [Bool.and_eq_true] at more
  obtain ⟨x_Schema_sg, more⟩ := more
  rw [Bool.and_eq_true] at more
  obtain ⟨x_Schema_cv, more⟩ := more
  rw [Bool.and_eq_true] at more
  obtain ⟨x_err_InvalidColumns, more⟩ := more
  rw [Bool.and_eq_true] at more
  obtain ⟨x_err_InvalidFact, more⟩ := more
  rw [Bool.and_eq_true] at more
  obtain ⟨x_err_InvalidExponent, more⟩ := more
  rw [Bool.and_eq_true] at more
  obtain ⟨x_err_TooMany, more⟩ := more
  rw [Bool.and_eq_true] at more
  obtain ⟨x_err_InvalidText, more⟩ := more
  rw [Bool.and_eq_true] at more
  obtain ⟨x_exm_InvalidColumns, more⟩ := more
  rw [Bool.and_eq_true] at more
  obtain ⟨x_exm_InvalidFact, more⟩ := more
  rw [Bool.and_eq_true] at more
  obtain ⟨x_exm_InvalidExponent, more⟩ := more
  rw [Bool.and_eq_true] at more
  obtain ⟨x_exm_TooMany, more⟩ := more
  have x_exm_InvalidText := more
  have x_alias := of_decide_eq_true x_alias
  have x_Schema_sg := He.eqO_ok x_Schema_sg
  have x_exm_InvalidColumns := of_decide_eq_true x_exm_InvalidColumns
  have x_exm_InvalidFact := of_decide_eq_true x_exm_InvalidFact
  have x_exm_InvalidExponent := of_decide_eq_true x_exm_InvalidExponent
  have x_exm_TooMany := of_decide_eq_true x_exm_TooMany
  have x_exm_InvalidText := of_decide_eq_true x_exm_InvalidText
  obtain ⟨T_InvalidColumns, X_InvalidColumns, n1_InvalidColumns, n2_InvalidColumns, hI_InvalidColumns, tI_InvalidColumns⟩ := errB_ok x_err_InvalidColumns
  obtain ⟨T_InvalidFact, X_InvalidFact, n1_InvalidFact, n2_InvalidFact, hI_InvalidFact, tI_InvalidFact⟩ := errB_ok x_err_InvalidFact
  obtain ⟨T_InvalidExponent, X_InvalidExponent, n1_InvalidExponent, n2_InvalidExponent, hI_InvalidExponent, tI_InvalidExponent⟩ := errB_ok x_err_InvalidExponent
  obtain ⟨T_TooMany, X_TooMany, n1_TooMany, n2_TooMany, hI_TooMany, tI_TooMany⟩ := errB_ok x_err_TooMany
  obtain ⟨T_InvalidText, X_InvalidText, n2_InvalidText, hI_InvalidText, tI_InvalidText⟩ := errB0_ok x_err_InvalidText
  have h_isinstance : mg "isinstance" = none := He.free_ok X G (d.fact 27 (f := .free "isinstance") rfl)
  have h_bool : mg "bool" = none := He.free_ok X G (d.fact 28 (f := .free "bool") rfl)
  have h_int : mg "int" = none := He.free_ok X G (d.fact 29 (f := .free "int") rfl)
  have h_str : mg "str" = none := He.free_ok X G (d.fact 30 (f := .free "str") rfl)
  have h_list : mg "list" = none := He.free_ok X G (d.fact 31 (f := .free "list") rfl)
  have h_tuple : mg "tuple" = none := He.free_ok X G (d.fact 32 (f := .free "tuple") rfl)
  have h_len : mg "len" = none := He.free_ok X G (d.fact 33 (f := .free "len") rfl)
  have h_all : mg "all" = none := He.free_ok X G (d.fact 34 (f := .free "all") rfl)
  have h_zip : mg "zip" = none := He.free_ok X G (d.fact 35 (f := .free "zip") rfl)
  have h_range : mg "range" = none := He.free_ok X G (d.fact 36 (f := .free "range") rfl)
  have h_set : mg "set" = none := He.free_ok X G (d.fact 37 (f := .free "set") rfl)
  have h_enumerate : mg "enumerate" = none := He.free_ok X G (d.fact 38 (f := .free "enumerate") rfl)
  have h_MOST_EXPONENT : ∃ t, mg "MOST_EXPONENT" = some (.int 6 t) := He.int_ok X G (d.fact 39 (f := .int "MOST_EXPONENT" 6) rfl)
  have gS : mg "Schema" = some (.ref (He.ga K "Schema")) := He.glo_ok X G (d.fact 6 (f := .glo "Schema") rfl)
  have cS : Cls K (He.ga K "Schema") := He.cls_ok (d.fact 40 (f := .cls "Schema") rfl)
  have mkr_Schema : Mk K (He.ga K "Schema") (He.ma K (He.ga K "Schema") "__init__") := He.mkr_ok (d.fact 41 (f := .mkr "Schema") rfl)
  have n_Schema_columns : NoAttr K (He.ga K "Schema") "columns" := He.noat_ok (d.fact 42 (f := .noat "Schema" "columns") rfl)
  have n_Schema_width : NoAttr K (He.ga K "Schema") "width" := He.noat_ok (d.fact 43 (f := .noat "Schema" "width") rfl)
  have n_Schema__facts : NoAttr K (He.ga K "Schema") "_facts" := He.noat_ok (d.fact 44 (f := .noat "Schema" "_facts") rfl)
  have m_Schema_is_exponent : Meth K (He.ga K "Schema") "is_exponent" (He.ma K (He.ga K "Schema") "is_exponent") := He.meth_ok (d.fact 45 (f := .meth "Schema" "is_exponent") rfl)
  have m_Schema_with_facts : Meth K (He.ga K "Schema") "with_facts" (He.ma K (He.ga K "Schema") "with_facts") := He.meth_ok (d.fact 46 (f := .meth "Schema" "with_facts") rfl)
  have m_Schema_check_exponents : Meth K (He.ga K "Schema") "check_exponents" (He.ma K (He.ga K "Schema") "check_exponents") := He.meth_ok (d.fact 47 (f := .meth "Schema" "check_exponents") rfl)
  have m_Schema_follows : Meth K (He.ga K "Schema") "follows" (He.ma K (He.ga K "Schema") "follows") := He.meth_ok (d.fact 48 (f := .meth "Schema" "follows") rfl)
  have m_Schema_reason : Meth K (He.ga K "Schema") "reason" (He.ma K (He.ga K "Schema") "reason") := He.meth_ok (d.fact 49 (f := .meth "Schema" "reason") rfl)
  have m_Schema_equal_sums : Meth K (He.ga K "Schema") "equal_sums" (He.ma K (He.ga K "Schema") "equal_sums") := He.meth_ok (d.fact 50 (f := .meth "Schema" "equal_sums") rfl)
  have m_Schema_read_fact : Meth K (He.ga K "Schema") "read_fact" (He.ma K (He.ga K "Schema") "read_fact") := He.meth_ok (d.fact 51 (f := .meth "Schema" "read_fact") rfl)
  obtain ⟨t_Schema, cv_Schema⟩ : ∃ t, ClX.CVal K (He.ga K "Schema") (.type "type") "MOST" (.int 4) (.int 4 t) := by
    split at x_Schema_cv
    · rename_i t heq
      exact ⟨t, ⟨heq, ⟨t, rfl⟩⟩⟩
    · cases x_Schema_cv
  have cr_Schema : ClX.CRead K (He.ga K "Schema") (.type "type") := ⟨x_Schema_rd, x_Schema_sg⟩
  obtain ⟨fd_law, F_law⟩ := d.def_ 29 (d := dlaw) rfl
  have e := hfa.symm.trans (He.glo_ok X G (d.fact 18 (f := .glo "law") rfl))
  cases e
  have b := FunD.bindsA (ps := ["_law_script"]) F_law fun _ _ _ _ _ _ us hl => match us, hl with | [_], _ => rfl
  have hcode : fd_law.code = .ref (He.cT K ("law", none)).1 := by
    obtain ⟨oc, od, dV, kV, doc, pm, an, cdv, ct, osl, e, lk, hcd, _, _⟩ := F_law.ex
    obtain ⟨cc, hc⟩ := He.codeIn_ref hcd
    have e2 : fd_law.code = .ref cc := by rw [e]; exact hc
    rw [e2]
    exact congrArg Value.ref (He.codeOf_eq (p := ("law", none)) lk e2).symm
  refine ⟨fd_law, fun s v => b s [v] rfl, fun base _ _ TB => ?_⟩
  obtain ⟨fd_iInvalidColumns, F_iInvalidColumns⟩ := d.def_ 0 (d := dInvalidColumns____init__) rfl
  have R_InvalidColumns : Err P w K mg base "InvalidColumns" (He.ga K "InvalidColumns") "given" "InvalidColumns" := ⟨T_InvalidColumns, He.glo_ok X G (d.fact 22 (f := .glo "InvalidColumns") rfl), _, fd_iInvalidColumns, ["self", "given"], hI_InvalidColumns, tI_InvalidColumns, ok_init_InvalidColumns F_iInvalidColumns T_InvalidColumns n1_InvalidColumns n2_InvalidColumns, F_iInvalidColumns.bindsN (fun _ _ _ _ _ _ us hl => match us, hl with | [_, _], _ => rfl)⟩
  obtain ⟨fd_iInvalidFact, F_iInvalidFact⟩ := d.def_ 1 (d := dInvalidFact____init__) rfl
  have R_InvalidFact : Err P w K mg base "InvalidFact" (He.ga K "InvalidFact") "at" "InvalidFact" := ⟨T_InvalidFact, He.glo_ok X G (d.fact 23 (f := .glo "InvalidFact") rfl), _, fd_iInvalidFact, ["self", "at"], hI_InvalidFact, tI_InvalidFact, ok_init_InvalidFact F_iInvalidFact T_InvalidFact n1_InvalidFact n2_InvalidFact, F_iInvalidFact.bindsN (fun _ _ _ _ _ _ us hl => match us, hl with | [_, _], _ => rfl)⟩
  obtain ⟨fd_iInvalidExponent, F_iInvalidExponent⟩ := d.def_ 2 (d := dInvalidExponent____init__) rfl
  have R_InvalidExponent : Err P w K mg base "InvalidExponent" (He.ga K "InvalidExponent") "given" "InvalidExponent" := ⟨T_InvalidExponent, He.glo_ok X G (d.fact 24 (f := .glo "InvalidExponent") rfl), _, fd_iInvalidExponent, ["self", "given"], hI_InvalidExponent, tI_InvalidExponent, ok_init_InvalidExponent F_iInvalidExponent T_InvalidExponent n1_InvalidExponent n2_InvalidExponent, F_iInvalidExponent.bindsN (fun _ _ _ _ _ _ us hl => match us, hl with | [_, _], _ => rfl)⟩
  obtain ⟨fd_iTooMany, F_iTooMany⟩ := d.def_ 4 (d := dTooMany____init__) rfl
  have R_TooMany : Err P w K mg base "TooMany" (He.ga K "TooMany") "most" "TooMany" := ⟨T_TooMany, He.glo_ok X G (d.fact 25 (f := .glo "TooMany") rfl), _, fd_iTooMany, ["self", "most"], hI_TooMany, tI_TooMany, ok_init_TooMany F_iTooMany T_TooMany n1_TooMany n2_TooMany, F_iTooMany.bindsN (fun _ _ _ _ _ _ us hl => match us, hl with | [_, _], _ => rfl)⟩
  obtain ⟨fd_iInvalidText, F_iInvalidText⟩ := d.def_ 3 (d := dInvalidText____init__) rfl
  have R_InvalidText : Err0 P w K mg base "InvalidText" (He.ga K "InvalidText") "InvalidText" := ⟨T_InvalidText, He.glo_ok X G (d.fact 26 (f := .glo "InvalidText") rfl), _, fd_iInvalidText, ["self"], hI_InvalidText, tI_InvalidText, ok_init_InvalidText F_iInvalidText T_InvalidText n2_InvalidText, F_iInvalidText.bindsN (fun _ _ _ _ _ _ us hl => match us, hl with | [_], _ => rfl)⟩
  have ok_InvalidColumns : KOk K [.ref (He.ga K "DealError"), .ref (He.ga K "Missing"), .ref (He.ga K "NothingLeft")] (kIC (He.ga K "InvalidColumns")) := ⟨X_InvalidColumns, n2_InvalidColumns, fun y hy => (by cases hy; exact n1_InvalidColumns), x_exm_InvalidColumns, (show some ("given" : Str) = fieldOf "InvalidColumns" by decide +kernel), (show decide (("InvalidColumns" : Str) = "Tight") = false by decide +kernel), (show decide (("InvalidColumns" : Str) = "BrokenClaim") = false by decide +kernel)⟩
  have ok_InvalidFact : KOk K [.ref (He.ga K "DealError"), .ref (He.ga K "Missing"), .ref (He.ga K "NothingLeft")] (kIF (He.ga K "InvalidFact")) := ⟨X_InvalidFact, n2_InvalidFact, fun y hy => (by cases hy; exact n1_InvalidFact), x_exm_InvalidFact, (show some ("at" : Str) = fieldOf "InvalidFact" by decide +kernel), (show decide (("InvalidFact" : Str) = "Tight") = false by decide +kernel), (show decide (("InvalidFact" : Str) = "BrokenClaim") = false by decide +kernel)⟩
  have ok_InvalidExponent : KOk K [.ref (He.ga K "DealError"), .ref (He.ga K "Missing"), .ref (He.ga K "NothingLeft")] (kIE (He.ga K "InvalidExponent")) := ⟨X_InvalidExponent, n2_InvalidExponent, fun y hy => (by cases hy; exact n1_InvalidExponent), x_exm_InvalidExponent, (show some ("given" : Str) = fieldOf "InvalidExponent" by decide +kernel), (show decide (("InvalidExponent" : Str) = "Tight") = false by decide +kernel), (show decide (("InvalidExponent" : Str) = "BrokenClaim") = false by decide +kernel)⟩
  have ok_TooMany : KOk K [.ref (He.ga K "DealError"), .ref (He.ga K "Missing"), .ref (He.ga K "NothingLeft")] (kTM (He.ga K "TooMany")) := ⟨X_TooMany, n2_TooMany, fun y hy => (by cases hy; exact n1_TooMany), x_exm_TooMany, (show some ("most" : Str) = fieldOf "TooMany" by decide +kernel), (show decide (("TooMany" : Str) = "Tight") = false by decide +kernel), (show decide (("TooMany" : Str) = "BrokenClaim") = false by decide +kernel)⟩
  have ok_InvalidText : KOk K [.ref (He.ga K "DealError"), .ref (He.ga K "Missing"), .ref (He.ga K "NothingLeft")] (kIX (He.ga K "InvalidText")) := ⟨X_InvalidText, n2_InvalidText, fun y hy => (by cases hy), x_exm_InvalidText, (show (none : Option Str) = fieldOf "InvalidText" by decide +kernel), (show decide (("InvalidText" : Str) = "Tight") = false by decide +kernel), (show decide (("InvalidText" : Str) = "BrokenClaim") = false by decide +kernel)⟩
  obtain ⟨fd_is_number, F_is_number⟩ := d.def_ 5 (d := dis_number) rfl
  have D_is_number : KD P w K mg base "is_number" 1 (spD K FisNumber) := kd_mk F_is_number (ok_is_number F_is_number h_isinstance h_int h_bool) (He.glo_ok X G (d.fact 0 (f := .glo "is_number") rfl)) (F_is_number.bindsN (fun _ _ _ _ _ _ us hl => match us, hl with | [_, _], _ => rfl))
  obtain ⟨fd_is_exponent, F_is_exponent⟩ := d.def_ 7 (d := dis_exponent) rfl
  have D_ies : KD P w K mg base "is_exponent_schemas" 2 (spD K FisExp) := ⟨_, _, _, ok_is_exponent F_is_exponent D_is_number h_isinstance h_tuple h_len h_all h_MOST_EXPONENT, (He.glo_ok X G (d.fact 2 (f := .glo "is_exponent_schemas") rfl)).trans (by rw [x_alias]; rfl), F_is_exponent.kp, F_is_exponent.bindsN (fun _ _ _ _ _ _ us hl => match us, hl with | [_, _], _ => rfl)⟩
  obtain ⟨fd_check_columns, F_check_columns⟩ := d.def_ 6 (d := dcheck_columns) rfl
  have D_check_columns : KD P w K mg base "check_columns" 1 (spD K FchkC) := kd_mk F_check_columns (ok_check_columns F_check_columns h_isinstance h_str h_len h_set) (He.glo_ok X G (d.fact 1 (f := .glo "check_columns") rfl)) (F_check_columns.bindsN (fun _ _ _ _ _ _ us hl => match us, hl with | [_], _ => rfl))
  have X_check_columns : KDX P w K mg base "check_columns" 3 (spX K (GchkC (kIC (He.ga K "InvalidColumns")) K)) := ⟨_, _, _, ok_chkCX F_check_columns R_InvalidColumns rfl h_isinstance h_str h_len h_set, He.glo_ok X G (d.fact 1 (f := .glo "check_columns") rfl), F_check_columns.kp, F_check_columns.bindsN (fun _ _ _ _ _ _ us hl => match us, hl with | [_], _ => rfl)⟩
  obtain ⟨fd_monomial_text, F_monomial_text⟩ := d.def_ 8 (d := dmonomial_text) rfl
  have D_monomial_text : KD P w K mg base "monomial_text" 1 (spD K FmT) := kd_mk F_monomial_text (ok_mT F_monomial_text h_zip) (He.glo_ok X G (d.fact 4 (f := .glo "monomial_text") rfl)) (F_monomial_text.bindsN (fun _ _ _ _ _ _ us hl => match us, hl with | [_, _], _ => rfl))
  obtain ⟨fd_read_monomial, F_read_monomial⟩ := d.def_ 9 (d := dread_monomial) rfl
  have D_read_monomial : KD P w K mg base "read_monomial" 2 (spD K FrdM) := kd_mk F_read_monomial (ok_rdM F_read_monomial D_monomial_text h_len h_tuple h_int) (He.glo_ok X G (d.fact 5 (f := .glo "read_monomial") rfl)) (F_read_monomial.bindsN (fun _ _ _ _ _ _ us hl => match us, hl with | [_, _], _ => rfl))
  obtain ⟨fd_L_open, F_L_open⟩ := d.def_ 18 (d := dL_open) rfl
  have D_L_open : KD P w K mg base "_law_open" 1 (spOpen K) := kd_mk F_L_open (ok_L_open F_L_open h_list h_len) (He.glo_ok X G (d.fact 7 (f := .glo "_law_open") rfl)) (F_L_open.bindsN (fun _ _ _ _ _ _ us hl => match us, hl with | [_], _ => rfl))
  obtain ⟨fd_L_take, F_L_take⟩ := d.def_ 19 (d := dL_take) rfl
  have D_L_take : KD P w K mg base "_law_take" 1 (spB K Ftake) := kd_mk F_L_take (ok_L_take F_L_take h_len h_int) (He.glo_ok X G (d.fact 8 (f := .glo "_law_take") rfl)) (F_L_take.bindsN (fun _ _ _ _ _ _ us hl => match us, hl with | [_, _], _ => rfl))
  obtain ⟨fd_L_one, F_L_one⟩ := d.def_ 20 (d := dL_one) rfl
  have D_L_one : KD P w K mg base "_law_one" 2 (spB K Fone) := kd_mk F_L_one (ok_L_one F_L_one D_L_take h_len) (He.glo_ok X G (d.fact 9 (f := .glo "_law_one") rfl)) (F_L_one.bindsN (fun _ _ _ _ _ _ us hl => match us, hl with | [_, _], _ => rfl))
  obtain ⟨fd_L_odd, F_L_odd⟩ := d.def_ 26 (d := dL_odd) rfl
  have D_L_odd : KD P w K mg base "_law_odd" 3 (spB K Fodd) := kd_mk F_L_odd (ok_L_odd F_L_odd D_L_one) (He.glo_ok X G (d.fact 12 (f := .glo "_law_odd") rfl)) (F_L_odd.bindsN (fun _ _ _ _ _ _ us hl => match us, hl with | [_, _], _ => rfl))
  obtain ⟨fd_L_kind, F_L_kind⟩ := d.def_ 21 (d := dL_kind) rfl
  have D_L_kind : KD P w K mg base "_law_kind" 1 (spD K Fkind) := kd_mk F_L_kind (ok_L_kind F_L_kind h_isinstance h_bool h_int h_str h_list h_tuple) (He.glo_ok X G (d.fact 10 (f := .glo "_law_kind") rfl)) (F_L_kind.bindsN (fun _ _ _ _ _ _ us hl => match us, hl with | [_], _ => rfl))
  obtain ⟨fd_L_same, F_L_same⟩ := d.def_ 22 (d := dL_same) rfl
  have b_same := F_L_same.bindsN (ps := ["_law_found", "_law_due"]) (fun _ _ _ _ _ _ us hl => match us, hl with | [_, _], _ => rfl)
  have g_same := He.glo_ok X G (d.fact 11 (f := .glo "_law_same") rfl)
  have D_L_same : ∀ n, KD P w K mg base "_law_same" (n + 2) (spD K (Fsame n)) := fun n => kd_mk F_L_same (ok_L_same F_L_same g_same b_same D_L_kind h_len h_all h_zip n) g_same b_same
  obtain ⟨fd_L_exp, F_L_exp⟩ := d.def_ 28 (d := dL_exp) rfl
  have D_L_exp : KD P w K mg base "_law_exp" 2 (spB K Fexp) := kd_mk F_L_exp (ok_L_exp F_L_exp D_L_take h_tuple h_range) (He.glo_ok X G (d.fact 13 (f := .glo "_law_exp") rfl)) (F_L_exp.bindsN (fun _ _ _ _ _ _ us hl => match us, hl with | [_, _, _], _ => rfl))
  obtain ⟨fd_L_letters, F_L_letters⟩ := d.def_ 27 (d := dL_letters) rfl
  have D_L_letters : KD P w K mg base "_law_letters" 3 (spB K Fletters) := kd_mk F_L_letters (ok_L_letters F_L_letters D_L_take D_L_one h_range h_int) (He.glo_ok X G (d.fact 14 (f := .glo "_law_letters") rfl)) (F_L_letters.bindsN (fun _ _ _ _ _ _ us hl => match us, hl with | [_, _], _ => rfl))
  obtain ⟨fd_L_field, F_L_field⟩ := d.def_ 23 (d := dL_field) rfl
  have FP : ∃ f fd, FnP P w K mg base 1 f fd ["_law_e"] (spFieldG K [.ref (He.ga K "DealError"), .ref (He.ga K "Missing"), .ref (He.ga K "NothingLeft")]) ∧ mg "_law_field" = some (.ref f) ∧ PySem.W.keepIn K (.ref f) = true ∧ Binds K fd ["_law_e"] [] := ⟨_, _, ok_law_fieldG F_L_field, He.glo_ok X G (d.fact 15 (f := .glo "_law_field") rfl), F_L_field.kp, F_L_field.bindsN (fun _ _ _ _ _ _ us hl => match us, hl with | [_], _ => rfl)⟩
  obtain ⟨fd_L_try, F_L_try⟩ := d.def_ 24 (d := dL_try) rfl
  have D_L_try : KD P w K mg base "_law_try" 9 (spTry P w K mg base [.ref (He.ga K "DealError"), .ref (He.ga K "Missing"), .ref (He.ga K "NothingLeft")] 8) := kd_mk F_L_try (ok_law_try (k := 8) F_L_try FP (He.glo_ok X G (d.fact 19 (f := .glo "DealError") rfl)) (He.glo_ok X G (d.fact 20 (f := .glo "Missing") rfl)) (He.glo_ok X G (d.fact 21 (f := .glo "NothingLeft") rfl)) (by decide)) (He.glo_ok X G (d.fact 16 (f := .glo "_law_try") rfl)) (F_L_try.bindsN (fun _ _ _ _ _ _ us hl => match us, hl with | [_], _ => rfl))
  obtain ⟨fd_L_tries, F_L_tries⟩ := d.def_ 25 (d := dL_tries) rfl
  have D_L_tries : KD P w K mg base "_law_tries" 11 (spTries P w K mg base [.ref (He.ga K "DealError"), .ref (He.ga K "Missing"), .ref (He.ga K "NothingLeft")] 8) := kd_mk F_L_tries (ok_law_tries F_L_tries D_L_try) (He.glo_ok X G (d.fact 17 (f := .glo "_law_tries") rfl)) (F_L_tries.bindsN (fun _ _ _ _ _ _ us hl => match us, hl with | [_], _ => rfl))
  obtain ⟨fd_S_isx, F_S_isx⟩ := d.def_ 11 (d := dSchema__is_exponent) rfl
  have D_S_isx : KM P w K mg base (He.ga K "Schema") "is_exponent" 3 (spO K (Fsch_isExp (He.ga K "Schema"))) := ⟨_, _, _, ok_Sis_exponent F_S_isx D_ies cS n_Schema_width, m_Schema_is_exponent.at_, m_Schema_is_exponent.fn, m_Schema_is_exponent.kp, F_S_isx.bindsN (fun _ _ _ _ _ _ us hl => match us, hl with | [_, _], _ => rfl)⟩
  obtain ⟨fd_Sinit, F_Sinit⟩ := d.def_ 10 (d := dSchema____init__) rfl
  have F_Sinit : FunD K "__init__" "Schema.__init__" (defArgs sSchema____init__) (defBody sSchema____init__) (defScope sSchema____init__) [.ref (He.dflAt ("Schema", some "__init__") 0 K)] [] (He.ma K (He.ga K "Schema") "__init__") fd_Sinit := F_Sinit
  have hdvS : ∀ S, Dt K (.tuple []) (.ref (He.dflAt ("Schema", some "__init__") 0 K)) S := fun S => by
    split at x_dflS
    · rename_i o1 its n sl heq
      have he : its = #[] := by simpa using x_dflS
      subst he
      exact Dt.tup_mk (.inr ⟨rfl, .inr ⟨_, #[], n, heq, rfl, rfl, Nat.zero_le _, .nil⟩⟩) .nil (Nat.zero_le _)
    · cases x_dflS
  have G_Sinit := ok_Sinit (P := P) (w := w) (mg := mg) (base := base) F_Sinit D_check_columns D_S_isx cS n_Schema_columns n_Schema_width n_Schema__facts gS cr_Schema cv_Schema h_len h_isinstance h_list h_tuple h_enumerate
  have G_SinitX := ok_SinitX (P := P) (w := w) (mg := mg) (base := base) (kC := (kIC (He.ga K "InvalidColumns"))) (kF := (kIF (He.ga K "InvalidFact"))) (kT := (kTM (He.ga K "TooMany"))) F_Sinit D_check_columns X_check_columns D_S_isx cS R_InvalidFact rfl R_TooMany rfl n_Schema_columns n_Schema_width gS cr_Schema cv_Schema h_len h_isinstance h_list h_tuple h_enumerate
  obtain ⟨u3, hu3, b3⟩ := F_Sinit.binds1 (ps := ["self", "columns", "facts"]) 3 1 (fun z => nomatch z) rfl (fun T kV doc pm an cdv ct us its l1 l2 => match us, l1, its, l2 with | [_, _, _], _, [_], _ => ⟨_, rfl, rfl⟩)
  obtain ⟨u2, hu2, b2⟩ := F_Sinit.binds1 (ps := ["self", "columns", "facts"]) 2 0 (fun z => nomatch z) rfl (fun T kV doc pm an cdv ct us its l1 l2 => match us, l1, its, l2 with | [_, _], _, [_], _ => ⟨_, rfl, rfl⟩)
  obtain ⟨its, kb⟩ := F_Sinit.kbindsD (ps := ["self", "columns", "facts"]) 1 ["facts", "columns"] gK (fun z => nomatch z) gK_rel (fun T kV doc pm an cdv ct us its ws l1 l2 l3 => match us, l1, its, l2, ws, l3 with | [_], _, [_], _, [_, _], _ => ⟨_, rfl, rfl⟩)
  cases hu3
  have MS : MkS P w K mg base (He.ga K "Schema") := ⟨_, fd_Sinit, ["self", "columns", "facts"], _, mkr_Schema, G_Sinit, b3, ⟨u2, hu2, b2⟩, hdvS, _, _, kb, fun s v w => rfl⟩
  have MX : MkSX P w K mg base (He.ga K "Schema") (kIC (He.ga K "InvalidColumns")) (kIF (He.ga K "InvalidFact")) (kTM (He.ga K "TooMany")) := ⟨_, fd_Sinit, ["self", "columns", "facts"], mkr_Schema, G_SinitX, b3⟩
  obtain ⟨fd_S_ce, F_S_ce⟩ := d.def_ 12 (d := dSchema__check_exponents) rfl
  have X_S_ce : KMSX P w K mg base (He.ga K "Schema") "check_exponents" 4 (spX K (GCE (He.ga K "Schema") (kIE (He.ga K "InvalidExponent")) K)) := ⟨_, ok_SceX F_S_ce R_InvalidExponent rfl D_S_isx cS, m_Schema_check_exponents.at_, m_Schema_check_exponents.fn, m_Schema_check_exponents.kp⟩
  obtain ⟨fd_S_fo, F_S_fo⟩ := d.def_ 13 (d := dSchema__follows) rfl
  have X_S_fo : KMX P w K mg base (He.ga K "Schema") "follows" 5 (spX K (GFo (He.ga K "Schema") (kIE (He.ga K "InvalidExponent")) K)) := ⟨_, _, _, ok_SfoX F_S_fo X_S_ce cS, m_Schema_follows.at_, m_Schema_follows.fn, m_Schema_follows.kp, F_S_fo.bindsN (fun _ _ _ _ _ _ us hl => match us, hl with | [_, _, _], _ => rfl)⟩
  obtain ⟨fd_S_re, F_S_re⟩ := d.def_ 14 (d := dSchema__reason) rfl
  have X_S_re : KMX P w K mg base (He.ga K "Schema") "reason" 5 (spX K (GFo (He.ga K "Schema") (kIE (He.ga K "InvalidExponent")) K)) := ⟨_, _, _, ok_SreX F_S_re X_S_ce cS, m_Schema_reason.at_, m_Schema_reason.fn, m_Schema_reason.kp, F_S_re.bindsN (fun _ _ _ _ _ _ us hl => match us, hl with | [_, _, _], _ => rfl)⟩
  obtain ⟨fd_S_eq, F_S_eq⟩ := d.def_ 15 (d := dSchema__equal_sums) rfl
  have X_S_eq : KMX P w K mg base (He.ga K "Schema") "equal_sums" 5 (spX K (GFo (He.ga K "Schema") (kIE (He.ga K "InvalidExponent")) K)) := ⟨_, _, _, ok_SeqX F_S_eq X_S_ce cS, m_Schema_equal_sums.at_, m_Schema_equal_sums.fn, m_Schema_equal_sums.kp, F_S_eq.bindsN (fun _ _ _ _ _ _ us hl => match us, hl with | [_, _, _], _ => rfl)⟩
  obtain ⟨fd_S_wi, F_S_wi⟩ := d.def_ 16 (d := dSchema__with_facts) rfl
  have X_S_wi : KMSX P w K mg base (He.ga K "Schema") "with_facts" 6 (spX K (GWF (He.ga K "Schema") (kIF (He.ga K "InvalidFact")) (kTM (He.ga K "TooMany")) K)) := ⟨_, ok_SwithX F_S_wi MX R_InvalidFact rfl D_S_isx cS n_Schema_columns n_Schema__facts gS h_len h_isinstance h_tuple h_enumerate h_all, m_Schema_with_facts.at_, m_Schema_with_facts.fn, m_Schema_with_facts.kp⟩
  obtain ⟨fd_S_rf, F_S_rf⟩ := d.def_ 17 (d := dSchema__read_fact) rfl
  have X_S_rf : KMX P w K mg base (He.ga K "Schema") "read_fact" 4 (spX K (GRF (He.ga K "Schema") (kIX (He.ga K "InvalidText")) K)) := ⟨_, _, _, ok_SrfX F_S_rf R_InvalidText rfl D_read_monomial cS n_Schema_columns h_isinstance h_str, m_Schema_read_fact.at_, m_Schema_read_fact.fn, m_Schema_read_fact.kp, F_S_rf.bindsN (fun _ _ _ _ _ _ us hl => match us, hl with | [_, _], _ => rfl)⟩
  have L : LE P w K mg base (He.ga K "Schema") (He.ga K "InvalidColumns") (He.ga K "InvalidFact") (He.ga K "InvalidExponent") (He.ga K "TooMany") (He.ga K "InvalidText") [.ref (He.ga K "DealError"), .ref (He.ga K "Missing"), .ref (He.ga K "NothingLeft")] (He.cT K ("law", none)).1 (He.cT K ("law", none)).2 := ⟨D_L_open, D_L_take, D_L_one, D_L_exp, D_L_odd, D_L_letters, D_L_same, D_L_try, D_L_tries, MS, MX, gS, cS, X_S_fo, X_S_re, X_S_eq, X_S_wi, X_S_rf, ok_InvalidColumns, ok_InvalidFact, ok_InvalidExponent, ok_TooMany, ok_InvalidText, TB, h_list, h_range⟩
  exact ok_law F_law hcode L
end
end K08
open PySem PySem.W PySem.Calls PyProof.Rows
theorem PySem.Challenge.cw_dealtpowers_k08_schemas_refused_holds : PySem.Challenge.rw_dealtpowers_k08_schemas_refused.Holds := by
  w_on; o_law
  refine HandSHeadRun.head_any (r := OpenLaw.row PySem.Challenge.rw_dealtpowers_k08_schemas_refused) (q := view (OpenLaw.row PySem.Challenge.rw_dealtpowers_k08_schemas_refused).prog [51]) (H := K08.hk) (ob := K08.ob) (M := 20000) (loose := K08.nms) (d := HandSHeadRun.topDef (OpenLaw.row PySem.Challenge.rw_dealtpowers_k08_schemas_refused).prog 51) (kwd := []) K08.ob_eq
    (by kernel_rfl) (fun s => by kernel_rfl) K08.run (by kernel_rfl) (by kernel_rfl) (by kernel_rfl) (by rfl) (by first | assumption | decide +kernel) (by decide +kernel) ⟨rfl, rfl, rfl, rfl, rfl, by decide +kernel⟩ ?hw ?hc
  case hw => w_witness2
  case hc =>
    refine LamX.walk_ofTsE (l := PySem.Challenge.rw_dealtpowers_k08_schemas_refused) (n := 63) (k := 13) (x := "_law_script") (CX := fun _ => L2.CX0) rfl (by decide) (by kernel_rfl) ⟨rfl, by decide, by decide⟩ ?F (fun _ _ _ _ _ z => z)
    intro w mg fa h Y G hmg0
    obtain ⟨K, KX, c⟩ := Y
    have hmg : mg ("law" : PySem.Str) = some (.ref fa) := by
      have e : (HandSHeadRun.topDef (OpenLaw.row PySem.Challenge.rw_dealtpowers_k08_schemas_refused).prog 51).name = ("law" : PySem.Str) := by kernel_rfl
      rw [← e]
      exact hmg0
    obtain ⟨fd, hb, hF⟩ := K08.facts (P := (PySem.Challenge.rw_dealtpowers_k08_schemas_refused).prog) (w := w) KX G hmg c
    have ht := c.tab ("law", none) (List.mem_singleton.mpr rfl)
    refine ⟨K, KX, fd, [He.cT K ("law", none)], K08.spLaw K (He.cT K ("law", none)).2, fun p hp => ?_, fun p hp => ?_, fun p hp => ?_, hb, fun H a ns hl _ hT hS => ⟨a, ns, rfl, hS, hl, hT _ (List.mem_singleton.mpr rfl), fun _ => rfl⟩, fun base KB NB TB => hF base KB NB (TB _ (List.mem_singleton.mpr rfl))⟩
    · rw [List.mem_singleton.mp hp]; exact ht.2.2
    · rw [List.mem_singleton.mp hp]; exact ht.2.1
    · rw [List.mem_singleton.mp hp]; exact codeHd_of_K KX ht.1
