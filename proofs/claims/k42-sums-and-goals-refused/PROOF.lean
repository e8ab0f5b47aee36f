import PyProof.Rows.All
import Wide.All
import OpenK.AllK
import HandS.HeadHook4
import HandS.ExcField
import HandS.Head0
import HandS.Head1
import HandS.Head2
import HandS.HeadEnd
import HandS.HeadHook1
import HandS.HeadHook2
import HandS.HeadHook3
import HandS.HeadWalk
import HandS.Property
import PySem.Challenge.RW_dealtpowers_k42_sums_and_goals_refused
import Wide.FinOn
import KE.KStateDown
import HandS.ForMost
import HandS.ForExc
import HandS.IsInst
import HandS.Zip
import HandS.Defaults
import HandS.MakeKw
import HandS.MakeKwOnly
import HandS.Star
import HandS.ClsMeth
import HandS.OwnEq
import HandS.FStr
import HandS.Flow
import HandS.TupMul
import HandS.TupAny
import HandS.Strs
import HandS.WideBits
import HandS.Wide
import HandS.Walk
import HandS.Style
import HandS.SetTxt0
import KE.GoesEnum
import OpenK.KMeth
import OpenK.KOps
import KE.KFmtOwn
import PyProof.Rows.StrStep
import HandS.Exc
import HandS.ExcInit
import HandS.WordsExc
import HandS.TryMany
import KE.KTryMore
import KE.KExcHand
import HandS.Nested
import HandS.HotCalls
import HandS.DictTup
import HandS.TupLen
import HandS.TupSets
import HandS.Conv
import KE.SortData
import HandS.More
import HandS.Dict
import HandS.Deep
import KE.SortKeyHeap
import HandS.SortKw
import HandS.DictComp
import KE.KDictItemsList
import KE.KEqDict
import HandS.Replace
import KE.GoesMore
import KE.KxIndex
import KE.KStrOpen
import KE.KCallOwn
import KE.KExcInit
import KE.KExcIs
import HandS.ExcIs
import PyProof.ExcBaseAll.IndexError
import PyProof.ExcBaseAll.LookupError
import PyProof.ExcBaseAll.ValueError
import HandS.SetBool
import KE.IntTextLaws
import KE.KSuper
import KE.KUnpackStar
import HandS.TryOnly
import KE.KDictPairs
import HandS.Records
import KE.GoesZip
import KE.DatumOrd
import HandS.MethStar
import HandS.NoneIn
import HandS.GenList
import KE.GoesRaise
set_option Elab.async false
set_option linter.all false
set_option maxRecDepth 100000
set_option maxHeartbeats 0
set_option exponentiation.threshold 256
namespace Y
open PySem PySem.Spec PyProof.Rows L2
def oexB (K : PySem.W.Frag) (C : Addr) : Bool := (match K.lookup C with
  | some ⟨.type t, _, .cls cd, sl⟩ => t == "type" && (match cd.mro, sl.toList with
    | .ref C' :: bm, [_, _, _, _, some (.builtin n), _] => C' == C && (PySem.HandSPX.refsVE bm && (n == "ValueError.__new__" && (cd.hasDict && !cd.hasDel)))
    | _, _ => false)
  | _ => false) && (decide (PySem.W.findIn K (.ref C) "__setattr__" = some (some (.builtin "object.__setattr__"))) && (decide (PySem.W.subIn K (.ref C) (.type "BaseException") = some true) && (decide (PySem.W.typeIn K (.ref C) = some (.type "type")) && PySem.W.keepIn K (.ref C))))
def errB (K : PySem.W.Frag) (C fI : Addr) (f : Str) : Bool := oexB K C && (xfB K C && (He.eqO (PySem.W.findIn K (.ref C) f) (some none) && (He.eqO (PySem.W.findIn K (.ref C) "code") (some none) && (He.eqO (PySem.W.findIn K (.ref C) "__init__") (some (some (.ref fI))) && decide (PySem.W.typeIn K (.ref fI) = some (.type "function"))))))
end Y
namespace K42
open PySem PySem.Spec PyProof.Rows L2
/-! ## the head's facts: K with the statics, without the empty tables; getters of properties -/
/-- what an object names, as far as the facts want it (not behind a code object) -/
def refsS (o : Obj) : List Addr := match o.data with
  | .seq its _ => its.toList.flatMap He.refV
  | .dict es _ => es.toList.flatMap fun e => He.refV e.val
  | .func fd => He.refV fd.code ++ (He.refV fd.defaults ++ He.refV fd.kwdefaults)
  | .cls cd => cd.ns :: cd.mro.flatMap He.refV
  | .fields vs => (match Nat.ble vs.size 8 with
    | true => vs.toList.flatMap He.refV
    | false => [])
  | _ => []
/-- what the module's names reach in n steps, each once (m: those met, as bits), and the statics -/
def addN : List Addr → Nat → List Addr → List Addr × Nat
  | [], m, acc => (acc, m)
  | r :: rs, m, acc => match Nat.beq (Nat.mod (Nat.shiftRight m r) 2) 1 with
    | true => addN rs m acc
    | false => HandSHeadRun.frNat (Nat.lor m (Nat.shiftLeft 1 r)) fun m2 => addN rs m2 (r :: acc)
def growN (g : Addr → Option Obj) : List Addr → Nat → List Addr → List Addr × Nat
  | [], m, acc => (acc, m)
  | a :: fr, m, acc => match addN (match g a with
      | some o => refsS o
      | none => []) m acc with
    | (acc2, m2) => growN g fr m2 acc2
def asN (g : Addr → Option Obj) : Nat → List Addr → Nat → List Addr
  | 0, fr, _ => fr
  | n + 1, fr, m => match growN g fr m [] with
    | (new, m2) => fr ++ asN g n new m2
def asE (g : Addr → Option Obj) (n : Nat) : List Addr := asN g n [mainGlobals] (Nat.shiftLeft 1 mainGlobals) ++ [cStatics]
def gtA (K : PySem.W.Frag) (p : He.Defn) : Addr := match PySem.W.recIn K (He.fAd K p) "property" with
  | some (.ref g :: _) => g
  | _ => 0
def gtW (K : PySem.W.Frag) (p : He.Defn) : He.FnW := match K.lookup (gtA K p) with
  | some ⟨_, _, .func fd, _⟩ => some (fd.name, fd.qualname, fd.params, fd.body, fd.scope, fd.globals, fd.closure, fd.builtins)
  | _ => none
def gtB (K : PySem.W.Frag) (d : He.DefD) : Bool :=
  (He.eqO (PySem.W.findIn K (.ref (He.ga K d.at_.1)) d.name) (some (some (.ref (He.fAd K d.at_)))) && (He.eqO (PySem.W.specialIn K (.ref (He.fAd K d.at_)) "__get__") (some (some (.builtin "property.__get__"))) && (decide (PySem.W.takesIn K (.ref (He.fAd K d.at_)) = some true) && (match PySem.W.recIn K (He.fAd K d.at_) "property" with
  | some (.ref _ :: _) => true
  | _ => false)))) && (PySem.W.keepIn K (.ref (gtA K d.at_)) && match K.lookup (gtA K d.at_) with
  | some ⟨_, _, .func fd, _⟩ => PySem.W.codeIn K fd.code d.qual && (He.dflB K fd.defaults [] && He.kwdB K fd.kwdefaults [])
  | _ => false)
/-- a staticmethod's def -/
def stA (K : PySem.W.Frag) (p : He.Defn) : Addr := match PySem.W.recIn K (He.fAd K p) "staticmethod" with
  | some (.ref g :: _) => g
  | _ => 0
def stW (K : PySem.W.Frag) (p : He.Defn) : He.FnW := match K.lookup (stA K p) with
  | some ⟨_, _, .func fd, _⟩ => some (fd.name, fd.qualname, fd.params, fd.body, fd.scope, fd.globals, fd.closure, fd.builtins)
  | _ => none
def stB (K : PySem.W.Frag) (d : He.DefD) : Bool :=
  ((match PySem.W.findCls K (.ref (He.ga K d.at_.1)) (.type "type") d.name with
    | some (.get (.builtin g) (.ref p) .none (.ref D)) => decide (g = "staticmethod.__get__") && (decide (p = He.fAd K d.at_) && decide (D = He.ga K d.at_.1))
    | _ => false) && (match PySem.W.recIn K (He.fAd K d.at_) "staticmethod" with
    | some (.ref _ :: _) => true
    | _ => false)) && (PySem.W.keepIn K (.ref (stA K d.at_)) && match K.lookup (stA K d.at_) with
  | some ⟨_, _, .func fd, _⟩ => PySem.W.codeIn K fd.code d.qual && (He.dflB K fd.defaults (d.dvs K) && He.kwdB K fd.kwdefaults (d.kws K))
  | _ => false)
abbrev AlP := ((He.AlD × Bool) × List He.FnW) × List He.FnW
structure SaysG (fa : List He.Fa) (fn pn sn : List He.DefD) (tf : List He.Defn) (ex : PySem.W.Frag → Bool) (h : Heap) (K : PySem.W.Frag) : Prop where
  d : He.SaysD fa fn K
  more : ex K = true
  tab : ∀ p ∈ tf, PySem.W.codeHdIn K (He.cT K p).1 (He.cT K p).2 = true ∧ K.lookup (He.cT K p).2 = none ∧ h.get? (He.cT K p).2 = some { cls := .none, data := .fields #[] }
  gets : ∀ d ∈ pn, gtB K d = true ∧ gtW K d.at_ = He.DefD.val d
  stats : ∀ d ∈ sn, stB K d = true ∧ stW K d.at_ = He.DefD.val d
def obsG (n : Nat) (fa : List He.Fa) (fn pn sn : List He.DefD) (tf : List He.Defn) (ex : PySem.W.Frag → Bool) (g : Addr → Option Obj) : AlP :=
  (((He.obsD fa fn (He.frT g (asE g n)), ((ex (He.frT g (asE g n)) && pn.all fun d => gtB (He.frT g (asE g n)) d) && sn.all fun d => stB (He.frT g (asE g n)) d) && He.tabsB g tf (He.frT g (asE g n))), pn.map fun d => gtW (He.frT g (asE g n)) d.at_), sn.map fun d => stW (He.frT g (asE g n)) d.at_)
theorem saysG_of {n : Nat} {fa : List He.Fa} {fn pn sn : List He.DefD} {tf : List He.Defn} {ex : PySem.W.Frag → Bool} {h : Heap} (e : obsG n fa fn pn sn tf ex h.get? = (((He.valD fn, true), pn.map He.DefD.val), sn.map He.DefD.val)) : SaysG fa fn pn sn tf ex h (He.frT h.get? (asE h.get? n)) := by
  have e2 : (((ex (He.frT h.get? (asE h.get? n)) && pn.all fun d => gtB (He.frT h.get? (asE h.get? n)) d) && sn.all fun d => stB (He.frT h.get? (asE h.get? n)) d) && He.tabsB h.get? tf (He.frT h.get? (asE h.get? n))) = true := congrArg (fun z : AlP => z.1.1.2) e
  have e4 : pn.map (fun d => gtW (He.frT h.get? (asE h.get? n)) d.at_) = pn.map He.DefD.val := congrArg (fun z : AlP => z.1.2) e
  have e5 : sn.map (fun d => stW (He.frT h.get? (asE h.get? n)) d.at_) = sn.map He.DefD.val := congrArg (fun z : AlP => z.2) e
  rw [Bool.and_eq_true, Bool.and_eq_true, Bool.and_eq_true] at e2
  refine ⟨congrArg (fun z : AlP => z.1.1.1) e, e2.1.1.1, fun p hp => ?_, fun d hd => ⟨List.all_eq_true.mp e2.1.1.2 d hd, List.map_inj_left.mp e4 d hd⟩, fun d hd => ⟨List.all_eq_true.mp e2.1.2 d hd, List.map_inj_left.mp e5 d hd⟩⟩
  have e3 := List.all_eq_true.mp e2.2 p hp
  rw [Bool.and_eq_true] at e3
  cases q : h.get? (He.cT (He.frT h.get? (asE h.get? n)) p).2 with
  | none => rw [q] at e3; exact absurd e3.2 Bool.false_ne_true
  | some o =>
    rw [q] at e3
    exact ⟨e3.1, He.frT_none q e3.2, by rw [He.emptyTab_eq e3.2]⟩
def hookG (n : Nat) (fa : List He.Fa) (fn pn sn : List He.DefD) (tf : List He.Defn) (ex : PySem.W.Frag → Bool) : PySem.W.Hook where
  α := AlP
  obs := fun s => obsG n fa fn pn sn tf ex s.heap.get?
  val := fun _ => (((He.valD fn, true), pn.map He.DefD.val), sn.map He.DefD.val)
  says := fun _ h => ∃ K : PySem.W.Frag, K.In h ∧ SaysG fa fn pn sn tf ex h K
  of := fun _ _ e => ⟨_, He.frT_in, saysG_of e⟩
  keeps := fun _ _ _ ⟨K, hK, c⟩ k => ⟨K, PySem.W.Frag.In.keeps hK k, ⟨c.d, c.more, fun p hp => ⟨(c.tab p hp).1, (c.tab p hp).2.1, k _ _ (c.tab p hp).2.2⟩, c.gets, c.stats⟩⟩
theorem obsG_eq {n : Nat} {fa : List He.Fa} {fn pn sn : List He.DefD} {tf : List He.Defn} {ex : PySem.W.Frag → Bool} {g : Addr → Option Obj} {s : Shared} (h : ∀ a, g a = s.heap.get? a) : obsG n fa fn pn sn tf ex g = (hookG n fa fn pn sn tf ex).obs s := by
  have e : g = s.heap.get? := funext h
  rw [e] <;> rfl
def top (i : Nat) : Stmt := PySem.Challenge.pw_dealtpowers_k42_sums_and_goals_refused.main.body.getD i (.Pass ⟨0, 0, 0, 0⟩)
abbrev sInvalidExponent____init__ : Stmt := inClass (top 8) 0
def dInvalidExponent____init__ : He.DefD := ⟨("InvalidExponent", some "__init__"), "__init__", "InvalidExponent.__init__", defArgs sInvalidExponent____init__, defBody sInvalidExponent____init__, defScope sInvalidExponent____init__, [], []⟩
abbrev sInvalidSums____init__ : Stmt := inClass (top 10) 0
def dInvalidSums____init__ : He.DefD := ⟨("InvalidSums", some "__init__"), "__init__", "InvalidSums.__init__", defArgs sInvalidSums____init__, defBody sInvalidSums____init__, defScope sInvalidSums____init__, [], []⟩
abbrev sis_number : Stmt := top 21
def dis_number : He.DefD := ⟨("is_number", none), "is_number", "is_number", defArgs sis_number, defBody sis_number, defScope sis_number, [], []⟩
abbrev scheck_columns : Stmt := top 38
def dcheck_columns : He.DefD := ⟨("check_columns", none), "check_columns", "check_columns", defArgs scheck_columns, defBody scheck_columns, defScope scheck_columns, [], []⟩
abbrev sis_exponent : Stmt := top 39
def dis_exponent : He.DefD := ⟨("is_exponent", none), "is_exponent", "is_exponent", defArgs sis_exponent, defBody sis_exponent, defScope sis_exponent, [], []⟩
abbrev sSchema____init__ : Stmt := inClass (top 46) 1
def dSchema____init__ : He.DefD := ⟨("Schema", some "__init__"), "__init__", "Schema.__init__", defArgs sSchema____init__, defBody sSchema____init__, defScope sSchema____init__, [.adr (He.dflAt ("Schema", some "__init__") 0)], []⟩
abbrev sSchema__is_exponent : Stmt := inClass (top 46) 5
def dSchema__is_exponent : He.DefD := ⟨("Schema", some "is_exponent"), "is_exponent", "Schema.is_exponent", defArgs sSchema__is_exponent, defBody sSchema__is_exponent, defScope sSchema__is_exponent, [], []⟩
abbrev scheck_sums : Stmt := top 54
def dcheck_sums : He.DefD := ⟨("check_sums", none), "check_sums", "check_sums", defArgs scheck_sums, defBody scheck_sums, defScope scheck_sums, [], []⟩
abbrev scheck_goal : Stmt := top 55
def dcheck_goal : He.DefD := ⟨("check_goal", none), "check_goal", "check_goal", defArgs scheck_goal, defBody scheck_goal, defScope scheck_goal, [], []⟩
abbrev scorners : Stmt := top 59
def dcorners : He.DefD := ⟨("corners", none), "corners", "corners", defArgs scorners, defBody scorners, defScope scorners, [], []⟩
abbrev supper_bounds : Stmt := top 61
def dupper_bounds : He.DefD := ⟨("upper_bounds", none), "upper_bounds", "upper_bounds", defArgs supper_bounds, defBody supper_bounds, defScope supper_bounds, [], []⟩
abbrev slower_bounds : Stmt := top 62
def dlower_bounds : He.DefD := ⟨("lower_bounds", none), "lower_bounds", "lower_bounds", defArgs slower_bounds, defBody slower_bounds, defScope slower_bounds, [], []⟩
abbrev sbase : Stmt := top 68
def dbase : He.DefD := ⟨("base", none), "base", "base", defArgs sbase, defBody sbase, defScope sbase, [], []⟩
abbrev sKeeper____init__ : Stmt := inClass (top 72) 0
def dKeeper____init__ : He.DefD := ⟨("Keeper", some "__init__"), "__init__", "Keeper.__init__", defArgs sKeeper____init__, defBody sKeeper____init__, defScope sKeeper____init__, [], []⟩
abbrev sleast_lots : Stmt := top 75
def dleast_lots : He.DefD := ⟨("least_lots", none), "least_lots", "least_lots", defArgs sleast_lots, defBody sleast_lots, defScope sleast_lots, [], []⟩
abbrev sL_open : Stmt := top 77
def dL_open : He.DefD := ⟨("_law_open", none), "_law_open", "_law_open", defArgs sL_open, defBody sL_open, defScope sL_open, [], []⟩
abbrev sL_take : Stmt := top 78
def dL_take : He.DefD := ⟨("_law_take", none), "_law_take", "_law_take", defArgs sL_take, defBody sL_take, defScope sL_take, [], []⟩
abbrev sL_one : Stmt := top 79
def dL_one : He.DefD := ⟨("_law_one", none), "_law_one", "_law_one", defArgs sL_one, defBody sL_one, defScope sL_one, [], []⟩
abbrev sL_kind : Stmt := top 80
def dL_kind : He.DefD := ⟨("_law_kind", none), "_law_kind", "_law_kind", defArgs sL_kind, defBody sL_kind, defScope sL_kind, [], []⟩
abbrev sL_same : Stmt := top 81
def dL_same : He.DefD := ⟨("_law_same", none), "_law_same", "_law_same", defArgs sL_same, defBody sL_same, defScope sL_same, [], []⟩
abbrev sL_field : Stmt := top 82
def dL_field : He.DefD := ⟨("_law_field", none), "_law_field", "_law_field", defArgs sL_field, defBody sL_field, defScope sL_field, [], []⟩
abbrev sL_try : Stmt := top 83
def dL_try : He.DefD := ⟨("_law_try", none), "_law_try", "_law_try", defArgs sL_try, defBody sL_try, defScope sL_try, [], []⟩
abbrev sL_tries : Stmt := top 84
def dL_tries : He.DefD := ⟨("_law_tries", none), "_law_tries", "_law_tries", defArgs sL_tries, defBody sL_tries, defScope sL_tries, [], []⟩
abbrev sL_odd : Stmt := top 85
def dL_odd : He.DefD := ⟨("_law_odd", none), "_law_odd", "_law_odd", defArgs sL_odd, defBody sL_odd, defScope sL_odd, [], []⟩
abbrev sL_letters : Stmt := top 86
def dL_letters : He.DefD := ⟨("_law_letters", none), "_law_letters", "_law_letters", defArgs sL_letters, defBody sL_letters, defScope sL_letters, [], []⟩
abbrev sL_exp : Stmt := top 87
def dL_exp : He.DefD := ⟨("_law_exp", none), "_law_exp", "_law_exp", defArgs sL_exp, defBody sL_exp, defScope sL_exp, [], []⟩
abbrev sL_exps : Stmt := top 88
def dL_exps : He.DefD := ⟨("_law_exps", none), "_law_exps", "_law_exps", defArgs sL_exps, defBody sL_exps, defScope sL_exps, [], []⟩
abbrev sL_some_facts : Stmt := top 89
def dL_some_facts : He.DefD := ⟨("_law_some_facts", none), "_law_some_facts", "_law_some_facts", defArgs sL_some_facts, defBody sL_some_facts, defScope sL_some_facts, [], []⟩
abbrev slaw : Stmt := top 90
def dlaw : He.DefD := ⟨("law", none), "law", "law", defArgs slaw, defBody slaw, defScope slaw, [], []⟩
def fn : List He.DefD := [dInvalidExponent____init__, dInvalidSums____init__, dis_number, dcheck_columns, dis_exponent, dSchema____init__, dSchema__is_exponent, dcheck_sums, dcheck_goal, dcorners, dupper_bounds, dlower_bounds, dbase, dKeeper____init__, dleast_lots, dL_open, dL_take, dL_one, dL_kind, dL_same, dL_field, dL_try, dL_tries, dL_odd, dL_letters, dL_exp, dL_exps, dL_some_facts, dlaw]
def pn : List He.DefD := []
def sn : List He.DefD := []
def fa : List He.Fa := [.glo "is_number", .glo "check_columns", .glo "is_exponent", .glo "is_exponent_schemas", .glo "Schema", .glo "check_sums", .glo "check_goal", .glo "corners", .glo "upper_bounds", .glo "lower_bounds", .glo "base", .glo "Keeper", .glo "least_lots", .glo "_law_open", .glo "_law_take", .glo "_law_one", .glo "_law_kind", .glo "_law_same", .glo "_law_field", .glo "_law_try", .glo "_law_tries", .glo "_law_odd", .glo "_law_letters", .glo "_law_exp", .glo "_law_exps", .glo "_law_some_facts", .glo "law", .glo "DealError", .glo "Missing", .glo "NothingLeft", .glo "InvalidSums", .glo "InvalidExponent", .free "isinstance", .free "bool", .free "int", .free "str", .free "list", .free "tuple", .free "len", .free "all", .free "range", .free "set", .free "enumerate", .free "zip", .int "MOST_EXPONENT" 6, .int "MOST_SUMS" 5, .cls "Schema", .mkr "Schema", .noat "Schema" "columns", .noat "Schema" "width", .noat "Schema" "_facts", .meth "Schema" "is_exponent", .cls "Keeper", .mkr "Keeper", .noat "Keeper" "schema"]
def nm0 : List PySem.Str := ["_wall", "__name__", "DealError", "Missing", "InvalidNumber", "InvalidSystem", "InvalidColumns", "InvalidFact", "InvalidExponent", "InvalidFactor", "InvalidSums", "InvalidRow", "InvalidDeed", "WrongWidth", "WrongSchema", "TooMany", "EqualSums", "NotThere", "BrokenClaim", "NothingLeft", "is_number", "power_of", "lowest", "copied", "Outcome", "Solution", "Mirror", "is_whole", "check_system", "Tableau"]
def nm1 : List PySem.Str := ["mixed", "point_of", "mirror_of", "solve", "MOST_EXPONENT", "check_columns", "is_exponent", "is_exponent_schemas", "is_direction", "dot", "monomial", "monomial_text", "candidate_rays", "Schema", "check_width", "Product", "Claim", "MOST_SUMS", "check_sums", "check_goal", "lots_of", "square_solution", "found_corners", "corners", "corner_claim", "upper_bounds", "lower_bounds", "check_unlike", "vector", "combined"]
def nm2 : List PySem.Str := ["order_of", "found_base", "base", "worth_of", "broken_claim", "Keeper", "least_ones", "least_lots", "_law_open", "_law_take", "_law_one", "_law_kind", "_law_same", "_law_field", "_law_try", "_law_tries", "_law_odd", "_law_letters", "_law_exp", "_law_exps", "_law_some_facts"]
def nms : List PySem.Str := nm0 ++ nm1 ++ nm2
def ex : PySem.W.Frag → Bool := fun K => (match K.lookup (He.dflAt ("Schema", some "__init__") 0 K) with
  | some ⟨.type "tuple", _, .seq its _, _⟩ => its.isEmpty
  | _ => false) && (decide (He.ga K "is_exponent_schemas" = He.ga K "is_exponent") && (PySem.W.readsIn K (He.ga K "Schema") (.type "type") && (He.eqO (PySem.W.specialIn K (.ref (He.ga K "Schema")) "__getattribute__") (some (some (.builtin "type.__getattribute__"))) && ((match PySem.W.findCls K (.ref (He.ga K "Schema")) (.type "type") "MOST" with
  | some (.val (.int 4 _)) => true
  | _ => false) && (Y.errB K (He.ga K "InvalidSums") (He.fAd K ("InvalidSums", some "__init__")) "at" && (decide (PySem.W.exmAny K (.ref (He.ga K "InvalidSums")) [.ref (He.ga K "DealError"), .ref (He.ga K "Missing"), .ref (He.ga K "NothingLeft")] = some true) && (decide (PySem.W.subIn K (.ref (He.ga K "InvalidSums")) (.type "StopIteration") = some false) && (Y.errB K (He.ga K "InvalidExponent") (He.fAd K ("InvalidExponent", some "__init__")) "given" && (decide (PySem.W.exmAny K (.ref (He.ga K "InvalidExponent")) [.ref (He.ga K "DealError"), .ref (He.ga K "Missing"), .ref (He.ga K "NothingLeft")] = some true) && (decide (PySem.W.subIn K (.ref (He.ga K "InvalidExponent")) (.type "StopIteration") = some false)))))))))))
abbrev R : PySem.W.OpenRow := PySem.W.OpenLaw.row PySem.Challenge.rw_dealtpowers_k42_sums_and_goals_refused
def tf : List He.Defn := [("law", none)]
abbrev hk : PySem.W.Hook := hookG 5 fa fn pn sn tf ex
def ob (s : PySem.W.SharedT) : AlP := obsG 5 fa fn pn sn tf ex (HandSHeadRun.getT s)
theorem ob_eq (s : PySem.W.SharedT) : ob s = hk.obs s.abs := obsG_eq (HandSHeadRun.getT_eq s)
theorem run (w : World) : HandSHeadRun.RunEq R (PySem.W.view R.prog [90]) hk ob 20000 nms w := by
  intro os
  kernel_rfl
end K42
namespace Z
open PySem PySem.Spec PyProof.Rows L2
/-! ## 1. judgements by the best reading -/
def HE (X : Cx) (e : Expr) (σ : L2.St) (H : Hp) (Q : VK) : Prop := ∀ (pins : List (Addr × Obj)) (s : Shared), Inv X pins σ H s → wpAny (model X.prog X.w) X.A (eval e X.env) (EP X pins σ Q) X.xe s
def HT (X : Cx) (e : Expr) (σ : L2.St) (H : Hp) (Q : Bool → Hp → Prop) : Prop := ∀ (pins : List (Addr × Obj)) (s : Shared), Inv X pins σ H s → wpAny (model X.prog X.w) X.A (isTrue e X.env (eval e X.env)) (TP X pins σ Q) X.xe s
def HW (X : Cx) (e : Expr) (σ : L2.St) (H : Hp) (Q : Bool → Hp → Prop) : Prop := ∀ (whole : Sem Value) (pins : List (Addr × Obj)) (s : Shared), Inv X pins σ H s → wpAny (model X.prog X.w) X.A (isTrue e X.env whole) (TP X pins σ Q) X.xe s
def HA (X : Cx) (es : List Expr) (σ : L2.St) (H : Hp) (Q : List V → Hp → Prop) : Prop := ∀ (pos : Pos) (pins : List (Addr × Obj)) (s : Shared), Inv X pins σ H s → wpAny (model X.prog X.w) X.A (spliced (backTo pos (starEach es X.env))) (AP X pins σ Q) X.xe s
def HS (X : Cx) (D : Ends) (st : List Stmt) (σ : L2.St) (H : Hp) : Prop := ∀ (pins : List (Addr × Obj)) (s : Shared), Inv X pins σ H s → wpAny (model X.prog X.w) X.A (execs st X.env) (SP X pins D) X.xe s
def HG (X : Cx) (tg : Expr) (v : V) (σ : L2.St) (H : Hp) (Q : L2.St → Hp → Prop) : Prop := ∀ (pins : List (Addr × Obj)) (s : Shared) (u : Value), Inv X pins σ H s → RelV v u →
    wpAny (model X.prog X.w) X.A (assign tg X.env u) (fun _ s' => ∃ σ' H', Inv X pins σ' H' s' ∧ Q σ' H') X.xe s
def HI (X : Cx) (tg iter : Expr) (σ : L2.St) (H : Hp) (R : It → Hp → Prop) : Prop := ∀ (pins : List (Addr × Obj)) (s : Shared), Inv X pins σ H s →
    wpAny (model X.prog X.w) X.A (eval iter X.env) (fun v s1 => wpAny (model X.prog X.w) X.A (pyIter v) (PIE X pins σ tg R) X.xe s1) X.xe s
def bE (X : Cx) (e : Expr) : TE := fun σ H Q => HE X e σ H Q
def bT (X : Cx) (e : Expr) : TT := fun σ H Q => HT X e σ H Q
def bW (X : Cx) (e : Expr) : TT := fun σ H Q => HW X e σ H Q
def bA (X : Cx) (es : List Expr) : TA := fun σ H Q => HA X es σ H Q
def bS (X : Cx) (st : List Stmt) : TS := fun D σ H => HS X D st σ H
def bG (X : Cx) (tg : Expr) : TG := fun v σ H Q => HG X tg v σ H Q
def bI (X : Cx) (tg iter : Expr) : TI := fun σ H R => HI X tg iter σ H R
section
variable {X : Cx} {e : Expr} {σ : L2.St} {H : Hp}
theorem peb : PE X e (bE X e) := ⟨fun pins s _ _ _ I h => h pins s I⟩
theorem ptb : PT X e (bT X e) := ⟨fun pins s _ _ _ I h => h pins s I⟩
theorem pwb : PW X e (bW X e) := ⟨fun whole pins s _ _ _ I h => h whole pins s I⟩
theorem pab {es : List Expr} : PA X es (bA X es) := ⟨fun pos pins s _ _ _ I h => h pos pins s I⟩
theorem psb {st : List Stmt} : PSs X st (bS X st) := ⟨fun pins s _ _ _ I h => h pins s I⟩
theorem pgb {tg : Expr} : PG X tg (bG X tg) := ⟨fun pins s _ _ _ u _ I r h => h pins s u I r⟩
theorem pib {tg iter : Expr} : PI X tg iter (bI X tg iter) := ⟨fun pins s _ _ _ I h => h pins s I⟩
theorem he_of {t : TE} {Q : VK} (h : PE X e t) (q : t σ H Q) : HE X e σ H Q := fun pins s I => h.run pins s σ H Q I q
theorem ht_of {t : TT} {Q : Bool → Hp → Prop} (h : PT X e t) (q : t σ H Q) : HT X e σ H Q := fun pins s I => h.run pins s σ H Q I q
theorem hw_of {t : TT} {Q : Bool → Hp → Prop} (h : PW X e t) (q : t σ H Q) : HW X e σ H Q := fun whole pins s I => h.run whole pins s σ H Q I q
theorem ha_of {es : List Expr} {t : TA} {Q : List V → Hp → Prop} (h : PA X es t) (q : t σ H Q) : HA X es σ H Q := fun pos pins s I => h.run pos pins s σ H Q I q
theorem hs_of {st : List Stmt} {t : TS} {D : Ends} (h : PSs X st t) (q : t D σ H) : HS X D st σ H := fun pins s I => h.run pins s σ H D I q
theorem hg_of {tg : Expr} {t : TG} {v : V} {Q : L2.St → Hp → Prop} (h : PG X tg t) (q : t v σ H Q) : HG X tg v σ H Q := fun pins s u I r => h.run pins s σ H v u Q I r q
theorem hi_of {tg iter : Expr} {t : TI} {R : It → Hp → Prop} (h : PI X tg iter t) (q : t σ H R) : HI X tg iter σ H R := fun pins s I => h.run pins s σ H R I q
end
/-! ## 2. what stays under growth -/
class Mn (P : V → Hp → Prop) : Prop where
  up : ∀ {v : V} {H H' : Hp}, Same H H' → P v H → P v H'
theorem Same.new {H : Hp} {p : Addr} {o : HO} (h : H p = none) : Same H (upd H p o) := fun a u e => by
  rw [upd_ne (ne_of_none e h)]
  exact e
/-- an object that H does not know may change -/
theorem Same.mut {H H' : Hp} {p : Addr} {o : HO} (e : Same H H') (h : H p = none) : Same H (upd H' p o) := fun a u ha => by
  rw [upd_ne (ne_of_none ha h)]
  exact e a u ha
theorem same_rd {H H' : Hp} {a : Addr} {u : HO} (e : Same H H') (h : Rd H a u) : Rd H' a u := by
  rcases h with h | ⟨o, h⟩
  · exact Or.inl (e a _ h)
  · exact Or.inr ⟨o, e a _ h⟩
theorem sql_up {K : PySem.W.Frag} {H H' : Hp} {a : Addr} {xs : List V} (e : Same H H') (h : SqL K H a xs) : SqL K H' a xs := by
  rcases h with h | h
  · exact Or.inl (same_rd e h)
  · exact Or.inr h
theorem sqt_up {K : PySem.W.Frag} {H H' : Hp} {a : Addr} {xs : List V} (e : Same H H') (h : SqT K H a xs) : SqT K H' a xs := by
  rcases h with h | h
  · exact Or.inl (same_rd e h)
  · exact Or.inr h
theorem sql_of {K : PySem.W.Frag} {H : Hp} {a : Addr} {xs : List V} (h : H a = some (.lst xs)) : SqL K H a xs := Or.inl (Or.inl h)
theorem sqt_of {K : PySem.W.Frag} {H : Hp} {a : Addr} {xs : List V} (h : H a = some (.tup xs)) : SqT K H a xs := Or.inl (Or.inl h)
/-! ## 3. data -/
/-- a tuple of the heap; the empty one may stand in K -/
def TuS (K : PySem.W.Frag) (H : Hp) (a : Addr) (xs : List V) : Prop := H a = some (.tup xs) ∨ (xs = [] ∧ SqT K H a xs)
theorem TuS.sq {K : PySem.W.Frag} {H : Hp} {a : Addr} {xs : List V} (h : TuS K H a xs) : SqT K H a xs := h.elim sqt_of fun z => z.2
theorem TuS.up {K : PySem.W.Frag} {H H' : Hp} {a : Addr} {xs : List V} (e : Same H H') (h : TuS K H a xs) : TuS K H' a xs := h.elim (fun z => .inl (e _ _ z)) fun z => .inr ⟨z.1, sqt_up e z.2⟩
theorem tus_of {K : PySem.W.Frag} {H : Hp} {a : Addr} {xs : List V} (h : H a = some (.tup xs)) : TuS K H a xs := .inl h
/-- a value that is data: None, bools, ints, texts, lists that are tracked, tuples -/
inductive Dt (K : PySem.W.Frag) : PyData → V → Hp → Prop
  | non {H : Hp} : Dt K .none .non H
  | bl {H : Hp} (b : Bool) : Dt K (.bool b) (.bl b) H
  | int {H : Hp} (i : Int) : Dt K (.int i) (.int i) H
  | str {H : Hp} (x : Str) : Dt K (.str x) (.str x) H
  | lst {H : Hp} {a : Addr} {xs : List V} {ds : List PyData} : H a = some (.lst xs) → xs.length = ds.length → xs.length ≤ sizeLine → (∀ (i : Nat) (x : V) (d : PyData), xs[i]? = some x → ds[i]? = some d → Dt K d x H) → Dt K (.list ds) (.ref a) H
  | tup {H : Hp} {a : Addr} {xs : List V} {ds : List PyData} : TuS K H a xs → xs.length = ds.length → xs.length ≤ sizeLine → (∀ (i : Nat) (x : V) (d : PyData), xs[i]? = some x → ds[i]? = some d → Dt K d x H) → Dt K (.tuple ds) (.ref a) H
theorem Dt.up {K : PySem.W.Frag} {d : PyData} {v : V} {H H' : Hp} (e : Same H H') (h : Dt K d v H) : Dt K d v H' := by
  induction h with
  | non => exact .non
  | bl b => exact .bl b
  | int i => exact .int i
  | str x => exact .str x
  | lst h l z _ ih => exact .lst (e _ _ h) l z fun i x d hx hd => ih i x d hx hd e
  | tup h l z _ ih => exact .tup (h.up e) l z fun i x d hx hd => ih i x d hx hd e
instance {K : PySem.W.Frag} {d : PyData} : Mn (Dt K d) := ⟨fun e h => h.up e⟩
/-- the values of a sequence's items -/
def Dts (K : PySem.W.Frag) (ds : List PyData) (xs : List V) (H : Hp) : Prop := xs.length = ds.length ∧ ∀ (i : Nat) (x : V) (d : PyData), xs[i]? = some x → ds[i]? = some d → Dt K d x H
theorem Dts.up {K : PySem.W.Frag} {ds : List PyData} {xs : List V} {H H' : Hp} (e : Same H H') (h : Dts K ds xs H) : Dts K ds xs H' := ⟨h.1, fun i x d hx hd => (h.2 i x d hx hd).up e⟩
theorem Dts.nil {K : PySem.W.Frag} {H : Hp} : Dts K [] [] H := ⟨rfl, fun i x d hx _ => by simp at hx⟩
theorem Dts.cons {K : PySem.W.Frag} {d : PyData} {ds : List PyData} {x : V} {xs : List V} {H : Hp} (h : Dt K d x H) (r : Dts K ds xs H) : Dts K (d :: ds) (x :: xs) H := by
  refine ⟨by simp [r.1], fun i y e hy he => ?_⟩
  cases i with
  | zero => simp at hy he; subst hy; subst he; exact h
  | succ i => exact r.2 i y e (by simpa using hy) (by simpa using he)
theorem Dts.get {K : PySem.W.Frag} {ds : List PyData} {xs : List V} {H : Hp} (h : Dts K ds xs H) {i : Nat} {d : PyData} (e : ds[i]? = some d) : ∃ x, xs[i]? = some x ∧ Dt K d x H := by
  have hi : i < xs.length := by rw [h.1]; exact (List.getElem?_eq_some_iff.mp e).1
  exact ⟨xs[i], List.getElem?_eq_getElem hi, h.2 i _ d (List.getElem?_eq_getElem hi) e⟩
theorem Dts.append {K : PySem.W.Frag} {ds es : List PyData} {xs ys : List V} {H : Hp} (h : Dts K ds xs H) (g : Dts K es ys H) : Dts K (ds ++ es) (xs ++ ys) H := by
  refine ⟨by simp [h.1, g.1], fun i y e hy he => ?_⟩
  by_cases hi : i < xs.length
  · rw [List.getElem?_append_left hi] at hy
    rw [List.getElem?_append_left (by rw [← h.1]; exact hi)] at he
    exact h.2 i y e hy he
  · rw [List.getElem?_append_right (by omega)] at hy
    rw [List.getElem?_append_right (by rw [← h.1]; omega), ← h.1] at he
    exact g.2 _ y e hy he
theorem Dts.snoc {K : PySem.W.Frag} {ds : List PyData} {xs : List V} {H : Hp} {d : PyData} {x : V} (h : Dts K ds xs H) (g : Dt K d x H) : Dts K (ds ++ [d]) (xs ++ [x]) H := h.append (Dts.cons g .nil)
theorem Dts.dp {K : PySem.W.Frag} {H : Hp} : ∀ {ds : List PyData} {xs : List V}, xs.length = ds.length → (∀ (i : Nat) (x : V) (d : PyData), xs[i]? = some x → ds[i]? = some d → Dp K H x d) → DpAll K H xs ds
  | [], [], _, _ => .nil
  | [], _ :: _, h, _ => by simp at h
  | _ :: _, [], h, _ => by simp at h
  | d :: ds, x :: xs, h, f => .cons (f 0 x d rfl rfl) (Dts.dp (by simpa using h) fun i y e hy he => f (i + 1) y e (by simpa using hy) (by simpa using he))
theorem Dt.dp {K : PySem.W.Frag} {d : PyData} {v : V} {H : Hp} (h : Dt K d v H) : Dp K H v d := by
  induction h with
  | non => exact .non
  | bl b => exact .bl b
  | int i => exact .int i
  | str x => exact .str x
  | lst h l z _ ih => exact .lst (sql_of h) (Dts.dp l fun i x d hx hd => ih i x d hx hd)
  | tup h l z _ ih => exact .tup h.sq (Dts.dp l fun i x d hx hd => ih i x d hx hd)
theorem Dt.int_inv {K : PySem.W.Frag} {i : Int} {v : V} {H : Hp} (h : Dt K (.int i) v H) : v = .int i := by cases h; rfl
theorem Dt.bl_inv {K : PySem.W.Frag} {b : Bool} {v : V} {H : Hp} (h : Dt K (.bool b) v H) : v = .bl b := by cases h; rfl
theorem Dt.str_inv {K : PySem.W.Frag} {x : Str} {v : V} {H : Hp} (h : Dt K (.str x) v H) : v = .str x := by cases h; rfl
theorem Dt.lst_inv {K : PySem.W.Frag} {ds : List PyData} {v : V} {H : Hp} (h : Dt K (.list ds) v H) : ∃ a xs, v = .ref a ∧ H a = some (.lst xs) ∧ Dts K ds xs H ∧ xs.length ≤ sizeLine := by
  cases h with
  | lst h l z f => exact ⟨_, _, rfl, h, ⟨l, f⟩, z⟩
theorem Dt.tup_inv {K : PySem.W.Frag} {ds : List PyData} {v : V} {H : Hp} (h : Dt K (.tuple ds) v H) : ∃ a xs, v = .ref a ∧ SqT K H a xs ∧ Dts K ds xs H ∧ xs.length ≤ sizeLine := by
  cases h with
  | tup h l z f => exact ⟨_, _, rfl, h.sq, ⟨l, f⟩, z⟩
theorem Dt.tup_invS {K : PySem.W.Frag} {ds : List PyData} {v : V} {H : Hp} (h : Dt K (.tuple ds) v H) : ∃ a xs, v = .ref a ∧ TuS K H a xs ∧ Dts K ds xs H ∧ xs.length ≤ sizeLine := by
  cases h with
  | tup h l z f => exact ⟨_, _, rfl, h, ⟨l, f⟩, z⟩
theorem Dt.lst_mk {K : PySem.W.Frag} {ds : List PyData} {a : Addr} {xs : List V} {H : Hp} (h : H a = some (.lst xs)) (g : Dts K ds xs H) (z : xs.length ≤ sizeLine) : Dt K (.list ds) (.ref a) H := .lst h g.1 z g.2
theorem Dt.tup_mk {K : PySem.W.Frag} {ds : List PyData} {a : Addr} {xs : List V} {H : Hp} (h : TuS K H a xs) (g : Dts K ds xs H) (z : xs.length ≤ sizeLine) : Dt K (.tuple ds) (.ref a) H := .tup h g.1 z g.2
/-! ## 4. growth: S what is known to stay, H the whole -/
def NT (o : HO) : Prop := ∀ xs, o ≠ .tup xs
structure Gr (S H S' H' : Hp) : Prop where
  st : Same S S'
  sub : Same S' H'
  hh : Same H H'
  old : ∀ a o, H a = some o → NT o → S' a = S a
theorem Gr.refl {S H : Hp} (s : Same S H) : Gr S H S H := ⟨Same.refl S, s, Same.refl H, fun _ _ _ _ => rfl⟩
theorem Gr.trans {S H S1 H1 S2 H2 : Hp} (a : Gr S H S1 H1) (b : Gr S1 H1 S2 H2) : Gr S H S2 H2 :=
  ⟨a.st.trans b.st, b.sub, a.hh.trans b.hh, fun x o h n => (b.old x o (a.hh x o h) n).trans (a.old x o h n)⟩
theorem Gr.new {S H : Hp} {p : Addr} {o : HO} (s : Same S H) (h : H p = none) : Gr S H (upd S p o) (upd H p o) := by
  refine ⟨Same.new (s.free h), fun a u e => ?_, Same.new h, fun a u e _ => upd_ne (ne_of_none e h)⟩
  by_cases ha : a = p
  · subst ha; rw [upd_same] at e ⊢; exact e
  · rw [upd_ne ha] at e ⊢; exact s a u e
/-- S grown by T -/
def uniS (S T : Hp) : Hp := fun a => match S a with
  | some o => some o
  | none => T a
theorem uni_l {S T : Hp} : Same S (uniS S T) := fun a o h => by unfold uniS; rw [h]
/-- from a smaller S to a greater one -/
theorem Gr.uni {S T H S' H' : Hp} (st : Same S T) (th : Same T H) (g : Gr S H S' H') : Gr T H (uniS S' T) H' := by
  have key : ∀ a o, H a = some o → NT o → uniS S' T a = T a := fun a o h n => by
    have e := g.old a o h n
    unfold uniS
    rw [e]
    cases q : S a with
    | none => rfl
    | some u => rw [st a u q]
  have key2 : ∀ a o, T a = some o → uniS S' T a = some o := fun a o h => by
    unfold uniS
    cases q : S' a with
    | none => exact h
    | some u =>
      have e1 := g.sub a u q
      rw [g.hh a o (th a o h)] at e1
      exact e1.symm
  refine ⟨key2, fun a o h => ?_, g.hh, key⟩
  unfold uniS at h
  cases q : S' a with
  | some u => rw [q] at h; cases h; exact g.sub a _ q
  | none => rw [q] at h; exact g.hh a o (th a o h)
/-! ## 5. pure evaluation: e gives a P, and all that stood stands -/
def EE (X : Cx) (σ : L2.St) (S : Hp) (e : Expr) (P : V → Hp → Prop) : Prop := ∀ H, Same S H → ∀ Q : VK, (∀ v S' H', Gr S H S' H' → P v S' → Q v H') → HE X e σ H Q
def ET (X : Cx) (σ : L2.St) (S : Hp) (e : Expr) (b : Bool) : Prop := ∀ H, Same S H → ∀ Q : Bool → Hp → Prop, (∀ S' H', Gr S H S' H' → Q b H') → HT X e σ H Q
def EW (X : Cx) (σ : L2.St) (S : Hp) (e : Expr) (b : Bool) : Prop := ∀ H, Same S H → ∀ Q : Bool → Hp → Prop, (∀ S' H', Gr S H S' H' → Q b H') → HW X e σ H Q
/-- the values vs have the Ps, one by one -/
inductive Al : List (V → Hp → Prop) → List V → Hp → Prop
  | nil {H : Hp} : Al [] [] H
  | cons {P : V → Hp → Prop} {Ps : List (V → Hp → Prop)} {v : V} {vs : List V} {H : Hp} : P v H → Al Ps vs H → Al (P :: Ps) (v :: vs) H
inductive Mns : List (V → Hp → Prop) → Prop
  | nil : Mns []
  | cons {P : V → Hp → Prop} {Ps : List (V → Hp → Prop)} : Mn P → Mns Ps → Mns (P :: Ps)
theorem Al.up {Ps : List (V → Hp → Prop)} {vs : List V} {H H' : Hp} (m : Mns Ps) (s : Same H H') (h : Al Ps vs H) : Al Ps vs H' := by
  induction h with
  | nil => exact .nil
  | cons p _ ih => cases m with
    | cons m1 m2 => exact .cons (m1.up s p) (ih m2 s)
def EA (X : Cx) (σ : L2.St) (S : Hp) (es : List Expr) (Ps : List (V → Hp → Prop)) : Prop := Mns Ps ∧ ∀ H, Same S H → ∀ Q : List V → Hp → Prop, (∀ vs S' H', Gr S H S' H' → Al Ps vs S' → Q vs H') → HA X es σ H Q
section
variable {X : Cx} {σ : L2.St} {S S' : Hp} {e a b c : Expr} {P P' : V → Hp → Prop} {pos : Pos}
theorem EE.up [Mn P] (s : Same S S') (h : EE X σ S e P) : EE X σ S' e P := fun H a Q q => h H (s.trans a) Q fun v S2 H2 g p => q v (uniS S2 S') H2 (g.uni s a) (Mn.up uni_l p)
theorem ET.up {k : Bool} (s : Same S S') (h : ET X σ S e k) : ET X σ S' e k := fun H a Q q => h H (s.trans a) Q fun S2 H2 g => q (uniS S2 S') H2 (g.uni s a)
theorem EW.up {k : Bool} (s : Same S S') (h : EW X σ S e k) : EW X σ S' e k := fun H a Q q => h H (s.trans a) Q fun S2 H2 g => q (uniS S2 S') H2 (g.uni s a)
theorem EA.up {es : List Expr} {Ps : List (V → Hp → Prop)} (s : Same S S') (h : EA X σ S es Ps) : EA X σ S' es Ps := ⟨h.1, fun H a Q q => h.2 H (s.trans a) Q fun v S2 H2 g p => q v (uniS S2 S') H2 (g.uni s a) (p.up h.1 uni_l)⟩
theorem EE.imp (h : EE X σ S e P) (f : ∀ v H', P v H' → P' v H') : EE X σ S e P' := fun H1 s Q q => h H1 s Q fun v S2 H2 s2 p => q v S2 H2 s2 (f v S2 p)
theorem EE.is (h : EE X σ S e P) (f : P = P') : EE X σ S e P' := f ▸ h
theorem ET.is {k k' : Bool} (h : ET X σ S e k) (f : k = k') : ET X σ S e k' := f ▸ h
theorem ea_nil : EA X σ S [] [] := ⟨.nil, fun H1 s Q q => ha_of pa_nil (q [] S H1 (Gr.refl s) .nil)⟩
theorem ea_cons [m : Mn P] {es : List Expr} {Ps : List (V → Hp → Prop)} (h : EE X σ S e P) (r : EA X σ S es Ps) (hs : starEach (e :: es) X.env = (false, eval e X.env) :: starEach es X.env := by rfl) : EA X σ S (e :: es) (P :: Ps) := ⟨.cons m r.1, fun H1 s Q q => by
  refine ha_of (pa_cons (te := bE X e) (t := bA X es) peb pab hs) ?_
  refine h H1 s _ fun v S2 H2 g2 p => ?_
  exact (r.up g2.st).2 H2 g2.sub _ fun vs S3 H3 g3 al => q (v :: vs) S3 H3 (g2.trans g3) (.cons (Mn.up g3.st p) al)⟩
end
end Z
namespace Z
open PySem PySem.Spec PyProof.Rows L2
/-! ## 6. expressions -/
section
variable {X : Cx} {σ : L2.St} {S S' : Hp} {e a b c : Expr} {P Pa Pb R : V → Hp → Prop} {pos p : Pos} {i j : Int} {d d1 d2 : PyData} {k k1 k2 : Bool}
theorem EE.isd {d' : PyData} (h : EE X σ S e (Dt X.K d)) (f : d = d') : EE X σ S e (Dt X.K d') := f ▸ h
theorem ee_var (i : Nat) {x : Str} {v : V} (hv : σ[i]? = some (some v)) (h : P v S) (hN : X.N[i]? = some x := by rfl) (hvis : Vis X.env.scope x := by first | exact Or.inl rfl | exact Or.inr (Or.inl rfl) | exact Or.inr (Or.inr rfl)) (hd : (x == ("__debug__" : Str)) = false := by decide)
    (hcd : (x == ("__classdict__" : Str)) = false := by decide) : EE X σ S (.Name x pos) P := fun H s Q q => he_of (pv i hN hvis hd hcd) ⟨v, hv, q v S H (Gr.refl s) h⟩
theorem ee_cst {v : V} (he : PE X e (tC v)) (h : P v S) : EE X σ S e P := fun H s Q q => he_of he (q v S H (Gr.refl s) h)
theorem ee_int {n} : EE X σ S (.Constant (.int i) n pos) (Dt X.K (.int i)) := ee_cst pe_int (.int i)
theorem ee_bl {n} : EE X σ S (.Constant (.bool k) n pos) (Dt X.K (.bool k)) := ee_cst pe_bl (.bl k)
theorem ee_non {n} : EE X σ S (.Constant .none n pos) (Dt X.K .none) := ee_cst pe_non .non
theorem ee_str {x n} : EE X σ S (.Constant (.str x) n pos) (Dt X.K (.str x)) := ee_cst pe_str (.str x)
theorem ee_glob {x : Str} {v : V} {u : Value} (hm : X.mg x = some u) (r : RelV v u) (h : P v S) (hg : Gl X x := by rfl) (hd : (x == ("__debug__" : Str)) = false := by decide) : EE X σ S (.Name x pos) P := ee_cst (pe_glob hg hm r hd) h
theorem ee_bltn {x : Str} {v : V} {u : Value} (hm : X.mg x = none) (hv : bootBuiltins x = some u) (r : RelV v u) (h : P v S) (hg : Gl X x := by rfl) (hn : x ≠ "__name__" := by decide) (hd : (x == ("__debug__" : Str)) = false := by decide) : EE X σ S (.Name x pos) P := ee_cst (pe_bltn hg hm hv r hn hd) h
theorem ee_globI {x : Str} {t : Tok} (hm : X.mg x = some (.int i t)) (hg : Gl X x := by rfl) (hd : (x == ("__debug__" : Str)) = false := by decide) : EE X σ S (.Name x pos) (Dt X.K (.int i)) := ee_glob (v := .int i) hm ⟨t, rfl⟩ (.int i) hg hd
/-- what a two-place operation gives -/
def OpE (r : R2) (S : Hp) (Pa Pb R : V → Hp → Prop) : Prop := ∀ x y S1 H1, Same S S1 → Same S1 H1 → Pa x S1 → Pb y S1 → ∀ Q : VK, (∀ v S2 H2, Gr S1 H1 S2 H2 → R v S2 → Q v H2) → r x y H1 Q
theorem ee_2 {t : R2} [Mn Pa] [Mn Pb] (hp : PE X e (tOp t (bE X a) (bE X b))) (ha : EE X σ S a Pa) (hb : EE X σ S b Pb) (hr : OpE t S Pa Pb R) : EE X σ S e R := fun H s Q q =>
  he_of hp (ha H s _ fun x S1 H1 g1 px => (hb.up g1.st) H1 g1.sub _ fun y S2 H2 g2 py => hr x y S2 H2 (g1.st.trans g2.st) g2.sub (Mn.up g2.st px) py Q fun v S3 H3 g3 rv => q v S3 H3 ((g1.trans g2).trans g3) rv)
theorem ee_op {op : Operator} {t : R2} [Mn Pa] [Mn Pb] (ho : OpR X (binaryOp op) t) (ha : EE X σ S a Pa) (hb : EE X σ S b Pb) (hr : OpE t S Pa Pb R) : EE X σ S (.BinOp a op b pos) R := ee_2 (pe_op ho peb peb) ha hb hr
theorem ee_cmp {op : CmpOp} {t : R2} [Mn Pa] [Mn Pb] (ho : OpR X (compareOp op) t) (ha : EE X σ S a Pa) (hb : EE X σ S b Pb) (hr : OpE t S Pa Pb R) (hm : behindInMarks op b = false) : EE X σ S (.Compare a [op] [b] pos) R := ee_2 (pe_cmpR ho peb peb hm) ha hb hr
theorem opE_I0 {K : PySem.W.Frag} {g : Int → Int → V} {d : PyData} (h : ∀ S, Dt K d (g i j) S) : OpE (rI0 g) S (Dt K (.int i)) (Dt K (.int j)) (Dt K d) := fun x y S1 H1 _ s px py Q q => by
  cases px; cases py
  exact ⟨i, j, rfl, rfl, q _ S1 H1 (Gr.refl s) (h S1)⟩
theorem opE_I {K : PySem.W.Frag} {C : Int → Int → Prop} {g : Int → Int → V} {d : PyData} (hc : C i j) (h : ∀ S, Dt K d (g i j) S) : OpE (rI C g) S (Dt K (.int i)) (Dt K (.int j)) (Dt K d) := fun x y S1 H1 _ s px py Q q => by
  cases px; cases py
  exact ⟨i, j, rfl, rfl, hc, q _ S1 H1 (Gr.refl s) (h S1)⟩
theorem ee_add (ha : EE X σ S a (Dt X.K (.int i))) (hb : EE X σ S b (Dt X.K (.int j))) : EE X σ S (.BinOp a .Add b pos) (Dt X.K (.int (i + j))) := ee_op op_add ha hb (opE_I0 fun _ => .int _)
theorem ee_sub (ha : EE X σ S a (Dt X.K (.int i))) (hb : EE X σ S b (Dt X.K (.int j))) : EE X σ S (.BinOp a .Sub b pos) (Dt X.K (.int (i - j))) := ee_op op_sub ha hb (opE_I0 fun _ => .int _)
theorem ee_fdiv (hc : CDivW i j) (ha : EE X σ S a (Dt X.K (.int i))) (hb : EE X σ S b (Dt X.K (.int j))) : EE X σ S (.BinOp a .FloorDiv b pos) (Dt X.K (.int (i / j))) := ee_op op_fdivW ha hb (opE_I hc fun _ => .int _)
theorem ee_mod (hc : 0 < j) (ha : EE X σ S a (Dt X.K (.int i))) (hb : EE X σ S b (Dt X.K (.int j))) : EE X σ S (.BinOp a .Mod b pos) (Dt X.K (.int (i % j))) := ee_op op_mod ha hb (opE_I hc fun _ => .int _)
theorem ee_pow (hc : CPow i j) (ha : EE X σ S a (Dt X.K (.int i))) (hb : EE X σ S b (Dt X.K (.int j))) : EE X σ S (.BinOp a .Pow b pos) (Dt X.K (.int (i ^ j.toNat))) := ee_op op_pow ha hb (opE_I hc fun _ => .int _)
theorem ee_le (ha : EE X σ S a (Dt X.K (.int i))) (hb : EE X σ S b (Dt X.K (.int j))) : EE X σ S (.Compare a [.LtE] [b] pos) (Dt X.K (.bool (decide (i ≤ j)))) := ee_cmp op_le ha hb (opE_I0 fun _ => .bl _) (nomark _)
theorem ee_ge (ha : EE X σ S a (Dt X.K (.int i))) (hb : EE X σ S b (Dt X.K (.int j))) : EE X σ S (.Compare a [.GtE] [b] pos) (Dt X.K (.bool (decide (j ≤ i)))) := ee_cmp op_ge ha hb (opE_I0 fun _ => .bl _) (nomark _)
/-- == and != of data -/
theorem ee_eq {u : Nat} (hr : Room u X.A) (h1 : SeqAt.shaped d1 = true) (h2 : SeqAt.shaped d2 = true) (ha : EE X σ S a (Dt X.K d1)) (hb : EE X σ S b (Dt X.K d2)) : EE X σ S (.Compare a [.Eq] [b] pos) (Dt X.K (.bool (PyData.eqv d1 d2))) :=
  ee_cmp (op_eqD hr.units) ha hb (fun x y S1 H1 _ s px py Q q => ⟨d1, d2, (px.up s).dp, (py.up s).dp, h1, h2, q _ S1 H1 (Gr.refl s) (.bl _)⟩) (nomark _)
/-- == of two ints, of two texts -/
theorem ee_eqI (ha : EE X σ S a (Dt X.K (.int i))) (hb : EE X σ S b (Dt X.K (.int j))) : EE X σ S (.Compare a [.Eq] [b] pos) (Dt X.K (.bool (decide (i = j)))) :=
  ee_cmp op_eq ha hb (fun x y S1 H1 _ s px py Q q => by
    cases px; cases py
    refine ⟨rfl, ?_⟩
    have e : decide (V.int i = V.int j) = decide (i = j) := by simp
    rw [e]
    exact q _ S1 H1 (Gr.refl s) (.bl _)) (nomark _)
theorem ee_eqS {x y : Str} (ha : EE X σ S a (Dt X.K (.str x))) (hb : EE X σ S b (Dt X.K (.str y))) : EE X σ S (.Compare a [.Eq] [b] pos) (Dt X.K (.bool (decide (x = y)))) :=
  ee_cmp op_eq ha hb (fun v w S1 H1 _ s px py Q q => by
    cases px; cases py
    refine ⟨rfl, ?_⟩
    have e : decide (V.str x = V.str y) = decide (x = y) := by simp
    rw [e]
    exact q _ S1 H1 (Gr.refl s) (.bl _)) (nomark _)
/-- x is None -/
theorem ee_isN {v : V} (ha : EE X σ S a (fun w _ => w = v)) {n p2} : EE X σ S (.Compare a [.Is] [.Constant .none n p2] pos) (Dt X.K (.bool (decide (v = .non)))) := by
  haveI : Mn (fun (w : V) (_ : Hp) => w = v) := ⟨fun _ h => h⟩
  exact ee_cmp op_isN ha (ee_non (n := n) (pos := p2)) (fun x y S1 H1 _ s px py Q q => by
    cases py
    subst px
    exact ⟨rfl, q _ S1 H1 (Gr.refl s) (.bl _)⟩) (nomark _)
theorem ee_neg (ha : EE X σ S a (Dt X.K (.int i))) : EE X σ S (.UnaryOp .USub a pos) (Dt X.K (.int (-i))) := fun H s Q q =>
  he_of (pe_un un_neg peb) (ha H s _ fun x S1 H1 g1 px => by cases px; exact ⟨i, rfl, q _ S1 H1 g1 (.int _)⟩)
/-! ### and, or, not, if -/
theorem ee_not (ha : EE X σ S a (Dt X.K (.bool k))) : EE X σ S (.UnaryOp .Not a pos) (Dt X.K (.bool (!k))) := fun H s Q q =>
  he_of (pe_not peb) (ha H s _ fun x S1 H1 g1 px => by cases px; exact ⟨k, rfl, q _ S1 H1 g1 (.bl _)⟩)
theorem ee_one {op} (ha : EE X σ S a P) : EE X σ S (.BoolOp op [a] pos) P := fun H s Q q => he_of (pe_one peb) (ha H s Q q)
theorem ee_and {rest : List Expr} (ha : EE X σ S a (Dt X.K (.bool k1))) (hb : k1 = true → EE X σ S (.BoolOp .And (b :: rest) pos) (Dt X.K (.bool k2))) : EE X σ S (.BoolOp .And (a :: b :: rest) pos) (Dt X.K (.bool (k1 && k2))) := fun H s Q q =>
  he_of (pe_and peb peb) (ha H s _ fun x S1 H1 g1 px => by
    cases px
    refine ⟨k1, rfl, ?_⟩
    cases k1 with
    | false => exact iteF (q _ S1 H1 g1 (.bl _))
    | true => exact iteT (((hb rfl).up g1.st) H1 g1.sub _ fun y S2 H2 g2 py => q y S2 H2 (g1.trans g2) py))
/-- tests -/
theorem et_val (ha : EE X σ S e (Dt X.K (.bool k))) (he : ∀ whole, isTrue e X.env whole = (do let v ← whole; standAt e.pos; holding [v] (truthy v)) := by intro _; rfl) : ET X σ S e k := fun H s Q q =>
  ht_of (pt_val peb he) (ha H s _ fun x S1 H1 g1 px => by cases px; exact ⟨k, rfl, q S1 H1 g1⟩)
theorem et_cmp {op : CmpOp} {t : R2} [Mn Pa] [Mn Pb] (ho : OpR X (compareOp op) t) (ha : EE X σ S a Pa) (hb : EE X σ S b Pb) (hr : OpE t S Pa Pb (Dt X.K (.bool k))) (hm : behindInMarks op b = false) : ET X σ S (.Compare a [op] [b] pos) k := fun H s Q q =>
  ht_of (pt_cmpR ho peb peb hm) (ha H s _ fun x S1 H1 g1 px => (hb.up g1.st) H1 g1.sub _ fun y S2 H2 g2 py => hr x y S2 H2 (g1.st.trans g2.st) g2.sub (Mn.up g2.st px) py _ fun v S3 H3 g3 rv => by
    cases rv; exact ⟨k, rfl, q S3 H3 ((g1.trans g2).trans g3)⟩)
theorem et_lt (ha : EE X σ S a (Dt X.K (.int i))) (hb : EE X σ S b (Dt X.K (.int j))) : ET X σ S (.Compare a [.Lt] [b] pos) (decide (i < j)) := et_cmp op_lt ha hb (opE_I0 fun _ => .bl _) (nomark _)
theorem et_gt (ha : EE X σ S a (Dt X.K (.int i))) (hb : EE X σ S b (Dt X.K (.int j))) : ET X σ S (.Compare a [.Gt] [b] pos) (decide (j < i)) := et_cmp op_gt ha hb (opE_I0 fun _ => .bl _) (nomark _)
theorem et_ge (ha : EE X σ S a (Dt X.K (.int i))) (hb : EE X σ S b (Dt X.K (.int j))) : ET X σ S (.Compare a [.GtE] [b] pos) (decide (j ≤ i)) := et_cmp op_ge ha hb (opE_I0 fun _ => .bl _) (nomark _)
theorem et_eqI (ha : EE X σ S a (Dt X.K (.int i))) (hb : EE X σ S b (Dt X.K (.int j))) : ET X σ S (.Compare a [.Eq] [b] pos) (decide (i = j)) :=
  et_cmp op_eq ha hb (fun x y S1 H1 _ s px py Q q => by
    cases px; cases py
    refine ⟨rfl, ?_⟩
    have e : decide (V.int i = V.int j) = decide (i = j) := by simp
    rw [e]
    exact q _ S1 H1 (Gr.refl s) (.bl _)) (nomark _)
theorem et_neI (ha : EE X σ S a (Dt X.K (.int i))) (hb : EE X σ S b (Dt X.K (.int j))) : ET X σ S (.Compare a [.NotEq] [b] pos) (!decide (i = j)) :=
  et_cmp op_ne ha hb (fun x y S1 H1 _ s px py Q q => by
    cases px; cases py
    refine ⟨rfl, ?_⟩
    have e : decide (V.int i = V.int j) = decide (i = j) := by simp
    rw [e]
    exact q _ S1 H1 (Gr.refl s) (.bl _)) (nomark _)
theorem et_eqS {x y : Str} (ha : EE X σ S a (Dt X.K (.str x))) (hb : EE X σ S b (Dt X.K (.str y))) : ET X σ S (.Compare a [.Eq] [b] pos) (decide (x = y)) :=
  et_cmp op_eq ha hb (fun v w S1 H1 _ s px py Q q => by
    cases px; cases py
    refine ⟨rfl, ?_⟩
    have e : decide (V.str x = V.str y) = decide (x = y) := by simp
    rw [e]
    exact q _ S1 H1 (Gr.refl s) (.bl _)) (nomark _)
theorem et_not (ha : ET X σ S a k) : ET X σ S (.UnaryOp .Not a pos) (!k) := fun H s Q q => ht_of (pt_not ptb) (ha H s _ fun S1 H1 g1 => q S1 H1 g1)
theorem et_w (ha : EW X σ S a k) : ET X σ S a k := fun H s Q q => ht_of (PW.pt pwb) (ha H s Q q)
theorem ew_and1 (ha : ET X σ S a k) : EW X σ S (.BoolOp .And [a] pos) k := fun H s Q q => hw_of (pw_and1 ptb) (ha H s Q q)
theorem ew_or1 (ha : ET X σ S a k) : EW X σ S (.BoolOp .Or [a] pos) k := fun H s Q q => hw_of (pw_or1 ptb) (ha H s Q q)
theorem ew_and {rest : List Expr} (ha : ET X σ S a k1) (hb : k1 = true → EW X σ S (.BoolOp .And (b :: rest) pos) k2) : EW X σ S (.BoolOp .And (a :: b :: rest) pos) (k1 && k2) := fun H s Q q =>
  hw_of (pw_and ptb pwb) (ha H s _ fun S1 H1 g1 => by
    cases k1 with
    | false => exact iteF (q S1 H1 g1)
    | true => exact iteT (((hb rfl).up g1.st) H1 g1.sub _ fun S2 H2 g2 => q S2 H2 (g1.trans g2)))
theorem ew_or {rest : List Expr} (ha : ET X σ S a k1) (hb : k1 = false → EW X σ S (.BoolOp .Or (b :: rest) pos) k2) : EW X σ S (.BoolOp .Or (a :: b :: rest) pos) (k1 || k2) := fun H s Q q =>
  hw_of (pw_or ptb pwb) (ha H s _ fun S1 H1 g1 => by
    cases k1 with
    | true => exact iteT (q S1 H1 g1)
    | false => exact iteF (((hb rfl).up g1.st) H1 g1.sub _ fun S2 H2 g2 => q S2 H2 (g1.trans g2)))
theorem ee_if {Q' : V → Hp → Prop} [Mn Q'] (hc : ET X σ S c k) (ha : k = true → EE X σ S a Q') (hb : k = false → EE X σ S b Q') : EE X σ S (.IfExp c a b pos) Q' := fun H s Q q =>
  he_of (pe_ifExp ptb peb peb) (hc H s _ fun S1 H1 g1 => by
    cases k with
    | false => exact iteF (((hb rfl).up g1.st) H1 g1.sub _ fun y S2 H2 g2 py => q y S2 H2 (g1.trans g2) py)
    | true => exact iteT (((ha rfl).up g1.st) H1 g1.sub _ fun y S2 H2 g2 py => q y S2 H2 (g1.trans g2) py))
/-! ### displays -/
theorem ee_tupA {es : List Expr} {x1} {vsP : List V → Hp → Prop} (h : ∀ H, Same S H → ∀ Q : List V → Hp → Prop, (∀ vs S' H', Gr S H S' H' → vsP vs S' → Q vs H') → HA X es σ H Q) (hz : ∀ vs S', vsP vs S' → vs.length ≤ sizeLine)
    (hR : ∀ vs S' p, Same S S' → S' p = none → vsP vs S' → R (.ref p) (upd S' p (.tup vs))) : EE X σ S (.Tuple es x1 pos) R := fun H s Q q =>
  he_of (pe_tup pab) (h H s _ fun vs S1 H1 g1 al => ⟨hz vs S1 al, fun p hp => q _ _ _ (g1.trans (Gr.new g1.sub hp)) (hR vs S1 p g1.st (g1.sub.free hp) al)⟩)
theorem ee_lstA {es : List Expr} {vsP : List V → Hp → Prop} (h : ∀ H, Same S H → ∀ Q : List V → Hp → Prop, (∀ vs S' H', Gr S H S' H' → vsP vs S' → Q vs H') → HA X es σ H Q) (hz : ∀ vs S', vsP vs S' → vs.length ≤ sizeLine)
    (hR : ∀ vs S' p, Same S S' → S' p = none → vsP vs S' → R (.ref p) (upd S' p (.lst vs))) : EE X σ S (.List es pos) R := fun H s Q q =>
  he_of (pe_lst pab) (h H s _ fun vs S1 H1 g1 al => ⟨hz vs S1 al, fun p hp => q _ _ _ (g1.trans (Gr.new g1.sub hp)) (hR vs S1 p g1.st (g1.sub.free hp) al)⟩)
def Ds (K : PySem.W.Frag) (ds : List PyData) : List (V → Hp → Prop) := ds.map (Dt K)
theorem al_dts {K : PySem.W.Frag} : ∀ {ds : List PyData} {vs : List V} {H : Hp}, Al (Ds K ds) vs H → Dts K ds vs H
  | [], _, _, h => by cases h; exact .nil
  | d :: ds, _, _, h => by cases h with
    | cons p r => exact .cons p (al_dts r)
theorem dts_al {K : PySem.W.Frag} : ∀ {ds : List PyData} {vs : List V} {H : Hp}, Dts K ds vs H → Al (Ds K ds) vs H
  | [], [], _, h => .nil
  | [], _ :: _, _, h => by have := h.1; simp at this
  | _ :: _, [], _, h => by have := h.1; simp at this
  | d :: ds, v :: vs, _, h => .cons (h.2 0 v d rfl rfl) (dts_al ⟨by have := h.1; simpa using this, fun i x d hx hd => h.2 (i + 1) x d (by simpa using hx) (by simpa using hd)⟩)
theorem ee_tup {es : List Expr} {x1} {ds : List PyData} (h : EA X σ S es (Ds X.K ds)) (hz : ds.length ≤ sizeLine := by show _ ≤ 16777216; exact Nat.le_of_ble_eq_true rfl) : EE X σ S (.Tuple es x1 pos) (Dt X.K (.tuple ds)) :=
  ee_tupA (vsP := Al (Ds X.K ds)) h.2 (fun vs S' al => by rw [(al_dts al).1]; exact hz) fun vs S' p _ hp al => Dt.tup_mk (tus_of upd_same) ((al_dts al).up (Same.new hp)) (by rw [(al_dts al).1]; exact hz)
theorem ee_lst {es : List Expr} {ds : List PyData} (h : EA X σ S es (Ds X.K ds)) (hz : ds.length ≤ sizeLine := by show _ ≤ 16777216; exact Nat.le_of_ble_eq_true rfl) : EE X σ S (.List es pos) (Dt X.K (.list ds)) :=
  ee_lstA (vsP := Al (Ds X.K ds)) h.2 (fun vs S' al => by rw [(al_dts al).1]; exact hz) fun vs S' p _ hp al => Dt.lst_mk upd_same ((al_dts al).up (Same.new hp)) (by rw [(al_dts al).1]; exact hz)
end
end Z
namespace Z
open PySem PySem.Spec PyProof.Rows L2
/-! ## 7. calls of built-ins, sequences -/
theorem dts_int {K : PySem.W.Frag} : ∀ {ns : List Int} {xs : List V} {H : Hp}, Dts K (ns.map PyData.int) xs H → xs = ns.map V.int
  | [], [], _, _ => rfl
  | [], _ :: _, _, h => by have := h.1; simp at this
  | _ :: _, [], _, h => by have := h.1; simp at this
  | n :: ns, x :: xs, _, h => by
    have e1 := (h.2 0 x (.int n) rfl rfl).int_inv
    have e2 := dts_int (ns := ns) (xs := xs) ⟨by have := h.1; simpa using this, fun i y d hy hd => h.2 (i + 1) y d (by simpa using hy) (by simpa using hd)⟩
    rw [e1, e2]; rfl
theorem dts_bl {K : PySem.W.Frag} : ∀ {ns : List Bool} {xs : List V} {H : Hp}, Dts K (ns.map PyData.bool) xs H → xs = ns.map V.bl
  | [], [], _, _ => rfl
  | [], _ :: _, _, h => by have := h.1; simp at this
  | _ :: _, [], _, h => by have := h.1; simp at this
  | n :: ns, x :: xs, _, h => by
    have e1 := (h.2 0 x (.bool n) rfl rfl).bl_inv
    have e2 := dts_bl (ns := ns) (xs := xs) ⟨by have := h.1; simpa using this, fun i y d hy hd => h.2 (i + 1) y d (by simpa using hy) (by simpa using hd)⟩
    rw [e1, e2]; rfl
theorem dts_str {K : PySem.W.Frag} : ∀ {ns : List Str} {xs : List V} {H : Hp}, Dts K (ns.map PyData.str) xs H → xs = ns.map V.str
  | [], [], _, _ => rfl
  | [], _ :: _, _, h => by have := h.1; simp at this
  | _ :: _, [], _, h => by have := h.1; simp at this
  | n :: ns, x :: xs, _, h => by
    have e1 := (h.2 0 x (.str n) rfl rfl).str_inv
    have e2 := dts_str (ns := ns) (xs := xs) ⟨by have := h.1; simpa using this, fun i y d hy hd => h.2 (i + 1) y d (by simpa using hy) (by simpa using hd)⟩
    rw [e1, e2]; rfl
theorem int_dts {K : PySem.W.Frag} (ns : List Int) (H : Hp) : Dts K (ns.map PyData.int) (ns.map V.int) H := by
  refine ⟨by simp, fun i x d hx hd => ?_⟩
  rw [List.getElem?_map] at hx hd
  cases e : ns[i]? with
  | none => rw [e] at hx; cases hx
  | some n => rw [e] at hx hd; cases hx; cases hd; exact .int n
def tyN : PyData → String
  | .none => "NoneType"
  | .bool _ => "bool"
  | .int _ => "int"
  | .str _ => "str"
  | .list _ => "list"
  | .tuple _ => "tuple"
  | .dict _ => "dict"
theorem tyX_of {K : PySem.W.Frag} {d : PyData} {v : V} {S H : Hp} (h : Dt K d v S) (s : Same S H) : TyX K H v (.type (tyN d)) := by
  cases h with
  | non => exact .base .non
  | bl b => exact .base (.bl b)
  | int i => exact .base (.int i)
  | str x => exact .base (.str x)
  | lst h l z f => exact .base (.lst (s _ _ h))
  | tup h l z f =>
    have h := h.sq
    rcases h with (h | ⟨o, h⟩) | ⟨o, its, n, h, c, _⟩
    · exact .base (.tup (s _ _ h))
    · exact .fTuple (s _ _ h)
    · exact .kTuple h c
/-- what isinstance says of data -/
def isN (t T : String) : Bool := t == T || (t == "bool" && T == "int")
theorem kit_tab : (["NoneType", "bool", "int", "str", "list", "tuple", "dict"].all fun t => ["int", "bool", "str", "list", "tuple"].all fun T => decide (kitB t T = some (isN t T))) = true := by decide +kernel
def isD (d : PyData) (T : String) : Bool := isN (tyN d) T
theorem isD_ok (d : PyData) {T : String} (hT : T ∈ ["int", "bool", "str", "list", "tuple"]) : kitB (tyN d) T = some (isD d T) := by
  have h := List.all_eq_true.mp (List.all_eq_true.mp kit_tab (tyN d) (by cases d <;> simp [tyN])) T hT
  exact of_decide_eq_true h
theorem isDi (d : PyData) : isD d "int" = (match d with | .int _ => true | .bool _ => true | _ => false) := by cases d <;> rfl
theorem isDb (d : PyData) : isD d "bool" = (match d with | .bool _ => true | _ => false) := by cases d <;> rfl
theorem isDs (d : PyData) : isD d "str" = (match d with | .str _ => true | _ => false) := by cases d <;> rfl
theorem isDt (d : PyData) : isD d "tuple" = (match d with | .tuple _ => true | _ => false) := by cases d <;> rfl
section
variable {X : Cx} {σ : L2.St} {S S' : Hp} {e a b c : Expr} {es : List Expr} {P Pa Pb R : V → Hp → Prop} {Ps : List (V → Hp → Prop)} {pos p : Pos} {i j : Int} {d d1 d2 : PyData} {ds ds1 ds2 : List PyData} {k : Bool} {x : Str} {id T : String}
def ClE (r : List V → Hp → VK → Prop) (S : Hp) (Ps : List (V → Hp → Prop)) (R : V → Hp → Prop) : Prop := ∀ vs S1 H1, Same S S1 → Same S1 H1 → Al Ps vs S1 → ∀ Q : VK, (∀ v S2 H2, Gr S1 H1 S2 H2 → R v S2 → Q v H2) → r vs H1 Q
theorem ee_callA {t : List V → Hp → VK → Prop} (hp : PE X e (tCB t (bA X es))) (ha : EA X σ S es Ps) (hr : ClE t S Ps R) : EE X σ S e R := fun H s Q q =>
  he_of hp (ha.2 H s _ fun vs S1 H1 g1 al => hr vs S1 H1 g1.st g1.sub al Q fun v S2 H2 g2 rv => q v S2 H2 (g1.trans g2) rv)
theorem ee_callB {t : List V → Hp → VK → Prop} (hc : CallR X (.builtin id) t) (hm : X.mg x = none) (hv : bootBuiltins x = some (.builtin id)) (ha : EA X σ S (e :: es) Ps) (hr : ClE t S Ps R) (hg : Gl X x := by rfl) (hn : x ≠ "__name__" := by decide) (hdb : (x == ("__debug__" : Str)) = false := by decide)
    (he : starEach (e :: es) X.env = (false, eval e X.env) :: starEach es X.env := by rfl) (hpl : (backTo pos (starEach es X.env)).any (·.1) = false := by rfl) : EE X σ S (.Call (.Name x p) (e :: es) [] pos) R :=
  ee_callA (pe_callB hc hg hm hv pab hn hdb he hpl) ha hr
theorem ee_callTy {t : List V → Hp → VK → Prop} (hc : CallR X (.type T) t) (hm : X.mg x = none) (hv : bootBuiltins x = some (.type T)) (ha : EA X σ S (e :: es) Ps) (hr : ClE t S Ps R) (hg : Gl X x := by rfl) (hn : x ≠ "__name__" := by decide) (hdb : (x == ("__debug__" : Str)) = false := by decide)
    (he : starEach (e :: es) X.env = (false, eval e X.env) :: starEach es X.env := by rfl) (hpl : (backTo pos (starEach es X.env)).any (·.1) = false := by rfl) : EE X σ S (.Call (.Name x p) (e :: es) [] pos) R :=
  ee_callA (pe_callTy hc hg hm hv pab hn hdb he hpl) ha hr
theorem ea_1 [Mn P] (h : EE X σ S e P) (hs : starEach [e] X.env = (false, eval e X.env) :: starEach [] X.env := by rfl) : EA X σ S [e] [P] := ea_cons h ea_nil hs
theorem ea_2 [Mn Pa] [Mn Pb] (h : EE X σ S a Pa) (h2 : EE X σ S b Pb) (hs : starEach [a, b] X.env = (false, eval a X.env) :: starEach [b] X.env := by rfl) (hs2 : starEach [b] X.env = (false, eval b X.env) :: starEach [] X.env := by rfl) : EA X σ S [a, b] [Pa, Pb] := ea_cons h (ea_cons h2 ea_nil hs2) hs
theorem Al.one {Pa : V → Hp → Prop} {vs : List V} {H : Hp} (h : Al [Pa] vs H) : ∃ v, vs = [v] ∧ Pa v H := by
  cases h with
  | cons p r => cases r; exact ⟨_, rfl, p⟩
theorem Al.two {Pa Pb : V → Hp → Prop} {vs : List V} {H : Hp} (h : Al [Pa, Pb] vs H) : ∃ v w, vs = [v, w] ∧ Pa v H ∧ Pb w H := by
  cases h with
  | cons p r => cases r with
    | cons p2 r2 => cases r2; exact ⟨_, _, rfl, p, p2⟩
theorem Al.three {Pa Pb Pc : V → Hp → Prop} {vs : List V} {H : Hp} (h : Al [Pa, Pb, Pc] vs H) : ∃ v w u, vs = [v, w, u] ∧ Pa v H ∧ Pb w H ∧ Pc u H := by
  cases h with
  | cons p r => obtain ⟨w, u, rfl, q1, q2⟩ := Al.two r; exact ⟨_, _, _, rfl, p, q1, q2⟩
theorem ee_isi {cn : Str} {T : String} (hk : kitB (tyN d) T = some k) (hm : X.mg "isinstance" = none) (hmT : X.mg cn = none) (hv : bootBuiltins cn = some (.type T)) (ha : EE X σ S a (Dt X.K d)) {p2 : Pos} (hg : Gl X "isinstance" := by rfl) (hgT : Gl X cn := by rfl) (hn : cn ≠ "__name__" := by decide) (hdb : (cn == ("__debug__" : Str)) = false := by decide)
    (hs : starEach [a, .Name cn p2] X.env = (false, eval a X.env) :: starEach [.Name cn p2] X.env := by rfl) : EE X σ S (.Call (.Name "isinstance" p) [a, .Name cn p2] [] pos) (Dt X.K (.bool k)) := by
  haveI : Mn (fun (w : V) (_ : Hp) => w = .ty T) := ⟨fun _ h => h⟩
  refine ee_callB call_isi hm boot_isinstance (ea_2 ha (ee_bltn (P := fun w _ => w = .ty T) (v := .ty T) (u := .type T) hmT hv rfl rfl hgT hn hdb) hs rfl) (fun vs S1 H1 _ s al Q q => ?_) hg (he := hs) (hpl := by rfl)
  obtain ⟨v, w, rfl, pv, pw⟩ := al.two
  subst pw
  exact ⟨v, .ty T, .type (tyN d), .type T, k, rfl, .ty T, tyX_of pv s, kit_ty hk, q _ S1 H1 (Gr.refl s) (.bl k)⟩
/-- len -/
def lenD : PyData → Option Nat
  | .str x => some x.length
  | .list xs => some xs.length
  | .tuple xs => some xs.length
  | _ => none
theorem ee_len {n : Nat} (hm : X.mg "len" = none) (hl : lenD d = some n) (ha : EE X σ S a (Dt X.K d)) (hz : ∀ x, d = .str x → x.length ≤ sizeLine := by intro _ h; cases h) (hg : Gl X "len" := by rfl)
    (hs : starEach [a] X.env = (false, eval a X.env) :: starEach [] X.env := by rfl) : EE X σ S (.Call (.Name "len" p) [a] [] pos) (Dt X.K (.int n)) :=
  ee_callB call_len hm boot_len (ea_1 ha hs) (fun vs S1 H1 _ s al Q q => by
    obtain ⟨v, rfl, pv⟩ := al.one
    refine ⟨v, n, rfl, ?_, q _ S1 H1 (Gr.refl s) (.int _)⟩
    cases pv with
    | non => cases hl
    | bl b => cases hl
    | int i => cases hl
    | str x => cases hl; exact ⟨hz x rfl, rfl⟩
    | lst h l z f => cases hl; exact .inl ⟨_, sql_of (s _ _ h), l.symm⟩
    | tup h l z f => cases hl; exact .inr ⟨_, sqt_up s h.sq, l.symm⟩) hg (he := hs) (hpl := by rfl)
theorem ee_list (hm : X.mg "list" = none) (hd : d = .list ds ∨ d = .tuple ds) (ha : EE X σ S a (Dt X.K d)) (hg : Gl X "list" := by rfl)
    (hs : starEach [a] X.env = (false, eval a X.env) :: starEach [] X.env := by rfl) : EE X σ S (.Call (.Name "list" p) [a] [] pos) (Dt X.K (.list ds)) :=
  ee_callTy call_list_of hm boot_list (ea_1 ha hs) (fun vs S1 H1 _ s al Q q => by
    obtain ⟨v, rfl, pv⟩ := al.one
    rcases hd with rfl | rfl
    · obtain ⟨l, xs, rfl, hl, hx, z⟩ := pv.lst_inv
      exact ⟨l, xs, rfl, .inl (sql_of (s _ _ hl)), fun t ht => q _ _ _ (Gr.new s ht) (Dt.lst_mk upd_same (hx.up (Same.new (s.free ht))) z)⟩
    · obtain ⟨l, xs, rfl, hl, hx, z⟩ := pv.tup_inv
      exact ⟨l, xs, rfl, .inr (sqt_up s hl), fun t ht => q _ _ _ (Gr.new s ht) (Dt.lst_mk upd_same (hx.up (Same.new (s.free ht))) z)⟩) hg (he := hs) (hpl := by rfl)
theorem ee_all {bs : List Bool} (hc : X.calm = true) (hm : X.mg "all" = none) (ha : EE X σ S a (Dt X.K (.list (bs.map .bool)))) (hg : Gl X "all" := by rfl)
    (hs : starEach [a] X.env = (false, eval a X.env) :: starEach [] X.env := by rfl) : EE X σ S (.Call (.Name "all" p) [a] [] pos) (Dt X.K (.bool (bs.all fun b => b))) :=
  ee_callB (cr_all hc) hm boot_all (ea_1 ha hs) (fun vs S1 H1 _ s al Q q => by
    obtain ⟨v, rfl, pv⟩ := al.one
    obtain ⟨l, xs, rfl, hl, hx, z⟩ := pv.lst_inv
    rw [dts_bl hx] at hl
    exact ⟨l, bs, rfl, sql_of (s _ _ hl), q _ S1 H1 (Gr.refl s) (.bl _)⟩) hg (he := hs) (hpl := by rfl)
theorem ee_intOf (hm : X.mg "int" = none) (ha : EE X σ S a (Dt X.K (.int i))) (hg : Gl X "int" := by rfl)
    (hs : starEach [a] X.env = (false, eval a X.env) :: starEach [] X.env := by rfl) : EE X σ S (.Call (.Name "int" p) [a] [] pos) (Dt X.K (.int i)) :=
  ee_callTy call_int1 hm boot_int (ea_1 ha hs) (fun vs S1 H1 _ s al Q q => by
    obtain ⟨v, rfl, pv⟩ := al.one
    cases pv
    exact .inl ⟨i, rfl, q _ S1 H1 (Gr.refl s) (.int _)⟩) hg (he := hs) (hpl := by rfl)
/-! ### subscripts -/
theorem atI_dts {K : PySem.W.Frag} {xs : List V} {H : Hp} (h : Dts K ds xs H) (e : atI ds i = some d) : ∃ x, atI xs i = some x ∧ Dt K d x H := by
  unfold atI at e ⊢
  rw [h.1]
  cases q : ixN ds.length i with
  | none => rw [q] at e; cases e
  | some k =>
    rw [q] at e
    exact h.get (i := k) e
theorem ee_ixL (he : atI ds i = some d) (ha : EE X σ S a (Dt X.K (.list ds))) (hb : EE X σ S b (Dt X.K (.int i))) (hs : PlainIx b := by exact fun _ _ => rfl) : EE X σ S (.Subscript a b pos) (Dt X.K d) :=
  ee_2 (pe_ix ix_list peb peb hs) ha hb fun x y S1 H1 _ s px py Q q => by
    cases py
    obtain ⟨l, xs, rfl, hl, hx, z⟩ := px.lst_inv
    obtain ⟨x, h1, h2⟩ := atI_dts hx he
    exact ⟨l, xs, i, x, rfl, rfl, sql_of (s _ _ hl), h1, q _ S1 H1 (Gr.refl s) h2⟩
theorem ee_ixT (he : atI ds i = some d) (ha : EE X σ S a (Dt X.K (.tuple ds))) (hb : EE X σ S b (Dt X.K (.int i))) (hs : PlainIx b := by exact fun _ _ => rfl) : EE X σ S (.Subscript a b pos) (Dt X.K d) :=
  ee_2 (pe_ix ix_tup peb peb hs) ha hb fun x y S1 H1 _ s px py Q q => by
    cases py
    obtain ⟨l, xs, rfl, hl, hx, z⟩ := px.tup_inv
    obtain ⟨x, h1, h2⟩ := atI_dts hx he
    exact ⟨l, xs, i, x, rfl, rfl, sqt_up s hl, h1, q _ S1 H1 (Gr.refl s) h2⟩
theorem ee_ixS {z : Str} {c : Nat} (hz : z.length ≤ sizeLine) (he : atI z.cps.toList i = some c) (ha : EE X σ S a (Dt X.K (.str z))) (hb : EE X σ S b (Dt X.K (.int i))) (hs : PlainIx b := by exact fun _ _ => rfl) : EE X σ S (.Subscript a b pos) (Dt X.K (.str ⟨#[c]⟩)) :=
  ee_2 (pe_ix ix_str peb peb hs) ha hb fun x y S1 H1 _ s px py Q q => by
    cases px; cases py
    exact ⟨z, i, c, rfl, rfl, hz, he, q _ S1 H1 (Gr.refl s) (.str _)⟩
/-- slices -/
def EO (X : Cx) (σ : L2.St) (S : Hp) (e : Option Expr) (o : Option Int) : Prop := ∀ H, Same S H → ∀ Q : Option Int → Hp → Prop, (∀ S' H', Gr S H S' H' → Q o H') → ∃ t, PO X e t ∧ t σ H Q
def tOb (X : Cx) (e : Option Expr) : TO := fun σ H Q => ∃ t, PO X e t ∧ t σ H Q
theorem pob {e : Option Expr} : PO X e (tOb X e) := ⟨fun pins s σ H Q I ⟨t, ht, h⟩ => ht.run pins s σ H Q I h⟩
theorem eo_none : EO X σ S none none := fun H s Q q => ⟨_, po_none, q S H (Gr.refl s)⟩
theorem eo_some (h : EE X σ S e (Dt X.K (.int i))) : EO X σ S (some e) (some i) := fun H s Q q => ⟨_, po_some peb, h H s _ fun v S1 H1 g1 pv => by cases pv; exact ⟨i, rfl, q S1 H1 g1⟩⟩
theorem EO.up {o : Option Int} {oe : Option Expr} (s : Same S S') (h : EO X σ S oe o) : EO X σ S' oe o := fun H a Q q => h H (s.trans a) Q fun S2 H2 g => q (uniS S2 S') H2 (g.uni s a)
def cutD {α : Type} (xs : List α) (lo hi : Option Int) : List α := (xs.drop (HT.sIx xs.length 0 lo)).take (HT.sIx xs.length xs.length hi - HT.sIx xs.length 0 lo)
theorem cut_dts {K : PySem.W.Frag} {xs : List V} {H : Hp} {lo hi : Option Int} (h : Dts K ds xs H) : Dts K (cutD ds lo hi) (cutV xs lo hi) H := by
  unfold cutD cutV
  rw [h.1]
  refine ⟨by simp [List.length_take, List.length_drop, h.1], fun i x d hx hd => ?_⟩
  rw [List.getElem?_take] at hx hd
  split at hx
  · rename_i hlt
    rw [if_pos hlt, List.getElem?_drop] at hd
    rw [List.getElem?_drop] at hx
    exact h.2 _ x d hx hd
  · cases hx
theorem ee_slL {lo hi : Option Expr} {l u : Option Int} {p2 : Pos} (ha : EE X σ S a (Dt X.K (.list ds))) (hl : EO X σ S lo l) (hu : EO X σ S hi u) : EE X σ S (.Subscript a (.Slice lo hi none p2) pos) (Dt X.K (.list (cutD ds l u))) := fun H s Q q =>
  he_of (pe_slice sl_list peb pob pob) (ha H s _ fun v S1 H1 g1 pv => (hl.up g1.st) H1 g1.sub _ fun S2 H2 g2 => (hu.up (g1.st.trans g2.st)) H2 g2.sub _ fun S3 H3 g3 => by
    obtain ⟨l, xs, rfl, hl, hx, z⟩ := ((pv.up g2.st).up g3.st).lst_inv
    exact ⟨l, xs, rfl, sql_of (g3.sub _ _ hl), fun t ht => q _ _ _ (((g1.trans g2).trans g3).trans (Gr.new g3.sub ht)) (Dt.lst_mk upd_same ((cut_dts hx).up (Same.new (g3.sub.free ht))) (Nat.le_trans (cutV_length _ _ _) z))⟩)
theorem cutD_whole {α : Type} {xs : List α} {lo hi : Option Int} (h : HT.sIx xs.length 0 lo = 0 ∧ HT.sIx xs.length xs.length hi = xs.length) : cutD xs lo hi = xs := by
  unfold cutD
  rw [h.1, h.2]
  simp
theorem ee_slT {lo hi : Option Expr} {l u : Option Int} {p2 : Pos} (ha : EE X σ S a (Dt X.K (.tuple ds))) (hl : EO X σ S lo l) (hu : EO X σ S hi u) : EE X σ S (.Subscript a (.Slice lo hi none p2) pos) (Dt X.K (.tuple (cutD ds l u))) := fun H s Q q =>
  he_of (pe_slice sl_tupA peb pob pob) (ha H s _ fun v S1 H1 g1 pv => (hl.up g1.st) H1 g1.sub _ fun S2 H2 g2 => (hu.up (g1.st.trans g2.st)) H2 g2.sub _ fun S3 H3 g3 => by
    have pv3 := (pv.up g2.st).up g3.st
    obtain ⟨l, xs, rfl, hl, hx, z⟩ := pv3.tup_inv
    refine ⟨l, xs, rfl, sqt_up g3.sub hl, fun hw => ?_, fun _ t ht => q _ _ _ (((g1.trans g2).trans g3).trans (Gr.new g3.sub ht)) (Dt.tup_mk (tus_of upd_same) ((cut_dts hx).up (Same.new (g3.sub.free ht))) (Nat.le_trans (cutV_length _ _ _) z))⟩
    rw [hx.1] at hw
    rw [cutD_whole hw] at q
    exact q _ _ _ ((g1.trans g2).trans g3) pv3)
/-! ### + and * of sequences -/
theorem ee_catL (hz : ds1.length + ds2.length ≤ sizeLine) (ha : EE X σ S a (Dt X.K (.list ds1))) (hb : EE X σ S b (Dt X.K (.list ds2))) : EE X σ S (.BinOp a .Add b pos) (Dt X.K (.list (ds1 ++ ds2))) :=
  ee_op op_cat ha hb fun x y S1 H1 _ s px py Q q => by
    obtain ⟨l, xs, rfl, hl, hx, _⟩ := px.lst_inv
    obtain ⟨m, ys, rfl, hm, hy, _⟩ := py.lst_inv
    have hz' : xs.length + ys.length ≤ sizeLine := by rw [hx.1, hy.1]; exact hz
    exact ⟨l, m, xs, ys, rfl, rfl, s _ _ hl, s _ _ hm, hz', fun t ht => q _ _ _ (Gr.new s ht) (Dt.lst_mk upd_same ((hx.append hy).up (Same.new (s.free ht))) (by rw [List.length_append]; exact hz'))⟩
theorem dts_nil_iff {K : PySem.W.Frag} {xs : List V} {H : Hp} (h : Dts K ds xs H) : xs = [] ↔ ds = [] := by
  have := h.1
  constructor
  · intro e; subst e; exact List.length_eq_zero_iff.mp (by simpa using this.symm)
  · intro e; subst e; exact List.length_eq_zero_iff.mp (by simpa using this)
theorem ee_catT (hz : ds1.length + ds2.length ≤ sizeLine) (ha : EE X σ S a (Dt X.K (.tuple ds1))) (hb : EE X σ S b (Dt X.K (.tuple ds2))) : EE X σ S (.BinOp a .Add b pos) (Dt X.K (.tuple (ds1 ++ ds2))) :=
  ee_op op_catA ha hb fun x y S1 H1 _ s px py Q q => by
    have px0 := px
    have py0 := py
    obtain ⟨l, xs, rfl, hl, hx, _⟩ := px.tup_inv
    obtain ⟨m, ys, rfl, hm, hy, _⟩ := py.tup_inv
    have hz' : xs.length + ys.length ≤ sizeLine := by rw [hx.1, hy.1]; exact hz
    refine ⟨l, m, xs, ys, rfl, rfl, sqt_up s hl, sqt_up s hm, hz', fun e => ?_, fun _ e => ?_, fun _ _ t ht => q _ _ _ (Gr.new s ht) (Dt.tup_mk (tus_of upd_same) ((hx.append hy).up (Same.new (s.free ht))) (by rw [List.length_append]; exact hz'))⟩
    · rw [(dts_nil_iff hx).mp e] at q
      exact q _ _ _ (Gr.refl s) py0
    · rw [(dts_nil_iff hy).mp e, List.append_nil] at q
      exact q _ _ _ (Gr.refl s) px0
theorem flat_dts {K : PySem.W.Frag} {xs : List V} {H : Hp} (f : List.replicate 0 d = []) (h : Dts K ds xs H) : ∀ (n : Nat), Dts K (List.replicate n ds).flatten (List.replicate n xs).flatten H
  | 0 => .nil
  | n + 1 => by
    rw [List.replicate_succ, List.flatten_cons, List.replicate_succ, List.flatten_cons]
    exact h.append (flat_dts f h n)
theorem flatten_len {α : Type} (xs : List α) : ∀ n : Nat, (List.replicate n xs).flatten.length = xs.length * n
  | 0 => by simp
  | n + 1 => by rw [List.replicate_succ, List.flatten_cons, List.length_append, flatten_len xs n, Nat.mul_succ]; omega
theorem ee_repL (h1 : -(2 ^ 63) ≤ i) (h2 : i < 2 ^ 63) (hz : ds.length * i.toNat ≤ sizeLine) (ha : EE X σ S a (Dt X.K (.list ds))) (hb : EE X σ S b (Dt X.K (.int i))) : EE X σ S (.BinOp a .Mult b pos) (Dt X.K (.list (List.replicate i.toNat ds).flatten)) :=
  ee_op op_rep ha hb fun x y S1 H1 _ s px py Q q => by
    cases py
    obtain ⟨l, xs, rfl, hl, hx, _⟩ := px.lst_inv
    have hz' : xs.length * i.toNat ≤ sizeLine := by rw [hx.1]; exact hz
    exact ⟨l, i, xs, rfl, rfl, s _ _ hl, h1, h2, hz', fun t ht => q _ _ _ (Gr.new s ht) (Dt.lst_mk upd_same ((flat_dts (d := .none) rfl hx _).up (Same.new (s.free ht))) (by rw [flatten_len]; exact hz'))⟩
end
end Z
namespace Z
open PySem PySem.Spec PyProof.Rows L2
/-! ## 8. what is walked -/
/-- an iterator that gives, one by one, values that have the Ps; while B stands -/
def ItP (J : It) (B : Hp) (Ps : List (V → Hp → Prop)) : Prop := Walk J Ps.length (fun H => Same B H) (fun i H x H' => ∀ S, Same B S → Same S H → ∃ S', Gr S H S' H' ∧ ∃ P, Ps[i]? = some P ∧ P x S')
def EI (X : Cx) (σ : L2.St) (S : Hp) (tg iter : Expr) (Ps : List (V → Hp → Prop)) : Prop := ∀ H, Same S H → ∀ R : It → Hp → Prop, (∀ J S' H', Gr S H S' H' → ItP J S' Ps → R J H') → HI X tg iter σ H R
section
variable {X : Cx} {σ : L2.St} {S S' : Hp} {e a b tg : Expr} {pos p : Pos} {d d1 d2 : PyData} {ds ds1 ds2 : List PyData}
theorem EI.up {Ps : List (V → Hp → Prop)} {it : Expr} (s : Same S S') (h : EI X σ S tg it Ps) : EI X σ S' tg it Ps := fun H a R q => h H (s.trans a) R fun J S2 H2 g w => q J (uniS S2 S') H2 (g.uni s a)
  ⟨fun i H hi hs => w.goes i H hi (uni_l.trans hs), fun H hs => w.stops H (uni_l.trans hs), fun i H x H' hi hs y T st th => w.yields i H x H' hi (uni_l.trans hs) y T (uni_l.trans st) th⟩
theorem ds_get {K : PySem.W.Frag} {i : Nat} (h : ds[i]? = some d) : (Ds K ds)[i]? = some (Dt K d) := by unfold Ds; rw [List.getElem?_map, h]; rfl
theorem ds_len {K : PySem.W.Frag} : (Ds K ds).length = ds.length := by unfold Ds; simp
theorem ei_tup (ha : EE X σ S e (Dt X.K (.tuple ds))) : EI X σ S tg e (Ds X.K ds) := fun H s R q =>
  hi_of (pi_tup peb) (ha H s _ fun v S1 H1 g1 pv => by
    obtain ⟨l, xs, rfl, hl, hx, z⟩ := pv.tup_inv
    refine ⟨l, rfl, ⟨xs, sqt_up g1.sub hl⟩, q _ S1 H1 g1 ⟨fun i H hi hs => ?_, fun H hs => ?_, fun i H x H' hi hs y T st th => ?_⟩⟩
    · rw [ds_len, ← hx.1] at hi
      exact (walk_tup (K := X.K) (a := l) (xs := xs)).goes i H hi (sqt_up hs hl)
    · rw [ds_len, ← hx.1]
      exact (walk_tup (K := X.K) (a := l) (xs := xs)).stops H (sqt_up hs hl)
    · rw [ds_len, ← hx.1] at hi
      obtain ⟨rfl, hy⟩ := (walk_tup (K := X.K) (a := l) (xs := xs)).yields i H x H' hi (sqt_up hs hl) y
      have hi2 : i < ds.length := by rw [← hx.1]; exact hi
      exact ⟨T, Gr.refl th, _, ds_get (List.getElem?_eq_getElem hi2), (hx.2 i x _ hy (List.getElem?_eq_getElem hi2)).up st⟩)
/-- 0, 1, .. below n -/
def upto (n : Nat) : List PyData := (List.range n).map fun i => .int (i : Nat)
theorem upto_get {n i : Nat} (h : i < n) : (upto n)[i]? = some (.int (i : Nat)) := by unfold upto; rw [List.getElem?_map, List.getElem?_range h]; rfl
theorem upto_len {n : Nat} : (upto n).length = n := by unfold upto; simp
theorem ei_range {n : Nat} (hm : X.mg "range" = none) (hn : (n : Int) < 2 ^ 62) (ha : EE X σ S a (Dt X.K (.int (n : Nat)))) (hg : Gl X "range" := by rfl) (hs : starEach [a] X.env = [(false, eval a X.env)] := by rfl) : EI X σ S tg (.Call (.Name "range" p) [a] [] pos) (Ds X.K (upto n)) := fun H s R q =>
  hi_of (pi_range1 hg hm pab hs) ((ea_1 ha (by rw [hs]; rfl)).2 H s _ fun vs S1 H1 g1 al => by
    obtain ⟨v, rfl, pv⟩ := al.one
    cases pv
    refine ⟨(n : Int), rfl, by omega, hn, q _ S1 H1 g1 ⟨fun i H hi hs => ?_, fun H hs => ?_, fun i H x H' hi hs y T st th => ?_⟩⟩
    · rw [ds_len, upto_len] at hi
      show i < ((n : Int)).toNat
      omega
    · rw [ds_len, upto_len]
      show ((n : Int)).toNat ≤ n
      omega
    · rw [ds_len, upto_len] at hi
      obtain ⟨rfl, rfl⟩ : H' = H ∧ x = .int (0 + (i : Int)) := y
      rw [Int.zero_add]
      exact ⟨T, Gr.refl th, _, ds_get (upto_get hi), .int _⟩)
/-- pairs -/
def zipD (xs ys : List PyData) : List PyData := List.zipWith (fun x y => .tuple [x, y]) xs ys
theorem zipD_get {i : Nat} {x y : PyData} (h1 : ds1[i]? = some x) (h2 : ds2[i]? = some y) : (zipD ds1 ds2)[i]? = some (.tuple [x, y]) := by
  unfold zipD
  rw [List.getElem?_zipWith, h1, h2]
theorem pair_new {K : PySem.W.Frag} {T H : Hp} {x y : V} {t : Addr} (th : Same T H) (ht : H t = none) (h1 : Dt K d1 x T) (h2 : Dt K d2 y T) : Dt K (.tuple [d1, d2]) (.ref t) (upd T t (.tup [x, y])) :=
  Dt.tup_mk (tus_of upd_same) ((Dts.cons h1 (Dts.cons h2 .nil)).up (Same.new (th.free ht))) (by show 2 ≤ 16777216; decide)
theorem ei_zipT {elts : List Expr} {kk : Nat} {tpos : Pos} (hm : X.mg "zip" = none) (ha : EE X σ S a (Dt X.K (.tuple ds1))) (hb : EE X σ S b (Dt X.K (.tuple ds2))) (hg : Gl X "zip" := by rfl)
    (hs : starEach [a, b] X.env = (false, eval a X.env) :: starEach [b] X.env := by rfl) (hs2 : starEach [b] X.env = (false, eval b X.env) :: starEach [] X.env := by rfl) (hpl : (backTo pos (starEach [b] X.env)).any (·.1) = false := by rfl) :
    EI X σ S (.Tuple elts kk tpos) (.Call (.Name "zip" p) [a, b] [] pos) (Ds X.K (zipD ds1 ds2)) := fun H s R q =>
  hi_of (RZ.pi_zipA hg hm pab hs hpl) ((ea_2 ha hb hs hs2).2 H s _ fun vs S1 H1 g1 al => by
    obtain ⟨v, w, rfl, pv, pw⟩ := al.two
    obtain ⟨l, xs, rfl, hl, hx, _⟩ := pv.tup_inv
    obtain ⟨m, ys, rfl, hm, hy, _⟩ := pw.tup_inv
    have hlen : (Ds X.K (zipD ds1 ds2)).length = min xs.length ys.length := by rw [ds_len]; unfold zipD; rw [List.length_zipWith, hx.1, hy.1]
    refine ⟨l, m, xs, ys, rfl, .inr ⟨sqt_up g1.sub hl, sqt_up g1.sub hm, q _ S1 H1 g1 ⟨fun i H hi hs => ?_, fun H hs => ?_, fun i H x H' hi hs y T st th => ?_⟩⟩⟩
    · rw [hlen] at hi
      exact ⟨xs, ys, xs[i]'(by omega), ys[i]'(by omega), sqt_up hs hl, sqt_up hs hm, by simp [show i < xs.length by omega], by simp [show i < ys.length by omega]⟩
    · rw [hlen]
      exact ⟨xs, ys, sqt_up hs hl, sqt_up hs hm, by omega⟩
    · rw [hlen] at hi
      obtain ⟨t, x1, y1, rfl, ht, rfl, k1, k2⟩ := y
      have i1 : i < ds1.length := by rw [← hx.1]; omega
      have i2 : i < ds2.length := by rw [← hy.1]; omega
      exact ⟨_, Gr.new th ht, _, ds_get (zipD_get (List.getElem?_eq_getElem i1) (List.getElem?_eq_getElem i2)), pair_new th ht ((hx.2 i _ _ (k1 xs (sqt_up hs hl)) (List.getElem?_eq_getElem i1)).up st) ((hy.2 i _ _ (k2 ys (sqt_up hs hm)) (List.getElem?_eq_getElem i2)).up st)⟩)
theorem ei_zipL {elts : List Expr} {kk : Nat} {tpos : Pos} (hm : X.mg "zip" = none) (ha : EE X σ S a (Dt X.K (.list ds1))) (hb : EE X σ S b (Dt X.K (.list ds2))) (hg : Gl X "zip" := by rfl)
    (hs : starEach [a, b] X.env = (false, eval a X.env) :: starEach [b] X.env := by rfl) (hs2 : starEach [b] X.env = (false, eval b X.env) :: starEach [] X.env := by rfl) (hpl : (backTo pos (starEach [b] X.env)).any (·.1) = false := by rfl) :
    EI X σ S (.Tuple elts kk tpos) (.Call (.Name "zip" p) [a, b] [] pos) (Ds X.K (zipD ds1 ds2)) := fun H s R q =>
  hi_of (RZ.pi_zipA hg hm pab hs hpl) ((ea_2 ha hb hs hs2).2 H s _ fun vs S1 H1 g1 al => by
    obtain ⟨v, w, rfl, pv, pw⟩ := al.two
    obtain ⟨l, xs, rfl, hl, hx, _⟩ := pv.lst_inv
    obtain ⟨m, ys, rfl, hm, hy, _⟩ := pw.lst_inv
    have hlen : (Ds X.K (zipD ds1 ds2)).length = min xs.length ys.length := by rw [ds_len]; unfold zipD; rw [List.length_zipWith, hx.1, hy.1]
    refine ⟨l, m, xs, ys, rfl, .inl ⟨sql_of (g1.sub _ _ hl), sql_of (g1.sub _ _ hm), q _ S1 H1 g1 ⟨fun i H hi hs => ?_, fun H hs => ?_, fun i H x H' hi hs y T st th => ?_⟩⟩⟩
    · rw [hlen] at hi
      exact ⟨xs, ys, xs[i]'(by omega), ys[i]'(by omega), sql_of (hs _ _ hl), sql_of (hs _ _ hm), by simp [show i < xs.length by omega], by simp [show i < ys.length by omega]⟩
    · rw [hlen]
      exact ⟨xs, ys, sql_of (hs _ _ hl), sql_of (hs _ _ hm), by omega⟩
    · rw [hlen] at hi
      obtain ⟨t, x1, y1, rfl, ht, rfl, k1, k2⟩ := y
      have i1 : i < ds1.length := by rw [← hx.1]; omega
      have i2 : i < ds2.length := by rw [← hy.1]; omega
      exact ⟨_, Gr.new th ht, _, ds_get (zipD_get (List.getElem?_eq_getElem i1) (List.getElem?_eq_getElem i2)), pair_new th ht ((hx.2 i _ _ (k1 xs (sql_of (hs _ _ hl))) (List.getElem?_eq_getElem i1)).up st) ((hy.2 i _ _ (k2 ys (sql_of (hs _ _ hm))) (List.getElem?_eq_getElem i2)).up st)⟩)
def enumD (xs : List PyData) : List PyData := zipD (upto xs.length) xs
theorem ei_enumL {elts : List Expr} {kk : Nat} {tpos : Pos} (hm : X.mg "enumerate" = none) (ha : EE X σ S a (Dt X.K (.list ds))) (hg : Gl X "enumerate" := by rfl) (hs : starEach [a] X.env = [(false, eval a X.env)] := by rfl) :
    EI X σ S (.Tuple elts kk tpos) (.Call (.Name "enumerate" p) [a] [] pos) (Ds X.K (enumD ds)) := fun H s R q =>
  hi_of (pi_enum hg hm pab hs) ((ea_1 ha (by rw [hs]; rfl)).2 H s _ fun vs S1 H1 g1 al => by
    obtain ⟨v, rfl, pv⟩ := al.one
    obtain ⟨l, xs, rfl, hl, hx, _⟩ := pv.lst_inv
    have hlen : (Ds X.K (enumD ds)).length = xs.length := by rw [ds_len]; unfold enumD zipD; rw [List.length_zipWith, upto_len, hx.1]; omega
    refine ⟨l, xs, rfl, sql_of (g1.sub _ _ hl), q _ S1 H1 g1 ⟨fun i H hi hs => ?_, fun H hs => ?_, fun i H x H' hi hs y T st th => ?_⟩⟩
    · rw [hlen] at hi
      exact ⟨xs, xs[i], sql_of (hs _ _ hl), by simp [hi]⟩
    · rw [hlen]
      exact ⟨xs, sql_of (hs _ _ hl), Nat.le_refl _⟩
    · rw [hlen] at hi
      obtain ⟨t, x1, rfl, ht, rfl, k1⟩ := y
      have i1 : i < ds.length := by rw [← hx.1]; omega
      exact ⟨_, Gr.new th ht, _, ds_get (zipD_get (upto_get i1) (List.getElem?_eq_getElem i1)), pair_new th ht (.int _) ((hx.2 i _ _ (k1 xs (sql_of (hs _ _ hl))) (List.getElem?_eq_getElem i1)).up st)⟩)
def strD (z : Str) : List PyData := z.cps.toList.map fun c => .str ⟨#[c]⟩
theorem ei_str {z : Str} (ha : EE X σ S e (Dt X.K (.str z))) (he : PI X tg e (iStr (bE X e)) := by exact pi_str peb) : EI X σ S tg e (Ds X.K (strD z)) := fun H s R q =>
  hi_of he (ha H s _ fun v S1 H1 g1 pv => by
    cases pv
    have hlen : (Ds X.K (strD z)).length = z.cps.size := by rw [ds_len]; unfold strD; simp
    refine ⟨z, rfl, q _ S1 H1 g1 ⟨fun i H hi hs => ?_, fun H hs => ?_, fun i H x H' hi hs y T st th => ?_⟩⟩
    · rw [hlen] at hi; exact hi
    · rw [hlen]; exact Nat.le_refl _
    · rw [hlen] at hi
      obtain ⟨rfl, c, hc, rfl⟩ := y
      refine ⟨T, Gr.refl th, _, ds_get (d := .str ⟨#[c]⟩) ?_, .str _⟩
      unfold strD
      rw [List.getElem?_map, Array.getElem?_toList, hc]
      rfl)
end
/-! ## 9. list comprehensions -/
def Ex (K : PySem.W.Frag) (F : PyData → Prop) : V → Hp → Prop := fun v S => ∃ d, F d ∧ Dt K d v S
instance {K : PySem.W.Frag} {F : PyData → Prop} : Mn (Ex K F) := ⟨fun s ⟨d, f, h⟩ => ⟨d, f, h.up s⟩⟩
def HTs (X : Cx) (ifs : List Expr) (σ : L2.St) (H : Hp) (Q : Bool → Hp → Prop) : Prop := ∀ (pins : List (Addr × Obj)) (s : Shared), Inv X pins σ H s →
    wpAny (model X.prog X.w) X.A (forIn ifs true fun c r => if r = true then do let ok ← isTrue c X.env (eval c X.env); pure (ForInStep.yield ok) else pure (ForInStep.yield r)) (TP X pins σ Q) X.xe s
def ETs (X : Cx) (σ : L2.St) (S : Hp) (ifs : List Expr) (b : Bool) : Prop := ∀ H, Same S H → ∀ Q : Bool → Hp → Prop, (∀ S' H', Gr S H S' H' → Q b H') → HTs X ifs σ H Q
theorem ets_nil {X : Cx} {σ : L2.St} {S : Hp} : ETs X σ S [] true := fun H s Q q pins sh I => pts_nil.run pins sh σ H Q I (q S H (Gr.refl s))
/-- a target that takes the value: the slots behind -/
def EG (X : Cx) (S : Hp) (tg : Expr) (v : V) (σ τ : L2.St) : Prop := ∀ H, Same S H → ∀ Q : L2.St → Hp → Prop, Q τ H → HG X tg v σ H Q
theorem eg_name {X : Cx} {S : Hp} {v : V} {σ : L2.St} {i : Nat} {x : Str} {pos : Pos} (hN : X.N.Nodup) (hi : X.N[i]? = some x) (hx : Loc X.env.scope x) (hf : X.fn x = true ∨ X.env.scope.names.lookup x = some .local := by first | exact .inl rfl | exact .inr rfl | assumption) : EG X S (.Name x pos) v σ (σ.set i (some v)) := fun H _ Q q => hg_of (pg_name hN hi hx hf) q
/-- two names from a pair -/
theorem eg_pair {X : Cx} {S : Hp} {d1 d2 : PyData} {v : V} {σ : L2.St} {i j : Nat} {x y : Str} {px py pos : Pos} {kk : Nat} (hc : X.calm = true) (hN : X.N.Nodup) (hi : X.N[i]? = some x) (hj : X.N[j]? = some y) (hx : Loc X.env.scope x) (hy : Loc X.env.scope y) (h : Dt X.K (.tuple [d1, d2]) v S)
    (hfx : X.fn x = true ∨ X.env.scope.names.lookup x = some .local := by first | exact .inl rfl | exact .inr rfl) (hfy : X.fn y = true ∨ X.env.scope.names.lookup y = some .local := by first | exact .inl rfl | exact .inr rfl)
    (hn : (assignEach [.Name x px, .Name y py] X.env).length = 2 := by rfl) (hst : (assignEach [.Name x px, .Name y py] X.env).findIdx? (·.1) = none := by rfl)
    (h1 : (assignEach [.Name x px, .Name y py] X.env).map (·.2) = assign (.Name x px) X.env :: (assignEach [.Name y py] X.env).map (·.2) := by rfl) (h2 : (assignEach [.Name y py] X.env).map (·.2) = assign (.Name y py) X.env :: (assignEach [] X.env).map (·.2) := by rfl) :
    ∃ v1 v2, Dt X.K d1 v1 S ∧ Dt X.K d2 v2 S ∧ EG X S (.Tuple [.Name x px, .Name y py] kk pos) v σ ((σ.set i (some v1)).set j (some v2)) := by
  obtain ⟨l, xs, rfl, hl, hx', _⟩ := h.tup_inv
  obtain ⟨v1, e1, p1⟩ := hx'.get (i := 0) rfl
  obtain ⟨v2, e2, p2⟩ := hx'.get (i := 1) rfl
  have hxs : xs = [v1, v2] := by
    have hl2 := hx'.1
    match xs, hl2 with
    | [u, w], _ => simp at e1 e2; rw [e1, e2]
  subst hxs
  exact ⟨v1, v2, p1, p2, fun H s Q q => hg_of (pg_tup hc (pgs_cons (pg_name hN hi hx hfx) (pgs_cons (pg_name hN hj hy hfy) pgs_nil h2) h1) hn hst) ⟨l, _, rfl, sqt_up s hl, rfl, _, _, rfl, _, _, rfl, rfl, q⟩⟩
theorem paired_snoc {α β : Type} {G : α → β → Prop} : ∀ {l : List α} {r : List β} {x : α} {y : β}, Paired G l r → G x y → Paired G (l ++ [x]) (r ++ [y])
  | _, _, _, _, .nil, h => .cons h .nil
  | _, _, _, _, .cons g t, h => .cons g (paired_snoc t h)
theorem paired_map {α β : Type} {f : α → β} : ∀ {l : List α} {r : List β}, Paired (fun a b => b = f a) l r → r = l.map f
  | _, _, .nil => rfl
  | _, _, .cons g t => by rw [g, paired_map t]; rfl
theorem take_snoc {α : Type} {l : List α} {i : Nat} {x : α} (h : l[i]? = some x) : l.take (i + 1) = l.take i ++ [x] := by
  rw [List.take_add_one, h]
  rfl
def gBlk (X : Cx) (scope : Scope) (tg : Expr) : TG := fun v σ' H' Q' => ∀ (s : Shared) (H0 : Hp) (C : Addr) (cl : List (Str × Addr)) (fp : List Addr), HG (X.blk s H0 scope (compEnvC scope cl C X.env) fp) tg v σ' H' Q'
def tBlk (X : Cx) (scope : Scope) (ifs : List Expr) : TT := fun σ' H' Q' => ∀ (s : Shared) (H0 : Hp) (C : Addr) (cl : List (Str × Addr)) (fp : List Addr), HTs (X.blk s H0 scope (compEnvC scope cl C X.env) fp) ifs σ' H' Q'
def eBlk (X : Cx) (scope : Scope) (e : Expr) : TE := fun σ' H' Q' => ∀ (s : Shared) (H0 : Hp) (C : Addr) (cl : List (Str × Addr)) (fp : List Addr), HE (X.blk s H0 scope (compEnvC scope cl C X.env) fp) e σ' H' Q'
section
variable {X : Cx} {σ : L2.St} {S : Hp} {elt tg iter : Expr} {ifs : List Expr} {scope : Scope} {own : List (Str × Nat)} {pos : Pos} {ds : List PyData} {p : PyData → Bool} {G : PyData → PyData → Prop}
theorem lc_loopG (hz : ds.length ≤ sizeLine)
    (hel : ∀ d ∈ ds, ∀ v S', Same S S' → Dt X.K d v S' → ∃ τ, wipe τ (own.map (·.2)) = wipe σ (own.map (·.2)) ∧ ∀ (s : Shared) (H0 : Hp) (C : Addr) (cl : List (Str × Addr)) (fp : List Addr),
      EG (X.blk s H0 scope (compEnvC scope cl C X.env) fp) S' tg v (wipe σ (own.map (·.2))) τ ∧ ETs (X.blk s H0 scope (compEnvC scope cl C X.env) fp) τ S' ifs (p d) ∧ (p d = true → EE (X.blk s H0 scope (compEnvC scope cl C X.env) fp) τ S' elt (Ex X.K (G d)))) {H : Hp} (Q : VK) (q : ∀ v S' H', Gr S H S' H' → (∃ rs, Paired G (ds.filter p) rs ∧ Dt X.K (.list rs) v S') → Q v H') {J : It} {S1 H1 : Hp} (g1 : Gr S H S1 H1) (it : ItP J S1 (Ds X.K ds)) :
    ∀ D, H1 D = none → ∃ W : Nat → Nat → Hp → Prop, (∃ m, W 0 m (upd H1 D (.lst []))) ∧ ∀ i m H, W i m H →
      (J.stop i H ∧ Q (.ref D) H) ∨ (J.go i H ∧ ∃ Nx : Hp → Prop, (∀ H', Nx H' → ∃ m', m' < m ∧ W (i + 1) m' H') ∧ ∀ x H', J.yld i H x H' → gBlk X scope tg x (wipe σ (own.map (·.2))) H' fun σ2 H2 => wipe σ2 (own.map (·.2)) = wipe σ (own.map (·.2)) ∧ tBlk X scope ifs σ2 H2 fun b H3 =>
        if b = true then eBlk X scope elt σ2 H3 fun y H4 => ∃ acc, H4 D = some (.lst acc) ∧ acc.length < sizeLine ∧ Nx (upd H4 D (.lst (acc ++ [y]))) else Nx H3) := by
  intro D hD
  have hD1 : S1 D = none := g1.sub.free hD
  have hlen : (Ds X.K ds).length = ds.length := ds_len
  refine lc_it (g := gBlk X scope tg) (tt := tBlk X scope ifs) (te := eBlk X scope elt) (vs := own.map (·.2)) (σ := σ) (Qd := Q (.ref D)) it (fun i H' => ∃ S' xs rs, Same S1 S' ∧ Same S' H' ∧ Same H1 H' ∧ (∀ a o, H1 a = some o → NT o → S' a = S1 a) ∧ S' D = none ∧ H' D = some (.lst xs) ∧ Paired G ((ds.take i).filter p) rs ∧ Dts X.K rs xs S' ∧ xs.length ≤ i)
    ⟨S1, [], [], Same.refl _, Same.mut g1.sub hD1, Same.new hD, fun _ _ _ _ => rfl, hD1, upd_same, .nil, .nil, Nat.le_refl _⟩ (fun i H' _ ⟨S', _, _, a, b, _⟩ => a.trans b) ?_ ?_
  · intro i x H2 H3 hi2 ⟨S2, xs, rs, k1, k2, k3, k4, k5, k6, k7, k8, k9⟩ y
    rw [hlen] at hi2
    obtain ⟨S3, g3, P, hP, px⟩ := y S2 k1 k2
    obtain ⟨d, hd⟩ : ∃ d, ds[i]? = some d := ⟨ds[i], List.getElem?_eq_getElem hi2⟩
    rw [ds_get hd] at hP
    obtain rfl := Option.some.inj hP
    have sS3 : Same S S3 := g1.st.trans (k1.trans g3.st)
    obtain ⟨τ, hw, hb⟩ := hel d (List.mem_of_getElem? hd) x S3 sS3 px
    have hf : ∀ q, p d = q → (ds.take (i + 1)).filter p = (ds.take i).filter p ++ (if q = true then [d] else []) := fun q hq => by
      rw [take_snoc hd, List.filter_append]
      cases q with
      | true => simp [hq]
      | false => simp [hq]
    intro sh H0 C cl fp
    refine (hb sh H0 C cl fp).1 H3 g3.sub _ ⟨hw, ?_⟩
    intro sh' H0' C' cl' fp'
    refine (hb sh' H0' C' cl' fp').2.1 H3 g3.sub _ fun S4 H4 g4 => ?_
    have g34 := g3.trans g4
    cases hpd : p d with
    | false =>
      refine iteF ⟨S4, xs, rs, k1.trans g34.st, g34.sub, k3.trans g34.hh, fun a o h n => (g34.old a o (k3 a o h) n).trans (k4 a o h n), (g34.old D _ k6 (fun _ z => nomatch z)).trans k5, g34.hh _ _ k6, ?_, k8.up g34.st, by omega⟩
      rw [hf false hpd]
      simpa using k7
    | true =>
      refine iteT ?_
      intro sh'' H0'' C'' cl'' fp''
      refine ((hb sh'' H0'' C'' cl'' fp'').2.2 hpd).up g4.st H4 g4.sub _ fun w S5 H5 g5 ⟨r, hr, hrw⟩ => ?_
      have g := g34.trans g5
      have hD5 : S5 D = none := (g.old D _ k6 (fun _ z => nomatch z)).trans k5
      refine ⟨xs, g.hh _ _ k6, Nat.lt_of_le_of_lt k9 (Nat.lt_of_lt_of_le hi2 hz), S5, xs ++ [w], rs ++ [r], k1.trans g.st, Same.mut g.sub hD5, fun a o h => ?_, fun a o h n => (g.old a o (k3 a o h) n).trans (k4 a o h n), hD5, upd_same, ?_, (k8.up g.st).snoc hrw, by rw [List.length_append]; show xs.length + 1 ≤ i + 1; omega⟩
      · rw [upd_ne (ne_of_none h hD)]; exact g.hh _ _ (k3 a o h)
      · rw [hf true hpd]
        exact paired_snoc k7 hr
  · intro H2 ⟨S2, xs, rs, k1, k2, k3, k4, k5, k6, k7, k8, k9⟩
    rw [hlen] at k7 k9
    rw [List.take_length] at k7
    refine q _ (upd S2 D (.lst xs)) H2 (g1.trans ⟨k1.trans (Same.new k5), fun a o h => ?_, k3, fun a o h n => by rw [upd_ne (ne_of_none h hD)]; exact k4 a o h n⟩) ⟨rs, k7, Dt.lst_mk upd_same (k8.up (Same.new k5)) (Nat.le_trans k9 hz)⟩
    by_cases ha : a = D
    · subst ha; rw [upd_same] at h; rw [k6]; exact h
    · rw [upd_ne ha] at h; exact k2 a o h
theorem lc_readG (hi : EI X σ S tg iter (Ds X.K ds)) (hz : ds.length ≤ sizeLine)
    (hel : ∀ d ∈ ds, ∀ v S', Same S S' → Dt X.K d v S' → ∃ τ, wipe τ (own.map (·.2)) = wipe σ (own.map (·.2)) ∧ ∀ (s : Shared) (H0 : Hp) (C : Addr) (cl : List (Str × Addr)) (fp : List Addr),
      EG (X.blk s H0 scope (compEnvC scope cl C X.env) fp) S' tg v (wipe σ (own.map (·.2))) τ ∧ ETs (X.blk s H0 scope (compEnvC scope cl C X.env) fp) τ S' ifs (p d) ∧ (p d = true → EE (X.blk s H0 scope (compEnvC scope cl C X.env) fp) τ S' elt (Ex X.K (G d)))) {H : Hp} (s : Same S H) (Q : VK) (q : ∀ v S' H', Gr S H S' H' → (∃ rs, Paired G (ds.filter p) rs ∧ Dt X.K (.list rs) v S') → Q v H') :
    tLc (bI X tg iter) (gBlk X scope tg) (tBlk X scope ifs) (eBlk X scope elt) (own.map (·.2)) σ H Q := hi H s _ fun J S1 H1 g1 it => lc_loopG hz hel Q q g1 it
theorem ee_lcG (hc : X.calm = true) (hN : X.N.Nodup) (ok : BlkOk X.N X.env.scope scope own) (hi : EI X σ S tg iter (Ds X.K ds)) (hz : ds.length ≤ sizeLine)
    (hel : ∀ d ∈ ds, ∀ v S', Same S S' → Dt X.K d v S' → ∃ τ, wipe τ (own.map (·.2)) = wipe σ (own.map (·.2)) ∧ ∀ (s : Shared) (H0 : Hp) (C : Addr) (cl : List (Str × Addr)) (fp : List Addr),
      EG (X.blk s H0 scope (compEnvC scope cl C X.env) fp) S' tg v (wipe σ (own.map (·.2))) τ ∧ ETs (X.blk s H0 scope (compEnvC scope cl C X.env) fp) τ S' ifs (p d) ∧ (p d = true → EE (X.blk s H0 scope (compEnvC scope cl C X.env) fp) τ S' elt (Ex X.K (G d))))
    (hs : ∀ x, foldedSetIterable iter X.env x = pure x := by intro _; rfl) :
    EE X σ S (.ListComp elt [⟨tg, iter, ifs, 0⟩] scope pos) (fun v S' => ∃ rs, Paired G (ds.filter p) rs ∧ Dt X.K (.list rs) v S') := fun H s Q q =>
  he_of (pe_lc (own := own) (wi := bI X tg iter) (g := gBlk X scope tg) (tt := tBlk X scope ifs) (te := eBlk X scope elt) hc hN pib ok
    (fun s H0 C cl fp => ⟨fun pins sh σ' H' v u Q' I r h => h s H0 C cl fp pins sh u I r⟩) (fun s H0 C cl fp => ⟨fun pins sh σ' H' Q' I h => h s H0 C cl fp pins sh I⟩) (fun s H0 C cl fp => ⟨fun pins sh σ' H' Q' I h => h s H0 C cl fp pins sh I⟩) hs) (lc_readG hi hz hel s Q q)
/-- each item by a function, under a test -/
theorem fun_of_G {f : PyData → PyData} {v : V} {S' : Hp} {K : PySem.W.Frag} (h : ∃ rs, Paired (fun d r => r = f d) (ds.filter p) rs ∧ Dt K (.list rs) v S') : Dt K (.list ((ds.filter p).map f)) v S' := by
  obtain ⟨rs, h1, h2⟩ := h
  rw [paired_map h1] at h2
  exact h2
end
end Z
namespace Z
open PySem PySem.Spec PyProof.Rows L2
/-! ## 10. statements -/
section
variable {X : Cx} {σ : L2.St} {S H : Hp} {e a b c : Expr} {P : V → Hp → Prop} {pos p : Pos} {D : Ends} {rest body orelse : List Stmt} {k : Bool} {st : Stmt} {d d1 d2 : PyData} {ds : List PyData}
theorem hs_cons {t : TS} (h : PS X st t) (q : t { D with nx := fun σ' H' => HS X D rest σ' H' } σ H) : HS X D (st :: rest) σ H := hs_of (pss_cons h psb) q
theorem hs_nil (q : D.nx σ H) : HS X D [] σ H := hs_of pss_nil q
theorem hs_set {i : Nat} {x : Str} {pos' : Pos} (h : EE X σ S e P) (s : Same S H) (hN : X.N.Nodup) (q : ∀ v S' H', Gr S H S' H' → P v S' → HS X D rest (σ.set i (some v)) H') (hi : X.N[i]? = some x := by rfl) (hx : Loc X.env.scope x := by first | exact Or.inl rfl | exact Or.inr rfl)
    (hs : swapsWith e (some (.Name x pos')) pos.line X.env = pure false := by rfl) (hf : X.fn x = true ∨ X.env.scope.names.lookup x = some .local := by first | exact .inl rfl | exact .inr rfl | assumption) : HS X D (.Assign [.Name x pos'] e pos :: rest) σ H :=
  hs_cons (ps_set hN hi hx peb hs hf) (h H s _ fun v S' H' g pv => q v S' H' g pv)
theorem hs_ret (h : EE X σ S e P) (s : Same S H) (q : ∀ v S' H', Gr S H S' H' → P v S' → D.rt v H') : HS X D (.Return (some e) pos :: rest) σ H := hs_cons (ps_ret peb) (h H s _ q)
theorem hs_expr (h : EE X σ S e P) (s : Same S H) (q : ∀ v S' H', Gr S H S' H' → P v S' → HS X D rest σ H') (hs : swapsWith e none pos.line X.env = pure false := by rfl) : HS X D (.Expr e pos :: rest) σ H := hs_cons (ps_expr peb hs) (h H s _ q)
/-- the ends of a block that stands ahead of rest -/
def Dn (X : Cx) (D : Ends) (rest : List Stmt) : Ends := { D with nx := fun σ' H' => HS X D rest σ' H' }
theorem hs_if (h : ET X σ S c k) (s : Same S H) (qt : k = true → ∀ S' H', Gr S H S' H' → HS X (Dn X D rest) body σ H') (qf : k = false → ∀ S' H', Gr S H S' H' → HS X (Dn X D rest) orelse σ H') : HS X D (.If c body orelse pos :: rest) σ H :=
  hs_cons (ps_if ptb psb psb) (h H s _ fun S' H' g => by
    cases k with
    | true => exact iteT (qt rfl S' H' g)
    | false => exact iteF (qf rfl S' H' g))
theorem hs_ifT (h : ET X σ S c true) (s : Same S H) (q : ∀ S' H', Gr S H S' H' → HS X (Dn X D rest) body σ H') : HS X D (.If c body orelse pos :: rest) σ H := hs_if h s (fun _ => q) (fun z => nomatch z)
/-- not taken, and there is no else -/
theorem hs_ifN (h : ET X σ S c false) (s : Same S H) (q : ∀ S' H', Gr S H S' H' → HS X D rest σ H') : HS X D (.If c body [] pos :: rest) σ H := hs_if h s (fun z => nomatch z) (fun _ S' H' g => hs_nil (q S' H' g))
theorem mn_eq {v : V} : Mn (fun (w : V) (_ : Hp) => w = v) := ⟨fun _ h => h⟩
theorem hs_mono {D' : Ends} {st : List Stmt} (h : HS X D st σ H) (h1 : ∀ σ H, D.nx σ H → D'.nx σ H) (h2 : ∀ v H, D.rt v H → D'.rt v H) (h3 : ∀ σ H, D.bk σ H → D'.bk σ H) (h4 : ∀ σ H, D.ct σ H → D'.ct σ H) : HS X D' st σ H := fun pins s I => thn (h pins s I) fun f s' q => by
  cases f with
  | next => obtain ⟨σ', H', I', z⟩ := q; exact ⟨σ', H', I', h1 _ _ z⟩
  | brk => obtain ⟨σ', H', I', z⟩ := q; exact ⟨σ', H', I', h3 _ _ z⟩
  | cont => obtain ⟨σ', H', I', z⟩ := q; exact ⟨σ', H', I', h4 _ _ z⟩
  | ret u => obtain ⟨v, σ', H', I', r, z⟩ := q; exact ⟨v, σ', H', I', r, h2 _ _ z⟩
/-- the ends of a turn: Iv again behind it -/
def Dl (X : Cx) (D : Ends) (rest : List Stmt) (S H : Hp) (Iv : L2.St → Hp → Prop) : Ends :=
  { D with nx := fun σ' H' => ∃ S', Gr S H S' H' ∧ Iv σ' S', ct := fun σ' H' => ∃ S', Gr S H S' H' ∧ Iv σ' S', bk := fun σ' H' => HS X D rest σ' H' }
/-- for, nothing that stands is changed -/
theorem hs_for {tg iter : Expr} {Ps : List (V → Hp → Prop)} (Iv : Nat → L2.St → Hp → Prop) (hp : PassesOwn (model X.prog X.w) X.A X.env X.xe) (hc : X.calm = true) (hi : EI X σ S tg iter Ps) (s : Same S H) (h0 : ∀ S' H', Gr S H S' H' → Iv 0 σ S')
    (step : ∀ i P σ1 S1 H1 x S2 H2, Ps[i]? = some P → Gr S H S1 H1 → Iv i σ1 S1 → Gr S1 H1 S2 H2 → P x S2 → HG X tg x σ1 H2 fun σ3 H3 => HS X (Dl X D rest S2 H2 (Iv (i + 1))) body σ3 H3)
    (done : ∀ σ1 S1 H1, Gr S H S1 H1 → Iv Ps.length σ1 S1 → HS X D rest σ1 H1)
    (hs : ∀ x, foldedSetIterable iter X.env x = pure x := by intro _; rfl) : HS X D (.For tg iter body [] pos :: rest) σ H :=
  hs_cons (ps_for hp hc pib pgb psb hs) (hi H s _ fun J S1 H1 g1 it => for_it (g := bG X tg) (tb := bS X body) it (fun i σ' H' => ∃ S', Gr S1 H1 S' H' ∧ Iv i σ' S') ⟨S1, Gr.refl g1.sub, h0 S1 H1 g1⟩ (fun i σ' H' _ ⟨S', g, _⟩ => g.st.trans g.sub)
    (fun i x σ' H2 H3 hlt ⟨S2, g2, iv⟩ y => by
      obtain ⟨S3, g3, P, hP, px⟩ := y S2 g2.st g2.sub
      intro pins sh u I r
      refine thn ((step i P σ' S2 H2 x S3 H3 hP (g1.trans g2) iv g3 px) pins sh u I r) fun _ s' ⟨σ4, H4, I4, q4⟩ => ⟨σ4, H4, I4, ?_⟩
      exact hs_mono q4 (fun σ5 H5 ⟨S5, g5, iv5⟩ => ⟨S5, g2.trans (g3.trans g5), iv5⟩) (fun _ _ z => z) (fun _ _ z => z) (fun σ5 H5 ⟨S5, g5, iv5⟩ => ⟨S5, g2.trans (g3.trans g5), iv5⟩)) (fun σ' H' ⟨S', g, iv⟩ => done σ' S' H' (g1.trans g) iv))
end
/-! ## 11. defs -/
/-- a def that is known: where it stands, what it promises (no exception leaves it) -/
structure KD (P : Program) (w : World) (K : PySem.W.Frag) (mg : Str → Option Value) (base : Heap) (x : Str) (k : Nat) (sp : Sp) : Prop where
  ex : ∃ f fd ps, FnOk P w K mg base CX0 k f fd ps sp ∧ mg x = some (.ref f) ∧ PySem.W.keepIn K (.ref f) = true ∧ Binds K fd ps []
theorem KD.mono {P : Program} {w : World} {K : PySem.W.Frag} {mg : Str → Option Value} {base : Heap} {x : Str} {j k : Nat} {sp : Sp} (h : KD P w K mg base x j sp) (hk : j ≤ k) : KD P w K mg base x k sp := by
  obtain ⟨f, fd, ps, F, r⟩ := h.ex
  exact ⟨f, fd, ps, F.mono hk, r⟩
section
variable {X : Cx} {σ : L2.St} {S S' : Hp} {e a b c : Expr} {es : List Expr} {P R : V → Hp → Prop} {Ps : List (V → Hp → Prop)} {pos p : Pos} {k : Nat} {x : Str} {sp : Sp} {d : PyData} {ds : List PyData}
def SpE (sp : Sp) (S : Hp) (Ps : List (V → Hp → Prop)) (R : V → Hp → Prop) : Prop := ∀ vs S1 H1, Same S S1 → Same S1 H1 → Al Ps vs S1 → ∀ Q : VK, (∀ v S2 H2, Gr S1 H1 S2 H2 → R v S2 → Q v H2) → sp vs H1 Q E0
theorem ee_call (D : KD X.prog X.w X.K X.mg X.base x k sp) (hr : Room k X.A) (ha : EA X σ S (e :: es) Ps) (hsp : SpE sp S Ps R) (hg : Gl X x := by rfl) (hdb : (x == ("__debug__" : Str)) = false := by decide)
    (he : starEach (e :: es) X.env = (false, eval e X.env) :: starEach es X.env := by rfl) (hpl : (backTo pos (starEach es X.env)).any (·.1) = false := by rfl) : EE X σ S (.Call (.Name x p) (e :: es) [] pos) R := fun H s Q q => by
  obtain ⟨f, fd, ps, F, hm, hk, hb⟩ := D.ex
  refine he_of (pe_call F hr hg hm hk hb .nil pass0 pab hdb he hpl) (ha.2 H s _ fun vs S1 H1 g1 al => ?_)
  rw [List.append_nil]
  exact hsp vs S1 H1 g1.st g1.sub al Q fun v S2 H2 g2 rv => q v S2 H2 (g1.trans g2) rv
/-- a def of data: F tells what it gives -/
def spD (K : PySem.W.Frag) (F : List PyData → PyData → Prop) : Sp := fun vs H Q _ => ∃ S ds d, Same S H ∧ Dts K ds vs S ∧ F ds d ∧ ∀ v S' H', Gr S H S' H' → Dt K d v S' → Q v H'
theorem spD_E {F : List PyData → PyData → Prop} (hF : F ds d) : SpE (spD X.K F) S (Ds X.K ds) (Dt X.K d) := fun vs S1 H1 _ s al Q q => ⟨S1, ds, d, s, al_dts al, hF, q⟩
theorem ee_callD {F : List PyData → PyData → Prop} (D : KD X.prog X.w X.K X.mg X.base x k (spD X.K F)) (hr : Room k X.A) (hF : F ds d) (ha : EA X σ S (e :: es) (Ds X.K ds)) (hg : Gl X x := by rfl) (hdb : (x == ("__debug__" : Str)) = false := by decide)
    (he : starEach (e :: es) X.env = (false, eval e X.env) :: starEach es X.env := by rfl) (hpl : (backTo pos (starEach es X.env)).any (·.1) = false := by rfl) : EE X σ S (.Call (.Name x p) (e :: es) [] pos) (Dt X.K d) :=
  ee_call D hr ha (spD_E hF) hg hdb he hpl
end
section
variable {P : Program} {w : World} {K : PySem.W.Frag} {mg : Str → Option Value} {base : Heap} {x qual : Str} {params : Arguments} {body : List Stmt} {scope : Scope} {dvs : List V} {kws : List (Str × V)} {f : Addr} {fd : FuncData} {N ps : List Str} {k : Nat} {sp : Sp}
/-- a def by its body -/
theorem fn_hs (F : FunD K x qual params body scope dvs kws f fd) (Sc : FnScope N ps scope) (len : ∀ vs H Q E, sp vs H Q E → vs.length = ps.length)
    (hb : ∀ (cdv : Value) (A : Around) (outer : List Env) (s : Shared) (H : Hp) (vs : List V) (Q : VK) (E : XK), Room k (A.deeper (envOfC qual scope s.heap.objs.size f cdv)) → sp vs H Q E →
      HS (cxOf CX0 P w K mg base N qual scope f cdv A outer s H E).nox { nx := fun _ H' => Q .non H', rt := Q } body (start N vs) H) : FnOk P w K mg base CX0 (k + 1) f fd ps sp :=
  F.ok Sc len fun cdv A outer s H vs Q E hr h => ⟨_, PSs.nox psb, hb cdv A outer s H vs Q E hr h⟩
theorem kd_mk (F : FunD K x qual params body scope [] kws f fd) (G : FnOk P w K mg base CX0 k f fd ps sp) (hm : mg x = some (.ref f)) (hb : Binds K fd ps []) : KD P w K mg base x k sp := ⟨f, fd, ps, G, hm, F.kp, hb⟩
end
end Z
namespace Z
open PySem PySem.Spec PyProof.Rows L2
theorem Dts.one {K : PySem.W.Frag} {d : PyData} {vs : List V} {S : Hp} (h : Dts K [d] vs S) : ∃ v, vs = [v] ∧ Dt K d v S := (dts_al h).one
theorem Dts.two {K : PySem.W.Frag} {d e : PyData} {vs : List V} {S : Hp} (h : Dts K [d, e] vs S) : ∃ v w, vs = [v, w] ∧ Dt K d v S ∧ Dt K e w S := (dts_al h).two
theorem Dts.three {K : PySem.W.Frag} {d e g : PyData} {vs : List V} {S : Hp} (h : Dts K [d, e, g] vs S) : ∃ v w u, vs = [v, w, u] ∧ Dt K d v S ∧ Dt K e w S ∧ Dt K g u S := (dts_al h).three
end Z
namespace Z
open PySem PySem.Spec PyProof.Rows L2
/-! ## 12. comprehensions in short -/
def tupP (q : PyData × PyData) : PyData := .tuple [q.1, q.2]
theorem zipD_eq (xs ys : List PyData) : zipD xs ys = (xs.zip ys).map tupP := by
  unfold zipD
  rw [List.zip_eq_zipWith, List.map_zipWith]
  rfl
section
variable {X : Cx} {σ : L2.St} {S : Hp} {elt iter : Expr} {ifs : List Expr} {scope : Scope} {pos px py tp : Pos} {ds : List PyData} {ps : List (PyData × PyData)} {α : Type} {enc : α → PyData} {i j kk : Nat} {x y : Str}
theorem wipe1 {σ : L2.St} {i : Nat} {v : Option V} : wipe ((wipe σ [i]).set i v) [i] = wipe σ [i] := by
  show (((σ.set i none).set i v).set i none) = σ.set i none
  rw [List.set_set, List.set_set]
theorem filter_true {α : Type} (l : List α) : l.filter (fun _ => true) = l := by
  induction l with
  | nil => rfl
  | cons a l ih => rw [List.filter_cons]; simp
/-- [elt for x in iter if t] -/
theorem ee_lcf {p : PyData → Bool} {f : PyData → α} (hc : X.calm = true) (hN : X.N.Nodup) (ok : BlkOk X.N X.env.scope scope [(x, i)]) (hi : EI X σ S (.Name x px) iter (Ds X.K ds)) (hz : ds.length ≤ sizeLine)
    (hel : ∀ d ∈ ds, ∀ v S', Same S S' → Dt X.K d v S' → ∀ (s : Shared) (H0 : Hp) (C : Addr) (cl : List (Str × Addr)) (fp : List Addr),
      ETs (X.blk s H0 scope (compEnvC scope cl C X.env) fp) ((wipe σ [i]).set i (some v)) S' ifs (p d) ∧ (p d = true → EE (X.blk s H0 scope (compEnvC scope cl C X.env) fp) ((wipe σ [i]).set i (some v)) S' elt (Dt X.K (enc (f d)))))
    (hix : X.N[i]? = some x := by rfl) (hx : ∀ (s : Shared) (H0 : Hp) (C : Addr) (cl : List (Str × Addr)) (fp : List Addr), Loc (X.blk s H0 scope (compEnvC scope cl C X.env) fp).env.scope x ∧ ((X.blk s H0 scope (compEnvC scope cl C X.env) fp).fn x = true ∨ (X.blk s H0 scope (compEnvC scope cl C X.env) fp).env.scope.names.lookup x = some .local) := by
      intros; exact ⟨by first | exact Or.inl rfl | exact Or.inr rfl, by first | exact .inl rfl | exact .inr rfl⟩)
    (hs : ∀ x, foldedSetIterable iter X.env x = pure x := by intro _; rfl) :
    EE X σ S (.ListComp elt [⟨.Name x px, iter, ifs, 0⟩] scope pos) (Dt X.K (.list (((ds.filter p).map f).map enc))) := by
  refine (ee_lcG (own := [(x, i)]) (p := p) (G := fun d r => r = enc (f d)) hc hN ok hi hz (fun d hd v S' s hv => ⟨(wipe σ [i]).set i (some v), wipe1, fun sh H0 C cl fp => ?_⟩) hs).imp fun v S' h => ?_
  · obtain ⟨h1, h2⟩ := hel d hd v S' s hv sh H0 C cl fp
    obtain ⟨k1, k2⟩ := hx sh H0 C cl fp
    exact ⟨eg_name hN hix k1 k2, h1, fun hp => (h2 hp).imp fun w S2 hw => ⟨_, rfl, hw⟩⟩
  · have e : (ds.filter p).map (fun d => enc (f d)) = ((ds.filter p).map f).map enc := by rw [List.map_map]; rfl
    rw [← e]
    exact fun_of_G h
/-- [elt for x in iter] -/
theorem ee_lc {f : PyData → α} (hc : X.calm = true) (hN : X.N.Nodup) (ok : BlkOk X.N X.env.scope scope [(x, i)]) (hi : EI X σ S (.Name x px) iter (Ds X.K ds)) (hz : ds.length ≤ sizeLine)
    (hel : ∀ d ∈ ds, ∀ v S', Same S S' → Dt X.K d v S' → ∀ (s : Shared) (H0 : Hp) (C : Addr) (cl : List (Str × Addr)) (fp : List Addr), EE (X.blk s H0 scope (compEnvC scope cl C X.env) fp) ((wipe σ [i]).set i (some v)) S' elt (Dt X.K (enc (f d))))
    (hix : X.N[i]? = some x := by rfl) (hx : ∀ (s : Shared) (H0 : Hp) (C : Addr) (cl : List (Str × Addr)) (fp : List Addr), Loc (X.blk s H0 scope (compEnvC scope cl C X.env) fp).env.scope x ∧ ((X.blk s H0 scope (compEnvC scope cl C X.env) fp).fn x = true ∨ (X.blk s H0 scope (compEnvC scope cl C X.env) fp).env.scope.names.lookup x = some .local) := by
      intros; exact ⟨by first | exact Or.inl rfl | exact Or.inr rfl, by first | exact .inl rfl | exact .inr rfl⟩)
    (hs : ∀ x, foldedSetIterable iter X.env x = pure x := by intro _; rfl) :
    EE X σ S (.ListComp elt [⟨.Name x px, iter, [], 0⟩] scope pos) (Dt X.K (.list ((ds.map f).map enc))) :=
  (ee_lcf (p := fun _ => true) hc hN ok hi hz (fun d hd v S' s hv sh H0 C cl fp => ⟨ets_nil, fun _ => hel d hd v S' s hv sh H0 C cl fp⟩) hix hx hs).is (by rw [filter_true])
/-- [elt for x in iter], elements that are not fixed -/
theorem ee_lcN {F : PyData → PyData → Prop} (hc : X.calm = true) (hN : X.N.Nodup) (ok : BlkOk X.N X.env.scope scope [(x, i)]) (hi : EI X σ S (.Name x px) iter (Ds X.K ds)) (hz : ds.length ≤ sizeLine)
    (hel : ∀ d ∈ ds, ∀ v S', Same S S' → Dt X.K d v S' → ∀ (s : Shared) (H0 : Hp) (C : Addr) (cl : List (Str × Addr)) (fp : List Addr), EE (X.blk s H0 scope (compEnvC scope cl C X.env) fp) ((wipe σ [i]).set i (some v)) S' elt (Ex X.K (F d)))
    (hix : X.N[i]? = some x := by rfl) (hx : ∀ (s : Shared) (H0 : Hp) (C : Addr) (cl : List (Str × Addr)) (fp : List Addr), Loc (X.blk s H0 scope (compEnvC scope cl C X.env) fp).env.scope x ∧ ((X.blk s H0 scope (compEnvC scope cl C X.env) fp).fn x = true ∨ (X.blk s H0 scope (compEnvC scope cl C X.env) fp).env.scope.names.lookup x = some .local) := by
      intros; exact ⟨by first | exact Or.inl rfl | exact Or.inr rfl, by first | exact .inl rfl | exact .inr rfl⟩)
    (hs : ∀ x, foldedSetIterable iter X.env x = pure x := by intro _; rfl) :
    EE X σ S (.ListComp elt [⟨.Name x px, iter, [], 0⟩] scope pos) (Ex X.K fun d => ∃ rs, d = .list rs ∧ Paired F ds rs) := by
  refine (ee_lcG (own := [(x, i)]) (p := fun _ => true) (G := F) hc hN ok hi hz (fun d hd v S' s hv => ⟨(wipe σ [i]).set i (some v), wipe1, fun sh H0 C cl fp => ?_⟩) hs).imp fun v S' h => ?_
  · obtain ⟨k1, k2⟩ := hx sh H0 C cl fp
    exact ⟨eg_name hN hix k1 k2, ets_nil, fun _ => hel d hd v S' s hv sh H0 C cl fp⟩
  · obtain ⟨rs, h1, h2⟩ := h
    rw [filter_true] at h1
    exact ⟨_, ⟨rs, rfl, h1⟩, h2⟩
theorem wipe2 {σ : L2.St} {i j : Nat} {v w : Option V} (hij : i ≠ j) : wipe (((wipe σ [i, j]).set i v).set j w) [i, j] = wipe σ [i, j] := by
  show ((((((σ.set j none).set i none).set i v).set j w).set j none).set i none) = ((σ.set j none).set i none)
  rw [List.set_set, List.set_set, List.set_comm _ _ hij, List.set_set, List.set_set]
/-- [elt for x, y in iter if t] -/
theorem ee_lc2f {p : PyData × PyData → Bool} {f : PyData × PyData → α} (hc : X.calm = true) (hN : X.N.Nodup) (ok : BlkOk X.N X.env.scope scope [(x, i), (y, j)]) (hi : EI X σ S (.Tuple [.Name x px, .Name y py] kk tp) iter (Ds X.K (ps.map tupP))) (hz : ps.length ≤ sizeLine)
    (hel : ∀ q ∈ ps, ∀ v w S', Same S S' → Dt X.K q.1 v S' → Dt X.K q.2 w S' → ∀ (s : Shared) (H0 : Hp) (C : Addr) (cl : List (Str × Addr)) (fp : List Addr),
      ETs (X.blk s H0 scope (compEnvC scope cl C X.env) fp) (((wipe σ [i, j]).set i (some v)).set j (some w)) S' ifs (p q) ∧ (p q = true → EE (X.blk s H0 scope (compEnvC scope cl C X.env) fp) (((wipe σ [i, j]).set i (some v)).set j (some w)) S' elt (Dt X.K (enc (f q)))))
    (hij : i ≠ j := by decide) (hix : X.N[i]? = some x := by rfl) (hjy : X.N[j]? = some y := by rfl) (hx : ∀ (s : Shared) (H0 : Hp) (C : Addr) (cl : List (Str × Addr)) (fp : List Addr), (Loc (X.blk s H0 scope (compEnvC scope cl C X.env) fp).env.scope x ∧ ((X.blk s H0 scope (compEnvC scope cl C X.env) fp).fn x = true ∨ (X.blk s H0 scope (compEnvC scope cl C X.env) fp).env.scope.names.lookup x = some .local)) ∧
      (Loc (X.blk s H0 scope (compEnvC scope cl C X.env) fp).env.scope y ∧ ((X.blk s H0 scope (compEnvC scope cl C X.env) fp).fn y = true ∨ (X.blk s H0 scope (compEnvC scope cl C X.env) fp).env.scope.names.lookup y = some .local)) := by
      intros; exact ⟨⟨by first | exact Or.inl rfl | exact Or.inr rfl, by first | exact .inl rfl | exact .inr rfl⟩, ⟨by first | exact Or.inl rfl | exact Or.inr rfl, by first | exact .inl rfl | exact .inr rfl⟩⟩)
    (ha : ∀ (s : Shared) (H0 : Hp) (C : Addr) (cl : List (Str × Addr)) (fp : List Addr), (assignEach [.Name x px, .Name y py] (X.blk s H0 scope (compEnvC scope cl C X.env) fp).env).length = 2 ∧ (assignEach [.Name x px, .Name y py] (X.blk s H0 scope (compEnvC scope cl C X.env) fp).env).findIdx? (·.1) = none ∧
      (assignEach [.Name x px, .Name y py] (X.blk s H0 scope (compEnvC scope cl C X.env) fp).env).map (·.2) = assign (.Name x px) (X.blk s H0 scope (compEnvC scope cl C X.env) fp).env :: (assignEach [.Name y py] (X.blk s H0 scope (compEnvC scope cl C X.env) fp).env).map (·.2) ∧ (assignEach [.Name y py] (X.blk s H0 scope (compEnvC scope cl C X.env) fp).env).map (·.2) = assign (.Name y py) (X.blk s H0 scope (compEnvC scope cl C X.env) fp).env :: (assignEach [] (X.blk s H0 scope (compEnvC scope cl C X.env) fp).env).map (·.2) := by intros; exact ⟨rfl, rfl, rfl, rfl⟩)
    (hs : ∀ x, foldedSetIterable iter X.env x = pure x := by intro _; rfl) :
    EE X σ S (.ListComp elt [⟨.Tuple [.Name x px, .Name y py] kk tp, iter, ifs, 0⟩] scope pos) (Dt X.K (.list (((ps.filter p).map f).map enc))) := by
  have e0 : ∀ q ∈ ps.map tupP, ∃ r ∈ ps, q = tupP r := fun q hq => by
    obtain ⟨r, h1, h2⟩ := List.mem_map.mp hq
    exact ⟨r, h1, h2.symm⟩
  let un : PyData → PyData × PyData := fun d => match d with
    | .tuple [a, b] => (a, b)
    | _ => (.none, .none)
  have un_t : ∀ q, un (tupP q) = q := fun q => rfl
  refine (ee_lcG (own := [(x, i), (y, j)]) (p := fun d => p (un d)) (G := fun d r => r = enc (f (un d))) hc hN ok hi (by rw [List.length_map]; exact hz) (fun d hd v S' s hv => ?_) hs).imp fun v S' h => ?_
  · obtain ⟨q, hq, rfl⟩ := e0 d hd
    obtain ⟨l, xs, rfl, hl, hx', _⟩ := hv.tup_inv
    obtain ⟨v1, e1, p1⟩ := hx'.get (i := 0) (d := q.1) rfl
    obtain ⟨v2, e2, p2⟩ := hx'.get (i := 1) (d := q.2) rfl
    have hxs : xs = [v1, v2] := by
      have hl2 := hx'.1
      match xs, hl2 with
      | [u, w], _ => simp at e1 e2; rw [e1, e2]
    subst hxs
    refine ⟨((wipe σ [i, j]).set i (some v1)).set j (some v2), wipe2 hij, fun sh H0 C cl fp => ?_⟩
    obtain ⟨h1, h2⟩ := hel q hq v1 v2 S' s p1 p2 sh H0 C cl fp
    obtain ⟨⟨k1, k2⟩, ⟨k3, k4⟩⟩ := hx sh H0 C cl fp
    obtain ⟨a1, a2, a3, a4⟩ := ha sh H0 C cl fp
    refine ⟨fun H s2 Q qq => ?_, h1, fun hp => (h2 hp).imp fun w S2 hw => ⟨_, rfl, hw⟩⟩
    exact hg_of (pg_tup hc (pgs_cons (pg_name hN hix k1 k2) (pgs_cons (pg_name hN hjy k3 k4) pgs_nil a4) a3) a1 a2) ⟨l, _, rfl, sqt_up s2 hl, rfl, _, _, rfl, _, _, rfl, rfl, qq⟩
  · have h3 := fun_of_G (f := fun d => enc (f (un d))) (p := fun d => p (un d)) h
    have e : ((ps.map tupP).filter fun d => p (un d)).map (fun d => enc (f (un d))) = ((ps.filter p).map f).map enc := by
      rw [List.filter_map, List.map_map, List.map_map]
      rfl
    rw [← e]
    exact h3
/-- [elt for x, y in iter] -/
theorem ee_lc2 {f : PyData × PyData → α} (hc : X.calm = true) (hN : X.N.Nodup) (ok : BlkOk X.N X.env.scope scope [(x, i), (y, j)]) (hi : EI X σ S (.Tuple [.Name x px, .Name y py] kk tp) iter (Ds X.K (ps.map tupP))) (hz : ps.length ≤ sizeLine)
    (hel : ∀ q ∈ ps, ∀ v w S', Same S S' → Dt X.K q.1 v S' → Dt X.K q.2 w S' → ∀ (s : Shared) (H0 : Hp) (C : Addr) (cl : List (Str × Addr)) (fp : List Addr), EE (X.blk s H0 scope (compEnvC scope cl C X.env) fp) (((wipe σ [i, j]).set i (some v)).set j (some w)) S' elt (Dt X.K (enc (f q))))
    (hij : i ≠ j := by decide) (hix : X.N[i]? = some x := by rfl) (hjy : X.N[j]? = some y := by rfl) (hx : ∀ (s : Shared) (H0 : Hp) (C : Addr) (cl : List (Str × Addr)) (fp : List Addr), (Loc (X.blk s H0 scope (compEnvC scope cl C X.env) fp).env.scope x ∧ ((X.blk s H0 scope (compEnvC scope cl C X.env) fp).fn x = true ∨ (X.blk s H0 scope (compEnvC scope cl C X.env) fp).env.scope.names.lookup x = some .local)) ∧
      (Loc (X.blk s H0 scope (compEnvC scope cl C X.env) fp).env.scope y ∧ ((X.blk s H0 scope (compEnvC scope cl C X.env) fp).fn y = true ∨ (X.blk s H0 scope (compEnvC scope cl C X.env) fp).env.scope.names.lookup y = some .local)) := by
      intros; exact ⟨⟨by first | exact Or.inl rfl | exact Or.inr rfl, by first | exact .inl rfl | exact .inr rfl⟩, ⟨by first | exact Or.inl rfl | exact Or.inr rfl, by first | exact .inl rfl | exact .inr rfl⟩⟩)
    (ha : ∀ (s : Shared) (H0 : Hp) (C : Addr) (cl : List (Str × Addr)) (fp : List Addr), (assignEach [.Name x px, .Name y py] (X.blk s H0 scope (compEnvC scope cl C X.env) fp).env).length = 2 ∧ (assignEach [.Name x px, .Name y py] (X.blk s H0 scope (compEnvC scope cl C X.env) fp).env).findIdx? (·.1) = none ∧
      (assignEach [.Name x px, .Name y py] (X.blk s H0 scope (compEnvC scope cl C X.env) fp).env).map (·.2) = assign (.Name x px) (X.blk s H0 scope (compEnvC scope cl C X.env) fp).env :: (assignEach [.Name y py] (X.blk s H0 scope (compEnvC scope cl C X.env) fp).env).map (·.2) ∧ (assignEach [.Name y py] (X.blk s H0 scope (compEnvC scope cl C X.env) fp).env).map (·.2) = assign (.Name y py) (X.blk s H0 scope (compEnvC scope cl C X.env) fp).env :: (assignEach [] (X.blk s H0 scope (compEnvC scope cl C X.env) fp).env).map (·.2) := by intros; exact ⟨rfl, rfl, rfl, rfl⟩)
    (hs : ∀ x, foldedSetIterable iter X.env x = pure x := by intro _; rfl) :
    EE X σ S (.ListComp elt [⟨.Tuple [.Name x px, .Name y py] kk tp, iter, [], 0⟩] scope pos) (Dt X.K (.list ((ps.map f).map enc))) :=
  (ee_lc2f (p := fun _ => true) hc hN ok hi hz (fun q hq v w S' s hv hw sh H0 C cl fp => ⟨ets_nil, fun _ => hel q hq v w S' s hv hw sh H0 C cl fp⟩) hij hix hjy hx ha hs).is (by rw [filter_true])
end
end Z
namespace Z
open PySem PySem.Spec PyProof.Rows L2
/-! ## 13. the law's box: an object known by what holds of it alone -/
def Stab (b : Addr) (φ : Heap → Prop) : Prop := ∀ h1 h2 : Heap, φ h1 → (∀ o, h1.get? b = some o → h2.get? b = some o) → φ h2
section
variable {P : Program} {w : World} {H : Hp} {h : Heap} {b : Addr} {φ : Heap → Prop} {xs : List V}
theorem hok_swap {o o' : HO} (x : HOk P w H h) (hb : H b = some o) (no : ∀ a, o ≠ .own a) (nt : ∀ xs, o ≠ .tup xs) (new : ObjOk P w (upd H b o') h b o') : HOk P w (upd H b o') h := fun a u e => by
  by_cases ha : a = b
  · subst ha; rw [upd_same] at e; cases e; exact new
  · rw [upd_ne ha] at e
    refine (x a u e).stay (fun _ _ _ q => q) (fun c q => ?_) fun c ys q => ?_
    · rw [upd_ne (fun z => by subst z; rw [hb] at q; exact no a (Option.some.inj q))]; exact q
    · rw [upd_ne (fun z => by subst z; rw [hb] at q; exact nt ys (Option.some.inj q))]; exact q
end
theorem un_swap {fs ex : List Addr} {H H1 H2 H3 : Hp} {h h' : Heap} (u : Un fs ex H1 H2 h h') (k1 : ∀ a, H a = none → H1 a = none) (k2 : ∀ a, H a = none → H2 a = none → H3 a = none)
    (kt : ∀ a xs, H a = some (.tup xs) → H3 a = some (.tup xs)) (kf : ∀ a o x, H a = some (.frz o x) → H3 a = some (.frz o x)) (kb : ∀ a ps, H a = some (.tbl ps) → ∃ more, H3 a = some (.tbl (ps ++ more))) : Un fs ex H H3 h h' where
  keep := fun a o q n => u.keep a o q (k1 a n)
  slot := fun a o q n => u.slot a o q (k1 a n)
  free := fun a o q n x => k2 a n (u.free a o q (k1 a n) x)
  there := u.there
  tups := kt
  frzs := kf
  tbls := kb
section
variable {P : Program} {w : World} {K : PySem.W.Frag} {mg : Str → Option Value} {base : Heap} {k : Nat} {f : Addr} {fd : FuncData} {ps : List Str} {sp0 sp : Sp}
/-- a def over the list at b, for callers that know b by φ -/
theorem FnOk.box (F : FnOk P w K mg base CX0 k f fd ps sp0) (len : ∀ vs H Q E, sp vs H Q E → vs.length = ps.length)
    (hc : ∀ vs H Q E, sp vs H Q E → ∃ (b : Addr) (φ : Heap → Prop), H b = some (.ext φ) ∧ ∀ h, φ h → ∃ xs, ObjOk P w H h b (.lst xs) ∧
      sp0 vs (upd H b (.lst xs)) (fun v H' => ∃ ys, H' b = some (.lst ys) ∧ (∀ h', ObjOk P w H' h' b (.lst ys) → φ h') ∧ (∀ a o, H a = some o → a ≠ b → H' a = some o) ∧ Q v (upd H' b (.ext φ))) E0) : FnOk P w K mg base CX0 k f fd ps sp := by
  refine ⟨len, fun A outer s H args us vs Q E hr e0 hb rv hsp => ?_⟩
  obtain ⟨b, φ, hbo, hc⟩ := hc vs H Q E hsp
  obtain ⟨p, ⟨ob, hob⟩, st⟩ := e0.hok b _ hbo
  obtain ⟨xs, hx, hs0⟩ := hc s.heap p
  have ne : ∀ a, H a = none → a ≠ b := fun a n z => by rw [z, hbo] at n; cases n
  have e1 : Env0 P w K mg base A outer s (upd H b (.lst xs)) := ⟨e0.frames, e0.mod, fun a o q => ⟨(e0.bs a o q).1, by rw [upd_ne (ne a (e0.bs a o q).2)]; exact (e0.bs a o q).2⟩, e0.bsz, e0.funs, fun a ha => by rw [upd_ne (ne a (e0.frf a ha))]; exact e0.frf a ha,
    hok_swap e0.hok hbo (fun _ z => nomatch z) (fun _ z => nomatch z) hx, e0.bare⟩
  refine codeAny_mono (F.run A outer s _ args us vs _ E0 hr e1 hb rv hs0) fun r s' hq => ?_
  cases r with
  | error e => exact hq
  | ok fl =>
    cases fl with
    | ret u =>
      obtain ⟨v, H', os, bare, un, hok, r, ys, hy, hφ, hsm, q⟩ := hq
      refine ⟨v, upd H' b (.ext φ), os, bare, ?_, ?_, r, q⟩
      · refine un_swap un (fun a n => by rw [upd_ne (ne a n)]; exact n) (fun a n n2 => by rw [upd_ne (ne a n)]; exact n2) (fun a ys e => ?_) (fun a o x e => ?_) fun a ps e => ?_
        · have hne : a ≠ b := fun z => by rw [z, hbo] at e; cases e
          rw [upd_ne hne]; exact hsm a _ e hne
        · have hne : a ≠ b := fun z => by rw [z, hbo] at e; cases e
          rw [upd_ne hne]; exact hsm a _ e hne
        · have hne : a ≠ b := fun z => by rw [z, hbo] at e; cases e
          refine ⟨#[], ?_⟩
          rw [upd_ne hne, Array.append_empty]; exact hsm a _ e hne
      · have ox := hok b _ hy
        refine hok_swap hok hy (fun _ z => nomatch z) (fun _ z => nomatch z) ⟨hφ _ ox, ?_, st⟩
        obtain ⟨_, its, n, _, e⟩ := ox
        exact ⟨_, e⟩
    | next => exact hq
    | brk => exact hq
    | cont => exact hq
/-- a def that hands back a new list, for callers that know it by φ -/
theorem FnOk.close (F : FnOk P w K mg base CX0 k f fd ps sp0) (len : ∀ vs H Q E, sp vs H Q E → vs.length = ps.length)
    (hc : ∀ vs H Q E, sp vs H Q E → sp0 vs H (fun v H' => ∃ b ys φ, H b = none ∧ H' b = some (.lst ys) ∧ Same H H' ∧ (∀ h', ObjOk P w H' h' b (.lst ys) → φ h') ∧ Stab b φ ∧ Q v (upd H' b (.ext φ))) E0) : FnOk P w K mg base CX0 k f fd ps sp := by
  refine ⟨len, fun A outer s H args us vs Q E hr e0 hb rv hsp => ?_⟩
  refine codeAny_mono (F.run A outer s _ args us vs _ E0 hr e0 hb rv (hc vs H Q E hsp)) fun r s' hq => ?_
  cases r with
  | error e => exact hq
  | ok fl =>
    cases fl with
    | ret u =>
      obtain ⟨v, H', os, bare, un, hok, r, b, ys, φ, hn, hy, hs, hφ, st, q⟩ := hq
      refine ⟨v, upd H' b (.ext φ), os, bare, ?_, ?_, r, q⟩
      · refine un_swap un (fun _ n => n) (fun a n n2 => by rw [upd_ne (fun z => by rw [z, hy] at n2; cases n2)]; exact n2) (fun a ys e => ?_) (fun a o x e => ?_) fun a ps e => ?_
        · rw [upd_ne (ne_of_none e hn)]; exact hs _ _ e
        · rw [upd_ne (ne_of_none e hn)]; exact hs _ _ e
        · refine ⟨#[], ?_⟩
          rw [upd_ne (ne_of_none e hn), Array.append_empty]; exact hs _ _ e
      · have ox := hok b _ hy
        refine hok_swap hok hy (fun _ z => nomatch z) (fun _ z => nomatch z) ⟨hφ _ ox, ?_, st⟩
        obtain ⟨_, its, n, _, e⟩ := ox
        exact ⟨_, e⟩
    | next => exact hq
    | brk => exact hq
    | cont => exact hq
end
/-- what the box holds: the cells, the place, a great rest, a mixed number, a count -/
structure BoxV (c : Addr) (xs : List V) : Prop where
  ex : ∃ i g m k : Int, xs = [.ref c, .int i, .int g, .int m, .int k] ∧ 0 ≤ i ∧ 0 ≤ g ∧ 0 ≤ m ∧ m < 2147483648 ∧ 0 ≤ k
def boxPhi (b c : Addr) : Heap → Prop := fun h => ∃ (xs : List V) (its : List Value) (n : Nat), BoxV c xs ∧ Vals xs its ∧ h.get? b = some { cls := .type "list", data := .seq its.toArray n }
theorem box_stab {b c : Addr} : Stab b (boxPhi b c) := fun h1 h2 ⟨xs, its, n, hx, r, e⟩ k => ⟨xs, its, n, hx, r, k _ e⟩
theorem box_of {P : Program} {w : World} {H : Hp} {h : Heap} {b c : Addr} {xs : List V} (hx : BoxV c xs) (o : ObjOk P w H h b (.lst xs)) : boxPhi b c h := by
  obtain ⟨_, its, n, r, e⟩ := o
  exact ⟨xs, its, n, hx, r, e⟩
theorem of_box {P : Program} {w : World} {H : Hp} {h : Heap} {b c : Addr} (p : boxPhi b c h) : ∃ xs, BoxV c xs ∧ ObjOk P w H h b (.lst xs) := by
  obtain ⟨xs, its, n, hx, r, e⟩ := p
  refine ⟨xs, hx, ?_, its, n, r, e⟩
  obtain ⟨i, g, m, k, rfl, _⟩ := hx.ex
  show 5 ≤ 16777216
  decide
/-- v is a box -/
def BX : V → Hp → Prop := fun v S => ∃ (b c : Addr) (ns : List Int), v = .ref b ∧ b ≠ c ∧ S b = some (.ext (boxPhi b c)) ∧ S c = some (.lst (ns.map V.int)) ∧ ns.length ≤ 63
instance : Mn BX := ⟨fun s ⟨b, c, ns, e, n, h1, h2, l⟩ => ⟨b, c, ns, e, n, s _ _ h1, s _ _ h2, l⟩⟩
/-- a def over the box and data: any of what G tells may come back -/
def spB (K : PySem.W.Frag) (F : List PyData → (PyData → Prop) → Prop) : Sp := fun vs H Q _ => ∃ S v ws ds G, vs = v :: ws ∧ Same S H ∧ BX v S ∧ Dts K ds ws S ∧ F ds G ∧ ∀ d, G d → ∀ u S' H', Gr S H S' H' → Dt K d u S' → Q u H'
section
variable {X : Cx} {σ : L2.St} {S S' : Hp} {e a b c : Expr} {es : List Expr} {P R : V → Hp → Prop} {Ps : List (V → Hp → Prop)} {pos p : Pos} {k : Nat} {x : Str} {sp : Sp} {d : PyData} {ds : List PyData}
theorem spB_E {F : List PyData → (PyData → Prop) → Prop} {G : PyData → Prop} (hF : F ds G) : SpE (spB X.K F) S (BX :: Ds X.K ds) (Ex X.K G) := fun vs S1 H1 _ s al Q q => by
  cases al with
  | cons p r => exact ⟨S1, _, _, ds, G, rfl, s, p, al_dts r, hF, fun d hd u S' H' g pd => q u S' H' g ⟨d, hd, pd⟩⟩
theorem ee_callBx {F : List PyData → (PyData → Prop) → Prop} {G : PyData → Prop} (D : KD X.prog X.w X.K X.mg X.base x k (spB X.K F)) (hr : Room k X.A) (hF : F ds G) (ha : EA X σ S (e :: es) (BX :: Ds X.K ds)) (hg : Gl X x := by rfl) (hdb : (x == ("__debug__" : Str)) = false := by decide)
    (he : starEach (e :: es) X.env = (false, eval e X.env) :: starEach es X.env := by rfl) (hpl : (backTo pos (starEach es X.env)).any (·.1) = false := by rfl) : EE X σ S (.Call (.Name x p) (e :: es) [] pos) (Ex X.K G) :=
  ee_call D hr ha (spB_E hF) hg hdb he hpl
/-! ### what is not fixed, taken on -/
theorem ex_imp {K : PySem.W.Frag} {F G : PyData → Prop} {v : V} {S : Hp} (h : Ex K F v S) (f : ∀ d, F d → G d) : Ex K G v S := by
  obtain ⟨d, hd, p⟩ := h
  exact ⟨d, f d hd, p⟩
theorem EE.ex {F : PyData → Prop} (h : EE X σ S e (Dt X.K d)) (f : F d) : EE X σ S e (Ex X.K F) := h.imp fun v S' p => ⟨d, f, p⟩
theorem EE.exi {F G : PyData → Prop} (h : EE X σ S e (Ex X.K F)) (f : ∀ d, F d → G d) : EE X σ S e (Ex X.K G) := h.imp fun v S' p => ex_imp p f
/-- + of numbers that are not fixed -/
theorem ee_addE {F G : Int → Prop} (ha : EE X σ S a (Ex X.K fun d => ∃ i, d = .int i ∧ F i)) (hb : EE X σ S b (Ex X.K fun d => ∃ i, d = .int i ∧ G i)) : EE X σ S (.BinOp a .Add b pos) (Ex X.K fun d => ∃ i, d = .int i ∧ ∃ x y, F x ∧ G y ∧ i = x + y) :=
  ee_op op_add ha hb fun v w S1 H1 _ s ⟨d, ⟨i, e, fi⟩, pv⟩ ⟨d', ⟨j, e', gj⟩, pw⟩ Q q => by
    subst e; subst e'
    cases pv; cases pw
    exact ⟨i, j, rfl, rfl, q _ S1 H1 (Gr.refl s) ⟨_, ⟨_, rfl, i, j, fi, gj, rfl⟩, .int _⟩⟩
theorem ee_tupleE {F : List PyData → Prop} (hm : X.mg "tuple" = none) (ha : EE X σ S a (Ex X.K fun d => ∃ rs, d = .list rs ∧ F rs)) (hg : Gl X "tuple" := by rfl)
    (hs : starEach [a] X.env = (false, eval a X.env) :: starEach [] X.env := by rfl) : EE X σ S (.Call (.Name "tuple" p) [a] [] pos) (Ex X.K fun d => ∃ rs, d = .tuple rs ∧ F rs) :=
  ee_callTy call_tuple_of hm boot_tuple (ea_1 ha hs) (fun vs S1 H1 _ s al Q q => by
    obtain ⟨v, rfl, d, ⟨rs, rfl, hf⟩, pv⟩ := al.one
    obtain ⟨l, xs, rfl, hl, hx, z⟩ := pv.lst_inv
    exact ⟨l, xs, rfl, .inl ⟨sql_of (s _ _ hl), fun t ht => q _ _ _ (Gr.new s ht) ⟨_, ⟨rs, rfl, hf⟩, Dt.tup_mk (tus_of upd_same) (hx.up (Same.new (s.free ht))) z⟩⟩⟩) hg (he := hs) (hpl := by rfl)
/-- displays of data that is not fixed -/
def Exs (K : PySem.W.Frag) (Fs : List (PyData → Prop)) : List (V → Hp → Prop) := Fs.map (Ex K)
inductive AllF : List (PyData → Prop) → List PyData → Prop
  | nil : AllF [] []
  | cons {F : PyData → Prop} {Fs : List (PyData → Prop)} {d : PyData} {ds : List PyData} : F d → AllF Fs ds → AllF (F :: Fs) (d :: ds)
theorem AllF.len {Fs : List (PyData → Prop)} {ds : List PyData} (h : AllF Fs ds) : ds.length = Fs.length := by
  induction h with
  | nil => rfl
  | cons _ _ ih => simp [ih]
theorem al_exs {K : PySem.W.Frag} : ∀ {Fs : List (PyData → Prop)} {vs : List V} {H : Hp}, Al (Exs K Fs) vs H → ∃ ds, AllF Fs ds ∧ Dts K ds vs H
  | [], _, _, h => by cases h; exact ⟨[], .nil, .nil⟩
  | F :: Fs, _, _, h => by cases h with
    | cons p r =>
      obtain ⟨ds, h1, h2⟩ := al_exs r
      obtain ⟨d, hd, pd⟩ := p
      exact ⟨d :: ds, .cons hd h1, .cons pd h2⟩
theorem ee_tupE {es : List Expr} {x1} {Fs : List (PyData → Prop)} (h : EA X σ S es (Exs X.K Fs)) (hz : Fs.length ≤ sizeLine := by show _ ≤ 16777216; exact Nat.le_of_ble_eq_true rfl) : EE X σ S (.Tuple es x1 pos) (Ex X.K fun d => ∃ ds, d = .tuple ds ∧ AllF Fs ds) :=
  ee_tupA (vsP := fun vs S' => ∃ ds, AllF Fs ds ∧ Dts X.K ds vs S') (fun H s Q q => h.2 H s Q fun vs S' H' g al => q vs S' H' g (al_exs al)) (fun vs S' ⟨ds, h1, h2⟩ => by rw [h2.1, h1.len]; exact hz)
    fun vs S' p _ hp ⟨ds, h1, h2⟩ => ⟨_, ⟨ds, rfl, h1⟩, Dt.tup_mk (tus_of upd_same) (h2.up (Same.new hp)) (by rw [h2.1, h1.len]; exact hz)⟩
end
end Z
namespace Z
open PySem PySem.Spec PyProof.Rows L2
/-! ### lists that change -/
section
variable {X : Cx} {σ : L2.St} {S H : Hp} {e o i : Expr} {P : V → Hp → Prop} {pos pos' : Pos} {D : Ends} {rest : List Stmt} {b : Addr} {xs : List V} {k : Int} {j : Nat} {v : V}
/-- o[i] = e -/
theorem hs_setL [Mn P] (he : EE X σ H e P) (ho : EE X σ H o (fun w _ => w = .ref b)) (hi : EE X σ H i (Dt X.K (.int k))) (hb : H b = some (.lst xs)) (hk : ixN xs.length k = some j)
    (q : ∀ v H', Same H H' → P v H' → HS X D rest σ (upd H' b (.lst (xs.set j v))))
    (ha : ∀ v, assign (.Subscript o i pos') X.env v = (do
      let ov ← holding [v] (eval o X.env)
      let iv ← holding [v, ov] (eval i X.env)
      standAt pos'
      holding [v, ov, iv] (setItem ov iv v)
      release [v, ov, iv] []) := by intro _; rfl)
    (hs : swapsWithSole [.Subscript o i pos'] e pos.line X.env = pure false := by rfl) (hw : swappedStores [.Subscript o i pos'] e X.env = pure none := by rfl)
    (h1 : (assignEach [.Subscript o i pos'] X.env).map (·.2) = [assign (.Subscript o i pos') X.env] := by rfl) : HS X D (.Assign [.Subscript o i pos'] e pos :: rest) σ H :=
  hs_cons (ps_asg peb (pg_sub peb peb set_list ha) hs hw h1) (he H (Same.refl H) _ fun v S1 H1 g1 pv => ho H1 g1.hh _ fun w S2 H2 g2 pw => hi H2 (g1.hh.trans g2.hh) _ fun u S3 H3 g3 pu => by
    subst pw
    cases pu
    have s3 := (g1.hh.trans g2.hh).trans g3.hh
    exact ⟨b, xs, k, j, rfl, rfl, s3 _ _ hb, hk, q v H3 s3 (Mn.up (g1.sub.trans (g2.hh.trans g3.hh)) pv)⟩)
/-- an item of such a list -/
theorem ee_ixB (hb : S b = some (.lst xs)) (ho : EE X σ S o (fun w _ => w = .ref b)) (hi : EE X σ S i (Dt X.K (.int k))) (hx : atI xs k = some v) (hp : ∀ S', Same S S' → P v S') (hs : PlainIx i := by exact fun _ _ => rfl) : EE X σ S (.Subscript o i pos) P := by
  haveI := mn_eq (v := .ref b)
  exact ee_2 (pe_ix ix_list peb peb hs) ho hi fun x y S1 H1 s0 s px py Q q => by
    subst px
    cases py
    exact ⟨b, xs, k, v, rfl, rfl, sql_of (s _ _ (s0 _ _ hb)), hx, q _ S1 H1 (Gr.refl s) (hp S1 s0)⟩
end
end Z
namespace Z
open PySem PySem.Spec PyProof.Rows L2
/-- an if whose ways meet in M, told of the whole heap -/
theorem hs_ifR {X : Cx} {σ : L2.St} {S H : Hp} {c : Expr} {pos : Pos} {D : Ends} {rest body orelse : List Stmt} {k : Bool} (M : L2.St → Hp → Prop) (h : ET X σ S c k) (s : Same S H) (qt : k = true → ∀ S' H', Gr S H S' H' → HS X { D with nx := M } body σ H') (qf : k = false → ∀ S' H', Gr S H S' H' → HS X { D with nx := M } orelse σ H')
    (h2 : ∀ σ' H', M σ' H' → HS X D rest σ' H') : HS X D (.If c body orelse pos :: rest) σ H :=
  hs_cons (ps_if ptb psb psb) (h H s _ fun S' H' g => by
    have key : ∀ st, HS X { D with nx := M } st σ H' → HS X (Dn X D rest) st σ H' := fun st z => hs_mono z (fun σ' H2 m => h2 σ' H2 m) (fun _ _ z => z) (fun _ _ z => z) (fun _ _ z => z)
    cases k with
    | true => exact iteT (key _ (qt rfl S' H' g))
    | false => exact iteF (key _ (qf rfl S' H' g)))
theorem ee_mulS {X : Cx} {σ : L2.St} {S : Hp} {a b : Expr} {pos : Pos} {i j : Int} (hc : CMul i j) (ha : EE X σ S a (Dt X.K (.int i))) (hb : EE X σ S b (Dt X.K (.int j))) : EE X σ S (.BinOp a .Mult b pos) (Dt X.K (.int (i * j))) := ee_op op_mul ha hb (opE_I hc fun _ => .int _)
end Z
namespace Z
open PySem PySem.Spec PyProof.Rows L2
/-! ## 14. more rules -/
/-- walked things that are not fixed: W tells which lists they may be -/
def EIW (X : Cx) (σ : L2.St) (S : Hp) (tg iter : Expr) (W : List PyData → Prop) : Prop := ∀ H, Same S H → ∀ R : It → Hp → Prop, (∀ ds J S' H', W ds → Gr S H S' H' → ItP J S' (Ds X.K ds) → R J H') → HI X tg iter σ H R
section
variable {X : Cx} {σ : L2.St} {S S' : Hp} {e a b c o elt tg iter : Expr} {es : List Expr} {P R : V → Hp → Prop} {Ps : List (V → Hp → Prop)} {pos p px : Pos} {k : Bool} {x y : Str} {d d1 d2 : PyData} {ds ds1 ds2 : List PyData} {i j : Nat} {n : Int} {scope : Scope} {own : List (Str × Nat)} {D : Ends} {rest : List Stmt}
theorem eiw_range {F : Nat → Prop} (hm : X.mg "range" = none) (hn : ∀ n, F n → (n : Int) < 2 ^ 62) (ha : EE X σ S a (Ex X.K fun d => ∃ n : Nat, d = .int n ∧ F n)) (hg : Gl X "range" := by rfl) (hs : starEach [a] X.env = [(false, eval a X.env)] := by rfl) :
    EIW X σ S tg (.Call (.Name "range" p) [a] [] pos) (fun ds => ∃ n, F n ∧ ds = upto n) := fun H s R q =>
  hi_of (pi_range1 hg hm pab hs) ((ea_1 ha (by rw [hs]; rfl)).2 H s _ fun vs S1 H1 g1 al => by
    obtain ⟨v, rfl, d, ⟨n, rfl, fn⟩, pv⟩ := al.one
    cases pv
    refine ⟨(n : Int), rfl, by omega, hn n fn, q _ _ S1 H1 ⟨n, fn, rfl⟩ g1 ⟨fun i H hi hs => ?_, fun H hs => ?_, fun i H x H' hi hs y T st th => ?_⟩⟩
    · rw [ds_len, upto_len] at hi
      show i < ((n : Int)).toNat
      omega
    · rw [ds_len, upto_len]
      show ((n : Int)).toNat ≤ n
      omega
    · rw [ds_len, upto_len] at hi
      obtain ⟨rfl, rfl⟩ : H' = H ∧ x = .int (0 + (i : Int)) := y
      rw [Int.zero_add]
      exact ⟨T, Gr.refl th, _, ds_get (upto_get hi), .int _⟩)
/-- [elt for x in iter], the walked and the elements not fixed -/
theorem ee_lcW {F : PyData → PyData → Prop} {W : List PyData → Prop} (hc : X.calm = true) (hN : X.N.Nodup) (ok : BlkOk X.N X.env.scope scope [(x, i)]) (hi : EIW X σ S (.Name x px) iter W) (hz : ∀ ds, W ds → ds.length ≤ sizeLine)
    (hel : ∀ ds, W ds → ∀ d ∈ ds, ∀ v S', Same S S' → Dt X.K d v S' → ∀ (s : Shared) (H0 : Hp) (C : Addr) (cl : List (Str × Addr)) (fp : List Addr), EE (X.blk s H0 scope (compEnvC scope cl C X.env) fp) ((wipe σ [i]).set i (some v)) S' elt (Ex X.K (F d)))
    (hix : X.N[i]? = some x := by rfl) (hx : ∀ (s : Shared) (H0 : Hp) (C : Addr) (cl : List (Str × Addr)) (fp : List Addr), Loc (X.blk s H0 scope (compEnvC scope cl C X.env) fp).env.scope x ∧ ((X.blk s H0 scope (compEnvC scope cl C X.env) fp).fn x = true ∨ (X.blk s H0 scope (compEnvC scope cl C X.env) fp).env.scope.names.lookup x = some .local) := by
      intros; exact ⟨by first | exact Or.inl rfl | exact Or.inr rfl, by first | exact .inl rfl | exact .inr rfl⟩)
    (hs : ∀ x, foldedSetIterable iter X.env x = pure x := by intro _; rfl) :
    EE X σ S (.ListComp elt [⟨.Name x px, iter, [], 0⟩] scope pos) (Ex X.K fun d => ∃ rs, d = .list rs ∧ ∃ ds, W ds ∧ Paired F ds rs) := fun H s Q q =>
  he_of (pe_lc (own := [(x, i)]) (wi := bI X (.Name x px) iter) (g := gBlk X scope (.Name x px)) (tt := tBlk X scope []) (te := eBlk X scope elt) hc hN pib ok
    (fun s H0 C cl fp => ⟨fun pins sh σ' H' v u Q' I r h => h s H0 C cl fp pins sh u I r⟩) (fun s H0 C cl fp => ⟨fun pins sh σ' H' Q' I h => h s H0 C cl fp pins sh I⟩) (fun s H0 C cl fp => ⟨fun pins sh σ' H' Q' I h => h s H0 C cl fp pins sh I⟩) hs)
    (hi H s _ fun ds J S1 H1 hw g1 it => lc_loopG (own := [(x, i)]) (p := fun _ => true) (G := F) (hz ds hw) (fun d hd v S' s hv => ⟨(wipe σ [i]).set i (some v), wipe1, fun sh H0 C cl fp => by
        obtain ⟨k1, k2⟩ := hx sh H0 C cl fp
        exact ⟨eg_name hN hix k1 k2, ets_nil, fun _ => hel ds hw d hd v S' s hv sh H0 C cl fp⟩⟩) Q (fun v S' H' g ⟨rs, h1, h2⟩ => by
        rw [filter_true] at h1
        exact q v S' H' g ⟨_, ⟨rs, rfl, ds, hw, h1⟩, h2⟩) g1 it)
/-- xs[i], i any place of the list -/
theorem atI_nat {xs : List PyData} {n : Int} (h0 : 0 ≤ n) (h1 : n < (xs.length : Int)) : ∃ d, d ∈ xs ∧ atI xs n = some d := by
  refine ⟨xs[n.toNat]'(by omega), List.getElem_mem _, ?_⟩
  unfold atI ixN
  rw [if_pos h0, if_pos h1]
  exact List.getElem?_eq_getElem _
theorem ee_ixE (ha : EE X σ S a (Dt X.K (.list ds))) (hb : EE X σ S b (Ex X.K fun d => ∃ n, d = .int n ∧ 0 ≤ n ∧ n < (ds.length : Int))) (hs : PlainIx b := by exact fun _ _ => rfl) : EE X σ S (.Subscript a b pos) (Ex X.K fun d => d ∈ ds) :=
  ee_2 (pe_ix ix_list peb peb hs) ha hb fun x y S1 H1 _ s px ⟨d, ⟨n, e, n0, n1⟩, py⟩ Q q => by
    subst e
    cases py
    obtain ⟨l, xs, rfl, hl, hx, z⟩ := px.lst_inv
    obtain ⟨d, hd, he⟩ := atI_nat n0 n1
    obtain ⟨x, h1, h2⟩ := atI_dts hx he
    exact ⟨l, xs, n, x, rfl, rfl, sql_of (s _ _ hl), h1, q _ S1 H1 (Gr.refl s) ⟨d, hd, h2⟩⟩
/-- n in (a, b, ..) -/
theorem inV_int (n : Int) : ∀ ns : List Int, inV (.int n) (ns.map V.int) = ns.contains n
  | [] => rfl
  | m :: ns => by
    unfold inV
    rw [List.map_cons, List.any_cons]
    have h := inV_int n ns
    unfold inV at h
    rw [h, List.contains_cons]
    show (m == n || _) = _
    rw [show (m == n) = (n == m) by
      by_cases e : m = n
      · rw [e]
      · rw [beq_false_of_ne e, beq_false_of_ne (Ne.symm e)]]
theorem flat_ints (ns : List Int) : (ns.map V.int).all flatV = true := by
  induction ns with
  | nil => rfl
  | cons n ns ih => rw [List.map_cons, List.all_cons, ih]; rfl
theorem opE_inT {K : PySem.W.Frag} {ns : List Int} : OpE (rIn K false) S (Dt K (.int n)) (Dt K (.tuple (ns.map .int))) (Dt K (.bool (ns.contains n))) := fun v w S1 H1 _ s pv pw Q q => by
  cases pv
  obtain ⟨l, xs, rfl, hl, hx, z⟩ := pw.tup_inv
  rw [dts_int hx] at hl
  refine ⟨l, ns.map V.int, rfl, .inr (sqt_up s hl), rfl, flat_ints ns, ?_⟩
  rw [if_neg Bool.false_ne_true, inV_int]
  exact q _ S1 H1 (Gr.refl s) (.bl _)
theorem et_inT {ns : List Int} (ha : EE X σ S a (Dt X.K (.int n))) (hb : EE X σ S b (Dt X.K (.tuple (ns.map .int)))) (hm : behindInMarks .In b = false := by rfl) : ET X σ S (.Compare a [.In] [b] pos) (ns.contains n) := et_cmp op_in_seq ha hb opE_inT hm
/-- e.index(True) of a list of bools -/
theorem ee_indexT {bs : List Bool} {j : Nat} {apos : Pos} (hj : bs[j]? = some true) (hno : ∀ m, m < j → bs[m]? = some false) (ha : EE X σ S a (Dt X.K (.list (bs.map .bool)))) (hb : EE X σ S b (Dt X.K (.bool true)))
    (hbase : attributeBase a "index" X.env (eval a X.env) = eval a X.env := by rfl)
    (hfew : ((backTo pos (starEach [b] X.env)).all (fun x => !x.1) && (backToKw pos (keywordEach [] X.env)).all (fun x => x.1.isSome) && decide (([b] : List Expr).length + ([] : List Keyword).length + (if ([] : List Keyword).isEmpty then 0 else 1) < 30)) = true := by rfl)
    (hline : (apos.endLine == pos.line) = true := by rfl) (hs : starEach [b] X.env = (false, eval b X.env) :: starEach [] X.env := by rfl) (hplain : (backTo pos (starEach [] X.env)).any (·.1) = false := by rfl) :
    EE X σ S (.Call (.Attribute a "index" apos) [b] [] pos) (Dt X.K (.int (j : Nat))) := fun H s Q q =>
  he_of (pe_bm PySem.F.plainAttrs_list PySem.F.slot_list_index PySem.F.type_list_index mt_index peb pab hbase hfew hline hs hplain) (ha H s _ fun v S1 H1 g1 pv => by
    obtain ⟨l, xs, rfl, hl, hx, z⟩ := pv.lst_inv
    have e := dts_bl hx
    subst e
    refine ⟨.inl ⟨rfl, _, sql_of (g1.sub _ _ hl)⟩, ((ea_1 hb hs).up g1.st).2 H1 g1.sub _ fun vs S2 H2 g2 al => ?_⟩
    obtain ⟨w, rfl, pw⟩ := al.one
    cases pw
    refine ⟨l, bs.map V.bl, .bl true, j, .bl true, rfl, rfl, sql_of (g2.hh _ _ (g1.sub _ _ hl)), rfl, ?_, ?_, rfl, fun m z' hm hz => ?_, q _ S2 H2 (g1.trans g2) (.int _)⟩
    · rw [List.all_map]; exact List.all_eq_true.mpr fun b _ => rfl
    · rw [List.getElem?_map, hj]; rfl
    · rw [List.getElem?_map, hno m hm] at hz
      cases hz
      rfl)
/-- a, b = e, e a pair that is not fixed -/
theorem hs_unpackE {H : Hp} {F G : PyData → Prop} {px py pt : Pos} {kt : Nat} (hc : X.calm = true) (hN : X.N.Nodup) (ha : EE X σ S e (Ex X.K fun d => ∃ d1 d2, d = .tuple [d1, d2] ∧ F d1 ∧ G d2)) (s : Same S H)
    (q : ∀ d1 d2 v w S' H', F d1 → G d2 → Gr S H S' H' → Dt X.K d1 v S' → Dt X.K d2 w S' → HS X D rest ((σ.set i (some v)).set j (some w)) H')
    (hi : X.N[i]? = some x := by rfl) (hj : X.N[j]? = some y := by rfl) (hx : Loc X.env.scope x := by first | exact Or.inl rfl | exact Or.inr rfl) (hy : Loc X.env.scope y := by first | exact Or.inl rfl | exact Or.inr rfl)
    (hfx : X.fn x = true ∨ X.env.scope.names.lookup x = some .local := by first | exact .inl rfl | exact .inr rfl) (hfy : X.fn y = true ∨ X.env.scope.names.lookup y = some .local := by first | exact .inl rfl | exact .inr rfl)
    (hn : (assignEach [.Name x px, .Name y py] X.env).length = 2 := by rfl) (hst : (assignEach [.Name x px, .Name y py] X.env).findIdx? (·.1) = none := by rfl)
    (h1 : (assignEach [.Name x px, .Name y py] X.env).map (·.2) = assign (.Name x px) X.env :: (assignEach [.Name y py] X.env).map (·.2) := by rfl) (h2 : (assignEach [.Name y py] X.env).map (·.2) = assign (.Name y py) X.env :: (assignEach [] X.env).map (·.2) := by rfl)
    (hss : swapsWithSole [.Tuple [.Name x px, .Name y py] kt pt] e pos.line X.env = pure false := by rfl) (hw : swappedStores [.Tuple [.Name x px, .Name y py] kt pt] e X.env = pure none := by rfl)
    (h3 : (assignEach [.Tuple [.Name x px, .Name y py] kt pt] X.env).map (·.2) = [assign (.Tuple [.Name x px, .Name y py] kt pt) X.env] := by rfl) : HS X D (.Assign [.Tuple [.Name x px, .Name y py] kt pt] e pos :: rest) σ H :=
  hs_cons (ps_asg peb pgb hss hw h3) (ha H s _ fun v S' H' g ⟨d, ⟨d1, d2, e, f1, f2⟩, pv⟩ => by
    subst e
    obtain ⟨v1, v2, p1, p2, hg⟩ := eg_pair (σ := σ) (px := px) (py := py) (pos := pt) (kk := kt) hc hN hi hj hx hy pv hfx hfy hn hst h1 h2
    exact hg H' g.sub _ (q d1 d2 v1 v2 S' H' f1 f2 g p1 p2))
theorem AllF.one {F : PyData → Prop} {ds : List PyData} (h : AllF [F] ds) : ∃ d, ds = [d] ∧ F d := by
  cases h with
  | cons f r => cases r; exact ⟨_, rfl, f⟩
theorem AllF.two {F G : PyData → Prop} {ds : List PyData} (h : AllF [F, G] ds) : ∃ d e, ds = [d, e] ∧ F d ∧ G e := by
  cases h with
  | cons f r => obtain ⟨e, rfl, g⟩ := r.one; exact ⟨_, _, rfl, f, g⟩
theorem ee_pairE {F G : PyData → Prop} {x1} (ha : EE X σ S a (Ex X.K F)) (hb : EE X σ S b (Ex X.K G)) (hs : starEach [a, b] X.env = (false, eval a X.env) :: starEach [b] X.env := by rfl) (hs2 : starEach [b] X.env = (false, eval b X.env) :: starEach [] X.env := by rfl) : EE X σ S (.Tuple [a, b] x1 pos) (Ex X.K fun d => ∃ d1 d2, d = .tuple [d1, d2] ∧ F d1 ∧ G d2) :=
  (ee_tupE (Fs := [F, G]) (ea_2 ha hb hs hs2)).exi fun d ⟨ds, e, h⟩ => by
    obtain ⟨d1, d2, rfl, f, g⟩ := h.two
    exact ⟨d1, d2, e, f, g⟩
/-- sep.join(list of texts) -/
theorem ee_join {z : Str} {ys : List Str} {apos : Pos} (hz : (ys.map (·.length)).sum + ys.length * z.length ≤ 16777216) (ha : EE X σ S a (Dt X.K (.str z))) (hb : EE X σ S b (Dt X.K (.list (ys.map .str))))
    (hbase : attributeBase a "join" X.env (eval a X.env) = eval a X.env := by rfl)
    (hfew : ((backTo pos (starEach [b] X.env)).all (fun x => !x.1) && (backToKw pos (keywordEach [] X.env)).all (fun x => x.1.isSome) && decide (([b] : List Expr).length + ([] : List Keyword).length + (if ([] : List Keyword).isEmpty then 0 else 1) < 30)) = true := by rfl)
    (hline : (apos.endLine == pos.line) = true := by rfl) (hs : starEach [b] X.env = (false, eval b X.env) :: starEach [] X.env := by rfl) (hplain : (backTo pos (starEach [] X.env)).any (·.1) = false := by rfl) :
    EE X σ S (.Call (.Attribute a "join" apos) [b] [] pos) (Dt X.K (.str (Txt.join z ys))) := fun H s Q q =>
  he_of (pe_bm PySem.F.plainAttrs_str PySem.F.slot_str_join PySem.F.type_str_join mt_join peb pab hbase hfew hline hs hplain) (ha H s _ fun v S1 H1 g1 pv => by
    cases pv
    refine ⟨rfl, ((ea_1 hb hs).up g1.st).2 H1 g1.sub _ fun vs S2 H2 g2 al => ?_⟩
    obtain ⟨w, rfl, pw⟩ := al.one
    obtain ⟨l, xs, rfl, hl, hx, _⟩ := pw.lst_inv
    rw [dts_str hx] at hl
    exact ⟨z, l, ys, rfl, rfl, .inl (sql_of (g2.sub _ _ hl)), hz, q _ S2 H2 (g1.trans g2) (.str _)⟩)
end
end Z
namespace Z
open PySem PySem.Spec PyProof.Rows L2 PySem.Froz
/-! ## 15. set(text), a text of different ascii signs -/
section
variable {prog : Program} {w : World} {A : Around} {E : Value → Shared → Prop} {s : Shared}
theorem fresh_fits (led : Bool) : (SetTable.fresh 0 0 led).fits 0 = true := by cases led <;> decide +kernel
theorem run_ok {P : Program} : ∀ (cs : List Nat) (tk : Tok) (D : SD) (l : List Str), TxOk P w D l → ∃ l', TxOk P w (runD w cs tk D) l' ∧ l'.length = cs.length + l.length
  | [], _, D, l, F => ⟨l, F, by simp⟩
  | c :: r, tk, D, l, F => by
    obtain ⟨l', h1, h2⟩ := run_ok r (tk + 2) _ (sing c :: l) (add_ok tk F)
    exact ⟨l', h1, by rw [h2]; simp; omega⟩
theorem finU_get {s : Shared} {a it : Addr} {T : String} {X : SD} {n m : Nat} {o : Obj} (hne : a ≠ it) (h : s.heap.get? a = some o) : (finU s a T it X n m).heap.get? a = some (sObj T X) :=
  Heap.get?_push_of_some _ (Heap.get?_push_of_some _ (PySem.Heap.get?_update_of_ne _ (Ne.symm hne) (get_upd _ h rfl)))
theorem finU_old {s : Shared} {a it b : Addr} {T : String} {X : SD} {n m : Nat} {o : Obj} (h1 : b ≠ a) (h2 : b ≠ it) (h : s.heap.get? b = some o) : (finU s a T it X n m).heap.get? b = some o :=
  Heap.get?_push_of_some _ (Heap.get?_push_of_some _ (PySem.Heap.get?_update_of_ne _ (Ne.symm h2) (PySem.Heap.get?_update_of_ne _ (Ne.symm h1) h)))
theorem call_set_text {x : Str} {u : Tok} {Q : Value → Shared → Prop} (hh : A.handled = none) (ha : x.cps.all (· < 128) = true) (hnd : x.cps.toList.Nodup) (hlen : x.cps.size ≤ 1000)
    (h : ∀ (h' : Heap) (tk : Nat) (o : Obj) (es : Array (Int × Value)) (ep : Nat) (t : SetTable), h'.get? s.heap.objs.size = some o → o = sObj "set" (es, ep, t) → t.fits es.size = true → es.size = x.cps.size →
      (∀ b o, b < s.heap.objs.size → s.heap.get? b = some o → h'.get? b = some o) → Q (.ref s.heap.objs.size) { s with heap := h', toks := tk }) :
    wpAny (model prog w) A (call (.type "set") [.str x u]) Q E s := by
  obtain ⟨c, tl, hmro⟩ := PySem.F.called_set.mro
  have hmade := PySem.F.called_set.made
  have hsub := PySem.F.called_set.sub
  refine wpAny_call (codeAny_of_tree ?_)
  show wpAny _ _ (callAny (.type "set") _) _ _ _
  refine wpAny_pure ⟨Code.quiet_builtin _ (by decide +kernel), codeAny_builtin PySem.F.entry_type_call ?_⟩
  rw [Around.under_plain (weight_type_call_type "set" [.str x u] []) rfl]
  have h1 := PySem.F.called_set.notType
  have h2 := PySem.F.called_set.canCreate
  have hct := PySem.F.typeCall_set_1 (.str x u)
  repeat (any_goals (first | assumption | wp_step))
  refine codeAny_mono (code_set_new_1 (.str x u) (E := E) (Q₁ := fun obj s₁ => ∃ led : Bool, obj = .ref s.heap.objs.size ∧ s₁ = { s with heap := s.heap.push { cls := .type "set", dict := none, data := .set #[] 0 (.fresh 0 0 led) } }) fun led => ⟨led, rfl, rfl⟩) fun r s₁ hr => ?_
  cases r with
  | error e => exact hr
  | ok fl =>
    cases fl with
    | ret obj =>
      obtain ⟨led, rfl, rfl⟩ := hr
      have hS : (s.heap.push { cls := .type "set", dict := none, data := .set #[] 0 (.fresh 0 0 led) }).get? s.heap.objs.size = some { cls := .type "set", dict := none, data := .set #[] 0 (.fresh 0 0 led) } := Heap.get?_push_size _ rfl
      have hT : Shared.TypeIs { s with heap := s.heap.push { cls := .type "set", dict := none, data := .set #[] 0 (.fresh 0 0 led) } } (.ref s.heap.objs.size) "set" := ⟨_, hS, rfl⟩
      have hli := PySem.F.called_set.init.lookup
      have hbi := PySem.F.called_set.init.bind (.ref s.heap.objs.size)
      repeat (any_goals (first | assumption | wp_step))
      refine codeAny_mono (codeAny_call_builtin (R := wants (fun r s₂ => r = .none ∧ ∃ h' tk es ep t, s₂ = { s with heap := h', toks := tk } ∧
          h'.get? s.heap.objs.size = some (sObj "set" (es, ep, t)) ∧ t.fits es.size = true ∧ es.size = x.cps.size ∧
          (∀ b o, b < s.heap.objs.size → s.heap.get? b = some o → h'.get? b = some o)) E) PySem.F.called_set.init.plain PySem.F.entry_set_init (check_set_init_1 hT ?_)) fun r₂ s₂ hr₂ => ?_
      · have hsls := PySem.F.sub_str_set
        have hslf := PySem.F.sub_str_frozenset
        have hne : (Value.type "str" == Value.type "dict") = false := by decide
        unfold Builtin.«set.__init__» noKeywords Builtin.Frozenset.updateFrom
        generalize hPI : pyIter = PI
        wp_walk
        subst hPI
        refine wpAny_pyIter_ascii ha ?_
        refine wpAny_bind (wpAny_runValue ?_)
        have e1 : (s.heap.push { cls := .type "set", dict := none, data := .set #[] 0 (.fresh 0 0 led) }).objs.size = s.heap.objs.size + 1 := Heap.size_push _ _
        have hSz : (s.heap.push { cls := .type "set", dict := none, data := .set #[] 0 (.fresh 0 0 led) }).get? s.heap.objs.size = some (sObj "set" (#[], 0, .fresh 0 0 led)) := hS
        have hS2 : ((s.heap.push { cls := .type "set", dict := none, data := .set #[] 0 (.fresh 0 0 led) }).push { cls := .type "str_ascii_iterator", data := .fields #[.str x u, .int 0 0] }).get? s.heap.objs.size = some (sObj "set" (#[], 0, .fresh 0 0 led)) := Heap.get?_push_of_some _ hSz
        have hI2 : ((s.heap.push { cls := .type "set", dict := none, data := .set #[] 0 (.fresh 0 0 led) }).push { cls := .type "str_ascii_iterator", data := .fields #[.str x u, .int 0 0] }).get? (s.heap.objs.size + 1) = some (itObj x u 0) := by
          rw [← e1]; exact Heap.get?_push_size _ rfl
        have hne2 : s.heap.objs.size ≠ s.heap.objs.size + 1 := by omega
        rw [e1]
        refine code_update (P := prog) (w := w) (x := x) (u := u) (T := "set") hne2 (by simp [hh]) x.cps.toList 0 (#[], 0, .fresh 0 0 led) [] _ (by simp) hS2 hI2 (TxOk.nil (fresh_fits led)) (by simp) hnd (by rw [Array.length_toList]; unfold scanBound; simp; omega) ?_
        obtain ⟨l', F', hl'⟩ := run_ok (w := w) (P := prog) x.cps.toList s.toks (#[], 0, .fresh 0 0 led) [] (TxOk.nil (fresh_fits led))
        refine wpAny_pure (wpAny_pure ⟨rfl, _, _, _, _, _, rfl, finU_get (m := x.cps.toList.length) hne2 hS2, F'.fit, by rw [F'.sz, hl']; simp, fun b o hb e => ?_⟩)
        exact finU_old (m := x.cps.toList.length) (Nat.ne_of_lt hb) (Nat.ne_of_lt (Nat.lt_succ_of_lt hb)) (Heap.get?_push_of_some _ (Heap.get?_push_of_some _ e))
      · cases r₂ with
        | error e => exact hr₂
        | ok fl₂ =>
          cases fl₂ with
          | ret r =>
            obtain ⟨rfl, h', tk, es, ep, t, rfl, hS', hf, hsz, hk'⟩ := hr₂
            repeat (any_goals (first | assumption | wp_step))
            exact h _ _ _ es ep t hS' rfl hf hsz hk'
          | _ => exact hr₂.elim
    | _ => exact hr.elim
end
def tLenSetS (ta : TE) : TE := fun σ H Q => ta σ H fun x H1 => ∃ z : Str, x = .str z ∧ z.cps.all (· < 128) = true ∧ z.cps.toList.Nodup ∧ z.cps.size ≤ 1000 ∧ Q (.int (z.cps.size : Nat)) H1
theorem pe_lenSetS {X : Cx} {a : Expr} {ta : TE} {p p2 q pos : Pos} (hg : Gl X "len") (hm : X.mg "len" = none) (hg2 : Gl X "set") (hm2 : X.mg "set" = none) (ha : PE X a ta) (hc : X.calm = true := by rfl)
    (na : starEach [a] X.env = (false, eval a X.env) :: starEach [] X.env := by rfl) : PE X (.Call (.Name "len" p) [.Call (.Name "set" p2) [a] [] q] [] pos) (tLenSetS ta) := by
  refine ⟨fun pins s σ H Q I h => ?_⟩
  refine Call_ (ld_blt I hg hm boot_len ?_)
  refine PyProof.Rows.callWith_builtin1 (PyProof.Rows.args_cons ?_ rfl) rfl rfl
  refine Call_ (ld_blt I hg2 hm2 boot_set ?_)
  refine PyProof.Rows.callWith_type1 (PyProof.Rows.args_cons (thn (ha.run pins s σ H _ I h) fun v s1 ⟨x, H1, I1, r1, q1⟩ => PyProof.Rows.args_nil ?_) na) na rfl
  obtain ⟨z, rfl, ha1, hnd, hl, q1⟩ := q1
  obtain ⟨u, rfl⟩ := r1
  refine call_set_text (I1.ok.hd hc) ha1 hnd hl fun h' tk o es ep t ho he hf hn hk => ?_
  refine PyProof.Rows.args_nil ?_
  subst he
  have I2 : Inv X pins σ H1 { s1 with heap := h', toks := tk } := I1.kept fun b o e => hk b o (Heap.lt_size e) e
  exact call_len_set ho ⟨rfl, rfl, rfl⟩ rfl hf (by rw [hn] <;> omega) ⟨.int z.cps.size, H1, I2.tok _, ⟨_, by rw [hn]⟩, q1⟩
theorem ee_lenSetS {X : Cx} {σ : L2.St} {S : Hp} {a : Expr} {z : Str} {p p2 q pos : Pos} (hm : X.mg "len" = none) (hm2 : X.mg "set" = none) (ha : EE X σ S a (Dt X.K (.str z))) (h1 : z.cps.all (· < 128) = true) (h2 : z.cps.toList.Nodup) (h3 : z.cps.size ≤ 1000) (hc : X.calm = true := by rfl) (hg : Gl X "len" := by rfl) (hg2 : Gl X "set" := by rfl)
    (na : starEach [a] X.env = (false, eval a X.env) :: starEach [] X.env := by rfl) : EE X σ S (.Call (.Name "len" p) [.Call (.Name "set" p2) [a] [] q] [] pos) (Dt X.K (.int (z.cps.size : Nat))) := fun H s Q qq =>
  he_of (pe_lenSetS hg hm hg2 hm2 peb hc na) (ha H s _ fun v S1 H1 g1 pv => by
    cases pv
    exact ⟨z, rfl, h1, h2, h3, qq _ S1 H1 g1 (.int _)⟩)
end Z
namespace Y
open PySem PySem.Spec PyProof.Rows L2 Z
/-! ## enumerate over a tuple -/
theorem meets_enumT {v : Value} {o : Obj} {H : Heap → Prop} (B : Begins v o H) :
    Meets (Builtin.«enumerate.__new__» ⟨[.type "enumerate", v], []⟩) (fun _ R s => H s.heap ∧
      R (.ok (.ret (.ref (s.heap.push o).objs.size))) { s with heap := (s.heap.push o).push { cls := .type "enumerate", data := .fields #[.none, .bool false, .ref s.heap.objs.size, rawInt 0, .none, .none] } }) :=
  .of_wp fun prog w A R s h => by
    obtain ⟨hp, g, d, tk, os⟩ := s; obtain ⟨h1, h⟩ := h
    have hsub := sub_enumerate
    have q1 : ∀ {A' : Around} {E : Value → Shared → Prop} {Q : Value → Shared → Prop}, Q (.ref hp.objs.size) ⟨hp.push o, g, d, tk, os⟩ → wpAny (model prog w) A' (pyIter v) Q E ⟨hp, g, d, tk, os⟩ :=
      fun q => B.iter prog w _ _ ⟨hp, g, d, tk, os⟩ _ h1 q
    wp_walk using q1
    refine wpAny_stack_any fun st => wpAny_pure ?_
    split
    · rename_i c _ _ _ _ _
      cases (c == Value.type "enumerate")
      · wp_walk using q1
        exact ⟨_, rfl, h⟩
      · wp_walk using q1
        exact ⟨_, rfl, h⟩
    · wp_walk using q1
      exact ⟨_, rfl, h⟩
theorem call_enumT {prog : Program} {w : World} {A : Around} {E : Value → Shared → Prop} {s : Shared} {v : Value} {o : Obj} {H : Heap → Prop} {Q : Value → Shared → Prop} (B : Begins v o H) (h1 : H s.heap)
    (h : ∀ h', IsEnum h' (s.heap.objs.size + 1) s.heap.objs.size 0 .none → h'.get? s.heap.objs.size = some o → h'.objs.size = s.heap.objs.size + 2 →
      (∀ b o, s.heap.get? b = some o → h'.get? b = some o) → Q (.ref (s.heap.objs.size + 1)) { s with heap := h' }) :
    wpAny (model prog w) A (call (.type "enumerate") [v]) Q E s := by
  refine callType_new F.called_enumerate (by decide) (F.typeCall_enumerate_1 _) (F.newCall_enumerate_1 _) (fun obj => F.args_object_init_2 obj _) F.entry_enumerate_new
    (meets_enumT B) ⟨h1, ?_⟩
  have hz : (s.heap.push o).objs.size = s.heap.objs.size + 1 := Heap.size_push ..
  show _ ∧ _
  rw [hz]
  have he : IsEnum ((s.heap.push o).push { cls := .type "enumerate", data := .fields #[.none, .bool false, .ref s.heap.objs.size, rawInt 0, .none, .none] }) (s.heap.objs.size + 1) s.heap.objs.size 0 .none := by
    have := Heap.get?_push_size (s.heap.push o) (o := { cls := .type "enumerate", data := .fields #[.none, .bool false, .ref s.heap.objs.size, rawInt 0, .none, .none] }) rfl
    rw [hz] at this; exact this
  refine ⟨⟨_, he, rfl⟩, h _ he (Heap.get?_push_of_some _ (Heap.get?_push_size _ B.free)) (by rw [Heap.size_push, hz]) fun b o x => Heap.get?_push_of_some _ (Heap.get?_push_of_some _ x)⟩
/-- the tuple at a, each item in a new pair -/
def IteT (K : PySem.W.Frag) (a : Addr) : It :=
  ⟨fun i H => ∃ (xs : List V) (x : V), SqT K H a xs ∧ xs[i]? = some x, fun i H v H' => ∃ T x, v = .ref T ∧ H T = none ∧ H' = upd H T (.tup [.int (i : Nat), x]) ∧ ∀ xs, SqT K H a xs → xs[i]? = some x, fun i H => ∃ xs : List V, SqT K H a xs ∧ xs.length ≤ i⟩
theorem isTup_tuple {h : Heap} {a : Addr} {its : Array Value} (p : IsTup h a its) : h.IsTuple a its := by
  obtain ⟨o, e, c, n, d⟩ := p
  exact ⟨o, e, c, n, d⟩
theorem apart_tup {h : Heap} {a it : Addr} {its : Array Value} {i : Nat} (p : h.IsTuple a its) (q : h.IsTupleIter it a i) : a ≠ it := by
  rintro rfl
  obtain ⟨o, e, c, _⟩ := p
  obtain ⟨o', e', c', _⟩ := q
  rw [e] at e'; cases e'
  rw [c] at c'
  exact absurd c' (by decide)
theorem apart_en {h : Heap} {a e it : Addr} {its : Array Value} {k : Int} {old : Value} (p : h.IsTuple a its) (q : IsEnum h e it k old) : e ≠ a := by
  rintro rfl
  obtain ⟨o, e, c, _⟩ := p
  have e' := q
  unfold IsEnum at e'
  rw [e] at e'; cases e'
  exact absurd (Value.type.inj c) (by decide)
theorem turn_enumT {P : Program} {w : World} {K : PySem.W.Frag} {elts : List Expr} {kk : Nat} {tpos : Pos} (a e it : Addr) :
    Turn P w K (.Tuple elts kk tpos) (IteT K a) [e, it] e (fun i h => (∃ old, IsEnum h e it ((i : Nat) : Int) old) ∧ h.IsTupleIter it a i ∧ e ≠ it) where
  mem := by simp
  obj := fun i h st b hb => by
    obtain ⟨⟨old, he⟩, ⟨o, ho, hc, hd⟩, _⟩ := st
    have e' : b = e ∨ b = it := by simpa using hb
    rcases e' with z | z
    · rw [z]; exact ⟨_, he, fun v q => nomatch q⟩
    · rw [z]; exact ⟨o, ho, fun v q => by rw [hd] at q; cases q⟩
  keep := fun i h h' st k => let ⟨⟨old, he⟩, hi, hne⟩ := st; ⟨⟨old, k e (by simp) _ he⟩, hi.at fun o q => k it (by simp) o q, hne⟩
  item := by
    intro X hP hw hK hc i pins s σ H E I hf st hg
    subst hP hw hK
    obtain ⟨⟨old, he⟩, hit, hne⟩ := st
    obtain ⟨xs, x, hq, hx⟩ := hg
    obtain ⟨its, rv, p, hz⟩ := I.tuple hq
    have p := isTup_tuple p
    obtain ⟨u, hu, ru⟩ := rv.get hx
    have hel : e < s.heap.objs.size := Heap.lt_size he
    have hil : it < s.heap.objs.size := by obtain ⟨_, q, _⟩ := hit; exact Heap.lt_size q
    have D : Draws X.prog X.w X.A.in1 it [it, a] its.toArray.size (fun i v => its.toArray[i]? = some v) (fun i h => h.IsTupleIter it a i ∧ h.IsTuple a its.toArray) := Draws.tuple (show X.A.in1.handled = none from I.ok.hd hc) it a (apart_tup p hit) its.toArray
    refine wpAny_pyNext_enum_itemD D he ⟨hit, p⟩ (by
        have := (List.getElem?_eq_some_iff.mp hu).1
        simpa using this) hne (by
        intro z
        rcases List.mem_cons.mp z with z | z
        · exact hne z
        · exact apart_en p he (List.mem_singleton.mp z)) fun x' h' tk hx' ho hit' hT hsz hk => ?_
    have hx'' : its.toArray[i]? = some x' := hx'
    obtain rfl : x' = u := by
      have h2 : its[i]? = some x' := by simpa using hx''
      rw [hu] at h2; exact (Option.some.inj h2).symm
    refine ⟨_, rfl, wpAny_letOwnedTupleGo_enum (s := { s with heap := h', toks := tk + 1 }) ho fun h'' he' sb => ?_⟩
    have hT2 : h''.get? s.heap.objs.size = some { cls := .type "tuple", data := .seq #[.int i tk, x'] } := (sb.2 _ (Nat.ne_of_gt hel)).trans hT
    have new : ObjOk X.prog X.w (upd H s.heap.objs.size (.tup [.int (i : Nat), x])) h'' s.heap.objs.size (.tup [.int (i : Nat), x]) :=
      ⟨by show 2 ≤ sizeLine; decide, [.int i tk, x'], .cons ⟨_, rfl⟩ (.cons ru .nil), ⟨_, hT2, rfl, _, rfl⟩⟩
    have I1 : Inv X pins σ (upd H s.heap.objs.size (.tup [.int (i : Nat), x])) { s with heap := h'', toks := tk + 1 } :=
      I.turnedNew (ch := [e, it]) (fun b ob hb q => (sb.2 b (fun z => hb (by simp [z]))).trans (hk b ob (fun z => hb (by simp [z])) (fun z => hb (by simp [z])) q)) hf (Nat.le_refl _) new
    refine ⟨.ref s.heap.objs.size, _, I1, rfl, ⟨_, x, rfl, I.hok.fresh (Nat.le_refl _), rfl, fun ys hy => by rw [I.tuple_inj hy hq]; exact hx⟩, ⟨⟨x', ?_⟩, hit'.1.at fun o q => (sb.2 it (Ne.symm hne)).trans q, hne⟩, fun b hb => ?_⟩
    · have e1 : ((i + 1 : Nat) : Int) = (i : Int) + 1 := by omega
      rw [e1]; exact he'
    · have hb' : b < s.heap.objs.size := by
        have e' : b = e ∨ b = it := by simpa using hb
        rcases e' with z | z
        · rw [z]; exact hel
        · rw [z]; exact hil
      rw [upd_ne (Nat.ne_of_lt hb')]
      exact (hf b hb).1
  done := by
    intro X hP hw hK hc i pins s σ H E I hf st hg
    subst hP hw hK
    obtain ⟨⟨old, he⟩, hit, hne⟩ := st
    obtain ⟨xs, hq, hx⟩ := hg
    obtain ⟨its, rv, p, hz⟩ := I.tuple hq
    have p := isTup_tuple p
    obtain ⟨f0, f1, f2, f3, f4, f5⟩ := hf it (by simp)
    have hl := rv.length
    have hT : s.TypeIs (.ref e) "enumerate" := ⟨_, he, rfl⟩
    unfold pyNext
    refine wpAny_bind (wpAny_attempt (wpAny_callSpecial?_slot (name := Str.ofString "__next__") hT F.slot_enumerate_next
      (wpAny_call_entry F.slot_enumerate_next hT F.entry_enumerate_next ?_ (F.args_enumerate_next_1 _))))
    show wpAny _ _ (PySem.field (.ref e) 2 >>= _) _ _ _
    refine wpAny_bind (wpAny_field he rfl (x := .ref it) rfl ?_)
    refine wpAny_bind (wpAny_nextOf_tuple_end (I.ok.hd hc) hit p (by simp; omega) fun h' x he' hx' => ?_)
    obtain ⟨o, ho, hc'⟩ := hx'
    refine wpAny_bind (wpAny_isInstance (T := "StopIteration") (b := true) ⟨o, ho, hc'⟩ isSubtype_stop ?_)
    exact wpAny_pure ⟨rfl, I.turned (t' := s.toks) (fun b o hb q => he' b o hb q) f0 f1 f3 f4 f5⟩
  self := fun A i s Q E st h => let ⟨⟨_, he⟩, _⟩ := st; wpAny_pyIter_enum he h
def iEnumT (K : PySem.W.Frag) (ta : TA) : TI := fun σ H R => ta σ H fun vs H1 => ∃ a xs, vs = [.ref a] ∧ SqT K H1 a xs ∧ R (IteT K a) H1
theorem pi_enumT {X : Cx} {tg e : Expr} {ta : TA} {p pos tpos : Pos} {elts : List Expr} {kk : Nat} (hg : Gl X "enumerate") (hm : X.mg "enumerate" = none) (ha : PA X [e] ta) (hs : starEach [e] X.env = [(false, eval e X.env)] := by rfl) :
    PI X (.Tuple elts kk tpos) (.Call (.Name "enumerate" p) [e] [] pos) (iEnumT X.K ta) := by
  refine ⟨fun pins s σ H R I h => ?_⟩
  refine Call_ (ld_blt I hg hm boot_enumerate (PyProof.Rows.callWith_type1 (thn (ha.run pos pins s σ H _ I h) fun us s1 ⟨vs, H1, I1, r1, q1⟩ => ?_) hs rfl))
  obtain ⟨a, xs, ex, hq, q⟩ := q1
  subst ex
  cases r1 with
  | cons r rr =>
    cases rr
    cases r
    obtain ⟨its, rv, p', hz⟩ := I1.tuple hq
    refine call_enumT (begins_tuple a its.toArray) (isTup_tuple p') fun h' he hit hsz hk => wpAny_pyIter_enum he ?_
    have I2 : Inv X pins σ H1 { s1 with heap := h' } := I1.kept (t' := s1.toks) hk
    refine ⟨s1.heap.objs.size + 1, [s1.heap.objs.size + 1, s1.heap.objs.size], _, _, H1, rfl, I2, turn_enumT a (s1.heap.objs.size + 1) s1.heap.objs.size, ⟨⟨.none, he⟩, ⟨_, hit, rfl, rfl⟩, Nat.succ_ne_self _⟩, fun b hb => ?_, q⟩
    have e' : b = s1.heap.objs.size + 1 ∨ b = s1.heap.objs.size := by simpa using hb
    have hle : s1.heap.objs.size ≤ b := by
      rcases e' with z | z
      · rw [z]; exact Nat.le_add_right _ _
      · rw [z]; exact Nat.le_refl _
    exact I1.fpOk hle (I1.hok.fresh hle)
section
variable {X : Cx} {σ : L2.St} {S S' : Hp} {e a b c o : Expr} {es : List Expr} {P R : V → Hp → Prop} {pos p : Pos} {ds : List PyData}
theorem ei_enumT {elts : List Expr} {kk : Nat} {tpos : Pos} (hm : X.mg "enumerate" = none) (ha : EE X σ S a (Dt X.K (.tuple ds))) (hg : Gl X "enumerate" := by rfl) (hs : starEach [a] X.env = [(false, eval a X.env)] := by rfl) :
    EI X σ S (.Tuple elts kk tpos) (.Call (.Name "enumerate" p) [a] [] pos) (Ds X.K (enumD ds)) := fun H s R q =>
  hi_of (pi_enumT (tg := a) hg hm pab hs) ((ea_1 ha (by rw [hs]; rfl)).2 H s _ fun vs S1 H1 g1 al => by
    obtain ⟨v, rfl, pv⟩ := al.one
    obtain ⟨l, xs, rfl, hl, hx, _⟩ := pv.tup_inv
    have hlen : (Ds X.K (enumD ds)).length = xs.length := by rw [ds_len]; unfold enumD zipD; rw [List.length_zipWith, upto_len, hx.1]; omega
    refine ⟨l, xs, rfl, sqt_up g1.sub hl, q _ S1 H1 g1 ⟨fun i H hi hs => ?_, fun H hs => ?_, fun i H x H' hi hs y T st th => ?_⟩⟩
    · rw [hlen] at hi
      exact ⟨xs, xs[i], sqt_up hs hl, by simp [hi]⟩
    · rw [hlen]
      exact ⟨xs, sqt_up hs hl, Nat.le_refl _⟩
    · rw [hlen] at hi
      obtain ⟨t, x1, rfl, ht, rfl, k1⟩ := y
      have i1 : i < ds.length := by rw [← hx.1]; omega
      exact ⟨_, Gr.new th ht, _, ds_get (zipD_get (upto_get i1) (List.getElem?_eq_getElem i1)), pair_new th ht (.int _) ((hx.2 i _ _ (k1 xs (sqt_up hs hl)) (List.getElem?_eq_getElem i1)).up st)⟩)
end
end Y
namespace Y
open PySem PySem.Spec PyProof.Rows L2 Z
/-! ## own classes -/
/-- a known method -/
structure KM (P : Program) (w : World) (K : PySem.W.Frag) (mg : Str → Option Value) (base : Heap) (C : Addr) (m : Str) (k : Nat) (sp : Sp) : Prop where
  ex : ∃ f fd ps, FnOk P w K mg base CX0 k f fd ps sp ∧ PySem.W.findIn K (.ref C) m = some (some (.ref f)) ∧ PySem.W.isFn K (.ref f) = true ∧ PySem.W.keepIn K (.ref f) = true ∧ Binds K fd ps []
theorem KM.mono {P : Program} {w : World} {K : PySem.W.Frag} {mg : Str → Option Value} {base : Heap} {C : Addr} {m : Str} {j k : Nat} {sp : Sp} (h : KM P w K mg base C m j sp) (hk : j ≤ k) : KM P w K mg base C m k sp := by
  obtain ⟨f, fd, ps, F, r⟩ := h.ex
  exact ⟨f, fd, ps, F.mono hk, r⟩
/-- an instance of the class at C without the attribute m of its own -/
def InsP (C : Addr) (m : Str) (P : V → Hp → Prop) : Prop := ∀ v S, P v S → ∃ a dx fs, v = .ref a ∧ S a = some (.ins C dx fs) ∧ fs.lookup m = none
section
variable {X : Cx} {σ : L2.St} {S S' H : Hp} {e a b c o : Expr} {es : List Expr} {P P0 R : V → Hp → Prop} {Ps : List (V → Hp → Prop)} {pos p apos : Pos} {k : Nat} {x m f : Str} {sp : Sp} {C dx r : Addr} {fs : List (Str × V)} {v : V} {D : Ends} {rest : List Stmt}
/-- o.f, an attribute -/
theorem ee_fld (ho : EE X σ S o P0) (hP : ∀ w S1, P0 w S1 → ∃ a dx fs v, w = .ref a ∧ S1 a = some (.ins C dx fs) ∧ fs.lookup f = some v ∧ P v S1) (c : Cls X.K C) (n : NoAttr X.K C f) (hb : attributeBase o f X.env (eval o X.env) = eval o X.env := by rfl) : EE X σ S (.Attribute o f pos) P := fun H s Q q =>
  he_of (pe_fld peb hb) (ho H s _ fun w S1 H1 g1 pw => by
    obtain ⟨a, dx, fs, v, rfl, h1, h2, pv⟩ := hP w S1 pw
    exact ⟨a, C, dx, fs, v, rfl, g1.sub _ _ h1, c, n, h2, q v S1 H1 g1 pv⟩)
/-- self.f = e where self is not yet told in S -/
theorem hs_fld (hv : EE X σ S e P) (s : Same S H) (ho : ∀ S1, Same S S1 → EE X σ S1 o (fun w _ => w = .ref r)) (hH : H r = some (.ins C dx fs)) (c : Cls X.K C) (n : NoAttr X.K C f) (hl : fs.length < 1000)
    (q : ∀ v S' H', Gr S H S' H' → P v S' → H' r = some (.ins C dx fs) → HS X D rest σ (upd H' r (.ins C dx (putF f v fs)))) (hs : swapsWith e (some (.Attribute o f apos)) pos.line X.env = pure false := by rfl) : HS X D (.Assign [.Attribute o f apos] e pos :: rest) σ H :=
  hs_cons (ps_fld peb peb hs) (hv H s _ fun v S1 H1 g1 pv => by
    refine (ho S1 g1.st) H1 g1.sub _ fun w S2 H2 g2 pw => ?_
    subst pw
    have e1 := g1.hh _ _ hH
    have e2 := g2.hh _ _ e1
    refine ⟨r, C, dx, fs, rfl, e2, c, n, hl, ?_⟩
    have hS : S2 = S2 := rfl
    exact q v S1 H2 ⟨g1.st, g2.st.trans g2.sub, g1.hh.trans g2.hh, g1.old⟩ pv e2)
theorem ee_meth {pl : Sem Bool} (D : KM X.prog X.w X.K X.mg X.base C m k sp) (c : Cls X.K C) (hr : Room k X.A) (ho : EE X σ S o P0) [Mn P0] (hP : InsP C m P0) (ha : EA X σ S (e :: es) Ps) (hsp : SpE sp S (P0 :: Ps) R)
    (hst : starEach (e :: es) X.env = (false, eval e X.env) :: starEach es X.env := by rfl) (hpl : (backTo pos (starEach es X.env)).any (·.1) = false := by rfl)
    (ht : eval (.Call (.Attribute o m apos) (e :: es) [] pos) X.env = (do
      let ov ← eval o X.env
      standAt apos.atName
      let (f, first) ← holding [ov] (getMethod ov m pl)
      callWith pos f first (backTo pos (starEach (e :: es) X.env)) (backToKw pos (keywordEach [] X.env))) := by rfl) : EE X σ S (.Call (.Attribute o m apos) (e :: es) [] pos) R := fun H s Q q => by
  obtain ⟨f, fd, ps, F, hm, hf, hk, hb⟩ := D.ex
  refine he_of (pe_meth peb c ⟨hm, hf, hk⟩ F hr hb .nil pass0 pab hst hpl ht) (ho H s _ fun w S1 H1 g1 pw => ?_)
  obtain ⟨a, dx, fs, rfl, h1, h2⟩ := hP w S1 pw
  refine ⟨a, dx, fs, rfl, g1.sub _ _ h1, h2, (ha.up g1.st).2 H1 g1.sub _ fun vs S2 H2 g2 al => ?_⟩
  rw [List.append_nil]
  exact hsp _ S2 H2 (g1.st.trans g2.st) g2.sub (.cons (Mn.up g2.st pw) al) Q fun v S3 H3 g3 rv => q v S3 H3 ((g1.trans g2).trans g3) rv
end
section
open PySem.W
end
end Y
namespace Y
open PySem PySem.Spec PyProof.Rows L2 Z
section
end
/-! ## a new instance -/
structure GrI (a : Addr) (S H S' H' : Hp) : Prop where
  st : Same S S'
  sub : Same S' H'
  hh : ∀ z o, z ≠ a → H z = some o → H' z = some o
  old : ∀ z o, z ≠ a → H z = some o → NT o → S' z = S z
/-- what __init__ promises -/
def spI (C : Addr) (K : PySem.W.Frag) (F : List PyData → (Addr → V → Hp → Prop) → Prop) : Sp := fun vs H Q _ => ∃ S a dx ws ds R, vs = .ref a :: ws ∧ Same S H ∧ S a = none ∧ H a = some (.ins C dx []) ∧ Dts K ds ws S ∧ F ds R ∧ ∀ l S' H', GrI a S H S' H' → S l = none → R l (.ref a) S' → Q .non H'
/-- a thing whose part at l is new -/
def NewR (R : Addr → V → Hp → Prop) (S : Hp) : V → Hp → Prop := fun v S' => ∃ l, S l = none ∧ R l v S'
instance {R : Addr → V → Hp → Prop} {S : Hp} [h : ∀ l, Mn (R l)] : Mn (NewR R S) := ⟨fun s ⟨l, a, b⟩ => ⟨l, a, (h l).up s b⟩⟩
theorem GrI.step {a : Addr} {S H S1 H1 S2 H2 : Hp} (i : GrI a S H S1 H1) (g : Gr S1 H1 S2 H2) : GrI a S H S2 H2 :=
  ⟨i.st.trans g.st, g.sub, fun z o n h => g.hh _ _ (i.hh z o n h), fun z o n h m => (g.old z o (i.hh z o n h) m).trans (i.old z o n h m)⟩
theorem GrI.put {a : Addr} {S H S1 H1 : Hp} {o : HO} (i : GrI a S H S1 H1) (h : S a = none) : GrI a S H (upd S1 a o) (upd H1 a o) :=
  ⟨fun z u e => by
    have ne : z ≠ a := fun q => by subst q; rw [h] at e; cases e
    rw [upd_ne ne]; exact i.st z u e, fun z u e => by
    by_cases ne : z = a
    · subst ne; rw [upd_same] at e ⊢; exact e
    · rw [upd_ne ne] at e ⊢; exact i.sub z u e, fun z u n e => by rw [upd_ne n]; exact i.hh z u n e, fun z u n e m => by rw [upd_ne n]; exact i.old z u n e m⟩
theorem GrI.start {a : Addr} {S H : Hp} {o : HO} (s : Same S H) (h : S a = none) (e : H a = some o) : GrI a S H (upd S a o) H :=
  ⟨Same.new h, fun z u q => by
    by_cases ne : z = a
    · subst ne; rw [upd_same] at q; rw [e]; exact q
    · rw [upd_ne ne] at q; exact s z u q, fun z u n q => q, fun z u n q _ => upd_ne n⟩
section
variable {X : Cx} {σ : L2.St} {S S' H : Hp} {e a b c o : Expr} {es : List Expr} {P P0 : V → Hp → Prop} {Ps : List (V → Hp → Prop)} {pos p apos : Pos} {k : Nat} {x m : Str} {sp : Sp} {C f : Addr} {fd : FuncData} {ps : List Str} {ds dd : List PyData} {dvs : List V} {us : List Value} {R : Addr → V → Hp → Prop}
theorem make_init {F : List PyData → (Addr → V → Hp → Prop) → Prop} {vs : List V} {S1 H1 : Hp} {a dx : Addr} {Q : Hp → Prop} (s : Same S1 H1) (hd : Dts X.K ds vs S1) (hF : F ds R) (ha : H1 a = none) (hdx : H1 dx = none) (hne : dx ≠ a) (q : ∀ S2 H2, Gr S1 H1 S2 H2 → NewR R S1 (.ref a) S2 → Q H2) :
    spI C X.K F (.ref a :: vs) (upd (upd H1 dx (.own a)) a (.ins C dx [])) (fun v H2 => v = .non ∧ Q H2) E0 := by
  have hst : Same H1 (upd (upd H1 dx (.own a)) a (.ins C dx [])) := (Same.new hdx).trans (Same.new (by rw [upd_ne hne.symm]; exact ha))
  refine ⟨S1, a, dx, vs, ds, R, rfl, s.trans hst, s.free ha, upd_same, hd, hF, fun l S' H' g hl r => ⟨rfl, q S' H' ⟨g.st, g.sub, fun z o hz => ?_, fun z o hz m => ?_⟩ ⟨l, hl, r⟩⟩⟩
  · exact g.hh z o (ne_of_none hz ha) (hst z o hz)
  · exact g.old z o (ne_of_none hz ha) (hst z o hz) m
end
end Y
namespace Y
open PySem PySem.Spec PyProof.Rows L2 Z
section
variable {X : Cx} {σ : L2.St} {S S' H : Hp} {e a b c o : Expr} {es : List Expr} {P Pa Pb P0 R : V → Hp → Prop} {Ps : List (V → Hp → Prop)} {pos p apos : Pos} {i j l : Int} {d : PyData} {ds : List PyData} {k : Bool}
/-- a <= b <= c -/
theorem et_chainLE (ha : EE X σ S a (Dt X.K (.int i))) (hb : EE X σ S b (Dt X.K (.int j))) (hc : EE X σ S c (Dt X.K (.int l))) (hm : lastMarks [.LtE, .LtE] [b, c] = false := by with_unfolding_all rfl) : ET X σ S (.Compare a [.LtE, .LtE] [b, c] pos) (decide (i ≤ j) && decide (j ≤ l)) := fun H s Q q =>
  ht_of (pt_chain op_le op_le peb peb peb hm) (ha H s _ fun x S1 H1 g1 px => (hb.up g1.st) H1 g1.sub _ fun y S2 H2 g2 py => by
    cases px; cases py
    refine ⟨i, j, rfl, rfl, decide (i ≤ j), rfl, ?_⟩
    by_cases h : i ≤ j
    · rw [if_pos (decide_eq_true h)]
      exact (hc.up (g1.st.trans g2.st)) H2 g2.sub _ fun z S3 H3 g3 pz => by
        cases pz
        refine ⟨j, l, rfl, rfl, decide (j ≤ l), rfl, ?_⟩
        have := q S3 H3 ((g1.trans g2).trans g3)
        rw [decide_eq_true h, Bool.true_and] at this
        exact this
    · rw [if_neg (by rw [decide_eq_false h]; exact Bool.false_ne_true)]
      refine ⟨false, rfl, ?_⟩
      have := q S2 H2 (g1.trans g2)
      rw [decide_eq_false h, Bool.false_and] at this
      exact this)
/-- a sign not in a text -/
theorem et_notInC {n : Nat} {z : Str} (ha : EE X σ S a (Dt X.K (.str ⟨#[n]⟩))) (hb : EE X σ S b (Dt X.K (.str z))) (hm : behindInMarks .NotIn b = false := by with_unfolding_all rfl) : ET X σ S (.Compare a [.NotIn] [b] pos) (!decide (n ∈ z.cps.toList)) :=
  et_cmp op_notIn_sign ha hb (fun v w S1 H1 _ s px py Q q => by cases px; cases py; exact ⟨n, z, rfl, rfl, q _ S1 H1 (Gr.refl s) (.bl _)⟩) hm
/-- isinstance(a, (list, tuple)) -/
theorem ee_isiLT (hk : k = (isD d "list" || isD d "tuple")) (hm : X.mg "isinstance" = none) (h1 : X.mg "list" = none) (h2 : X.mg "tuple" = none) (ha : EE X σ S a (Dt X.K d)) {p1 p2 p3 : Pos} {x1} (hg : Gl X "isinstance" := by rfl) (hg1 : Gl X "list" := by rfl) (hg2 : Gl X "tuple" := by rfl)
    (hs : starEach [a, .Tuple [.Name "list" p1, .Name "tuple" p2] x1 p3] X.env = (false, eval a X.env) :: starEach [.Tuple [.Name "list" p1, .Name "tuple" p2] x1 p3] X.env := by rfl) : EE X σ S (.Call (.Name "isinstance" p) [a, .Tuple [.Name "list" p1, .Name "tuple" p2] x1 p3] [] pos) (Dt X.K (.bool k)) := by
  haveI m1 : Mn (fun (w : V) (_ : Hp) => w = .ty "list") := ⟨fun _ h => h⟩
  haveI m2 : Mn (fun (w : V) (_ : Hp) => w = .ty "tuple") := ⟨fun _ h => h⟩
  haveI m3 : Mn (fun (w : V) (S : Hp) => ∃ t, w = .ref t ∧ S t = some (.tup [.ty "list", .ty "tuple"])) := ⟨fun s ⟨t, e, h⟩ => ⟨t, e, s _ _ h⟩⟩
  have ht : EE X σ S (.Tuple [.Name "list" p1, .Name "tuple" p2] x1 p3) (fun (w : V) (S : Hp) => ∃ t, w = .ref t ∧ S t = some (.tup [.ty "list", .ty "tuple"])) :=
    ee_tupA (vsP := fun vs _ => vs = [.ty "list", .ty "tuple"]) (fun H s Q q => (ea_2 (ee_bltn (P := fun w _ => w = .ty "list") (v := .ty "list") (u := .type "list") h1 (by first | rfl | decide +kernel | exact boot_list) rfl rfl hg1 (by decide) (by decide)) (ee_bltn (P := fun w _ => w = .ty "tuple") (v := .ty "tuple") (u := .type "tuple") h2 (by first | rfl | decide +kernel | exact boot_tuple) rfl rfl hg2 (by decide) (by decide)) rfl rfl).2 H s Q fun vs S' H' g al => q vs S' H' g (by
        obtain ⟨v, w, rfl, rfl, rfl⟩ := al.two
        rfl)) (fun vs _ e => by subst e; show 2 ≤ 16777216; decide) (fun vs S' t st ht e => by subst e; exact ⟨t, rfl, upd_same⟩)
  refine ee_callB call_isiT hm boot_isinstance (ea_2 ha ht hs rfl) (fun vs S1 H1 _ s al Q q => ?_) hg (he := hs) (hpl := by rfl)
  obtain ⟨v, w, rfl, pv, t, rfl, pw⟩ := al.two
  refine ⟨v, t, [.ty "list", .ty "tuple"], .type (tyN d), [.type "list", .type "tuple"], k, rfl, s _ _ pw, .cons (.ty "list") (.cons (.ty "tuple") .nil), tyX_of pv s, ?_, q _ S1 H1 (Gr.refl s) (.bl k)⟩
  subst hk
  refine kitAny_cons (kit_ty (isD_ok d (by simp))) (fun e => kitAny_cons (kit_ty (isD_ok d (by simp))) (fun e2 => ?_) (fun e2 => ?_)) (fun e => ?_)
  · rw [e, e2]; exact kitAny_nil
  · rw [e2]; simp
  · rw [e]; simp
/-- list(a): a new list -/
def NewL (K : PySem.W.Frag) (S : Hp) (ds : List PyData) : V → Hp → Prop := fun v S' => ∃ l xs, v = .ref l ∧ S l = none ∧ S' l = some (.lst xs) ∧ Dts K ds xs S' ∧ xs.length ≤ sizeLine
instance {K : PySem.W.Frag} {S : Hp} {ds : List PyData} : Mn (NewL K S ds) := ⟨fun s ⟨l, xs, e, h, h1, h2, z⟩ => ⟨l, xs, e, h, s _ _ h1, h2.up s, z⟩⟩
theorem ee_listN (hm : X.mg "list" = none) (hd : d = .list ds ∨ d = .tuple ds) (ha : EE X σ S a (Dt X.K d)) (hg : Gl X "list" := by rfl)
    (hs : starEach [a] X.env = (false, eval a X.env) :: starEach [] X.env := by rfl) : EE X σ S (.Call (.Name "list" p) [a] [] pos) (NewL X.K S ds) :=
  ee_callTy call_list_of hm boot_list (ea_1 ha hs) (fun vs S1 H1 st s al Q q => by
    obtain ⟨v, rfl, pv⟩ := al.one
    rcases hd with rfl | rfl
    · obtain ⟨l, xs, rfl, hl, hx, z⟩ := pv.lst_inv
      exact ⟨l, xs, rfl, .inl (sql_of (s _ _ hl)), fun t ht => q _ _ _ (Gr.new s ht) ⟨t, xs, rfl, st.free (s.free ht), upd_same, hx.up (Same.new (s.free ht)), z⟩⟩
    · obtain ⟨l, xs, rfl, hl, hx, z⟩ := pv.tup_inv
      exact ⟨l, xs, rfl, .inr (sqt_up s hl), fun t ht => q _ _ _ (Gr.new s ht) ⟨t, xs, rfl, st.free (s.free ht), upd_same, hx.up (Same.new (s.free ht)), z⟩⟩) hg (he := hs) (hpl := by rfl)
/-- (x,) * n -/
theorem tuple_mul1 (l : Addr) (items : Array Value) (n : Nat) (dd : Option Addr) (sl : Array (Option Value)) (u : Tok) :
    Meets (Builtin.«tuple.__mul__» ⟨[.ref l, .int 1 u], []⟩) (fun _ R s => s.heap.get? l = some { cls := .type "tuple", dict := dd, data := .seq items n, slots := sl } ∧ R (.ok (.ret (Value.ref l))) s) :=
  .of_wp fun prog w A R s h => by
    obtain ⟨hp, g, d, tk, os⟩ := s
    obtain ⟨hl, h⟩ := h
    have f1 := AutoSeq1.idx_int
    have c0 : (decide ((1 : Int) < -(2 ^ 63)) || decide ((1 : Int) ≥ 2 ^ 63)) = false := by decide
    have c1 : (items.isEmpty || (1 : Int) == 1) = true := by simp
    wp_walk using wpAny_loadPart' hl
    repeat (first
      | (refine wpAny_ite_false (decide_eq_false (by rw [c0]; exact Bool.false_ne_true)) ?_; wp_walk using wpAny_loadPart' hl)
      | (refine wpAny_ite_true (decide_eq_true c1) ?_; wp_walk using wpAny_loadPart' hl))
    exact ⟨_, rfl, h⟩
def rRep1 (K : PySem.W.Frag) : R2 := fun x y H Q => ∃ l xs, x = .ref l ∧ y = .int 1 ∧ SqT K H l xs ∧ Q (.ref l) H
theorem op_rep1 : OpR X (binaryOp .Mult) (rRep1 X.K) := by
  intro pins s σ H x y v u Q I rx ry h
  obtain ⟨l, xs, rfl, rfl, hT, q⟩ := h
  cases rx
  obtain ⟨t, rfl⟩ := ry
  obtain ⟨its, r, ⟨⟨cls, dd, data, sl⟩, ho, hc, n, hd⟩, hs⟩ := I.tuple hT
  simp only at hc hd
  subst hc hd
  refine wpAny_binaryOp_repeat_ref (T := "tuple") (U := "int") (by decide) ⟨_, ho, rfl⟩ (fun s' => typeIs_int s' 1 t) noFill_tuple_mul F.fills_int_mul F.slot_int_rmul repeat_tuple F.slot_int_index.lookup
    (call_meets F.slot_int_rmul (typeIs_int s 1 t) F.entry_int_rmul (F.args_int_rmul_2 _ _) (int_rmul_tuple 1 t l its.toArray n dd sl)
      ⟨ho, rfl, ⟨_, ho, rfl⟩, call_meets F.slot_tuple_mul ⟨_, ho, rfl⟩ F.entry_tuple_mul (F.args_tuple_mul_2 _ _) (tuple_mul1 l its.toArray n dd sl t) ⟨ho, ?_⟩⟩)
  exact ⟨.ref l, H, I, rfl, q⟩
theorem ee_repT {n : Nat} (hn : 1 ≤ n) (hz : n ≤ 1000) (hc : ds.length ≤ 1000) (hne : ds ≠ []) (ha : EE X σ S a (Dt X.K (.tuple ds))) (hb : EE X σ S b (Dt X.K (.int n))) : EE X σ S (.BinOp a .Mult b pos) (Dt X.K (.tuple (List.replicate n ds).flatten)) := by
  by_cases h1 : n = 1
  · subst h1
    refine (ee_op op_rep1 ha hb (R := Dt X.K (.tuple ds)) fun x y S1 H1 _ s px py Q q => ?_).isd (by simp)
    cases py
    obtain ⟨l, xs, rfl, hl, hx, z⟩ := px.tup_invS
    exact ⟨l, xs, rfl, rfl, sqt_up s hl.sq, q _ S1 H1 (Gr.refl s) (Dt.tup_mk hl hx z)⟩
  · refine ee_op op_repT ha hb fun x y S1 H1 _ s px py Q q => ?_
    cases py
    obtain ⟨l, xs, rfl, hl, hx, z⟩ := px.tup_inv
    refine ⟨l, n, xs, rfl, rfl, sqt_up s hl, fun e => hne ?_, by omega, by omega, by rw [hx.1]; exact hc, fun t ht => q _ _ _ (Gr.new s ht) ?_⟩
    · have := hx.1; rw [e] at this; exact List.eq_nil_of_length_eq_zero this.symm
    · have e : ((n : Int)).toNat = n := by omega
      rw [e]
      refine Dt.tup_mk (tus_of upd_same) ((flat_dts (d := .none) rfl hx _).up (Same.new (s.free ht))) ?_
      rw [flatten_len, hx.1]
      have : ds.length * n ≤ 1000 * 1000 := Nat.mul_le_mul hc hz
      show _ ≤ 16777216
      omega
end
end Y
namespace Y
open PySem PySem.Spec PyProof.Rows L2 Z
section
variable {X : Cx} {σ : L2.St} {S S' H : Hp} {e a b c o : Expr} {es : List Expr} {P Pa Pb P0 P1 R : V → Hp → Prop} {Ps : List (V → Hp → Prop)} {pos p apos kpos : Pos} {i j l : Int} {d : PyData} {ds ds1 ds2 : List PyData} {k : Nat} {x m f kn : Str} {sp : Sp} {C dx r : Addr} {D : Ends} {rest : List Stmt}
/-! ### o.m(k = e) -/
/-! ### a def with a star parameter -/
/-! ### f-strings -/
inductive EJ (X : Cx) (σ : L2.St) (S : Hp) : List Expr → List Str → Prop
  | nil : EJ X σ S [] []
  | cons {e : Expr} {es : List Expr} {y : Str} {ys : List Str} : EE X σ S e (Dt X.K (.str y)) → EJ X σ S es ys → EJ X σ S (e :: es) (y :: ys)
theorem EJ.run {es : List Expr} {ys : List Str} (h : EJ X σ S es ys) : ∀ (acc : Str) (S1 H1 : Hp) (Q : Str → Hp → Prop), Same S S1 → Same S1 H1 → acc.length + (ys.map (·.length)).sum ≤ sizeLine → (∀ S2 H2, Gr S1 H1 S2 H2 → Q (ys.foldl (· ++ ·) acc) H2) → tJs (es.map (bE X)) acc σ H1 Q := by
  induction h with
  | nil => intro acc S1 H1 Q _ s _ q; exact q S1 H1 (Gr.refl s)
  | @cons e es y ys he _ ih =>
    intro acc S1 H1 Q st s hz q
    rw [List.map_cons, List.sum_cons] at hz
    have el : (acc ++ y).length = acc.length + y.length := by
      show (acc.cps ++ y.cps).size = _
      rw [Array.size_append]; rfl
    refine (he.up st) H1 s _ fun v S2 H2 g2 pv => ?_
    cases pv
    exact ⟨y, rfl, by rw [el]; omega, ih (acc ++ y) S2 H2 Q (st.trans g2.st) g2.sub (by rw [el]; omega) fun S3 H3 g3 => q S3 H3 (g2.trans g3)⟩
/-! ### [*a, *b] -/
/-! ### a new list is changed -/
def del (S : Hp) (l : Addr) : Hp := fun a => if a = l then none else S a
theorem del_self {S : Hp} {l : Addr} : del S l l = none := by unfold del; rw [if_pos rfl]
theorem del_ne {S : Hp} {l a : Addr} (h : a ≠ l) : del S l a = S a := by unfold del; rw [if_neg h]
theorem Gr.cut {Sb Hb S H : Hp} {l : Addr} {o : HO} (g : Gr Sb Hb S H) (sb : Same Sb Hb) (h : Hb l = none) : Gr Sb Hb (del S l) (upd H l o) := by
  have hs : Sb l = none := sb.free h
  exact ⟨fun a u e => by
    have ne : a ≠ l := fun z => by subst z; rw [hs] at e; cases e
    rw [del_ne ne]; exact g.st a u e, fun a u e => by
    by_cases ne : a = l
    · subst ne; rw [del_self] at e; cases e
    · rw [del_ne ne] at e; rw [upd_ne ne]; exact g.sub a u e, fun a u e => by
    have ne : a ≠ l := fun z => by subst z; rw [h] at e; cases e
    rw [upd_ne ne]; exact g.hh a u e, fun a u e m => by
    have ne : a ≠ l := fun z => by subst z; rw [h] at e; cases e
    rw [del_ne ne]; exact g.old a u e m⟩
end
end Y
namespace Y
open PySem PySem.Spec PyProof.Rows L2 Z
section
variable {X : Cx} {σ : L2.St} {S S' H : Hp} {a b e : Expr} {Pa Pb : V → Hp → Prop} {pos p px py pt : Pos} {D : Ends} {rest : List Stmt} {x y : Str} {i j kt : Nat}
/-- x, y = a, b by a pair -/
theorem hs_unp2 [Mn Pa] [Mn Pb] {x1} (hc : X.calm = true) (hN : X.N.Nodup) (ha : EE X σ S a Pa) (hb : EE X σ S b Pb) (s : Same S H)
    (q : ∀ v w S' H', Pa v S' → Pb w S' → Gr S H S' H' → HS X D rest ((σ.set i (some v)).set j (some w)) H')
    (hi : X.N[i]? = some x := by rfl) (hj : X.N[j]? = some y := by rfl) (hx : Loc X.env.scope x := by first | exact Or.inl rfl | exact Or.inr rfl) (hy : Loc X.env.scope y := by first | exact Or.inl rfl | exact Or.inr rfl)
    (hfx : X.fn x = true ∨ X.env.scope.names.lookup x = some .local := by first | exact .inl rfl | exact .inr rfl) (hfy : X.fn y = true ∨ X.env.scope.names.lookup y = some .local := by first | exact .inl rfl | exact .inr rfl)
    (hn : (assignEach [.Name x px, .Name y py] X.env).length = 2 := by rfl) (hst : (assignEach [.Name x px, .Name y py] X.env).findIdx? (·.1) = none := by rfl)
    (h1 : (assignEach [.Name x px, .Name y py] X.env).map (·.2) = assign (.Name x px) X.env :: (assignEach [.Name y py] X.env).map (·.2) := by rfl) (h2 : (assignEach [.Name y py] X.env).map (·.2) = assign (.Name y py) X.env :: (assignEach [] X.env).map (·.2) := by rfl)
    (hss : swapsWithSole [.Tuple [.Name x px, .Name y py] kt pt] (.Tuple [a, b] x1 p) pos.line X.env = pure false := by rfl) (hw : swappedStores [.Tuple [.Name x px, .Name y py] kt pt] (.Tuple [a, b] x1 p) X.env = pure none := by rfl)
    (h3 : (assignEach [.Tuple [.Name x px, .Name y py] kt pt] X.env).map (·.2) = [assign (.Tuple [.Name x px, .Name y py] kt pt) X.env] := by rfl)
    (hs1 : starEach [a, b] X.env = (false, eval a X.env) :: starEach [b] X.env := by rfl) (hs2 : starEach [b] X.env = (false, eval b X.env) :: starEach [] X.env := by rfl) : HS X D (.Assign [.Tuple [.Name x px, .Name y py] kt pt] (.Tuple [a, b] x1 p) pos :: rest) σ H := by
  have ht : EE X σ S (.Tuple [a, b] x1 p) (fun v S' => ∃ l v1 v2, v = .ref l ∧ S' l = some (.tup [v1, v2]) ∧ Pa v1 S' ∧ Pb v2 S') :=
    ee_tupA (vsP := fun vs S' => ∃ v1 v2, vs = [v1, v2] ∧ Pa v1 S' ∧ Pb v2 S') (fun H s Q q => (ea_2 ha hb hs1 hs2).2 H s Q fun vs S' H' g al => q vs S' H' g (by
      obtain ⟨v, w, rfl, p1, p2⟩ := al.two
      exact ⟨v, w, rfl, p1, p2⟩)) (fun vs _ ⟨_, _, e, _⟩ => by subst e; show 2 ≤ 16777216; decide) (fun vs S' t st ht ⟨v1, v2, e, p1, p2⟩ => by subst e; exact ⟨t, v1, v2, rfl, upd_same, Mn.up (Same.new ht) p1, Mn.up (Same.new ht) p2⟩)
  exact hs_cons (ps_asg peb pgb hss hw h3) (ht H s _ fun v S' H' g ⟨l, v1, v2, e, hl, p1, p2⟩ => by
    subst e
    exact hg_of (pg_tup hc (pgs_cons (pg_name hN hi hx hfx) (pgs_cons (pg_name hN hj hy hfy) pgs_nil h2) h1) hn hst) ⟨l, _, rfl, .inl (.inl (g.sub _ _ hl)), rfl, _, _, rfl, _, _, rfl, rfl, q v1 v2 S' H' p1 p2 g⟩)
end
end Y
namespace Y
open PySem PySem.Spec PyProof.Rows L2 Z
end Y
namespace Y
open PySem PySem.Spec PyProof.Rows L2 Z
/-! ## own errors -/
/-- what the __init__ of an own error promises: its field, its code -/
def spXI (C : Addr) (fname code : Str) : Sp := fun vs H Q _ => ∃ a v, vs = [.ref a, v] ∧ H a = some (exo a C none) ∧ ∀ dx, H dx = none → dx ≠ a → Q .non (upd (upd (upd H dx (exd dx [(fname, v)])) a (exo a C (some dx))) dx (exd dx [("code", .str code), (fname, v)]))
/-- an own error, ready to be raised -/
structure Err (P : Program) (w : World) (K : PySem.W.Frag) (mg : Str → Option Value) (base : Heap) (x : Str) (C : Addr) (fname code : Str) : Prop where
  T : OexC K C
  gl : mg x = some (.ref C)
  ex : ∃ fI fd ps, PySem.W.findIn K (.ref C) "__init__" = some (some (.ref fI)) ∧ PySem.W.typeIn K (.ref fI) = some (.type "function") ∧ FnOk P w K mg base CX0 1 fI fd ps (spXI C fname code) ∧ Binds K fd ps []
section
variable {X : Cx} {σ : L2.St} {S S' H : Hp} {e : Expr} {Pv : V → Hp → Prop} {pos p pos2 : Pos} {D : Ends} {rest : List Stmt} {x fname code : Str} {C : Addr} {E : XK} {W : WX}
/-- raise C(e) -/
theorem hs_raiseO (hc : X.calm = true) (tk : Takes X (fun cls d _ H => E cls d H)) (R : Err X.prog X.w X.K X.mg X.base x C fname code) (hr : Room 2 X.A) (ha : EE X σ S e Pv) (s : Same S H)
    (q : ∀ v S1 H1 d H3, Gr S H S1 H1 → Pv v S1 → H1 d = none → Same (upd S1 d (.xd [("code", .str code), (fname, v)])) H3 → Same H1 H3 → E (.ref C) (some d) H3) (hg : Gl X x := by rfl)
    (hdb : (x == ("__debug__" : Str)) = false := by decide) (he : starEach [e] X.env = (false, eval e X.env) :: starEach [] X.env := by rfl) (hpl : (backTo pos (starEach [] X.env)).any (·.1) = false := by rfl) : HS X D (.Raise (some (.Call (.Name x p) [e] [] pos)) none pos2 :: rest) σ H := by
  obtain ⟨fI, fd, ps, iC, tI, F1, hb⟩ := R.ex
  refine hs_cons (ps_raise hc tk (pmk_oex R.T iC tI F1 hr hb .nil pass0 hg R.gl (pa_cons (te := bE X e) (t := tNil) peb pa_nil he) hdb he hpl)) (ha H s _ fun v S1 H1 g1 pv => ?_)
  refine ⟨by show 1 ≤ 1000; decide, fun a ha0 => ⟨a, v, rfl, upd_same, fun dx hdx hne => ⟨rfl, dx, [("code", .str code), (fname, v)], ?_, upd_same, ?_, ?_⟩⟩⟩
  · rw [upd_ne (Ne.symm hne), upd_same]
  · rw [upd_ne hne] at hdx; exact hdx
  · rw [upd_ne hne] at hdx
    have key : ∀ z o, H1 z = some o → upd (L2.del (upd (upd (upd (upd H1 a (exo a C none)) dx (exd dx [(fname, v)])) a (exo a C (some dx))) dx (exd dx [("code", .str code), (fname, v)])) a) dx (.xd [("code", .str code), (fname, v)]) z = some o := fun z o hz => by
      have n1 : z ≠ a := ne_of_none hz ha0
      have n2 : z ≠ dx := ne_of_none hz hdx
      rw [upd_ne n2, L2.del_ne n1, upd_ne n2, upd_ne n1, upd_ne n2, upd_ne n1]; exact hz
    refine q v S1 H1 dx _ g1 pv hdx (fun z o hz => ?_) key
    by_cases hzd : z = dx
    · subst hzd; rw [upd_same] at hz ⊢; exact hz
    · rw [upd_ne hzd] at hz; exact key z o (g1.sub _ _ hz)
end
/-- a def that may raise, by its body -/
theorem fn_hsX {P : Program} {w : World} {K : PySem.W.Frag} {mg : Str → Option Value} {base : Heap} {x qual : Str} {params : Arguments} {body : List Stmt} {scope : Scope} {dvs : List V} {kws : List (Str × V)} {f : Addr} {fd : FuncData} {N ps : List Str} {k : Nat} {sp : Sp}
    (F : FunD K x qual params body scope dvs kws f fd) (Sc : FnScope N ps scope) (len : ∀ vs H Q E, sp vs H Q E → vs.length = ps.length)
    (hb : ∀ (cdv : Value) (A : Around) (outer : List Env) (s : Shared) (H : Hp) (vs : List V) (Q : VK) (E : XK), Room k (A.deeper (envOfC qual scope s.heap.objs.size f cdv)) → sp vs H Q E →
      Takes (cxOf (L2.CX P w) P w K mg base N qual scope f cdv A outer s H E) (fun cls d _ H' => E cls d H') →
      HS (cxOf (L2.CX P w) P w K mg base N qual scope f cdv A outer s H E) { nx := fun _ H' => Q .non H', rt := Q } body (start N vs) H) : FnOk P w K mg base (L2.CX P w) (k + 1) f fd ps sp :=
  F.ok Sc len fun cdv A outer s H vs Q E hr h => ⟨_, psb, hb cdv A outer s H vs Q E hr h (takes_of rfl rfl rfl rfl)⟩
end Y
namespace Y
open PySem PySem.Spec PyProof.Rows L2 Z
/-! ## try: .. except (A, B, C) as e: .. (the outline of the catch follows HandS.Exc's ps_try_as) -/
theorem flying_kept {B h h' : Heap} {l : List Env} {e : Addr} {Z : Obj → Prop} (x : HandSPX.FlyingZ B l e Z h) (k : ∀ b o, h.get? b = some o → h'.get? b = some o) : HandSPX.FlyingZ B l e Z h' := by
  obtain ⟨x1, x2, x3, oe, vs, T, oT, ts, he, hz, hd, h1, hn, hTe, hT, hdT, h3⟩ := x
  exact ⟨fun b o e => k b o (x1 b o e), x2, x3.of_keeps fun b o hb _ => ⟨o, k b o hb, rfl⟩, oe, vs, T, oT, ts, k _ _ he, hz, hd, h1, hn, hTe, k _ _ hT, hdT, h3⟩
theorem up_kept {h h' : Heap} (k : ∀ b o, h.get? b = some o → h'.get? b = some o) : h.UpToSlots h' := fun b o hb _ => ⟨o.slots, k b o hb⟩
/-- the test of a clause: it lays new objects at most, and answers b for exceptions of the class cls -/
def Tst (X : Cx) (t : Expr) (cls : Value) (b : Bool) : Prop := ∀ (a : Addr) (pn : List (Addr × Obj)) (σ : L2.St) (H : Hp) (s : Shared) (E : Value → Shared → Prop) (Q : Value → Shared → Prop), Inv (X.suite a pn) [] σ H s →
  PySem.W.Looks (model X.prog X.w) s.heap (typeOf (.ref a)) cls → (∀ c h', (∀ b o, s.heap.get? b = some o → h'.get? b = some o) → PySem.W.Looks (model X.prog X.w) h' (excMatches (.ref a) c) b → Q c { s with heap := h' }) →
  wpAny (model X.prog X.w) (X.A.mark (some (.ref a))) (eval t X.env) Q E s
theorem tst_name {X : Cx} {x1 : Str} {c1 cls : Value} {p1 : Pos} {b : Bool} {H : Hp} {a : Addr} {pn : List (Addr × Obj)} {σ : L2.St} {s : Shared} {E Q : Value → Shared → Prop} (n1 : Names X x1 c1) (I : Inv (X.suite a pn) [] σ H s) (q : Q c1 s) :
    wpAny (model X.prog X.w) (X.A.mark (some (.ref a))) (eval (.Name x1 p1) X.env) Q E s := by
  obtain ⟨hg, hdbg, hm | ⟨hm, hv, hnn⟩⟩ := n1
  · exact ld_glob (X := X.suite a pn) I hg hm q hdbg
  · exact ld_blt (X := X.suite a pn) I hg hm hv q hnn hdbg
theorem tst3 {X : Cx} {x1 x2 x3 : Str} {c1 c2 c3 cls : Value} {p1 p2 p3 p : Pos} {k : Nat} {b : Bool} (n1 : Names X x1 c1) (n2 : Names X x2 c2) (n3 : Names X x3 c3) (he : PySem.W.exmAny X.K cls [c1, c2, c3] = some b) : Tst X (.Tuple [.Name x1 p1, .Name x2 p2, .Name x3 p3] k p) cls b := by
  intro a pn σ H s E Q I LT q
  refine wpAny_Tuple ?_
  refine wpAny_items_cons (tst_name (cls := cls) (b := b) n1 I ?_)
  refine wpAny_items_cons (tst_name (cls := cls) (b := b) n2 I ?_)
  refine wpAny_items_cons (tst_name (cls := cls) (b := b) n3 I ?_)
  refine wpAny_items_nil ⟨by size_fits, ?_⟩
  have kp : ∀ q o, s.heap.get? q = some o → (s.heap.push { cls := .type "tuple", data := .seq [c1, c2, c3].toArray }).get? q = some o := fun _ _ z => Heap.get?_push_of_some _ z
  exact q _ _ kp (PySem.W.exm_tup3 (I.kIn.keeps kp) (LT.keeps kp) (Heap.get?_push_size s.heap rfl) he)
def bS (X : Cx) (st : Stmt) : TS := fun D σ H => ∀ (pins : List (Addr × Obj)) (s : Shared), Inv X pins σ H s → wpAny (model X.prog X.w) X.A (exec st X.env) (SP X pins D) X.xe s
/-- the ends of a suite whose name goes -/
def Dgo (i : Nat) (D : Ends) : Ends := { nx := fun σ H => D.nx (σ.set i none) H, rt := D.rt, bk := fun σ H => D.bk (σ.set i none) H, ct := fun σ H => D.ct (σ.set i none) H }
/-- what the clause wishes of an exception of the body -/
def WAs (X : Cx) (t : Expr) (i : Nat) (suite : List Stmt) (Wout : WX) (D : Ends) : WX := fun cls d σ H => σ.length = X.N.length → ∃ b, Tst X t cls b ∧
  (b = true → ∀ a oe pn, H a = none → X.base.get? a = none → Zc cls d oe → (∃ vs, oe.data = .fields vs) → HS (X.suite a ((a, oe) :: pn)) (Dgo i D) suite (σ.set i (some (.ref a))) H) ∧ (b = false → Wout cls d σ H)
theorem hs_tryAs {X : Cx} {D : Ends} {t : Expr} {n : Str} {i : Nat} {body suite rest : List Stmt} {b₀ : Stmt} {pos pos' : Pos} {Wout : WX} {σ : L2.St} {H : Hp} (hs : X.stack = X.env :: X.outer) (hf : X.env.frame = some X.env.locals) (hN : X.N.Nodup) (hi : X.N[i]? = some n) (hln : X.env.kindOf n = some .local) (tk : Takes X Wout)
    (hb : ∀ (pn : List (Addr × Obj)) (xe : Value → Shared → Prop), Takes (X.tr pn xe) (WAs X t i (b₀ :: suite) Wout (Dn X D rest)) → PassesOwn (model X.prog X.w) X.A X.env xe → HS (X.tr pn xe) (Dn X D rest) body σ H) :
    HS X D (.Try body [.ExceptHandler (some t) (some n) (b₀ :: suite) pos'] [] [] pos :: rest) σ H := by
  refine hs_cons (t := bS X _) ⟨fun pins s σ H D I h => h pins s I⟩ fun pins s I => ?_
  have ok := I.ok
  have hfr : X.A.frames = some (X.env :: X.outer) := by rw [ok.frames, hs]
  refine wpAny_Try_except ?_
  refine wpAny_mono (hb (X.pn ++ pins) (fun e s₁ => wpAny (model X.prog X.w) X.A (noteFrame e X.env) (fun _ s₂ => wpAny (model X.prog X.w) X.A (setFlight e none) (fun _ s₃ =>
    wpAny (model X.prog X.w) X.A (handleBy e X.env [.ExceptHandler (some t) (some n) (b₀ :: suite) pos']) (SP X pins (Dn X D rest)) X.xe s₃) X.xe s₂) X.xe s₁) (fun u s' xx => ?_) PassesOwn.looking [] s (I.toTry _)) (fun f s1 hsp => ?_) (fun e s1 he => he)
  · obtain ⟨a, B, sI, pins', σ', H', cls, d, rfl, J', nb, up, sky, na, os, ag, hw⟩ := xx
    have J : Inv X pins σ' H' sI := J'.ofTry ok
    obtain ⟨b, hT, hyes, hno⟩ := hw J.len
    refine Sky.land Zc.steady hfr hf (by rw [← hs]; exact sky) fun h3 fl3 up3 => ?_
    have J3 : Inv X pins σ' H' { s' with heap := h3 } := J.landed nb fl3.1 (up.trans up3) os ag
    have away : ∀ {h : Heap} {o : Obj} {vs : Array Value}, h.FunFrames B (X.env :: X.outer) → h.get? a = some o → o.data = .fields vs → a ≠ X.env.locals ∧ a ∉ X.fs := fun {h o vs} ff e dd => by
      have nfr : a ∉ frs (X.env :: X.outer) := fun hm => by
        obtain ⟨_, o', e', hnf⟩ := ff.mem hm
        rw [e] at e'; cases e'
        exact hnf _ dd
      refine ⟨fun z => nfr (List.mem_filterMap.mpr ⟨X.env, List.mem_cons_self, by rw [hf, z]⟩), fun hm => ?_⟩
      obtain ⟨e, he, q⟩ := List.mem_filterMap.mp hm
      exact nfr (List.mem_filterMap.mpr ⟨e, List.mem_cons_of_mem _ he, q⟩)
    obtain ⟨oe3, vs3, he3, hz3, hd3⟩ := fl3.there
    obtain ⟨nL, nF⟩ := away fl3.2.2.1 he3 hd3
    have nB : X.base.get? a = none := by
      cases e : X.base.get? a with
      | none => rfl
      | some o =>
        have z := nb a o (J.bs a o e).1 fun hm => by
          have z := (J.stack.mem hm).1
          rw [e] at z; cases z
        rw [fl3.2.1] at z; cases z
    have LT : PySem.W.Looks (model X.prog X.w) h3 (typeOf (.ref a)) cls := fun A Q E s k q => wpAny_typeOf_ref (k _ _ he3) (by rw [hz3.1]; exact q)
    refine PySem.W.exc_clause_as (hT a _ σ' H' _ _ _ (J3.suite he3 hd3 na nL nF) LT fun c h5 k5 L5 => ⟨b, L5, ?_⟩)
    have fl5 := flying_kept fl3 k5
    have up5 := (up.trans up3).trans (up_kept k5)
    cases b with
    | true =>
      rw [if_pos rfl]
      refine HandSPX.lands_againZ fl5 fun h4 fl4 up4 => ?_
      have J4 : Inv X pins σ' H' { s' with heap := h4 } := J.landed nb fl4.1 (up5.trans up4) os ag
      obtain ⟨oe4, vs4, he4, hz4, hd4⟩ := fl4.there
      refine store_ok (X := X.suite a ((a, oe4) :: (X.pn ++ pins))) (v := .ref a) (J4.suite he4 hd4 na nL nF) hN hi (.inl hln) rfl (fun s5 S5 => ?_) (.inr hln)
      refine wpAny_mono (hyes rfl a oe4 (X.pn ++ pins) na nB hz4 ⟨_, hd4⟩ [] s5 S5) (fun f s6 hsp => ?_) (fun _ _ z => False.elim z)
      cases f with
      | next => exact hsp.elim fun σ6 ⟨H6, S6, q6⟩ => gone_ok (S6.unsuite ok) hN hi hln fun s7 J7 => ⟨_, _, J7, q6⟩
      | brk => exact hsp.elim fun σ6 ⟨H6, S6, q6⟩ => gone_ok (S6.unsuite ok) hN hi hln fun s7 J7 => ⟨_, _, J7, q6⟩
      | cont => exact hsp.elim fun σ6 ⟨H6, S6, q6⟩ => gone_ok (S6.unsuite ok) hN hi hln fun s7 J7 => ⟨_, _, J7, q6⟩
      | ret u => exact hsp.elim fun v6 ⟨σ6, H6, S6, r6, q6⟩ => gone_ok (S6.unsuite ok) hN hi hln fun s7 J7 => ⟨_, _, _, J7, r6, q6⟩
    | false =>
      rw [if_neg (by decide)]
      refine wpAny_handleBy_nil ?_
      obtain ⟨k1, k2, k3, oe, vs, T, oT, ts', he, hz, hd, h1, hr⟩ := id fl5
      unfold PySem.passOn
      refine wpAny_bind (wpAny_field he hd h1 ?_)
      rw [if_neg (show ¬ ((Value.ref T == Value.none) = true) from by simp)]
      have fin : wpAny (model X.prog X.w) X.A (setFlight (.ref a) X.env.frame) (fun _ s4 => wpAny (model X.prog X.w) X.A (throw (.ref a) : Sem Flow) (SP X pins (Dn X D rest)) X.xe s4) X.xe { s' with heap := h5 } := by
        rw [hf]
        refine HandSPX.setFlight_upZ fl5 fun h4 hh4 up4 => wpAny_throw (tk _ _ ?_)
        exact ⟨a, B, sI, pins, σ', H', cls, d, rfl, J, nb, up5.trans up4, .inr (.inr (by rw [hs]; exact hh4)), na, os, ag, hno rfl⟩
      first
        | exact wpAny_bind (wpAny_pure (wpAny_bind fin))
        | exact wpAny_bind fin
  · cases f with
    | next => exact hsp.elim fun σ' ⟨H', J', q⟩ => wpAny_execs_nil ⟨σ', H', J'.ofTry ok, q⟩
    | brk => exact hsp.elim fun σ' ⟨H', J', q⟩ => ⟨σ', H', J'.ofTry ok, q⟩
    | cont => exact hsp.elim fun σ' ⟨H', J', q⟩ => ⟨σ', H', J'.ofTry ok, q⟩
    | ret u => exact hsp.elim fun v ⟨σ', H', J', r, q⟩ => ⟨v, σ', H', J'.ofTry ok, r, q⟩
end Y
namespace Y
open PySem PySem.Spec PyProof.Rows L2 Z
/-! ## objects shown to a call: untracked ones, told by their objects while the call runs -/
def shown (H : Hp) (a : Addr) (o : Obj) : Hp := upd H a (.frz o (.ext fun _ => True))
def shownL (H : Hp) : List (Addr × Obj) → Hp
  | [] => H
  | p :: L => shown (shownL H L) p.1 p.2
def delL (H : Hp) : List (Addr × Obj) → Hp
  | [] => H
  | p :: L => delL (L2.del H p.1) L
section
variable {P : Program} {w : World} {H H1 : Hp} {h h1 B : Heap} {a b : Addr} {o : Obj} {u : HO} {fs : List Addr}
theorem shown_same : shown H a o a = some (.frz o (.ext fun _ => True)) := upd_same
theorem shown_ne (hb : b ≠ a) : shown H a o b = H b := upd_ne hb
theorem shown_hok (x : HOk P w H h) (n : H a = none) (e : h.get? a = some o) : HOk P w (shown H a o) h := fun b v q => by
  by_cases hb : b = a
  · subst hb
    rw [shown_same] at q
    cases q
    exact ⟨e, trivial, ⟨o, e⟩, fun _ _ _ _ => trivial⟩
  · rw [shown_ne hb] at q
    exact (x b v q).stay (fun _ _ _ z => z) (fun c z => (shown_ne (ne_of_none z n)).trans z) (fun c xs z => (shown_ne (ne_of_none z n)).trans z)
theorem del_hok (x : HOk P w H h) (e : H a = some (.frz o u)) : HOk P w (L2.del H a) h := fun b v q => by
  have hb : b ≠ a := fun z => by rw [z, L2.del_same] at q; cases q
  rw [L2.del_ne hb] at q
  exact (x b v q).stay (fun _ _ _ z => z) (fun c z => (L2.del_ne (fun y => by rw [y, e] at z; cases z)).trans z) (fun c xs z => (L2.del_ne (fun y => by rw [y, e] at z; cases z)).trans z)
theorem del_un (U : Un fs [] (shown H a o) H1 h h1) (ok : HOk P w H1 h1) (n : H a = none) (e : h.get? a = some o) : Un fs [] H (L2.del H1 a) h h1 := by
  have e1 : h1.get? a = some o := (ok a _ (U.frzs a _ _ shown_same)).1
  refine ⟨fun b ob q nb hf hx => ?_, fun b ob q nb hf hx => ?_, fun b ob q nb hx => ?_, U.there, fun b xs q => ?_, fun b ob v q => ?_, fun b ps q => ?_⟩
  · by_cases hb : b = a
    · subst hb; rw [e] at q; cases q; exact e1
    · exact U.keep b ob q ((shown_ne hb).trans nb) hf hx
  · by_cases hb : b = a
    · subst hb; rw [e] at q; cases q; exact ⟨_, e1⟩
    · exact U.slot b ob q ((shown_ne hb).trans nb) hf hx
  · by_cases hb : b = a
    · subst hb; exact L2.del_same
    · exact (L2.del_ne hb).trans (U.free b ob q ((shown_ne hb).trans nb) hx)
  · have hb := ne_of_none q n
    exact (L2.del_ne hb).trans (U.tups b xs ((shown_ne hb).trans q))
  · have hb := ne_of_none q n
    exact (L2.del_ne hb).trans (U.frzs b ob v ((shown_ne hb).trans q))
  · have hb := ne_of_none q n
    obtain ⟨m, z⟩ := U.tbls b ps ((shown_ne hb).trans q)
    exact ⟨m, (L2.del_ne hb).trans z⟩
end
/-- what leaves a call by an exception bears the hiding of a shown object -/
def Hides (CX : CXT) : Prop := ∀ (outer : List Env) (H : Hp) (a : Addr) (o : Obj) (s : Shared) (E : XK) (u : Value) (s' : Shared), H a = none → s.heap.get? a = some o → CX outer (shown H a o) s (fun cls d H' => E cls d (L2.del H' a)) u s' → CX outer H s E u s'
theorem hides0 : Hides CX0 := fun _ _ _ _ _ _ _ _ _ _ h => h.elim
/-- a thing that may be shown at this state -/
structure Show (base : Heap) (outer : List Env) (H : Hp) (s : Shared) (a : Addr) (o : Obj) : Prop where
  ob : s.heap.get? a = some o
  no : H a = none
  nf : a ∉ frs outer
  nb : base.get? a = none
theorem Show.skip {base : Heap} {outer : List Env} {H : Hp} {s : Shared} {a b : Addr} {o p : Obj} (x : Show base outer H s a o) (h : a ≠ b) : Show base outer (shown H b p) s a o := ⟨x.ob, (shown_ne h).trans x.no, x.nf, x.nb⟩
theorem Show.list {base : Heap} {outer : List Env} {H : Hp} {s : Shared} {a : Addr} {o : Obj} (x : Show base outer H s a o) : ∀ {L : List (Addr × Obj)}, a ∉ L.map (·.1) → Show base outer (shownL H L) s a o
  | [], _ => x
  | p :: L, h => by
    simp only [List.map_cons, List.mem_cons, not_or] at h
    exact (x.list h.2).skip h.1
section
variable {P : Program} {w : World} {K : PySem.W.Frag} {mg : Str → Option Value} {base : Heap} {A : Around} {outer : List Env} {s : Shared} {H : Hp} {a : Addr} {o : Obj} {CX : CXT} {c : Code} {Q : VK} {E : XK}
theorem env0_shown (e : Env0 P w K mg base A outer s H) (x : Show base outer H s a o) : Env0 P w K mg base A outer s (shown H a o) := by
  refine ⟨e.frames, e.mod, fun b ob q => ⟨(e.bs b ob q).1, ?_⟩, e.bsz, e.funs, fun b hb => ?_, shown_hok e.hok x.no x.ob, e.bare⟩
  · rw [shown_ne (fun z => by rw [z, x.nb] at q; cases q)]
    exact (e.bs b ob q).2
  · have hba : b ≠ a := fun z => x.nf (by rw [← z]; exact hb)
    rw [shown_ne hba]
    exact e.frf b hb
theorem hide (hd : Hides CX) (n : H a = none) (e : s.heap.get? a = some o) (h : codeAny (model P w) A c (CR CX outer P w (shown H a o) s (fun v H' => Q v (L2.del H' a)) (fun cls d H' => E cls d (L2.del H' a))) s) : codeAny (model P w) A c (CR CX outer P w H s Q E) s := by
  refine codeAny_mono h fun r s' hq => ?_
  cases r with
  | error u => exact hd _ _ _ _ _ _ _ _ n e hq
  | ok fl =>
    cases fl with
    | ret u =>
      obtain ⟨v, H', os, bare, un, hok, r, q⟩ := hq
      exact ⟨v, L2.del H' a, os, bare, del_un un hok n e, del_hok hok (un.frzs a _ _ shown_same), r, q⟩
    | next => exact False.elim hq
    | brk => exact False.elim hq
    | cont => exact False.elim hq
theorem env0_shownL (e : Env0 P w K mg base A outer s H) : ∀ {L : List (Addr × Obj)}, (∀ p ∈ L, Show base outer H s p.1 p.2) → (L.map (·.1)).Nodup → Env0 P w K mg base A outer s (shownL H L)
  | [], _, _ => e
  | p :: L, x, nd => by
    rw [List.map_cons, List.nodup_cons] at nd
    exact env0_shown (env0_shownL e (fun q hq => x q (List.mem_cons_of_mem _ hq)) nd.2) ((x p List.mem_cons_self).list nd.1)
theorem hideL (hd : Hides CX) : ∀ {L : List (Addr × Obj)} {Q : VK} {E : XK}, (∀ p ∈ L, Show base outer H s p.1 p.2) → (L.map (·.1)).Nodup → codeAny (model P w) A c (CR CX outer P w (shownL H L) s (fun v H' => Q v (delL H' L)) (fun cls d H' => E cls d (delL H' L))) s → codeAny (model P w) A c (CR CX outer P w H s Q E) s
  | [], _, _, _, _, h => h
  | p :: L, Q, E, x, nd, h => by
    rw [List.map_cons, List.nodup_cons] at nd
    have xp := (x p List.mem_cons_self).list nd.1
    exact hideL hd (fun q hq => x q (List.mem_cons_of_mem _ hq)) nd.2 (hide hd xp.no xp.ob h)
end
section
variable {X : Cx} {CX : CXT} {k : Nat} {f : Addr} {fd : FuncData} {ps : List Str} {sp : Sp} {ds : List Value} {dvs : List V} {E : XK} {pins : List (Addr × Obj)} {σ : L2.St} {H : Hp} {s : Shared} {Q : VK} {us : List Value} {vs : List V} {L : List (Addr × Obj)}
/-- the call of a def to which the things of L are shown -/
theorem run_shown (F : FnOk X.prog X.w X.K X.mg X.base CX k f fd ps sp) (hr : Room k X.A) (hb : Binds X.K fd ps ds) (hv : Vals dvs ds) (hx : Passes CX X E) (hd : Hides CX) (I : Inv X pins σ H s) (r : Vals vs us)
    (x : ∀ p ∈ L, Show X.base X.stack H s p.1 p.2) (nd : (L.map (·.1)).Nodup) (h : sp (vs ++ dvs) (shownL H L) (fun v H' => Q v (delL H' L)) (fun cls d H' => E cls d (delL H' L))) :
    wpAny (model X.prog X.w) X.A (call (.ref f) us) (EP X pins σ Q) X.xe s := by
  have r2 : Vals (vs ++ dvs) (us ++ ds) := r.append hv
  have hl : (us ++ ds).length = ps.length := by rw [← r2.length]; exact F.len _ _ _ _ h
  refine wpAny_call (codeAny_mono (hideL (base := X.base) (L := L) (Q := Q) (E := E) hd x nd (F.run X.A X.stack s (shownL H L) ⟨us, []⟩ (us ++ ds) (vs ++ dvs) _ _ hr (env0_shownL I.env0 x nd) (hb s us I.kIn hl) r2 h)) fun r s' hq => ?_)
  cases r with
  | error e => exact hx pins σ H s e s' I hq
  | ok fl =>
    cases fl with
    | ret u => exact I.after hq
    | next => exact False.elim hq
    | brk => exact False.elim hq
    | cont => exact False.elim hq
end
end Y
namespace Y
open PySem PySem.Spec PyProof.Rows L2 Z
/-! ## the other way: shown things are taken out for a call (the cells of a closure) -/
abbrev Tr : HO := .ext fun _ => True
section
variable {P : Program} {w : World} {H H1 : Hp} {h h1 B : Heap} {a b : Addr} {o : Obj} {u : HO} {fs : List Addr}
theorem unshow_un (U : Un fs [] (L2.del H a) H1 h h1) (hH : H a = some (.frz o Tr)) : Un fs [] H (shown H1 a o) h h1 := by
  have ne : ∀ b v, H b = some v → (∀ p q, v ≠ .frz p q) → b ≠ a := fun b v e q z => by
    rw [z, hH] at e; cases e; exact q _ _ rfl
  have nn : ∀ b, H b = none → b ≠ a := fun b e z => by rw [z, hH] at e; cases e
  refine ⟨fun b ob q nb hf hx => U.keep b ob q ((L2.del_ne (nn b nb)).trans nb) hf hx, fun b ob q nb hf hx => U.slot b ob q ((L2.del_ne (nn b nb)).trans nb) hf hx, fun b ob q nb hx => (shown_ne (nn b nb)).trans (U.free b ob q ((L2.del_ne (nn b nb)).trans nb) hx), U.there, fun b xs q => ?_, fun b ob v q => ?_, fun b ps q => ?_⟩
  · have hb := ne b _ q fun _ _ z => by cases z
    exact (shown_ne hb).trans (U.tups b xs ((L2.del_ne hb).trans q))
  · by_cases hb : b = a
    · subst hb; rw [hH] at q; cases q; exact shown_same
    · exact (shown_ne hb).trans (U.frzs b ob v ((L2.del_ne hb).trans q))
  · have hb := ne b _ q fun _ _ z => by cases z
    obtain ⟨m, z⟩ := U.tbls b ps ((L2.del_ne hb).trans q)
    exact ⟨m, (shown_ne hb).trans z⟩
theorem unshow_ub (U : UB fs (L2.del H a) H1 h B h1) (hH : H a = some (.frz o Tr)) : UB fs H (shown H1 a o) h B h1 := by
  have ne : ∀ b v, H b = some v → (∀ p q, v ≠ .frz p q) → b ≠ a := fun b v e q z => by
    rw [z, hH] at e; cases e; exact q _ _ rfl
  have nn : ∀ b, H b = none → b ≠ a := fun b e z => by rw [z, hH] at e; cases e
  refine ⟨fun b ob q nb hf => U.keep b ob q ((L2.del_ne (nn b nb)).trans nb) hf, U.slot, fun b ob q nb => (shown_ne (nn b nb)).trans (U.free b ob q ((L2.del_ne (nn b nb)).trans nb)), U.there, fun b xs q => ?_, fun b ob v q => ?_, fun b ps q => ?_⟩
  · have hb := ne b _ q fun _ _ z => by cases z
    exact (shown_ne hb).trans (U.tups b xs ((L2.del_ne hb).trans q))
  · by_cases hb : b = a
    · subst hb; rw [hH] at q; cases q; exact shown_same
    · exact (shown_ne hb).trans (U.frzs b ob v ((L2.del_ne hb).trans q))
  · have hb := ne b _ q fun _ _ z => by cases z
    obtain ⟨m, z⟩ := U.tbls b ps ((L2.del_ne hb).trans q)
    exact ⟨m, (shown_ne hb).trans z⟩
end
/-- a thing that is shown here -/
structure Shown (outer : List Env) (H : Hp) (s : Shared) (a : Addr) (o : Obj) : Prop where
  at_ : H a = some (.frz o Tr)
  ob : s.heap.get? a = some o
  nf : a ∉ frs outer
theorem Shown.of {P : Program} {w : World} {outer : List Env} {H : Hp} {s : Shared} {a : Addr} {o : Obj} (ok : HOk P w H s.heap) (fr : ∀ b ∈ frs outer, H b = none) (h : H a = some (.frz o Tr)) : Shown outer H s a o :=
  ⟨h, (ok a _ h).1, fun z => by have q := fr a z; rw [h] at q; cases q⟩
theorem Shown.skip {outer : List Env} {H : Hp} {s : Shared} {a b : Addr} {o : Obj} (x : Shown outer H s a o) (n : a ≠ b) : Shown outer (L2.del H b) s a o := ⟨(L2.del_ne n).trans x.at_, x.ob, x.nf⟩
/-- what leaves a call by an exception bears that a hidden thing is shown again -/
structure Bares (P : Program) (w : World) (CX : CXT) : Prop where
  mono : ∀ (outer : List Env) (H : Hp) (s : Shared) (E E' : XK) (u : Value) (s' : Shared), (∀ c d H', E c d H' → E' c d H') → CX outer H s E u s' → CX outer H s E' u s'
  show_ : ∀ (outer : List Env) (H : Hp) (a : Addr) (o : Obj) (s : Shared) (E : XK) (u : Value) (s' : Shared), Shown outer H s a o → CX outer (L2.del H a) s (fun cls d H' => H' a = none → E cls d (shown H' a o)) u s' → CX outer H s E u s'
theorem baresX {P : Program} {w : World} : Bares P w (L2.CX P w) := ⟨fun outer H s E E' u s' hE ⟨y, B, H', cls, d, eu, fl, ok, ub, na, os, ag, q⟩ => ⟨y, B, H', cls, d, eu, fl, ok, ub, na, os, ag, hE _ _ _ q⟩, fun outer H a o s E u s' x ⟨y, B, H', cls, d, eu, fl, ok, ub, na, os, ag, hE⟩ => by
  have e1 : B.get? a = some o := ub.keep a o x.ob L2.del_same x.nf
  have n1 : H' a = none := ub.free a o x.ob L2.del_same
  refine ⟨y, B, shown H' a o, cls, d, eu, fl, shown_hok ok n1 e1, unshow_ub ub x.at_, ?_, os, ag, hE n1⟩
  rw [shown_ne (fun z => by have q := fl.2.1; rw [z, e1] at q; cases q)]
  exact na⟩
theorem shownL_ne {b : Addr} : ∀ {L : List (Addr × Obj)} {H : Hp}, b ∉ L.map (·.1) → shownL H L b = H b
  | [], _, _ => rfl
  | p :: L, H, h => by
    rw [List.map_cons, List.mem_cons, not_or] at h
    exact (shown_ne h.1).trans (shownL_ne h.2)
section
variable {P : Program} {w : World} {K : PySem.W.Frag} {mg : Str → Option Value} {base : Heap} {A : Around} {outer : List Env} {s : Shared} {H : Hp} {a : Addr} {o : Obj} {CX : CXT} {c : Code} {Q : VK} {E : XK}
theorem env0_del (e : Env0 P w K mg base A outer s H) (x : Shown outer H s a o) : Env0 P w K mg base A outer s (L2.del H a) := by
  have nn : ∀ b, H b = none → b ≠ a := fun b e z => by rw [z, x.at_] at e; cases e
  refine ⟨e.frames, e.mod, fun b ob q => ⟨(e.bs b ob q).1, ?_⟩, e.bsz, e.funs, fun b hb => ?_, del_hok e.hok x.at_, e.bare⟩
  · rw [L2.del_ne (nn b (e.bs b ob q).2)]
    exact (e.bs b ob q).2
  · rw [L2.del_ne (nn b (e.frf b hb))]
    exact e.frf b hb
theorem bare (hd : Bares P w CX) (x : Shown outer H s a o) (h : codeAny (model P w) A c (CR CX outer P w (L2.del H a) s (fun v H' => H' a = none → Q v (shown H' a o)) (fun cls d H' => H' a = none → E cls d (shown H' a o))) s) : codeAny (model P w) A c (CR CX outer P w H s Q E) s := by
  refine codeAny_mono h fun r s' hq => ?_
  cases r with
  | error u => exact hd.show_ _ _ _ _ _ _ _ _ x hq
  | ok fl =>
    cases fl with
    | ret u =>
      obtain ⟨v, H', os, br, un, hok, r, q⟩ := hq
      have e1 : s'.heap.get? a = some o := un.keep a o x.ob L2.del_same x.nf (by simp)
      have n1 : H' a = none := un.free a o x.ob L2.del_same (by simp)
      exact ⟨v, shown H' a o, os, br, unshow_un un x.at_, shown_hok hok n1 e1, r, q n1⟩
    | next => exact False.elim hq
    | brk => exact False.elim hq
    | cont => exact False.elim hq
theorem env0_delL : ∀ {L : List (Addr × Obj)} {H : Hp}, Env0 P w K mg base A outer s H → (∀ p ∈ L, Shown outer H s p.1 p.2) → (L.map (·.1)).Nodup → Env0 P w K mg base A outer s (delL H L)
  | [], _, e, _, _ => e
  | p :: L, H, e, x, nd => by
    rw [List.map_cons, List.nodup_cons] at nd
    exact env0_delL (L := L) (H := L2.del H p.1) (env0_del e (x p List.mem_cons_self)) (fun q hq => (x q (List.mem_cons_of_mem _ hq)).skip fun z => nd.1 (by rw [← z]; exact List.mem_map_of_mem hq)) nd.2
theorem cr_mono {Q' : VK} {E' : XK} (hd : Bares P w CX) (hQ : ∀ v H', Q v H' → Q' v H') (hE : ∀ c d H', E c d H' → E' c d H') (h : codeAny (model P w) A c (CR CX outer P w H s Q E) s) : codeAny (model P w) A c (CR CX outer P w H s Q' E') s := by
  refine codeAny_mono h fun r s' hq => ?_
  cases r with
  | error u => exact hd.mono _ _ _ _ _ _ _ hE hq
  | ok fl =>
    cases fl with
    | ret u =>
      obtain ⟨v, H', os, br, un, hok, r, q⟩ := hq
      exact ⟨v, H', os, br, un, hok, r, hQ _ _ q⟩
    | next => exact hq
    | brk => exact hq
    | cont => exact hq
theorem bareL (hd : Bares P w CX) : ∀ {L : List (Addr × Obj)} {H : Hp} {Q : VK} {E : XK}, (∀ p ∈ L, Shown outer H s p.1 p.2) → (L.map (·.1)).Nodup → codeAny (model P w) A c (CR CX outer P w (delL H L) s (fun v H' => (∀ p ∈ L, H' p.1 = none) → Q v (shownL H' L)) (fun cls d H' => (∀ p ∈ L, H' p.1 = none) → E cls d (shownL H' L))) s → codeAny (model P w) A c (CR CX outer P w H s Q E) s
  | [], _, _, _, _, _, h => cr_mono hd (fun v H' q => q (fun p hp => by cases hp)) (fun cl d H' q => q (fun p hp => by cases hp)) h
  | p :: L, H, Q, E, x, nd, h => by
    rw [List.map_cons, List.nodup_cons] at nd
    refine bare hd (x p List.mem_cons_self) (bareL hd (fun q hq => (x q (List.mem_cons_of_mem _ hq)).skip fun z => nd.1 (by rw [← z]; exact List.mem_map_of_mem hq)) nd.2 (cr_mono hd (fun v H' q q1 q2 => q fun r hr => ?_) (fun cl d H' q q1 q2 => q fun r hr => ?_) h))
    · rcases List.mem_cons.mp hr with e | e
      · rw [e]; rw [shownL_ne nd.1] at q2; exact q2
      · exact q1 r e
    · rcases List.mem_cons.mp hr with e | e
      · rw [e]; rw [shownL_ne nd.1] at q2; exact q2
      · exact q1 r e
end
section
end
end Y
namespace Y
open PySem PySem.Spec PyProof.Rows L2 Z LamX NdefX
/-! ## lambdas that are kept: what one promises, called wherever (after HandS.Nested's nok_of and HandS.Lambda's pe_act) -/
/-- a lambda: its words, the cells that it captured, its code object, its defaults' tuple -/
structure LF where
  qual : Str
  params : Arguments
  body : Expr
  scope : Scope
  cl : List (Str × Addr)
  c : Addr
  dT : Option Addr
abbrev LF.nf (F : LF) : NF := ⟨"<lambda>", F.qual, F.params, [], F.scope, F.cl, F.c⟩
abbrev LF.fd (F : LF) (pm ctv : Value) : FuncData := { PySem.W.kla_fn "<lambda>" F.qual F.params F.body F.scope F.cl pm (.ref F.c) ctv with defaults := F.dT.elim .none .ref }
/-- the object at f is the lambda F -/
def LamO (f : Addr) (F : LF) : HO := .ext fun h => ∃ (pm ctv : Value), h.get? f = some ({ cls := .type "function", data := .func (F.fd pm ctv) } : Obj)
/-- what its parameters get -/
def LBind (F : LF) (ps : List Str) : Prop := ∀ (pm ctv : Value) (its : List Value) (s : Shared), (F.dT = none → its = []) → (∀ T, F.dT = some T → ∃ o n, s.heap.get? T = some o ∧ o.data = .seq its.toArray n) → its.length = ps.length → BindsTo s (F.fd pm ctv) ⟨[], []⟩ (ps.zip its)
/-- its defaults stand in H -/
def LDef (F : LF) (dvs : List V) (H : Hp) : Prop := (F.dT = none → dvs = []) ∧ ∀ T, F.dT = some T → H T = some (.tup dvs)
/-- the promise of the lambda F at f: sp ws, ws what its captured cells hold at the call -/
structure LOk (P : Program) (w : World) (K : PySem.W.Frag) (mg : Str → Option Value) (base : Heap) (CX : CXT) (k : Nat) (f : Addr) (F : LF) (fr : List Str) (dvs : List V) (sp : List (Option V) → Hp → VK → XK → Prop) : Prop where
  run : ∀ (A : Around) (outer : List Env) (s : Shared) (H : Hp) (ws : List (Option V)) (Q : VK) (E : XK), Room k A → Env0 P w K mg base A outer s H → H f = some (LamO f F) → H F.c = some (CodeO F.c F.qual) → LDef F dvs H →
    CellsAt F.cl fr ws s.heap H → sp ws H Q E → codeAny (model P w) A (.call (.ref f) ⟨[], []⟩) (CR CX outer P w H s Q E) s
section
variable {CX : CXT} {P : Program} {w : World} {K : PySem.W.Frag} {mg : Str → Option Value} {base : Heap} {N ps fr : List Str} {F : LF} {f : Addr} {k j : Nat} {dvs : List V} {sp : List (Option V) → Hp → VK → XK → Prop}
theorem lok_of (S : NScope N ps fr F.scope) (hb : LBind F ps) (hl : dvs.length = ps.length)
    (hbody : ∀ (A : Around) (outer : List Env) (s : Shared) (H : Hp) (ws : List (Option V)) (Q : VK) (E : XK), Room k (A.deeper (envF F.nf f s.heap.objs.size)) → ws.length = fr.length → sp ws H Q E →
      HE (ncx CX P w K mg base N F.nf f A outer s H E) F.body (startF N dvs ws) H Q) : LOk P w K mg base CX (k + 1) f F fr dvs sp := by
  refine ⟨fun A outer s H ws Q E hr e0 hf hc hd C hsp => ?_⟩
  have lim : s.heap.NoLimit := e0.mod.nolimit.keeps fun b o e => (e0.bs b o e).1
  obtain ⟨⟨pm, ctv, ho⟩, _, _⟩ := e0.hok f _ hf
  obtain ⟨us, r, hus⟩ : ∃ us : List Value, Vals dvs us ∧ ((F.dT = none → us = []) ∧ ∀ T, F.dT = some T → ∃ o n, s.heap.get? T = some o ∧ o.data = .seq us.toArray n) := by
    cases e : F.dT with
    | none =>
      have z := hd.1 e
      subst z
      exact ⟨[], .nil, ⟨fun _ => rfl, fun T q => (by cases q)⟩⟩
    | some T =>
      obtain ⟨_, its, r, o, ho, _, hn⟩ : _ ∧ ∃ its : List Value, Vals dvs its ∧ IsTup s.heap T its.toArray := e0.hok T _ (hd.2 T e)
      obtain ⟨m, hn⟩ := hn
      exact ⟨its, r, ⟨fun q => (by cases q), fun T' q => (by cases q; exact ⟨o, m, ho, hn⟩)⟩⟩
  refine PySem.W.kla_callFunE hr.depth ho rfl S.co S.gen rfl (codeO_at e0.hok hc) (hb pm ctv us s hus.1 hus.2 (by rw [← r.length]; exact hl) _ _ _ _ ?_)
  refine wpAny_newFunctionEnv S.nocell (fun ⟨n, _⟩ hy => S.par n (List.of_mem_zip hy).1) (fun h₁ hns hsb => ⟨lim.fresh _ hsb, ?_⟩) S.kind
  show codeAny _ _ (.expr F.body (envF F.nf f s.heap.objs.size)) _ _
  have kp : ∀ b o, s.heap.get? b = some o → h₁.get? b = some o := fun b o e => hsb.extBut b o (Nat.ne_of_lt (Heap.lt_size e)) (Heap.get?_push_of_some _ e)
  have I : Inv (ncx CX P w K mg base N F.nf f A outer s H E) [] (startF N dvs ws) H { s with heap := h₁, toks := s.toks + (ps.zip us).length } := inv_startN (F := F.nf) S hr.hd e0 hl r C hns kp
  refine PySem.W.kla_codeExpr (wpAny_mono (hbody A outer s H ws Q E (hr.deeper _) C.len hsp [] _ I) (fun v s' hq => ?_) fun e s' hq => hq)
  obtain ⟨w', H', J, rv, q⟩ := hq
  exact ⟨w', H', J.os, J.bare, J.base, J.hok, rv, q⟩
theorem LOk.mono (o : LOk P w K mg base CX j f F fr dvs sp) (h : j ≤ k) : LOk P w K mg base CX k f F fr dvs sp := ⟨fun A outer s H ws Q E hr => o.run A outer s H ws Q E (hr.mono h)⟩
end
end Y
namespace Y
open PySem PySem.Spec PyProof.Rows L2 Z LamX NdefX
/-! ## a lambda is made, with defaults or without (after KE.KLam's kla_makeTail and HandS.Nested's ndef_make, which have no defaults) -/
section
variable {M : Model} {A : Around} {E : Value → Shared → Prop} {s : Shared} {name qual : Str} {params : Arguments} {body : Expr} {scope : Scope} {env : Env} {c P : Addr} {ps : Array Value} {pos : Pos} {line : Nat} {mg : Str → Option Value} {clos : List (Str × Addr)} {Q : Value → Shared → Prop} {dV : Value}
abbrev lamFd (qual : Str) (params : Arguments) (body : Expr) (scope : Scope) (cl : List (Str × Addr)) (pm cdv ct dV : Value) : FuncData := { PySem.W.kla_fn "<lambda>" qual params body scope cl pm cdv ct with defaults := dV }
/-- the end of the making: what closes over, the code object got by t, then the function -/
theorem tail_end {cv ct : Value} (hg : s.heap.Ns mainGlobals mg) (hge0 : env.globals = mainGlobals) (hb : s.heap.BuiltinsAt mg P)
    (h : Q (.ref s.heap.objs.size) { s with heap := s.heap.push { cls := .type "function", data := .func (lamFd qual params body scope clos ((mg "__name__").getD .none) cv ct dV) } }) :
    wpAny M A (do let bl ← builtinsFor mainGlobals env.builtins
                  let pm ← nsGet mainGlobals "__name__"
                  let dc ← (pure .none : Sem Value)
                  newObj (.type "function") (.func { name := "<lambda>", qualname := qual, params, body := .expr body, scope, globals := mainGlobals, closure := clos, closureTuple := ct, code := cv, builtins := bl, defaults := dV, kwdefaults := .none, annotations := none, pyModule := pm.getD .none, doc := dc })) Q E s := by
  obtain ⟨bm, ob, hbm, hne0, _, hneP, hbo, hcls, hdict, hdata⟩ := hb
  refine wpAny_bind (wpAny_builtinsFor hg hbm hne0 hbo hcls hdict hdata ?_)
  refine wpAny_bind (wpAny_nsGet hg ?_)
  exact wpAny_bind (wpAny_pure (wpAny_newObj_type h (by size_fits)))
theorem lam_tail (hcl : closureFor scope env = pure clos) (hge0 : env.globals = mainGlobals) (hg : s.heap.Ns mainGlobals mg) (hcode : env.code = .ref c) (C : PySem.W.CodeHd s.heap c P) (hP : s.heap.get? P = some { cls := .none, data := .fields ps }) (ht : TriplesOk ps.toList) (hgP : mainGlobals ≠ P) (hb : s.heap.BuiltinsAt mg P)
    (hnew : codeAmong pos ps.toList = none → ∀ (c' : Addr) (ctv : Value) (h' : Heap) (tk : Tok), Heap.ExtBut P s.heap h' → s.heap.objs.size ≤ c' → c' < h'.objs.size → h'.CodeRec (.ref c') qual → h'.get? P = some { cls := .none, data := .fields (ps ++ #[rawInt pos.line, rawInt pos.col, .ref c']) } →
      Q (.ref h'.objs.size) { s with heap := h'.push { cls := .type "function", data := .func (lamFd qual params body scope clos ((mg "__name__").getD .none) (.ref c') ctv dV) }, toks := tk })
    (hhit : ∀ cv, codeAmong pos ps.toList = some cv → ∀ (ctv : Value) (h' : Heap) (tk : Tok), (∀ b o, s.heap.get? b = some o → h'.get? b = some o) → s.heap.objs.size ≤ h'.objs.size →
      Q (.ref h'.objs.size) { s with heap := h'.push { cls := .type "function", data := .func (lamFd qual params body scope clos ((mg "__name__").getD .none) cv ctv dV) }, toks := tk }) :
    wpAny M A (makeTail "<lambda>" qual params (.expr body) scope env dV .none none pos line) Q E s := by
  have key : ∀ (ct : Value) (h1 : Heap), (∀ b o, s.heap.get? b = some o → h1.get? b = some o) → s.heap.objs.size ≤ h1.objs.size → h1.Ns mainGlobals mg →
      wpAny M A (do let cv ← functionCode env pos line "<lambda>" qual params scope (.expr body)
                    let bl ← builtinsFor mainGlobals env.builtins
                    let pm ← nsGet mainGlobals "__name__"
                    let dc ← (pure .none : Sem Value)
                    newObj (.type "function") (.func { name := "<lambda>", qualname := qual, params, body := .expr body, scope, globals := mainGlobals, closure := clos, closureTuple := ct, code := cv, builtins := bl, defaults := dV, kwdefaults := .none, annotations := none, pyModule := pm.getD .none, doc := dc })) Q E { s with heap := h1 } := by
    intro ct h1 k1 z1 g1
    have C1 := C.keeps k1
    have hP1 := k1 _ _ hP
    have hb1 := hb.keeps k1
    cases hc : codeAmong pos ps.toList with
    | none =>
      refine wpAny_bind (wpAny_functionCodeX hcode (C1.code hP1 ht) (C1.tab hP1) hc fun c' h' tk hx hge hlt _ hrec htb _ => ?_)
      have hx' : Heap.ExtBut P s.heap h' := fun b o hb' e => hx b o hb' (k1 b o e)
      obtain ⟨bm, ob, hbm, hne0, q4, hneP, hbo, q⟩ := hb1
      exact tail_end (g1.extBut hx hgP) hge0 ⟨bm, ob, hbm, hne0, q4, hneP, hx _ _ hneP hbo, q⟩ (hnew hc c' ct h' tk hx' (Nat.le_trans z1 hge) hlt hrec htb.2)
    | some cv =>
      refine wpAny_bind (wpAny_functionCode_hit hcode (C1.code hP1 ht) hc ?_)
      exact tail_end g1 hge0 hb1 (hhit cv hc ct h1 s.toks k1 z1)
  unfold makeTail
  rw [hcl, hge0]
  refine wpAny_bind (wpAny_pure ?_)
  cases hq : clos.isEmpty with
  | true =>
    simp only [if_true]
    exact wpAny_bind (wpAny_pure (key .none s.heap (fun _ _ e => e) (Nat.le_refl _) hg))
  | false =>
    simp only [Bool.false_eq_true, if_false]
    refine wpAny_bind (wpAny_newTextTuple ?_)
    exact key _ _ (fun b o e => Heap.get?_push_of_some _ e) (by rw [Heap.size_push]; omega) (hg.push _)
end
end Y
namespace Y
open PySem PySem.Spec PyProof.Rows L2 Z LamX NdefX
theorem lamO_ne {f : Addr} {F : LF} (ps : Array Value) : LamO f F ≠ .tbl ps := fun z => by unfold LamO at z; cases z
section
variable {X : Cx} {pins : List (Addr × Obj)} {σ : L2.St} {H : Hp} {s : Shared}
/-- a lambda's object just made is known from now on -/
theorem inv_lam {F : LF} {o : Obj} {t' : Nat} {pm ctv : Value} (I : Inv X pins σ H s) (ho : o = { cls := .type "function", data := .func (F.fd pm ctv) }) :
    Inv X pins σ (upd H s.heap.objs.size (LamO s.heap.objs.size F)) { s with heap := s.heap.push o, toks := t' } := by
  subst ho
  have e : (s.heap.push ({ cls := .type "function", data := .func (F.fd pm ctv) } : Obj)).get? s.heap.objs.size = some ({ cls := .type "function", data := .func (F.fd pm ctv) } : Obj) := Heap.get?_push_size _ rfl
  exact I.laid (a := s.heap.objs.size) (fun b u e => Heap.get?_push_of_some _ e) (Nat.le_refl _) ⟨⟨pm, ctv, e⟩, ⟨_, e⟩, fun h1 h2 ⟨p, t, z⟩ st => ⟨p, t, st _ z⟩⟩
/-- what stands behind the making: the lambda at f, its code object at c' -/
structure Made (T : List NTab) (F : Addr → LF) (H H1 : Hp) (f c' : Addr) : Prop where
  ext : ExtN H H1
  mono : ∀ b, H1 b = none → H b = none
  tabs : TabsN T H1
  new : H f = none
  lam : H1 f = some (LamO f (F c'))
  code : H1 c' = some (CodeO c' (F c').qual)
theorem lam_made {T : List NTab} {nm : Nat → Nat → Str} {c P : Addr} {params : Arguments} {body : Expr} {scope : Scope} {pos : Pos} {dT : Option Addr} {E : Value → Shared → Prop} {Q : Value → Shared → Prop} (I : Inv X pins σ H s) (TB : TabB X.base X.mg c P) (hcode : X.env.code = .ref c)
    (hm : (P, nm) ∈ T) (hn : nm pos.line pos.col = X.env.qual ++ "<lambda>") (hu : ∀ p ∈ T, p.1 = P → p.2 = nm) (hT : TabsN T H) (hfree : ∀ y ∈ scope.names, y.2 = .free → ∃ c, X.env.cells.lookup y.1 = some c)
    (h : ∀ (f c' : Addr) (H1 : Hp) (s' : Shared), Inv X pins σ H1 s' → Made T (fun c' => ⟨X.env.qual ++ "<lambda>", params, body, scope, cloFrom X.env.cells scope.names [], c', dT⟩) H H1 f c' → Q (.ref f) s') :
    wpAny (model X.prog X.w) X.A (makeTail "<lambda>" (X.env.qual ++ "<lambda>") params (.expr body) scope X.env (dT.elim .none .ref) .none none pos pos.line) Q E s := by
  obtain ⟨ps, hP, ht, ha⟩ := (show TabN H P nm from hT _ hm)
  have bP : s.heap.BuiltinsAt X.mg P := TB.bm.keeps I.bk
  have hP' : s.heap.get? P = some { cls := .none, data := .fields ps } := I.hok P _ hP
  refine lam_tail (closure_ok hfree) I.ok.glob (I.mod.glob.keeps I.bk) hcode (TB.code.keeps I.bk) hP' ht TB.gP bP (fun hc c' ctv h' tk hx hge hlt hrec htb => ?_) (fun cv hc ctv h' tk hx hsz => ?_)
  · obtain ⟨c2, oc, vs, t, e2, hoc, hd, hv⟩ := hrec
    cases e2
    have nC : H c' = none := I.hok.fresh hge
    have I1 := inv_table (t' := tk) (more := #[rawInt pos.line, rawInt pos.col, .ref c']) (h' := h') I hP (fun b o hb e => hx b o hb e) htb hge ⟨oc, vs, t, hoc, hd, hv⟩
    have hE : ExtN H (upd (upd H P (.tbl (ps ++ #[rawInt pos.line, rawInt pos.col, .ref c']))) c' (CodeO c' (X.env.qual ++ "<lambda>"))) := fun b o e n => by
      rw [upd_ne (ne_of_none e nC), upd_ne (fun z => n ps (Option.some.inj (e.symm.trans (by rw [z]; exact hP))))]
      exact e
    have eL : (ps ++ #[rawInt pos.line, rawInt pos.col, .ref c']).toList = ps.toList ++ [rawInt pos.line, rawInt pos.col, .ref c'] := by simp
    have T1 : TabsN T (upd (upd H P (.tbl (ps ++ #[rawInt pos.line, rawInt pos.col, .ref c']))) c' (CodeO c' (X.env.qual ++ "<lambda>"))) := fun p hp => by
      by_cases hb : p.1 = P
      · rw [hu p hp hb, hb]
        refine ⟨_, by rw [upd_ne (ne_of_none hP nC), upd_same], by rw [eL]; exact PySem.TriplesOk_snoc _ _ _ _ ht, fun p' cv hcv => ?_⟩
        rw [eL] at hcv
        rcases among_app2 _ ht hcv with z | ⟨z, z1, z2⟩
        · obtain ⟨c0, e1, e2⟩ := ha p' cv z
          exact ⟨c0, e1, hE _ _ e2 codeO_ne⟩
        · refine ⟨c', z, ?_⟩
          rw [← z1, ← z2, hn]
          exact upd_same
      · obtain ⟨ps', a1, a2, a3⟩ := hT p hp
        refine ⟨ps', by rw [upd_ne (ne_of_none a1 nC), upd_ne hb]; exact a1, a2, fun p' cv hcv => ?_⟩
        obtain ⟨c0, e1, e2⟩ := a3 p' cv hcv
        exact ⟨c0, e1, hE _ _ e2 codeO_ne⟩
    have nF := I1.hok.fresh (Nat.le_refl _)
    have I2 := inv_lam (F := ⟨X.env.qual ++ "<lambda>", params, body, scope, cloFrom X.env.cells scope.names [], c', dT⟩) (t' := tk) (pm := (X.mg "__name__").getD .none) (ctv := ctv) I1 rfl
    refine h h'.objs.size c' _ _ I2 ⟨fun b o e n => ?_, fun b e => upd_none (upd_none (upd_none e)), T1.ext fun b o e => ?_, I.hok.fresh (Nat.le_trans hge (Nat.le_of_lt hlt)), upd_same, ?_⟩
    · have e1 := hE b o e n
      exact (upd_ne (ne_of_none e1 nF)).trans e1
    · exact (upd_ne (ne_of_none e nF)).trans e
    · exact (upd_ne (Nat.ne_of_lt hlt)).trans upd_same
  · obtain ⟨c', e, hco⟩ := ha pos cv hc
    subst e
    rw [hn] at hco
    have I1 : Inv X pins σ H { s with heap := h', toks := tk } := I.kept hx
    have nF : H h'.objs.size = none := I1.hok.fresh (Nat.le_refl _)
    have I2 := inv_lam (F := ⟨X.env.qual ++ "<lambda>", params, body, scope, cloFrom X.env.cells scope.names [], c', dT⟩) (t' := tk) (pm := (X.mg "__name__").getD .none) (ctv := ctv) I1 rfl
    refine h h'.objs.size c' _ _ I2 ⟨fun b o e n => ?_, fun b e => upd_none e, hT.ext fun b o e => ?_, nF, upd_same, ?_⟩
    · exact (upd_ne (ne_of_none e nF)).trans e
    · exact (upd_ne (ne_of_none e nF)).trans e
    · exact (upd_ne (ne_of_none hco nF)).trans hco
end
/-- the Lambda expression: no default -/
theorem he_lam0 {X : Cx} {σ : L2.St} {H : Hp} {T : List NTab} {nm : Nat → Nat → Str} {c P : Addr} {params : Arguments} {body : Expr} {scope : Scope} {pos : Pos} {Q : VK} (TB : TabB X.base X.mg c P) (hcode : X.env.code = .ref c) (hm : (P, nm) ∈ T) (hn : nm pos.line pos.col = X.env.qual ++ "<lambda>") (hu : ∀ p ∈ T, p.1 = P → p.2 = nm) (hT : TabsN T H)
    (hfree : ∀ y ∈ scope.names, y.2 = .free → X.env.scope.names.lookup y.1 = some .cell ∨ X.env.scope.names.lookup y.1 = some .free) (hdef : defaultsOf params X.env = ([], []))
    (h : ∀ f c' H1, Made T (fun c' => ⟨X.env.qual ++ "<lambda>", params, body, scope, cloFrom X.env.cells scope.names [], c', none⟩) H H1 f c' → Q (.ref f) H1) : HE X (.Lambda params body scope pos) σ H Q := fun pins s I => by
  refine PySem.W.kla_eval hdef ?_
  rw [makeFunction_eq]
  simp only [List.zip_nil_right, List.filterMap_nil, List.isEmpty_nil, if_true, pure_bind]
  exact lam_made (dT := none) I TB hcode hm hn hu hT (fun y hy e => (hfree y hy e).elim (fun z => I.ok.has _ (.inl z)) fun z => I.ok.has _ (.inr z)) fun f c' H1 s' I1 M => ⟨.ref f, H1, I1, rfl, h f c' H1 M⟩
/-- .. with one default -/
theorem he_lam1 {X : Cx} {σ : L2.St} {H : Hp} {T : List NTab} {nm : Nat → Nat → Str} {c P : Addr} {params : Arguments} {body e : Expr} {scope : Scope} {pos : Pos} {Q : VK} (TB : TabB X.base X.mg c P) (hcode : X.env.code = .ref c) (hm : (P, nm) ∈ T) (hn : nm pos.line pos.col = X.env.qual ++ "<lambda>") (hu : ∀ p ∈ T, p.1 = P → p.2 = nm)
    (hfree : ∀ y ∈ scope.names, y.2 = .free → X.env.scope.names.lookup y.1 = some .cell ∨ X.env.scope.names.lookup y.1 = some .free) (hdef : defaultsOf params X.env = ([eval e X.env], []))
    (h : HE X e σ H fun v H0 => TabsN T H0 ∧ ∀ d, H0 d = none → ∀ f c' H1, Made T (fun c' => ⟨X.env.qual ++ "<lambda>", params, body, scope, cloFrom X.env.cells scope.names [], c', some d⟩) (upd H0 d (.tup [v])) H1 f c' → Q (.ref f) H1) : HE X (.Lambda params body scope pos) σ H Q := fun pins s I => by
  rw [arm_eval_Lambda, hdef]
  show wpAny _ _ (do let dv ← evalAll [eval e X.env]; let kdv ← holding dv (evalAllOpt []); makeFunction "<lambda>" (X.env.qual ++ "<lambda>") params (.expr body) scope X.env dv kdv [] pos pos.line) _ _ s
  refine wpAny_bind ?_
  show wpAny _ _ (do let v ← eval e X.env; let r ← holding [v] (evalAll []); pure (v :: r)) _ _ s
  refine wpAny_bind (thn (h pins s I) fun u s1 hh => ?_)
  obtain ⟨v, H0, I0, rv, hT, q⟩ := hh
  refine wpAny_bind (wpAny_holding (wpAny_pure (wpAny_pure ?_)))
  refine wpAny_bind (wpAny_holding (wpAny_pure ?_))
  rw [makeFunction_eq]
  simp only [List.zip_nil_right, List.filterMap_nil, List.isEmpty_nil, List.isEmpty_cons, Bool.false_eq_true, if_false, if_true, pure_bind]
  refine wpAny_bind (wpAny_newTextTuple ?_)
  have nD : H0 s1.heap.objs.size = none := I0.hok.fresh (Nat.le_refl _)
  have I1 : Inv X pins σ (upd H0 s1.heap.objs.size (.tup [v])) { s1 with heap := s1.heap.push { cls := .type "tuple", data := .seq [u].toArray }, toks := s1.toks } :=
    I0.laid (fun b o e => Heap.get?_push_of_some _ e) (Nat.le_refl _) ⟨by size_fits, [u], .cons rv .nil, IsTup.new _ _⟩
  exact lam_made (dT := some s1.heap.objs.size) I1 TB hcode hm hn hu (hT.ext fun b o e => (upd_ne (ne_of_none e nD)).trans e) (fun y hy e => (hfree y hy e).elim (fun z => I0.ok.has _ (.inl z)) fun z => I0.ok.has _ (.inr z)) fun f c' H1 s' I2 M => ⟨.ref f, H1, I2, rfl, q _ nD f c' H1 M⟩
end Y
namespace Y
open PySem PySem.Spec PyProof.Rows L2 Z LamX NdefX
/-! ## a kept lambda is called, its cells shown here -/
theorem delL_ne {b : Addr} : ∀ {L : List (Addr × Obj)} {H : Hp}, (∀ p ∈ L, p.1 ≠ b) → delL H L b = H b
  | [], _, _ => rfl
  | p :: L, H, h => (delL_ne (L := L) (H := L2.del H p.1) fun q hq => h q (List.mem_cons_of_mem _ hq)).trans (L2.del_ne (Ne.symm (h p List.mem_cons_self)))
theorem delL_none {b : Addr} : ∀ {L : List (Addr × Obj)} {H : Hp}, H b = none → delL H L b = none
  | [], _, h => h
  | p :: L, H, h => delL_none (L := L) (H := L2.del H p.1) (by
      by_cases hb : b = p.1
      · rw [hb]; exact L2.del_same
      · exact (L2.del_ne hb).trans h)
theorem delL_mem {b : Addr} : ∀ {L : List (Addr × Obj)} {H : Hp}, b ∈ L.map (·.1) → delL H L b = none
  | p :: L, H, h => by
    rw [List.map_cons, List.mem_cons] at h
    by_cases hb : b = p.1
    · exact delL_none (L := L) (H := L2.del H p.1) (by rw [hb]; exact L2.del_same)
    · exact delL_mem (L := L) (H := L2.del H p.1) (h.resolve_left hb)
/-- the captured cells among the shown things, what they hold (ws) -/
structure CellsL (cl : List (Str × Addr)) (fr : List Str) (ws : List (Option V)) (L : List (Addr × Obj)) : Prop where
  len : ws.length = fr.length
  all : ∀ y c, cl.lookup y = some c → ∃ o v, (c, o) ∈ L ∧ o.data = .cell v
  inj : ∀ x y c, cl.lookup x = some c → cl.lookup y = some c → x = y
  has : ∀ (i : Nat) (y : Str), fr[i]? = some y → ∃ c, cl.lookup y = some c ∧ ∀ v, ws[i]? = some (some v) → ∃ u o, L2.RelV v u ∧ (c, o) ∈ L ∧ o.data = .cell (some u)
theorem CellsL.at_ {cl : List (Str × Addr)} {fr : List Str} {ws : List (Option V)} {L : List (Addr × Obj)} {h : Heap} {H : Hp} (C : CellsL cl fr ws L) (hL : ∀ p ∈ L, h.get? p.1 = some p.2) : CellsAt cl fr ws h (delL H L) := by
  refine ⟨C.len, fun y c e => ?_, C.inj, fun i y e => ?_⟩
  · obtain ⟨o, v, m, d⟩ := C.all y c e
    exact ⟨delL_mem (List.mem_map.mpr ⟨_, m, rfl⟩), v, o, hL _ m, d⟩
  · obtain ⟨c, e1, e2⟩ := C.has i y e
    refine ⟨c, e1, fun v hv => ?_⟩
    obtain ⟨u, o, r, m, d⟩ := e2 v hv
    exact ⟨u, r, o, hL _ m, d⟩
/-- a kept lambda with its cells shown: what is known of it in H -/
structure Kept (F : LF) (f : Addr) (fr : List Str) (dvs : List V) (ws : List (Option V)) (L : List (Addr × Obj)) (H : Hp) : Prop where
  lam : H f = some (LamO f F)
  code : H F.c = some (CodeO F.c F.qual)
  dfl : LDef F dvs H
  shw : ∀ p ∈ L, H p.1 = some (.frz p.2 Tr)
  nd : (L.map (·.1)).Nodup
  cells : CellsL F.cl fr ws L
theorem Kept.ext {F : LF} {f : Addr} {fr : List Str} {dvs : List V} {ws : List (Option V)} {L : List (Addr × Obj)} {H H' : Hp} (k : Kept F f fr dvs ws L H) (s : Same H H') : Kept F f fr dvs ws L H' :=
  ⟨s _ _ k.lam, s _ _ k.code, ⟨k.dfl.1, fun T e => s _ _ (k.dfl.2 T e)⟩, fun p hp => s _ _ (k.shw p hp), k.nd, k.cells⟩
section
variable {X : Cx} {σ : L2.St} {H : Hp} {i k : Nat} {a : Str} {p1 p2 : Pos} {f : Addr} {F : LF} {fr : List Str} {dvs : List V} {ws : List (Option V)} {L : List (Addr × Obj)} {sp : List (Option V) → Hp → VK → XK → Prop} {W : WX} {E : XK} {Q : VK}
/-- a(), a the name of slot i -/
theorem he_callLam (tk : Takes X W) (hW : ∀ cls d σ' H', E cls d H' → W cls d σ' H') (LO : LOk X.prog X.w X.K X.mg X.base (L2.CX X.prog X.w) k f F fr dvs sp) (hr : Room k X.A) (hs : σ[i]? = some (some (.ref f))) (KH : Kept F f fr dvs ws L H)
    (h : sp ws (delL H L) (fun v H' => (∀ p ∈ L, H' p.1 = none) → Q v (shownL H' L)) (fun cls d H' => (∀ p ∈ L, H' p.1 = none) → E cls d (shownL H' L))) (hN : X.N[i]? = some a) (hv : Vis X.env.scope a) (hd : (a == ("__debug__" : Str)) = false := by decide) (hcd : (a == ("__classdict__" : Str)) = false := by decide) :
    HE X (.Call (.Name a p1) [] [] p2) σ H Q := fun pins s I => by
  refine wpAny_Call_Name_kw (thn ((pe_var (pos := p1) (i := i) hN hv hd hcd).run pins s σ H (fun v H1 => v = .ref f ∧ H1 = H) I ⟨.ref f, hs, rfl, rfl⟩) fun u s1 ⟨v, H1, I1, r1, q1⟩ => ?_)
  obtain ⟨ev, eH⟩ := q1
  subst ev
  rw [eH] at I1
  obtain rfl : u = Value.ref f := r1
  obtain ⟨⟨pm, ctv, ho⟩, _, _⟩ := I1.hok f _ KH.lam
  refine PySem.W.callWith_F0 ⟨_, _, _, _, ho⟩ ?_
  have e0 := I1.env0
  have sh : ∀ p ∈ L, Shown X.stack H s1 p.1 p.2 := fun p hp => Shown.of I1.hok e0.frf (KH.shw p hp)
  have off : ∀ b v, H b = some v → (∀ o, v ≠ .frz o Tr) → delL H L b = H b := fun b v e n => delL_ne fun p hp z => by
    have q := KH.shw p hp
    rw [z, e] at q
    exact n _ (Option.some.inj q)
  have o1 : delL H L f = some (LamO f F) := (off f _ KH.lam fun o z => by unfold LamO at z; cases z).trans KH.lam
  have o2 : delL H L F.c = some (CodeO F.c F.qual) := (off _ _ KH.code fun o z => by unfold CodeO at z; cases z).trans KH.code
  have o3 : LDef F dvs (delL H L) := ⟨KH.dfl.1, fun T e => (off T _ (KH.dfl.2 T e) fun o z => by cases z).trans (KH.dfl.2 T e)⟩
  have rc : codeAny (model X.prog X.w) X.A (.call (.ref f) ⟨[], []⟩) (CR (L2.CX X.prog X.w) X.stack X.prog X.w H s1 Q E) s1 :=
    bareL baresX sh KH.nd (LO.run X.A X.stack s1 (delL H L) ws _ _ hr (env0_delL e0 sh KH.nd) o1 o2 o3 (KH.cells.at_ fun p hp => (sh p hp).ob) h)
  have hx : Passes (L2.CX X.prog X.w) X E := passes_call tk hW
  refine wpAny_call (codeAny_mono rc fun r s' hq => ?_)
  cases r with
  | error e => exact hx pins σ H s1 e s' I1 hq
  | ok fl =>
    cases fl with
    | ret u => exact I1.after hq
    | next => exact False.elim hq
    | brk => exact False.elim hq
    | cont => exact False.elim hq
end
end Y
namespace Y
open PySem PySem.Spec PyProof.Rows L2 Z
/-! ## a text in a list of texts; what a caught error keeps -/
theorem dts_str {K : PySem.W.Frag} {H : Hp} {ns : List Str} {xs : List V} (h : Dts K (ns.map .str) xs H) : xs = ns.map V.str := by
  refine List.ext_getElem? fun i => ?_
  cases e : ns[i]? with
  | none =>
    rw [List.getElem?_map, e]
    refine List.getElem?_eq_none ?_
    rw [h.1, List.length_map]
    exact List.getElem?_eq_none_iff.mp e
  | some n =>
    obtain ⟨hi, _⟩ := List.getElem?_eq_some_iff.mp e
    have hx : i < xs.length := by rw [h.1, List.length_map]; exact hi
    have q := h.2 i xs[i] (.str n) (List.getElem?_eq_getElem hx) (by rw [List.getElem?_map, e]; rfl)
    rw [List.getElem?_map, e, List.getElem?_eq_getElem hx]
    cases hq : xs[i] with
    | str m => rw [hq] at q; cases q; rfl
    | _ => rw [hq] at q; cases q
theorem inV_str (n : Str) : ∀ ns : List Str, inV (.str n) (ns.map V.str) = ns.any fun m => decide (m = n)
  | [] => rfl
  | m :: ns => by
    have h := inV_str n ns
    unfold inV at h ⊢
    rw [List.map_cons, List.any_cons, h, List.any_cons]
    congr 1
theorem flat_strs (ns : List Str) : (ns.map V.str).all flatV = true := by
  induction ns with
  | nil => rfl
  | cons n ns ih => rw [List.map_cons, List.all_cons, ih]; rfl
section
variable {X : Cx} {σ : L2.St} {S : Hp} {a b : Expr} {pos : Pos} {n : Str} {ns : List Str}
theorem opE_inLs {K : PySem.W.Frag} : OpE (rIn K false) S (Dt K (.str n)) (Dt K (.list (ns.map .str))) (Dt K (.bool (ns.any fun m => decide (m = n)))) := fun v w S1 H1 _ s pv pw Q q => by
  cases pv
  obtain ⟨l, xs, rfl, hl, hx, z⟩ := pw.lst_inv
  rw [dts_str hx] at hl
  refine ⟨l, ns.map V.str, rfl, .inl (sql_of (s _ _ hl)), rfl, flat_strs ns, ?_⟩
  rw [if_neg Bool.false_ne_true, inV_str]
  exact q _ S1 H1 (Gr.refl s) (.bl _)
theorem et_inLs (ha : EE X σ S a (Dt X.K (.str n))) (hb : EE X σ S b (Dt X.K (.list (ns.map .str)))) (hm : behindInMarks .In b = false := by rfl) : ET X σ S (.Compare a [.In] [b] pos) (ns.any fun m => decide (m = n)) := et_cmp op_in_seq ha hb opE_inLs hm
end
/-- a shown own error, its code, the attribute n -/
def ExcAt (C : Addr) (code n : Str) (v : V) (w : V) (S : Hp) : Prop := ∃ (a : Addr) (oe : Obj) (dd : Addr) (fs : List (Str × V)), w = .ref a ∧ S a = some (.frz oe Tr) ∧ oe.cls = .ref C ∧ oe.dict = some dd ∧ (∃ vs, oe.data = .fields vs) ∧ S dd = some (.xd fs) ∧ fs.lookup ("code" : Str) = some (V.str code) ∧ fs.lookup n = some v
instance {C : Addr} {code n : Str} {v : V} : Mn (ExcAt C code n v) := ⟨fun s ⟨a, oe, dd, fs, h1, h2, h3, h4, h5, h6, h7, h8⟩ => ⟨a, oe, dd, fs, h1, s _ _ h2, h3, h4, h5, s _ _ h6, h7, h8⟩⟩
section
end
end Y
namespace Y
open PySem PySem.Spec PyProof.Rows L2 Z
/-- a state with the exception shown, and back -/
theorem Gr.unshown {S H S1 H1 : Hp} {a : Addr} {oe : Obj} (s : Same S H) (n : H a = none) (g : Gr (shown S a oe) (shown H a oe) S1 H1) : Gr S H (L2.del S1 a) (L2.del H1 a) := by
  have nS : S a = none := s.free n
  refine ⟨fun b o e => ?_, fun b o e => ?_, fun b o e => ?_, fun b o e m => ?_⟩
  · have hb := ne_of_none e nS
    exact (L2.del_ne hb).trans (g.st b o ((shown_ne hb).trans e))
  · by_cases hb : b = a
    · rw [hb, L2.del_same] at e; cases e
    · rw [L2.del_ne hb] at e
      exact (L2.del_ne hb).trans (g.sub b o e)
  · have hb := ne_of_none e n
    exact (L2.del_ne hb).trans (g.hh b o ((shown_ne hb).trans e))
  · have hb := ne_of_none e n
    exact (L2.del_ne hb).trans ((g.old b o ((shown_ne hb).trans e) m).trans (shown_ne hb))
theorem shown_same_sub {S H : Hp} {a : Addr} {oe : Obj} (s : Same S H) : Same (shown S a oe) (shown H a oe) := fun b o e => by
  by_cases hb : b = a
  · subst hb; rw [shown_same] at e ⊢; exact e
  · rw [shown_ne hb] at e ⊢; exact s b o e
/-- shown things put back on top -/
theorem Gr.shownL {S H S1 H1 : Hp} {L : List (Addr × Obj)} (g : Gr S (delL H L) S1 H1) (hL : ∀ p ∈ L, H1 p.1 = none) (hk : ∀ p ∈ L, H p.1 = some (.frz p.2 Tr)) (nd : (L.map (·.1)).Nodup) : Gr S H S1 (shownL H1 L) := by
  have atL : ∀ {L : List (Addr × Obj)} {p : Addr × Obj}, p ∈ L → (L.map (·.1)).Nodup → Y.shownL H1 L p.1 = some (.frz p.2 Tr) := by
    intro L
    induction L with
    | nil => intro p hp; cases hp
    | cons q L ih =>
      intro p hp nd
      rw [List.map_cons, List.nodup_cons] at nd
      rcases List.mem_cons.mp hp with e | e
      · rw [e]; exact shown_same
      · exact (shown_ne fun z => nd.1 (by rw [← z]; exact List.mem_map_of_mem e)).trans (ih e nd.2)
  have top : Same H1 (Y.shownL H1 L) := fun b o e => by
    have hb : b ∉ L.map (·.1) := fun z => by
      obtain ⟨p, hp, rfl⟩ := List.mem_map.mp z
      rw [hL p hp] at e; cases e
    exact (shownL_ne hb).trans e
  refine ⟨g.st, g.sub.trans top, fun b o e => ?_, fun b o e m => ?_⟩
  · by_cases hb : b ∈ L.map (·.1)
    · obtain ⟨p, hp, rfl⟩ := List.mem_map.mp hb
      rw [hk p hp] at e
      rw [atL hp nd]; exact e
    · exact top b o (g.hh b o ((delL_ne fun p hp z => hb (by rw [← z]; exact List.mem_map_of_mem hp)).trans e))
  · by_cases hb : b ∈ L.map (·.1)
    · obtain ⟨p, hp, rfl⟩ := List.mem_map.mp hb
      have n1 : S1 p.1 = none := g.sub.free (hL p hp)
      rw [n1, g.st.free n1]
    · exact g.old b o ((delL_ne fun p hp z => hb (by rw [← z]; exact List.mem_map_of_mem hp)).trans e) m
end Y
namespace Y
open PySem PySem.Spec PyProof.Rows L2 L2H Z
/-! ## a def called within an except suite, the caught exception pinned; it raises nothing there (after HandS.HotCalls, without its wish on the exception's context) -/
structure FnP (P : Program) (w : World) (K : PySem.W.Frag) (mg : Str → Option Value) (base : Heap) (k : Nat) (f : Addr) (fd : FuncData) (ps : List Str) (sp : Addr × Obj → List V → Hp → VK → Prop) : Prop where
  len : ∀ p vs H Q, sp p vs H Q → vs.length = ps.length
  run : ∀ (A : Around) (outer : List Env) (s : Shared) (H : Hp) (args : Args) (us : List Value) (vs : List V) (Q : VK) (p : Addr × Obj), RoomH k A → PinOk outer H s p → Env0 P w K mg base A outer s H → BindsTo s fd args (ps.zip us) → Vals vs us → sp p vs H Q →
    codeAny (model P w) A (.call (.ref f) args) (CR CX0 outer P w H s Q (fun _ _ _ => False)) s
section
variable {P : Program} {w : World} {K : PySem.W.Frag} {mg : Str → Option Value} {base : Heap} {x qual : Str} {params : Arguments} {body : List Stmt} {scope : Scope} {dvs : List V} {kws : List (Str × V)} {f : Addr} {fd : FuncData} {N ps : List Str} {k : Nat} {sp : Addr × Obj → List V → Hp → VK → Prop}
theorem fn_hsP (F : FunD K x qual params body scope dvs kws f fd) (S : FnScope N ps scope) (len : ∀ p vs H Q, sp p vs H Q → vs.length = ps.length)
    (hb : ∀ (cdv : Value) (A : Around) (outer : List Env) (s : Shared) (H : Hp) (vs : List V) (Q : VK) (p : Addr × Obj), RoomH k (A.deeper (envOfC qual scope s.heap.objs.size f cdv)) → sp p vs H Q →
      HS (cxH CX0 P w K mg base N qual scope f cdv A outer s H (fun _ _ _ => False) p) { nx := fun _ H' => Q .non H', rt := Q } body (start N vs) H) : FnP P w K mg base (k + 1) f fd ps sp := by
  obtain ⟨oc, od, dV, kV, doc, pm, an, cdv, ct, osl, rfl, lk, hcd, _, _⟩ := F.ex
  refine ⟨len, fun A outer s H args us vs Q p hr hpin e0 hbt r hsp => ?_⟩
  have hl := len _ _ _ _ hsp
  have KX : K.In s.heap := e0.mod.kin.keeps fun b o e => (e0.bs b o e).1
  have lim : s.heap.NoLimit := e0.mod.nolimit.keeps fun b o e => (e0.bs b o e).1
  have hkind : ∀ y ∈ ps.zip us, scope.names.lookup y.1 = some .local ∨ (scope.names.lookup y.1 = some .cell ∧ ((cellsFrom (s.heap.objs.size + 1) scope.names []).lookup y.1).isSome = true) := fun ⟨n, v⟩ hy => by
    rcases S.par n (List.of_mem_zip hy).1 with q | q
    · exact .inl q
    · exact .inr ⟨q, PySem.W.cellsFrom_some _ _ _ (.inl q)⟩
  refine codeAny_call_function hr.depth (KX _ _ lk) rfl S.co S.gen rfl (PySem.W.codeRec_of KX hcd) (hbt _ _ _ _ ?_)
  refine wpAny_newFunctionEnv_cells S.kind hkind fun env he s1 xx => ?_
  subst he
  refine ⟨lim.keeps xx.toInCall.keep, codeAny_func ?_⟩
  have I : Inv (cxH CX0 P w K mg base N qual scope f cdv A outer s H (fun _ _ _ => False) p) [] (L2.start N vs) H s1 := inv_startH S hpin e0 hl r xx
  refine wpAny_mono (hb cdv A outer s H vs Q p (hr.deeper _) hsp [] s1 I) (fun fl s' hs => ?_) fun e s' hs => hs
  have fin : ∀ {σ' : L2.St} {H' : Hp} {v : V} {u : Value}, Inv (cxH CX0 P w K mg base N qual scope f cdv A outer s H (fun _ _ _ => False) p) [] σ' H' s' → L2.RelV v u → Q v H' → CE outer P w H s Q u s' :=
    fun {σ' H' v u} J rv q => ⟨v, H', J.os, J.bare, J.base, J.hok, rv, q⟩
  cases fl with
  | ret u => exact hs.elim fun v ⟨σ', H', J, rv, q⟩ => fin J rv q
  | next => exact hs.elim fun σ' ⟨H', J, q⟩ => fin (v := V.non) (u := Value.none) J rfl q
  | brk => exact hs.elim fun _ ⟨_, _, q⟩ => False.elim q
  | cont => exact hs.elim fun _ ⟨_, _, q⟩ => False.elim q
end
/-- f(e), e the caught exception, in its suite -/
theorem he_callP {X : Cx} {a : Addr} {oe : Obj} {pn : List (Addr × Obj)} {k : Nat} {f : Addr} {fd : FuncData} {ps : List Str} {sp : Addr × Obj → List V → Hp → VK → Prop} {fx : Str} {e : Expr} {σ : L2.St} {H : Hp} {Q : VK} {p pos : Pos} (F : FnP X.prog X.w X.K X.mg X.base k f fd ps sp) (hr : RoomH k (X.suite a ((a, oe) :: pn)).A)
    (hm : X.mg fx = some (.ref f)) (hk : PySem.W.keepIn X.K (.ref f) = true) (hb : Binds X.K fd ps []) (ha : HE (X.suite a ((a, oe) :: pn)) e σ H (fun v H1 => v = .ref a ∧ H1 = H)) (h : sp (a, oe) [.ref a] H Q)
    (hg : Gl X fx := by rfl) (hdb : (fx == ("__debug__" : Str)) = false := by decide) (he : starEach [e] X.env = (false, eval e X.env) :: starEach [] X.env := by rfl) (hpl : (backTo pos (starEach [] X.env)).any (·.1) = false := by rfl) :
    HE (X.suite a ((a, oe) :: pn)) (.Call (.Name fx p) [e] [] pos) σ H Q := fun pins s I => by
  refine wpAny_Call_Name_kw (ld_glob I hg hm ?_ hdb)
  refine PySem.W.callWith_K (h₀ := X.base) I.ok.mod.kin hk (thn ((pa_cons (X := X.suite a ((a, oe) :: pn)) (te := bE (X.suite a ((a, oe) :: pn)) e) peb pa_nil he).run pos pins s σ H (fun vs H1 => vs = [.ref a] ∧ H1 = H) I ?_) fun us s1 ⟨vs, H1, I1, r, q⟩ => ⟨I1.kIn, ?_⟩) he hpl
  · exact fun pins' s' I' => thn (ha pins' s' I') fun u s1 ⟨v, H1, I1, r, e1, e2⟩ => ⟨v, H1, I1, r, by rw [e1], e2⟩
  · obtain ⟨rfl, rfl⟩ := q
    have hl : us.length = ps.length := by rw [← r.length]; exact F.len _ _ _ _ h
    have pk : PinOk X.stack H1 s1 (a, oe) := by
      obtain ⟨e1, n, nL, nF, nc⟩ := I1.pin (a, oe) (List.mem_append_left _ List.mem_cons_self)
      exact ⟨e1, n, fun hm' => (List.mem_cons.mp (I1.stkSub _ hm')).elim nL nF, nc⟩
    have hbt := hb s1 us I1.kIn (by rw [List.append_nil]; exact hl)
    rw [List.append_nil] at hbt
    refine wpAny_call (codeAny_mono (F.run _ X.stack s1 H1 ⟨us, []⟩ us [.ref a] Q (a, oe) hr pk I1.env0 hbt r h) fun r s' hq => ?_)
    cases r with
    | error e => exact (show False from hq).elim
    | ok fl =>
      cases fl with
      | ret u => exact I1.after hq
      | next => exact False.elim hq
      | brk => exact False.elim hq
      | cont => exact False.elim hq
end Y
namespace Y
open PySem PySem.Spec PyProof.Rows L2 L2H Z
/-! ## attributes of the pinned exception -/
/-- the exception p: its class, its code, the value of its attribute n -/
def ExcP (C : Addr) (code n : Str) (v : V) (p : Addr × Obj) (S : Hp) : Prop := ∃ (dd : Addr) (fs : List (Str × V)), p.2.cls = .ref C ∧ p.2.dict = some dd ∧ (∃ vs, p.2.data = .fields vs) ∧ S dd = some (.xd fs) ∧ fs.lookup ("code" : Str) = some (V.str code) ∧ fs.lookup n = some v
theorem ExcP.up {C : Addr} {code n : Str} {v : V} {p : Addr × Obj} {S S' : Hp} (h : ExcP C code n v p S) (s : Same S S') : ExcP C code n v p S' := by
  obtain ⟨dd, fs, h1, h2, h3, h4, h5, h6⟩ := h
  exact ⟨dd, fs, h1, h2, h3, s _ _ h4, h5, h6⟩
section
variable {X : Cx} {σ : L2.St} {S : Hp} {e : Expr} {P : V → Hp → Prop} {pos : Pos} {C dd : Addr} {n code : Str} {p : Addr × Obj} {fs : List (Str × V)} {v : V}
theorem ee_xfP [Mn P] (hp : p ∈ X.pn) (hc : p.2.cls = .ref C) (hdd : p.2.dict = some dd) (hf : ∃ vs, p.2.data = .fields vs) (T : XfC X.K C) (hno : PySem.W.findIn X.K (.ref C) n = some none) (he : EE X σ S e (fun w _ => w = .ref p.1)) (hx : S dd = some (.xd fs)) (l : fs.lookup n = some v) (pv : P v S)
    (hb : attributeBase e n X.env (eval e X.env) = eval e X.env := by rfl) : EE X σ S (.Attribute e n pos) P := fun H s Q q pins sh I => by
  refine attr_of hb (thn (he H s (fun w H1 => w = .ref p.1 ∧ ∃ S1, Gr S H S1 H1) (fun v S1 H1 g pv => ⟨pv, S1, g⟩) pins sh I) fun x s1 hh => ?_)
  obtain ⟨w, H1, I1, rx, ew, S1, g⟩ := hh
  subst ew
  obtain rfl : x = Value.ref p.1 := rx
  obtain ⟨vs, hd⟩ := hf
  have ho : s1.heap.get? p.1 = some p.2 := (I1.pin p (List.mem_append_left _ hp)).1
  have hx1 : ObjOk X.prog X.w H1 s1.heap dd (.xd fs) := I1.hok dd _ (g.sub _ _ (g.st _ _ hx))
  obtain ⟨mA, hns, hr⟩ := hx1
  obtain ⟨od, hod, hl⟩ := lookIn_ns hns
  obtain ⟨u', hu, ru⟩ := RelO.some_of (v := v) (o := mA n) (by rw [← l]; exact hr n)
  have J : PySem.W.InstAt s1.heap p.1 p.2 C (some od) := ⟨ho, hc, by unfold PySem.W.notCls; rw [hd] <;> rfl, by rw [hdd]; exact hod⟩
  exact HandSPX.exc_get I1.kIn J T.ga T.gg T.exC (PySem.W.findObj_own T.hdC hno rfl (by rw [hl, hu])) (handed_of ru) ⟨v, H1, I1.tok _, ru, q v S1 H1 g (Mn.up g.st pv)⟩
end
end Y
namespace Y
open PySem PySem.Spec PyProof.Rows L2 Z
section
variable {X : Cx} {pins : List (Addr × Obj)} {σ : L2.St} {S H : Hp} {s : Shared} {x : Str} {c : Addr}
/-- a cell of the running frame may be shown -/
theorem show_cell (I : Inv X pins σ H s) (e : X.env.cells.lookup x = some c) (hf : X.fn x = true) : ∃ o cv, o.data = .cell cv ∧ Show X.base X.stack H s c o := by
  obtain ⟨cv, o, ho, hd⟩ := I.cell x c e
  have lt := I.ok.cab x c hf e
  refine ⟨o, cv, hd, ho, I.freeC x c e, fun hm => ?_, ?_⟩
  · rcases List.mem_cons.mp (I.stkSub c hm) with h | h
    · exact I.cne x c e h
    · obtain ⟨_, o', e', _⟩ := I.ok.funs.mem h
      exact absurd (Heap.lt_size e') (Nat.not_lt.mpr lt)
  · cases hb : X.base.get? c with
    | none => rfl
    | some o' => exact absurd (Heap.lt_size (I.ok.bs c o' hb).1) (Nat.not_lt.mpr lt)
end
end Y
namespace Y
open PySem PySem.Spec PyProof.Rows L2 Z
/-! ## a list comprehension over things of any kind (Z3's ee_lcG with predicates for the items) -/
section
variable {α : Type} {R : α → V → Hp → Prop} {X : Cx} {σ : L2.St} {S : Hp} {elt tg iter : Expr} {ifs : List Expr} {scope : Scope} {own : List (Str × Nat)} {pos : Pos} {ds : List α} {p : α → Bool} {G : α → PyData → Prop}
theorem lc_loopA (hz : ds.length ≤ sizeLine)
    (hel : ∀ d ∈ ds, ∀ v S', Same S S' → R d v S' → ∃ τ, wipe τ (own.map (·.2)) = wipe σ (own.map (·.2)) ∧ ∀ (s : Shared) (H0 : Hp) (C : Addr) (cl : List (Str × Addr)) (fp : List Addr),
      EG (X.blk s H0 scope (compEnvC scope cl C X.env) fp) S' tg v (wipe σ (own.map (·.2))) τ ∧ ETs (X.blk s H0 scope (compEnvC scope cl C X.env) fp) τ S' ifs (p d) ∧ (p d = true → EE (X.blk s H0 scope (compEnvC scope cl C X.env) fp) τ S' elt (Ex X.K (G d)))) {H : Hp} (Q : VK) (q : ∀ v S' H', Gr S H S' H' → (∃ rs, Paired G (ds.filter p) rs ∧ Dt X.K (.list rs) v S') → Q v H') {J : It} {S1 H1 : Hp} (g1 : Gr S H S1 H1) (it : ItP J S1 (ds.map R)) :
    ∀ D, H1 D = none → ∃ W : Nat → Nat → Hp → Prop, (∃ m, W 0 m (upd H1 D (.lst []))) ∧ ∀ i m H, W i m H →
      (J.stop i H ∧ Q (.ref D) H) ∨ (J.go i H ∧ ∃ Nx : Hp → Prop, (∀ H', Nx H' → ∃ m', m' < m ∧ W (i + 1) m' H') ∧ ∀ x H', J.yld i H x H' → gBlk X scope tg x (wipe σ (own.map (·.2))) H' fun σ2 H2 => wipe σ2 (own.map (·.2)) = wipe σ (own.map (·.2)) ∧ tBlk X scope ifs σ2 H2 fun b H3 =>
        if b = true then eBlk X scope elt σ2 H3 fun y H4 => ∃ acc, H4 D = some (.lst acc) ∧ acc.length < sizeLine ∧ Nx (upd H4 D (.lst (acc ++ [y]))) else Nx H3) := by
  intro D hD
  have hD1 : S1 D = none := g1.sub.free hD
  have hlen : (List.map R ds).length = ds.length := List.length_map ..
  refine lc_it (g := gBlk X scope tg) (tt := tBlk X scope ifs) (te := eBlk X scope elt) (vs := own.map (·.2)) (σ := σ) (Qd := Q (.ref D)) it (fun i H' => ∃ S' xs rs, Same S1 S' ∧ Same S' H' ∧ Same H1 H' ∧ (∀ a o, H1 a = some o → NT o → S' a = S1 a) ∧ S' D = none ∧ H' D = some (.lst xs) ∧ Paired G ((ds.take i).filter p) rs ∧ Dts X.K rs xs S' ∧ xs.length ≤ i)
    ⟨S1, [], [], Same.refl _, Same.mut g1.sub hD1, Same.new hD, fun _ _ _ _ => rfl, hD1, upd_same, .nil, .nil, Nat.le_refl _⟩ (fun i H' _ ⟨S', _, _, a, b, _⟩ => a.trans b) ?_ ?_
  · intro i x H2 H3 hi2 ⟨S2, xs, rs, k1, k2, k3, k4, k5, k6, k7, k8, k9⟩ y
    rw [hlen] at hi2
    obtain ⟨S3, g3, P, hP, px⟩ := y S2 k1 k2
    obtain ⟨d, hd⟩ : ∃ d, ds[i]? = some d := ⟨ds[i], List.getElem?_eq_getElem hi2⟩
    rw [List.getElem?_map, hd] at hP
    obtain rfl := Option.some.inj hP
    have sS3 : Same S S3 := g1.st.trans (k1.trans g3.st)
    obtain ⟨τ, hw, hb⟩ := hel d (List.mem_of_getElem? hd) x S3 sS3 px
    have hf : ∀ q, p d = q → (ds.take (i + 1)).filter p = (ds.take i).filter p ++ (if q = true then [d] else []) := fun q hq => by
      rw [take_snoc hd, List.filter_append]
      cases q with
      | true => simp [hq]
      | false => simp [hq]
    intro sh H0 C cl fp
    refine (hb sh H0 C cl fp).1 H3 g3.sub _ ⟨hw, ?_⟩
    intro sh' H0' C' cl' fp'
    refine (hb sh' H0' C' cl' fp').2.1 H3 g3.sub _ fun S4 H4 g4 => ?_
    have g34 := g3.trans g4
    cases hpd : p d with
    | false =>
      refine iteF ⟨S4, xs, rs, k1.trans g34.st, g34.sub, k3.trans g34.hh, fun a o h n => (g34.old a o (k3 a o h) n).trans (k4 a o h n), (g34.old D _ k6 (fun _ z => nomatch z)).trans k5, g34.hh _ _ k6, ?_, k8.up g34.st, by omega⟩
      rw [hf false hpd]
      simpa using k7
    | true =>
      refine iteT ?_
      intro sh'' H0'' C'' cl'' fp''
      refine ((hb sh'' H0'' C'' cl'' fp'').2.2 hpd).up g4.st H4 g4.sub _ fun w S5 H5 g5 ⟨r, hr, hrw⟩ => ?_
      have g := g34.trans g5
      have hD5 : S5 D = none := (g.old D _ k6 (fun _ z => nomatch z)).trans k5
      refine ⟨xs, g.hh _ _ k6, Nat.lt_of_le_of_lt k9 (Nat.lt_of_lt_of_le hi2 hz), S5, xs ++ [w], rs ++ [r], k1.trans g.st, Same.mut g.sub hD5, fun a o h => ?_, fun a o h n => (g.old a o (k3 a o h) n).trans (k4 a o h n), hD5, upd_same, ?_, (k8.up g.st).snoc hrw, by rw [List.length_append]; show xs.length + 1 ≤ i + 1; omega⟩
      · rw [upd_ne (ne_of_none h hD)]; exact g.hh _ _ (k3 a o h)
      · rw [hf true hpd]
        exact paired_snoc k7 hr
  · intro H2 ⟨S2, xs, rs, k1, k2, k3, k4, k5, k6, k7, k8, k9⟩
    rw [hlen] at k7 k9
    rw [List.take_length] at k7
    refine q _ (upd S2 D (.lst xs)) H2 (g1.trans ⟨k1.trans (Same.new k5), fun a o h => ?_, k3, fun a o h n => by rw [upd_ne (ne_of_none h hD)]; exact k4 a o h n⟩) ⟨rs, k7, Dt.lst_mk upd_same (k8.up (Same.new k5)) (Nat.le_trans k9 hz)⟩
    by_cases ha : a = D
    · subst ha; rw [upd_same] at h; rw [k6]; exact h
    · rw [upd_ne ha] at h; exact k2 a o h
theorem lc_readA (hi : EI X σ S tg iter (ds.map R)) (hz : ds.length ≤ sizeLine)
    (hel : ∀ d ∈ ds, ∀ v S', Same S S' → R d v S' → ∃ τ, wipe τ (own.map (·.2)) = wipe σ (own.map (·.2)) ∧ ∀ (s : Shared) (H0 : Hp) (C : Addr) (cl : List (Str × Addr)) (fp : List Addr),
      EG (X.blk s H0 scope (compEnvC scope cl C X.env) fp) S' tg v (wipe σ (own.map (·.2))) τ ∧ ETs (X.blk s H0 scope (compEnvC scope cl C X.env) fp) τ S' ifs (p d) ∧ (p d = true → EE (X.blk s H0 scope (compEnvC scope cl C X.env) fp) τ S' elt (Ex X.K (G d)))) {H : Hp} (s : Same S H) (Q : VK) (q : ∀ v S' H', Gr S H S' H' → (∃ rs, Paired G (ds.filter p) rs ∧ Dt X.K (.list rs) v S') → Q v H') :
    tLc (bI X tg iter) (gBlk X scope tg) (tBlk X scope ifs) (eBlk X scope elt) (own.map (·.2)) σ H Q := hi H s _ fun J S1 H1 g1 it => lc_loopA hz hel Q q g1 it
theorem ee_lcA (hc : X.calm = true) (hN : X.N.Nodup) (ok : BlkOk X.N X.env.scope scope own) (hi : EI X σ S tg iter (ds.map R)) (hz : ds.length ≤ sizeLine)
    (hel : ∀ d ∈ ds, ∀ v S', Same S S' → R d v S' → ∃ τ, wipe τ (own.map (·.2)) = wipe σ (own.map (·.2)) ∧ ∀ (s : Shared) (H0 : Hp) (C : Addr) (cl : List (Str × Addr)) (fp : List Addr),
      EG (X.blk s H0 scope (compEnvC scope cl C X.env) fp) S' tg v (wipe σ (own.map (·.2))) τ ∧ ETs (X.blk s H0 scope (compEnvC scope cl C X.env) fp) τ S' ifs (p d) ∧ (p d = true → EE (X.blk s H0 scope (compEnvC scope cl C X.env) fp) τ S' elt (Ex X.K (G d))))
    (hs : ∀ x, foldedSetIterable iter X.env x = pure x := by intro _; rfl) :
    EE X σ S (.ListComp elt [⟨tg, iter, ifs, 0⟩] scope pos) (fun v S' => ∃ rs, Paired G (ds.filter p) rs ∧ Dt X.K (.list rs) v S') := fun H s Q q =>
  he_of (pe_lc (own := own) (wi := bI X tg iter) (g := gBlk X scope tg) (tt := tBlk X scope ifs) (te := eBlk X scope elt) hc hN pib ok
    (fun s H0 C cl fp => ⟨fun pins sh σ' H' v u Q' I r h => h s H0 C cl fp pins sh u I r⟩) (fun s H0 C cl fp => ⟨fun pins sh σ' H' Q' I h => h s H0 C cl fp pins sh I⟩) (fun s H0 C cl fp => ⟨fun pins sh σ' H' Q' I h => h s H0 C cl fp pins sh I⟩) hs) (lc_readA hi hz hel s Q q)
end
end Y
namespace Y
open PySem PySem.Spec PyProof.Rows L2 Z
/-- a list whose items have the Ps -/
def LstP (Ps : List (V → Hp → Prop)) (v : V) (S : Hp) : Prop := ∃ l xs, v = .ref l ∧ S l = some (.lst xs) ∧ Al Ps xs S
theorem al_len {Ps : List (V → Hp → Prop)} {xs : List V} {H : Hp} (h : Al Ps xs H) : xs.length = Ps.length := by
  induction h with
  | nil => rfl
  | cons _ _ ih => rw [List.length_cons, List.length_cons, ih]
theorem al_get {Ps : List (V → Hp → Prop)} {xs : List V} {H : Hp} (h : Al Ps xs H) : ∀ {i : Nat} {x : V}, xs[i]? = some x → ∃ P, Ps[i]? = some P ∧ P x H := by
  induction h with
  | nil => intro i x e; cases e
  | cons p _ ih =>
    intro i x e
    cases i with
    | zero => cases e; exact ⟨_, rfl, p⟩
    | succ i => exact ih e
section
variable {X : Cx} {σ : L2.St} {S : Hp} {e tg : Expr} {Ps : List (V → Hp → Prop)}
theorem ei_lstP (hP : ∀ P ∈ Ps, Mn P) (ha : EE X σ S e (LstP Ps)) : EI X σ S tg e Ps := fun H s R q =>
  hi_of (pi_list peb) (ha H s _ fun v S1 H1 g1 pv => by
    obtain ⟨l, xs, rfl, hl, hx⟩ := pv
    have hlen := al_len hx
    refine ⟨l, rfl, ⟨xs, sql_of (g1.sub _ _ hl)⟩, q _ S1 H1 g1 ⟨fun i H hi hs => ?_, fun H hs => ?_, fun i H x H' hi hs y T st th => ?_⟩⟩
    · rw [← hlen] at hi
      exact (walk_list (K := X.K) (a := l) (xs := xs)).goes i H hi (sql_of (hs _ _ hl))
    · rw [← hlen]
      exact (walk_list (K := X.K) (a := l) (xs := xs)).stops H (sql_of (hs _ _ hl))
    · rw [← hlen] at hi
      obtain ⟨rfl, hy⟩ := (walk_list (K := X.K) (a := l) (xs := xs)).yields i H x H' hi (sql_of (hs _ _ hl)) y
      obtain ⟨P, e1, e2⟩ := al_get hx hy
      have m := hP P (List.mem_of_getElem? e1)
      exact ⟨T, Gr.refl th, P, e1, m.up st e2⟩)
end
/-- a closure's promise seen from the state with the cells: the state without them, and back -/
theorem Gr.under {S H S1 H1 : Hp} {L : List (Addr × Obj)} (s : Same S H) (hS : ∀ p ∈ L, S p.1 = some (.frz p.2 Tr)) (nd : (L.map (·.1)).Nodup) (g : Gr (delL S L) H S1 H1) : Gr S H (Y.shownL S1 L) H1 := by
  have atL : ∀ {L : List (Addr × Obj)} {p : Addr × Obj}, p ∈ L → (L.map (·.1)).Nodup → Y.shownL S1 L p.1 = some (.frz p.2 Tr) := by
    intro L
    induction L with
    | nil => intro p hp; cases hp
    | cons q L ih =>
      intro p hp nd
      rw [List.map_cons, List.nodup_cons] at nd
      rcases List.mem_cons.mp hp with e | e
      · rw [e]; exact shown_same
      · exact (shown_ne fun z => nd.1 (by rw [← z]; exact List.mem_map_of_mem e)).trans (ih e nd.2)
  have off : ∀ b, b ∉ L.map (·.1) → delL S L b = S b := fun b hb => delL_ne fun p hp z => hb (by rw [← z]; exact List.mem_map_of_mem hp)
  refine ⟨fun b o e => ?_, fun b o e => ?_, g.hh, fun b o e m => ?_⟩
  · by_cases hb : b ∈ L.map (·.1)
    · obtain ⟨p, hp, rfl⟩ := List.mem_map.mp hb
      rw [atL hp nd, ← hS p hp]; exact e
    · rw [shownL_ne hb]
      exact g.st b o ((off b hb).trans e)
  · by_cases hb : b ∈ L.map (·.1)
    · obtain ⟨p, hp, rfl⟩ := List.mem_map.mp hb
      rw [atL hp nd] at e
      rw [← e]
      exact g.hh _ _ (s _ _ (hS p hp))
    · rw [shownL_ne hb] at e
      exact g.sub b o e
  · by_cases hb : b ∈ L.map (·.1)
    · obtain ⟨p, hp, rfl⟩ := List.mem_map.mp hb
      rw [atL hp nd, hS p hp]
    · rw [shownL_ne hb]
      exact (g.old b o e m).trans (off b hb)
end Y
namespace Y
open PySem PySem.Spec PyProof.Rows L2 Z
section
end
end Y
namespace Y
open PySem PySem.Spec PyProof.Rows L2 Z
/-- lambda: .. gets nothing -/
theorem lbind0 {F : LF} (hd : F.dT = none) (h : ∀ pm ctv, bindArgs (F.fd pm ctv) ⟨[], []⟩ = pure []) : LBind F [] := fun pm ctv its s h0 _ _ => by
  rw [h0 hd]
  exact .of_eq (h pm ctv)
/-- lambda x=e: .. gets its default -/
theorem lbind1 {F : LF} {x : Str} {T : Addr} (hd : F.dT = some T) (h : ∀ pm ctv, ∃ k, bindArgs (F.fd pm ctv) ⟨[], []⟩ = seqItems? (F.fd pm ctv).defaults >>= k ∧ ∀ u, k (some #[u]) = pure [(x, u)]) : LBind F [x] := fun pm ctv its s _ h1 hl => by
  obtain ⟨o, n, ho, hs⟩ := h1 T hd
  obtain ⟨k, e1, e2⟩ := h pm ctv
  match its, hl with
  | [u], _ => exact .of_defaults (show (F.dT.elim Value.none .ref) = .ref T by rw [hd]; rfl) ho hs e1 (e2 u)
end Y
namespace Y
open PySem PySem.Spec PyProof.Rows L2 Z LamX NdefX
/-! ## the running frame's cells, shown to a call -/
theorem gr_unshownL : ∀ {L : List (Addr × Obj)} {S H S1 H1 : Hp}, Same S H → (∀ p ∈ L, H p.1 = none) → (L.map (·.1)).Nodup → Gr (Y.shownL S L) (Y.shownL H L) S1 H1 → Gr S H (delL S1 L) (delL H1 L)
  | [], _, _, _, _, _, _, _, g => g
  | p :: L, S, H, S1, H1, s, n, nd, g => by
    rw [List.map_cons, List.nodup_cons] at nd
    have s1 : Same (Y.shownL S L) (Y.shownL H L) := by
      have key : ∀ {L : List (Addr × Obj)} {S H : Hp}, Same S H → Same (Y.shownL S L) (Y.shownL H L) := by
        intro L
        induction L with
        | nil => intro S H s; exact s
        | cons q L ih => intro S H s; exact shown_same_sub (ih s)
      exact key s
    have n1 : Y.shownL H L p.1 = none := (shownL_ne nd.1).trans (n p List.mem_cons_self)
    exact gr_unshownL (L := L) s (fun q hq => n q (List.mem_cons_of_mem _ hq)) nd.2 (Gr.unshown s1 n1 g)
theorem shownL_at {L : List (Addr × Obj)} {S : Hp} {p : Addr × Obj} (hp : p ∈ L) (nd : (L.map (·.1)).Nodup) : Y.shownL S L p.1 = some (.frz p.2 Tr) := by
  induction L with
  | nil => cases hp
  | cons q L ih =>
    rw [List.map_cons, List.nodup_cons] at nd
    rcases List.mem_cons.mp hp with e | e
    · rw [e]; exact shown_same
    · exact (shown_ne fun z => nd.1 (by rw [← z]; exact List.mem_map_of_mem e)).trans (ih e nd.2)
/-- data does not lean on what is shown -/
theorem dt_hide {K : PySem.W.Frag} {d : PyData} {v : V} {S : Hp} {a : Addr} {o : Obj} (h : Dt K d v S) (e : S a = some (.frz o Tr)) : Dt K d v (L2.del S a) := by
  induction h with
  | non => exact .non
  | bl b => exact .bl b
  | int i => exact .int i
  | str x => exact .str x
  | lst h l z _ ih => exact .lst ((L2.del_ne (fun q => by rw [q, e] at h; cases h)).trans h) l z fun i x d hx hd => ih i x d hx hd e
  | tup h l z _ ih =>
    refine .tup ?_ l z fun i x d hx hd => ih i x d hx hd e
    rcases h with h | ⟨e0, (h | ⟨o', h⟩) | h⟩
    · exact .inl ((L2.del_ne (fun q => by rw [q, e] at h; cases h)).trans h)
    · exact .inl ((L2.del_ne (fun q => by rw [q, e] at h; cases h)).trans h)
    · exact .inr ⟨e0, .inl (.inr ⟨o', (L2.del_ne (fun q => by rw [q, e] at h; cases h)).trans h⟩)⟩
    · exact .inr ⟨e0, .inr h⟩
theorem dt_hideL {K : PySem.W.Frag} {d : PyData} {v : V} : ∀ {L : List (Addr × Obj)} {S : Hp}, Dt K d v S → (∀ p ∈ L, S p.1 = some (.frz p.2 Tr)) → (L.map (·.1)).Nodup → Dt K d v (delL S L)
  | [], _, h, _, _ => h
  | p :: L, S, h, e, nd => by
    rw [List.map_cons, List.nodup_cons] at nd
    exact dt_hideL (L := L) (dt_hide h (e p List.mem_cons_self)) (fun q hq => (L2.del_ne fun z => nd.1 (by rw [← z]; exact List.mem_map_of_mem hq)).trans (e q (List.mem_cons_of_mem _ hq))) nd.2
/-- L: the cells of the names xs, with what they hold -/
structure CellsOf (X : Cx) (σ : L2.St) (xs : List Str) (L : List (Addr × Obj)) : Prop where
  nd : (L.map (·.1)).Nodup
  has : ∀ x ∈ xs, ∃ (c : Addr) (o : Obj), X.env.cells.lookup x = some c ∧ (c, o) ∈ L ∧ (∃ cv, o.data = .cell cv) ∧ ∀ (j : Nat) (v : V), X.N[j]? = some x → σ[j]? = some (some v) → ∃ u, o.data = .cell (some u) ∧ RelV v u
  of : ∀ p ∈ L, ∃ x ∈ xs, X.env.cells.lookup x = some p.1
section
variable {X : Cx} {pins : List (Addr × Obj)} {σ : L2.St} {S H : Hp} {s : Shared}
theorem cells_show (I : Inv X pins σ H s) : ∀ {xs : List Str}, xs.Nodup → (∀ x ∈ xs, X.env.scope.names.lookup x = some .cell ∧ X.fn x = true) → ∃ L, CellsOf X σ xs L ∧ ∀ p ∈ L, Show X.base X.stack H s p.1 p.2
  | [], _, _ => ⟨[], ⟨List.nodup_nil, fun x hx => (by cases hx), fun p hp => (by cases hp)⟩, fun p hp => (by cases hp)⟩
  | x :: xs, nd, hk => by
    rw [List.nodup_cons] at nd
    obtain ⟨L, C, hs⟩ := cells_show I nd.2 fun y hy => hk y (List.mem_cons_of_mem _ hy)
    obtain ⟨k1, k2⟩ := hk x List.mem_cons_self
    obtain ⟨c, hc⟩ := I.ok.has x (.inl k1)
    obtain ⟨o, cv, hd, sh⟩ := show_cell I hc k2
    have nc : c ∉ L.map (·.1) := fun z => by
      obtain ⟨p, hp, e⟩ := List.mem_map.mp z
      obtain ⟨y, hy, hyc⟩ := C.of p hp
      rw [e] at hyc
      exact nd.1 (by rw [I.ok.inj x y c hc hyc]; exact hy)
    refine ⟨(c, o) :: L, ⟨by rw [List.map_cons, List.nodup_cons]; exact ⟨nc, C.nd⟩, fun y hy => ?_, fun p hp => ?_⟩, fun p hp => ?_⟩
    · rcases List.mem_cons.mp hy with e | e
      · subst e
        refine ⟨c, o, hc, List.mem_cons_self, ⟨cv, hd⟩, fun j v hj hv => ?_⟩
        obtain ⟨m, _, hl⟩ := I.loc
        obtain ⟨u, r, l⟩ := hl j y v hj hv (.inr (.inl k1))
        rcases l with ⟨z, _⟩ | ⟨_, c', hc', o', ho', hd'⟩
        · have z' : X.env.scope.names.lookup y = some .local := z
          rw [k1] at z'; cases z'
        · rw [hc] at hc'; cases hc'
          rw [sh.ob] at ho'; cases ho'
          exact ⟨u, hd', r⟩
      · obtain ⟨c', o', h1, h2, h3⟩ := C.has y e
        exact ⟨c', o', h1, List.mem_cons_of_mem _ h2, h3⟩
    · rcases List.mem_cons.mp hp with e | e
      · subst e; exact ⟨x, List.mem_cons_self, hc⟩
      · obtain ⟨y, hy, h⟩ := C.of p e
        exact ⟨y, List.mem_cons_of_mem _ hy, h⟩
    · rcases List.mem_cons.mp hp with e | e
      · subst e; exact sh
      · exact hs p e
/-- a lambda's captured cells among them -/
theorem cellsL_of {xs : List Str} {L : List (Addr × Obj)} {cl : List (Str × Addr)} {fr : List Str} {js : List Nat} (ok : X.Ok) (C : CellsOf X σ xs L) (K : Caps X cl fr js) (hcl : ∀ y c, cl.lookup y = some c → y ∈ xs) (hfr : ∀ y ∈ fr, y ∈ xs) : CellsL cl fr (js.map (slotAt σ)) L := by
  refine ⟨?_, fun y c e => ?_, fun x y c e1 e2 => ok.inj x y c (K.sub x c e1) (K.sub y c e2), fun i y e => ?_⟩
  · have q := congrArg List.length K.at_
    rw [List.length_map, List.length_map] at q
    rw [List.length_map]; exact q
  · obtain ⟨c', o, h1, h2, ⟨cv, h3⟩, _⟩ := C.has y (hcl y c e)
    rw [K.sub y c e] at h1; cases h1
    exact ⟨o, cv, h2, h3⟩
  · obtain ⟨c, o, h1, h2, _, h4⟩ := C.has y (hfr y (List.mem_of_getElem? e))
    refine ⟨c, K.sup y (List.mem_of_getElem? e) c h1, fun v ev => ?_⟩
    have e2 : (js.map fun j => X.N[j]?)[i]? = some (some y) := by
      rw [K.at_, List.getElem?_map, e]; rfl
    rw [List.getElem?_map] at e2 ev
    cases ej : js[i]? with
    | none => rw [ej] at e2; cases e2
    | some j =>
      rw [ej] at e2 ev
      have hj : X.N[j]? = some y := Option.some.inj (show some (X.N[j]?) = some (some y) from e2)
      obtain ⟨u, h5, h6⟩ := h4 j v hj (slotAt_some (Option.some.inj (show some (slotAt σ j) = some (some v) from ev)))
      exact ⟨u, o, h6, h2, h5⟩
end
section
end
/-! ## what is known without the tables -/
def noTab (S : Hp) : Hp := fun a => match S a with
  | some (.tbl _) => none
  | o => o
theorem noTab_at {S : Hp} {a : Addr} {o : HO} (h : S a = some o) (n : ∀ ps, o ≠ .tbl ps) : noTab S a = some o := by
  unfold noTab
  rw [h]
  cases o with
  | tbl ps => exact absurd rfl (n ps)
  | _ => rfl
theorem noTab_sub {S : Hp} : Same (noTab S) S := fun a o h => by
  unfold noTab at h
  cases e : S a with
  | none => rw [e] at h; cases h
  | some u =>
    rw [e] at h
    cases u with
    | tbl ps => cases h
    | _ => exact h
theorem noTab_no {S : Hp} {a : Addr} {ps : Array Value} : noTab S a ≠ some (.tbl ps) := fun h => by
  unfold noTab at h
  cases e : S a with
  | none => rw [e] at h; cases h
  | some u =>
    rw [e] at h
    cases u with
    | tbl qs => cases h
    | _ => cases h
theorem dt_noTab {K : PySem.W.Frag} {d : PyData} {v : V} {S : Hp} (h : Dt K d v S) : Dt K d v (Y.noTab S) := by
  induction h with
  | non => exact .non
  | bl b => exact .bl b
  | int i => exact .int i
  | str x => exact .str x
  | lst h l z _ ih => exact .lst (noTab_at h (fun _ z => nomatch z)) l z ih
  | tup h l z _ ih =>
    refine .tup ?_ l z ih
    rcases h with h | ⟨e0, (h | ⟨o', h⟩) | h⟩
    · exact .inl (noTab_at h (fun _ z => nomatch z))
    · exact .inl (noTab_at h (fun _ z => nomatch z))
    · exact .inr ⟨e0, .inl (.inr ⟨o', noTab_at h (fun _ z => nomatch z)⟩)⟩
    · exact .inr ⟨e0, .inr h⟩
theorem bx_noTab {v : V} {S : Hp} (h : BX v S) : BX v (Y.noTab S) := by
  obtain ⟨b, c, ns, e, n, h1, h2, l⟩ := h
  exact ⟨b, c, ns, e, n, noTab_at h1 (fun _ z => nomatch z), noTab_at h2 (fun _ z => nomatch z), l⟩
end Y
namespace Y
open PySem PySem.Spec PyProof.Rows L2 Z
section
variable {X : Cx} {σ : L2.St} {S S' H : Hp} {a b c e d0 tg : Expr} {pos p : Pos} {i j l m : Int} {b1 b2 b3 : Bool} {g1 g2 : Int → Int → V} {D : Ends} {rest body : List Stmt} {x : Str} {k n : Nat}
/-- f(k1 = e1, k2 = e2), by name alone; the values stand the other way round in the def -/
def gS {α : Type} : List α → List α → List α
  | us, [a, b] => us ++ [b, a]
  | us, ws => us ++ ws
/-- for .. in range(n): what is kept is told of the whole heap -/
theorem hs_forR {n : Nat} (Iv : Nat → L2.St → Hp → Prop) (hp : PassesOwn (model X.prog X.w) X.A X.env X.xe) (hc : X.calm = true) (hm : X.mg "range" = none) (hn : (n : Int) < 2 ^ 62) (ha : EE X σ S a (Dt X.K (.int (n : Nat)))) (s : Same S H) (h0 : ∀ S' H', Gr S H S' H' → Iv 0 σ H')
    (step : ∀ i σ1 H1, i < n → Iv i σ1 H1 → HG X tg (.int (i : Nat)) σ1 H1 fun σ3 H3 => HS X { D with nx := Iv (i + 1), ct := Iv (i + 1), bk := fun σ' H' => HS X D rest σ' H' } body σ3 H3)
    (done : ∀ σ1 H1, Iv n σ1 H1 → HS X D rest σ1 H1) (hg : Gl X "range" := by rfl) (hs1 : starEach [a] X.env = [(false, eval a X.env)] := by rfl) (hs : ∀ x, foldedSetIterable (.Call (.Name "range" p) [a] [] pos) X.env x = pure x := by intro _; rfl) {pos2 : Pos} :
    HS X D (.For tg (.Call (.Name "range" p) [a] [] pos) body [] pos2 :: rest) σ H :=
  hs_cons (ps_for hp hc (pi_range1 hg hm pab hs1) pgb psb hs) ((ea_1 ha (by rw [hs1]; rfl)).2 H s _ fun vs S1 H1 g1 al => by
    obtain ⟨v, rfl, pv⟩ := al.one
    cases pv
    refine ⟨(n : Int), rfl, by omega, hn, for_it (G := fun _ => True) (Y := fun i H x H' => H' = H ∧ x = .int (0 + (i : Int))) (n := n) ⟨fun i H hi _ => ?_, fun H _ => ?_, fun i H x H' _ _ y => y⟩ Iv (h0 S1 H1 g1) (fun _ _ _ _ _ => trivial) (fun i x σ' H2 H3 hi iv y => ?_) done⟩
    · show i < ((n : Int)).toNat
      omega
    · show ((n : Int)).toNat ≤ n
      omega
    · obtain ⟨rfl, rfl⟩ := y
      rw [Int.zero_add]
      exact step i σ' H3 hi iv)
end
section
variable {P : Program} {w : World} {K : PySem.W.Frag} {mg : Str → Option Value} {base : Heap} {x qual : Str} {params : Arguments} {body : List Stmt} {scope : Scope} {dvs : List V} {kws : List (Str × V)} {f c : Addr} {fd : FuncData} {N ps : List Str} {k : Nat} {sp : Sp}
/-- a def by its body, its code object known -/
theorem fn_hsC (F : FunD K x qual params body scope dvs kws f fd) (Sc : FnScope N ps scope) (hc : fd.code = .ref c) (len : ∀ vs H Q E, sp vs H Q E → vs.length = ps.length)
    (hb : ∀ (A : Around) (outer : List Env) (s : Shared) (H : Hp) (vs : List V) (Q : VK) (E : XK), Room k (A.deeper (envOfC qual scope s.heap.objs.size f (.ref c))) → sp vs H Q E →
      HS (cxOf CX0 P w K mg base N qual scope f (.ref c) A outer s H E).nox { nx := fun _ H' => Q .non H', rt := Q } body (start N vs) H) : FnOk P w K mg base CX0 (k + 1) f fd ps sp := by
  obtain ⟨oc, od, dV, kV, doc, pm, an, cdv, ct, osl, rfl, lk, hcd, _, _⟩ := F.ex
  have e : cdv = .ref c := hc
  subst e
  exact fn_of lk hcd Sc len fun A outer s H vs Q E hr hsp => ⟨_, PSs.nox psb, hb A outer s H vs Q E hr hsp⟩
end
end Y
namespace Y
open PySem PySem.Spec PyProof.Rows L2 Z
/-! ## an own error of the ValueErrors, told by one Bool -/
theorem oexB_ok {K : PySem.W.Frag} {C : Addr} (h : oexB K C = true) : OexC K C := by
  unfold oexB at h
  simp only [Bool.and_eq_true, decide_eq_true_eq] at h
  obtain ⟨h1, h2, h3, h4, h5⟩ := h
  refine ⟨?_, h2, h3, h4, h5⟩
  split at h1
  · rename_i t dd cd sl lk
    rw [Bool.and_eq_true] at h1
    obtain ⟨ht, h1⟩ := h1
    split at h1
    · rename_i C' bm k0 k1 k2 k3 n k5 hm hs
      simp only [Bool.and_eq_true, beq_iff_eq, Bool.not_eq_true'] at h1 ht
      obtain ⟨rfl, hb, rfl, hd, hl⟩ := h1
      subst ht
      obtain ⟨nm, bs, mro, ns, qn, hd', sn, sub, ab, col, del⟩ := cd
      dsimp only at hm hd hl
      subst hm hd hl
      have hsl : sl = #[k0, k1, k2, k3, some (.builtin "ValueError.__new__"), k5] := by
        obtain ⟨l⟩ := sl
        simp only at hs
        rw [hs]
      subst hsl
      exact ⟨nm, qn, ns, bs, bm, sn, sub, ab, col, dd, k0, k1, k2, k3, k5, lk, hb⟩
    · cases h1
  · cases h1
theorem errB_ok {K : PySem.W.Frag} {C fI : Addr} {f : Str} (h : errB K C fI f = true) : OexC K C ∧ XfC K C ∧ PySem.W.findIn K (.ref C) f = some none ∧ PySem.W.findIn K (.ref C) "code" = some none ∧ PySem.W.findIn K (.ref C) "__init__" = some (some (.ref fI)) ∧ PySem.W.typeIn K (.ref fI) = some (.type "function") := by
  unfold errB at h
  simp only [Bool.and_eq_true, decide_eq_true_eq] at h
  obtain ⟨h1, h2, h3, h4, h5, h6⟩ := h
  exact ⟨oexB_ok h1, xfB_ok h2, He.eqO_ok h3, He.eqO_ok h4, He.eqO_ok h5, h6⟩
end Y
namespace Y
open PySem PySem.Spec PyProof.Rows L2 Z
/-! ## dicts whose keys are tuples of ints, whose values are ints -/
abbrev MapI := List (List Int × Int)
def kI (k : List Int) : List L2.Key := k.map Sum.inl
def kvM (m : MapI) : List (List L2.Key × V) := m.map fun q => (kI q.1, V.int q.2)
/-- v is a tuple of these ints -/
def KyP (k : List Int) (w : V) (S : Hp) : Prop := ∃ b, w = .ref b ∧ S b = some (.tup (k.map V.int))
instance {k : List Int} : Mn (KyP k) := ⟨fun s ⟨b, e, h⟩ => ⟨b, e, s _ _ h⟩⟩
section
end
end Y
namespace Y
open PySem PySem.Spec PyProof.Rows L2 Z
/-! ## sorted, of data -/
section
end
section
end
end Y
namespace Y
open PySem PySem.Spec PyProof.Rows L2 Z
/-! ## sorted(d), d a dict with tuple keys -/
section
end
end Y
namespace Y
open PySem PySem.Spec PyProof.Rows L2 Z
/-! ## sorted(d) as an expression; sums of tuples -/
section
end
end Y
namespace Y
open PySem PySem.Spec PyProof.Rows L2 Z
section
end
end Y
namespace Y
open PySem PySem.Spec PyProof.Rows L2 Z
/-! ## a list comprehension, its list told as new (after Z3's ee_lcG) -/
section
end
section
variable {X : Cx} {σ : L2.St} {S : Hp} {elt iter : Expr} {scope : Scope} {pos px : Pos} {ds : List PyData} {α : Type} {enc : α → PyData} {i : Nat} {x : Str}
theorem NewL.is {K : PySem.W.Frag} {S S' : Hp} {ds ds' : List PyData} {v : V} (h : NewL K S ds v S') (e : ds = ds') : NewL K S ds' v S' := e ▸ h
end
end Y
namespace Y
open PySem PySem.Spec PyProof.Rows L2 Z
/-! ## name = [elt for x, y in iter] on one line, the name a local; the same for one target -/
section
end
end Y
namespace Y
open PySem PySem.Spec PyProof.Rows L2 Z
/-! ## own == with a list on the right -/
section
end
end Y
namespace Y
open PySem PySem.Spec PyProof.Rows L2 Z
/-! ## dict([]), list(d) of a dict with tuple keys -/
section
end
end Y
namespace Y
open PySem PySem.Spec PyProof.Rows L2 Z
section
variable {X : Cx} {σ : L2.St} {S : Hp} {a b e : Expr} {pos p1 p2 p3 : Pos} {d : PyData} {ds : List PyData} {k : Nat}
/-- a not in b, b a list of data -/
theorem et_notInD (hu : X.A.units + 65 < cLine) (h1 : SeqAt.shaped d = true) (h2 : SeqAt.shaped (.list ds) = true) (ha : EE X σ S a (Dt X.K d)) (hb : EE X σ S b (Dt X.K (.list ds))) (hm : behindInMarks .NotIn b = false := by first | rfl | with_unfolding_all rfl) : ET X σ S (.Compare a [.NotIn] [b] pos) (!ds.any fun z => PyData.eqv z d) :=
  et_cmp (op_notInD hu) ha hb (fun v w S1 H1 _ s pv pw Q q => ⟨d, ds, (pv.up s).dp, (pw.up s).dp, h1, h2, q _ S1 H1 (Gr.refl s) (.bl _)⟩) hm
end
end Y
namespace Y
open PySem PySem.Spec PyProof.Rows L2 Z
/-! ## own + and * of two things of one class -/
section
end
end Y
namespace Y
open PySem PySem.Spec PyProof.Rows L2 Z
/-! ## own ** with an int on the right -/
section
open PySem.W
end
section
end
end Y
namespace Y
open PySem PySem.Spec PyProof.Rows L2 Z
/-! ## a list comprehension with two clauses, the second list the same for each item of the first -/
section
end
end Y
namespace Y
open PySem PySem.Spec PyProof.Rows L2 Z LamX NdefX
/-! ## sorted(e, key=lambda x: x[1]) -/
/-- an item that is a tuple, its second part the key k -/
def PairKey (h : Heap) (v : Value) (k : PyData) : Prop := ∃ t its u, v = .ref t ∧ IsTup h t its ∧ its[1]? = some u ∧ Reads h u k []
theorem PairKey.keeps {h h' : Heap} {v : Value} {k : PyData} (p : PairKey h v k) (hk : ∀ b o, h.get? b = some o → h'.get? b = some o) : PairKey h' v k := by
  obtain ⟨t, its, u, e, ht, hu, hr⟩ := p
  exact ⟨t, its, u, e, ht.keeps hk, hu, PyProof.Rows.Reads.keeps hk hr⟩
section
end
end Y
namespace Y
open PySem PySem.Spec PyProof.Rows L2 Z
/-! ## a dict comprehension whose store is told by a rule (after HandS.DictComp's dc_core, which is for keys that are ints or texts) -/
section
end
end Y
namespace Y
open PySem PySem.Spec PyProof.Rows L2 Z
/-! ## a dict with tuple keys that is not changed any more: locked; what is read of it -/
def DcO (m : MapI) (d : Addr) (S : Hp) : Prop := ∃ o, S d = some (.frz o (.dT (kvM m)))
theorem DcO.up {m : MapI} {d : Addr} {S S' : Hp} (h : DcO m d S) (s : Same S S') : DcO m d S' := h.elim fun o e => ⟨o, s _ _ e⟩
def DcV (m : MapI) (v : V) (S : Hp) : Prop := ∃ d, v = .ref d ∧ DcO m d S
instance {m : MapI} : Mn (DcV m) := ⟨fun s ⟨d, e, h⟩ => ⟨d, e, h.up s⟩⟩
section
end
/-! ### for a, b in o.items() -/
section
end
section
end
end Y
namespace Y
open PySem PySem.Spec PyProof.Rows L2 Z
/-! ## o.items() as a value; list of it; a display of two -/
/-- S, all that is new in T, the tuples of H -/
def grown (S H T : Hp) : Hp := fun a => match S a with
  | some o => some o
  | none => match H a with
    | none => T a
    | some (.tup xs) => some (.tup xs)
    | some _ => none
theorem grown_S {S H T : Hp} {a : Addr} {o : HO} (h : S a = some o) : grown S H T a = some o := by unfold grown; rw [h]
theorem Gr.all {S H T : Hp} (s : Same S H) (st : Same H T) : Gr S H (grown S H T) T := by
  refine ⟨fun a o h => grown_S h, fun a o h => ?_, st, fun a o h n => ?_⟩
  · unfold grown at h
    cases e : S a with
    | some u => rw [e] at h; cases h; exact st a _ (s a _ e)
    | none =>
      rw [e] at h
      cases q : H a with
      | none => simp only [q] at h; exact h
      | some u =>
        cases u <;> simp only [q] at h <;> first | cases h | skip
        exact st a _ q
  · unfold grown
    cases e : S a with
    | some u => rfl
    | none =>
      cases q : H a with
      | none => rw [q] at h; cases h
      | some u =>
        rw [q] at h
        cases h
        cases o <;> first | rfl | exact absurd rfl (n _)
/-- the items view at p of the locked dict at d -/
def ItV (m : MapI) (v : V) (S : Hp) : Prop := ∃ p d, v = .ref p ∧ S p = some (L2.DX.itemsO p d) ∧ DcO m d S
instance {m : MapI} : Mn (ItV m) := ⟨fun s ⟨p, d, e, h, q⟩ => ⟨p, d, e, s _ _ h, q.up s⟩⟩
section
end
end Y
namespace Y
open PySem PySem.Spec PyProof.Rows L2 Z
/-! ## {kx: vx for x in iter}, keys tuples of ints, values ints -/
section
end
end Y
namespace Y
open PySem PySem.Spec PyProof.Rows L2 Z
/-! ## == of two dicts with tuple keys and ints as values -/
section
end
section
end
end Y
namespace Y
open PySem PySem.Spec PyProof.Rows L2 Z
/-! ## len(o), bool(o) of an own thing -/
section
end
/-! ## a staticmethod def m(*xs, kn=d), called through its class -/
section
end
end Y
namespace Y
open PySem PySem.Spec PyProof.Rows L2 Z
/-! ## a def m(*xs, kn=d) by its body -/
section
end
end Y
namespace Y
open PySem PySem.Spec PyProof.Rows L2 Z
section
end
end Y
namespace Y
open PySem PySem.Spec PyProof.Rows L2 Z LamX NdefX
/-! ## expressions and statements that may raise an own error -/
/-- a kind of own error: its class, its code, the attribute that it keeps -/
structure EK where
  C : Addr
  code : Str
  fn : Option Str
/-- E is met by an error of the kind k that keeps g -/
def XErr (K : PySem.W.Frag) (k : EK) (g : PyData) (S H : Hp) (E : XK) : Prop := ∀ d fs S3 H3, Gr S H S3 H3 → H d = none → S3 d = some (.xd fs) → fs.lookup ("code" : Str) = some (V.str k.code) → (k.fn = none → g = .none) → (∀ x, k.fn = some x → ∃ v, fs.lookup x = some v ∧ Dt K g v S3) → E (.ref k.C) (some d) H3
theorem XErr.up {K : PySem.W.Frag} {k : EK} {g : PyData} {S H S1 H1 : Hp} {E : XK} (h : XErr K k g S H E) (gr : Gr S H S1 H1) : XErr K k g S1 H1 E := fun d fs S3 H3 g3 hd hx hc hn hf => h d fs S3 H3 (gr.trans g3) (gr.hh.free hd) hx hc hn hf
theorem XErr.wide {K : PySem.W.Frag} {k : EK} {g : PyData} {S H H' : Hp} {E : XK} (h : XErr K k g S H E) (hh : Same H H') : XErr K k g S H' E := fun d fs S3 H3 gr hd hx hc hn hf => h d fs S3 H3 ⟨gr.st, gr.sub, hh.trans gr.hh, fun a o e m => gr.old a o (hh _ _ e) m⟩ (hh.free hd) hx hc hn hf
/-- e gives P, or raises as O -/
def ER (X : Cx) (E : XK) (σ : L2.St) (S : Hp) (e : Expr) (P : V → Hp → Prop) (O : EK → PyData → Prop) : Prop := ∀ H, Same S H → (∀ k g, O k g → XErr X.K k g S H E) → ∀ Q : VK, (∀ v S1 H1, Gr S H S1 H1 → P v S1 → Q v H1) → HE X e σ H Q
/-- a promise with both ends -/
def SpO (K : PySem.W.Frag) (sp : Sp) (S : Hp) (Ps : List (V → Hp → Prop)) (P : V → Hp → Prop) (O : EK → PyData → Prop) : Prop := ∀ vs S1 H1, Same S S1 → Same S1 H1 → Al Ps vs S1 → ∀ (Q : VK) (E : XK), (∀ v S2 H2, Gr S1 H1 S2 H2 → P v S2 → Q v H2) → (∀ k g, O k g → XErr K k g S1 H1 E) → sp vs H1 Q E
/-- a promise that is an error: of the kind that G tells -/
def spX (K : PySem.W.Frag) (G : List V → Hp → EK → PyData → Prop) : Sp := fun vs H _ E => ∃ S k g, Same S H ∧ G vs S k g ∧ XErr K k g S H E
def O1 (k : EK) (g : PyData) : EK → PyData → Prop := fun k' g' => k' = k ∧ g' = g
def NoP : V → Hp → Prop := fun _ _ => False
theorem spX_O {K : PySem.W.Frag} {S : Hp} {Ps : List (V → Hp → Prop)} {P : V → Hp → Prop} {O : EK → PyData → Prop} {G : List V → Hp → EK → PyData → Prop} (h : ∀ vs S1, Same S S1 → Al Ps vs S1 → ∃ k g, G vs S1 k g ∧ O k g) : SpO K (spX K G) S Ps P O := fun vs S1 H1 st s al Q E _ hx => by
  obtain ⟨k, g, h1, h2⟩ := h vs S1 st al
  exact ⟨S1, k, g, s, h1, hx k g h2⟩
structure KDX (P : Program) (w : World) (K : PySem.W.Frag) (mg : Str → Option Value) (base : Heap) (x : Str) (k : Nat) (sp : Sp) : Prop where
  ex : ∃ f fd ps, FnOk P w K mg base (L2.CX P w) k f fd ps sp ∧ mg x = some (.ref f) ∧ PySem.W.keepIn K (.ref f) = true ∧ Binds K fd ps []
/-- what the __init__ of an own class promises when it raises -/
def spXI' (C : Addr) (K : PySem.W.Frag) (G : List V → Hp → EK → PyData → Prop) : Sp := fun vs H _ E => ∃ S a dx ws k g, vs = .ref a :: ws ∧ Same S H ∧ S a = none ∧ H a = some (.ins C dx []) ∧ G ws S k g ∧ XErr K k g S H E
section
variable {X : Cx} {σ : L2.St} {S S' H : Hp} {e a b c o : Expr} {es : List Expr} {P Pa Pb P0 P1 R : V → Hp → Prop} {Ps : List (V → Hp → Prop)} {pos p apos pos2 kpos : Pos} {k : Nat} {x m f kn : Str} {sp : Sp} {C : Addr} {D : Ends} {rest : List Stmt} {O : EK → PyData → Prop} {E : XK} {op : Operator}
theorem ER.imp (h : ER X E σ S e P O) (f : ∀ v S', P v S' → R v S') : ER X E σ S e R O := fun H s hx Q q => h H s hx Q fun v S1 H1 g p => q v S1 H1 g (f v S1 p)
theorem ER.up (h : ER X E σ S e P O) (s : Same S S') (hk : ∀ H, Same S' H → (∀ k g, O k g → XErr X.K k g S' H E) → ∀ k g, O k g → XErr X.K k g S H E) (hq : ∀ v S1 H1 H, Same S' H → Gr S H S1 H1 → P v S1 → ∃ S2, Gr S' H S2 H1 ∧ P v S2) : ER X E σ S' e P O := fun H s' hx Q q => h H (s.trans s') (hk H s' hx) Q fun v S1 H1 g p => let ⟨S2, g2, p2⟩ := hq v S1 H1 H s' g p; q v S2 H1 g2 p2
/-- f(e, ..) -/
theorem er_call (tk : Takes X (fun cls d _ H => E cls d H)) (D1 : KDX X.prog X.w X.K X.mg X.base x k sp) (hr : Room k X.A) (ha : EA X σ S (e :: es) Ps) (hsp : SpO X.K sp S Ps P O) (hg : Gl X x := by rfl) (hdb : (x == ("__debug__" : Str)) = false := by decide)
    (he : starEach (e :: es) X.env = (false, eval e X.env) :: starEach es X.env := by rfl) (hpl : (backTo pos (starEach es X.env)).any (·.1) = false := by rfl) : ER X E σ S (.Call (.Name x p) (e :: es) [] pos) P O := fun H s hx Q q => by
  obtain ⟨f, fd, ps, F, hm, hk, hb⟩ := D1.ex
  refine he_of (pe_call F hr hg hm hk hb .nil (passes_call tk fun _ _ _ _ h => h) pab hdb he hpl) (ha.2 H s _ fun vs S1 H1 g1 al => ?_)
  rw [List.append_nil]
  exact hsp vs S1 H1 g1.st g1.sub al Q E (fun v S2 H2 g2 pv => q v S2 H2 (g1.trans g2) pv) fun k g o => (hx k g o).up g1
/-- C(e, ..), where __init__ raises -/
theorem er_make {f : Addr} {fd : FuncData} {ps : List Str} {us : List Value} {dvs : List V} {Pd : List (V → Hp → Prop)} {G : List V → Hp → EK → PyData → Prop} (tk : Takes X (fun cls d _ H => E cls d H)) (M : Mk X.K C f) (F : FnOk X.prog X.w X.K X.mg X.base (L2.CX X.prog X.w) k f fd ps (spXI' C X.K G)) (hr : Room (k + 1) X.A) (hm : X.mg x = some (.ref C)) (hb : Binds X.K fd ps us) (hd : Vals dvs us) (ha : EA X σ S (e :: es) Ps)
    (hG : ∀ ws S1, Same S S1 → Al Ps ws S1 → ∃ k g, G (ws ++ dvs) S1 k g ∧ O k g) (hg : Gl X x := by rfl) (hdb : (x == ("__debug__" : Str)) = false := by decide) (he : starEach (e :: es) X.env = (false, eval e X.env) :: starEach es X.env := by rfl) (hpl : (backTo pos (starEach es X.env)).any (·.1) = false := by rfl) : ER X E σ S (.Call (.Name x p) (e :: es) [] pos) R O := fun H s hx Q q =>
  he_of (pe_make M F hr hg hm hb hd (passes_call tk fun _ _ _ _ h => h) pab hdb he hpl) (ha.2 H s _ fun vs S1 H1 g1 al a dx h1 h2 h3 => by
    obtain ⟨k, g, hk, ho⟩ := hG vs S1 g1.st al
    have hst : Same H1 (upd (upd H1 dx (.own a)) a (.ins C dx [])) := (Same.new h2).trans (Same.new (by rw [upd_ne h3.symm]; exact h1))
    exact ⟨S1, a, dx, vs ++ dvs, k, g, rfl, g1.sub.trans hst, g1.sub.free h1, upd_same, hk, ((hx k g ho).up g1).wide hst⟩)
/-! ### statements -/
theorem hs_exprX (h : ER X E σ S e P O) (s : Same S H) (hx : ∀ k g, O k g → XErr X.K k g S H E) (q : ∀ v S' H', Gr S H S' H' → P v S' → HS X D rest σ H') (hs : swapsWith e none pos.line X.env = pure false := by rfl) : HS X D (.Expr e pos :: rest) σ H := hs_cons (ps_expr peb hs) (h H s hx _ q)
/-- raise C(e) -/
theorem hs_raiseX {ke : EK} {fname : Str} {G : PyData → Prop} (hc : X.calm = true) (tk : Takes X (fun cls d _ H => E cls d H)) (R : Err X.prog X.w X.K X.mg X.base x ke.C fname ke.code) (hfn : ke.fn = some fname) (hne : fname ≠ "code") (hr : Room 2 X.A) (ha : EE X σ S e (Ex X.K G)) (s : Same S H) (hx : ∀ g, G g → XErr X.K ke g S H E) (hg : Gl X x := by rfl)
    (hdb : (x == ("__debug__" : Str)) = false := by decide) (he : starEach [e] X.env = (false, eval e X.env) :: starEach [] X.env := by rfl) (hpl : (backTo pos (starEach [] X.env)).any (·.1) = false := by rfl) : HS X D (.Raise (some (.Call (.Name x p) [e] [] pos)) none pos2 :: rest) σ H :=
  hs_raiseO hc tk R hr ha s (fun v S1 H1 d H3 gr ⟨g, hgg, pv⟩ hd h1 h2 => by
    have n1 : S1 d = none := gr.sub.free hd
    refine hx g hgg d _ (upd S1 d (.xd [("code", .str ke.code), (fname, v)])) H3 ⟨gr.st.trans (Same.new n1), h1, gr.hh.trans h2, fun a o ha m => (upd_ne (ne_of_none ha (gr.hh.free hd))).trans (gr.old a o ha m)⟩ (gr.hh.free hd) upd_same rfl (fun z => by rw [hfn] at z; cases z) fun y hy => ?_
    rw [hfn] at hy
    cases hy
    refine ⟨v, ?_, pv.up (Same.new n1)⟩
    show (([("code", V.str ke.code), (fname, v)] : List (Str × V)).lookup fname) = some v
    have e1 : (fname == ("code" : Str)) = false := by simpa using hne
    simp [List.lookup, e1]) hg hdb he hpl
theorem hs_raise1 {ke : EK} {fname : Str} {g : PyData} (hc : X.calm = true) (tk : Takes X (fun cls d _ H => E cls d H)) (R : Err X.prog X.w X.K X.mg X.base x ke.C fname ke.code) (hfn : ke.fn = some fname) (hne : fname ≠ "code") (hr : Room 2 X.A) (ha : EE X σ S e (Dt X.K g)) (s : Same S H) (hx : XErr X.K ke g S H E) (hg : Gl X x := by rfl)
    (hdb : (x == ("__debug__" : Str)) = false := by decide) (he : starEach [e] X.env = (false, eval e X.env) :: starEach [] X.env := by rfl) (hpl : (backTo pos (starEach [] X.env)).any (·.1) = false := by rfl) : HS X D (.Raise (some (.Call (.Name x p) [e] [] pos)) none pos2 :: rest) σ H :=
  hs_raiseX (G := fun d => d = g) hc tk R hfn hne hr (ha.ex rfl) s (fun g' e => by subst e; exact hx) hg hdb he hpl
end
/-! ### kept lambdas that may raise -/
def spAsk (K : PySem.W.Frag) (W : List (Option V) → Hp → Prop) (P : V → Hp → Prop) (O : EK → PyData → Prop) : List (Option V) → Hp → VK → XK → Prop := fun ws H Q E => ∃ S, Same S H ∧ W ws S ∧ (∀ v S1 H1, Gr S H S1 H1 → P v S1 → Q v H1) ∧ ∀ k g, O k g → XErr K k g S H E
theorem lok_ask {P : Program} {w : World} {K : PySem.W.Frag} {mg : Str → Option Value} {base : Heap} {N ps fr : List Str} {F : LF} {f : Addr} {k : Nat} {dvs : List V} {W : List (Option V) → Hp → Prop} {Pv : V → Hp → Prop} {O : EK → PyData → Prop} (Sc : NScope N ps fr F.scope) (hB : LBind F ps) (hl : dvs.length = ps.length)
    (h : ∀ (A : Around) (outer : List Env) (s : Shared) (H : Hp) (ws : List (Option V)) (E : XK) (S : Hp), Room k (A.deeper (envF F.nf f s.heap.objs.size)) → ws.length = fr.length → W ws S → Takes (ncx (L2.CX P w) P w K mg base N F.nf f A outer s H E) (fun cls d _ H => E cls d H) → ER (ncx (L2.CX P w) P w K mg base N F.nf f A outer s H E) E (startF N dvs ws) S F.body Pv O) : LOk P w K mg base (L2.CX P w) (k + 1) f F fr dvs (spAsk K W Pv O) :=
  lok_of Sc hB hl fun A outer s H ws Q E hr hlen ⟨S, sS, hw, hq, hx⟩ => h A outer s H ws E S hr hlen hw (takes_of rfl rfl rfl rfl) H sS hx Q hq
end Y
namespace Y
open PySem PySem.Spec PyProof.Rows L2 Z
/-! ## staticmethods that may raise (after Y45, Y46) -/
section
end
section
end
end Y
namespace Y
open PySem PySem.Spec PyProof.Rows L2 L2H Z LamX NdefX
/-! ## what a caught error keeps: any kind -/
def fldAt : List Str := ["InvalidSystem", "InvalidFact", "InvalidFactor", "InvalidGroup", "InvalidClaim", "InvalidSums", "InvalidDeed", "InvalidCommand", "WrongSchema", "TooHigh", "EqualSums"]
def fldNm : List Str := ["InvalidName", "WrongKind", "DuplicateName", "UnknownName"]
def fldNo : List Str := ["InvalidText", "Boundless", "NoTable", "NotThere", "Empty", "NothingLeft"]
/-- the attribute that is read of an error with a code -/
def fieldOf (c : Str) : Option Str := if (fldAt.any fun m => decide (m = c)) = true then some "at" else if (fldNm.any fun m => decide (m = c)) = true then some "name" else if (fldNo.any fun m => decide (m = c)) = true then none else if decide (c = "InvalidPage") = true then some "line" else if decide (c = "WrongWidth") = true then some "width" else if decide (c = "TooMany") = true then some "most" else if decide (c = "Full") = true then some "limit" else some "given"
/-- what a kind of error must tell to be caught and read -/
structure KOk (K : PySem.W.Frag) (tup : List Value) (k : EK) : Prop where
  T : XfC K k.C
  cd : PySem.W.findIn K (.ref k.C) "code" = some none
  at_ : ∀ x, k.fn = some x → PySem.W.findIn K (.ref k.C) x = some none
  ex : PySem.W.exmAny K (.ref k.C) tup = some true
  fld : k.fn = fieldOf k.code
  nt : decide (k.code = "Tight") = false
  nb : decide (k.code = "BrokenClaim") = false
/-- the pinned exception is of the kind k, and keeps g -/
def ExcG (K : PySem.W.Frag) (k : EK) (g : PyData) (p : Addr × Obj) (S : Hp) : Prop := ∃ (dd : Addr) (fs : List (Str × V)), p.2.cls = .ref k.C ∧ p.2.dict = some dd ∧ (∃ vs, p.2.data = .fields vs) ∧ S dd = some (.xd fs) ∧ fs.lookup ("code" : Str) = some (V.str k.code) ∧ (k.fn = none → g = .none) ∧ ∀ x, k.fn = some x → ∃ v, fs.lookup x = some v ∧ Dt K g v S
theorem ExcG.up {K : PySem.W.Frag} {k : EK} {g : PyData} {p : Addr × Obj} {S S' : Hp} (h : ExcG K k g p S) (s : Same S S') : ExcG K k g p S' := by
  obtain ⟨dd, fs, h1, h2, h3, h4, h5, h6, h7⟩ := h
  exact ⟨dd, fs, h1, h2, h3, s _ _ h4, h5, h6, fun x hx => let ⟨v, a, b⟩ := h7 x hx; ⟨v, a, b.up s⟩⟩
section
variable {X : Cx} {σ : L2.St} {S : Hp} {e : Expr} {pos : Pos} {k : EK} {g : PyData} {p : Addr × Obj} {tup : List Value} {x : Str}
theorem ee_codeG (hp : p ∈ X.pn) (px : ExcG X.K k g p S) (ok : KOk X.K tup k) (he : EE X σ S e (fun w _ => w = .ref p.1)) (hb : attributeBase e "code" X.env (eval e X.env) = eval e X.env := by rfl) : EE X σ S (.Attribute e "code" pos) (Dt X.K (.str k.code)) := by
  obtain ⟨dd, fs, h1, h2, h3, h4, h5, _⟩ := px
  exact ee_xfP hp h1 h2 h3 ok.T ok.cd he h4 h5 (.str _) hb
theorem ee_keptG (hp : p ∈ X.pn) (px : ExcG X.K k g p S) (ok : KOk X.K tup k) (hx : k.fn = some x) (he : EE X σ S e (fun w _ => w = .ref p.1)) (hb : attributeBase e x X.env (eval e X.env) = eval e X.env := by rfl) : EE X σ S (.Attribute e x pos) (Dt X.K g) := by
  obtain ⟨dd, fs, h1, h2, h3, h4, _, _, h7⟩ := px
  obtain ⟨v, h8, h9⟩ := h7 x hx
  exact ee_xfP hp h1 h2 h3 ok.T (ok.at_ x hx) he h4 h8 h9 hb
end
def spFieldG (K : PySem.W.Frag) (tup : List Value) (p : Addr × Obj) (vs : List V) (H : Hp) (Q : VK) : Prop := ∃ S k g, Same S H ∧ vs = [.ref p.1] ∧ KOk K tup k ∧ ExcG K k g p S ∧ ∀ v S1 H1, Gr S H S1 H1 → Dt K g v S1 → Q v H1
section
variable {P : Program} {w : World} {K : PySem.W.Frag} {mg : Str → Option Value} {base : Heap}
/-- what an ask's answer is: its value, or the code and what the error keeps -/
def RtD (Od : PyData → Prop) (O : EK → PyData → Prop) (r : PyData) : Prop := (∃ d, Od d ∧ r = .tuple [.str "", d]) ∨ ∃ k g, O k g ∧ r = .tuple [.str k.code, g]
def spTry (P : Program) (w : World) (K : PySem.W.Frag) (mg : Str → Option Value) (base : Heap) (tup : List Value) (k : Nat) : Sp := fun vs H Q _ => ∃ S f F fr dvs ws L sp Od O, vs = [.ref f] ∧ LOk P w K mg base (L2.CX P w) k f F fr dvs sp ∧ Kept F f fr dvs ws L H ∧ Same S (delL H L) ∧ (∀ e g, O e g → KOk K tup e) ∧
  (∀ Q' E', (∀ v S1 H1, Gr S (delL H L) S1 H1 → Ex K Od v S1 → Q' v H1) → (∀ e g, O e g → XErr K e g S (delL H L) E') → sp ws (delL H L) Q' E') ∧ ∀ w S1 H1, Gr S H S1 H1 → Ex K (RtD Od O) w S1 → Q w H1
/-- an ask: a kept lambda with what it may answer -/
structure AskI (P : Program) (w : World) (K : PySem.W.Frag) (mg : Str → Option Value) (base : Heap) (tup : List Value) (k : Nat) where
  Od : PyData → Prop
  O : EK → PyData → Prop
  f : Addr
  F : LF
  fr : List Str
  dvs : List V
  ws : List (Option V)
  L : List (Addr × Obj)
  sp : List (Option V) → Hp → VK → XK → Prop
  S0 : Hp
  lok : LOk P w K mg base (L2.CX P w) k f F fr dvs sp
  ok : ∀ e g, O e g → KOk K tup e
  hR : ∀ S2 H2 Q' E', Same S0 S2 → Same S2 H2 → (∀ v S1 H1, Gr S2 H2 S1 H1 → Ex K Od v S1 → Q' v H1) → (∀ e g, O e g → XErr K e g S2 H2 E') → sp ws H2 Q' E'
def AskJ {tup : List Value} {k : Nat} (it : AskI P w K mg base tup k) (v : V) (S : Hp) : Prop := v = .ref it.f ∧ Kept it.F it.f it.fr it.dvs it.ws it.L S ∧ Same it.S0 (delL S it.L)
theorem delL_mono : ∀ {L : List (Addr × Obj)} {S S' : Hp}, Same S S' → Same (delL S L) (delL S' L)
  | [], _, _, s => s
  | p :: L, S, S', s => delL_mono (L := L) (S := L2.del S p.1) (S' := L2.del S' p.1) fun b o e => by
      by_cases hb : b = p.1
      · rw [hb, L2.del_same] at e; cases e
      · rw [L2.del_ne hb] at e ⊢; exact s b o e
theorem shownL_sub {L : List (Addr × Obj)} {S : Hp} (h : ∀ p ∈ L, S p.1 = none) : Same S (shownL S L) := fun b o e => by
  have hb : b ∉ L.map (·.1) := fun z => by
    obtain ⟨p, hp, rfl⟩ := List.mem_map.mp z
    rw [h p hp] at e; cases e
  exact (shownL_ne hb).trans e
instance askMn {tup : List Value} {k : Nat} {it : AskI P w K mg base tup k} : Mn (AskJ it) := ⟨fun s ⟨h1, h2, h3⟩ => ⟨h1, h2.ext s, h3.trans (delL_mono s)⟩⟩
theorem try_E {tup : List Value} {k : Nat} {S : Hp} (it : AskI P w K mg base tup k) : SpE (spTry P w K mg base tup k) S [AskJ it] (Ex K (RtD it.Od it.O)) := fun vs S1 H1 _ s al Q q => by
  obtain ⟨v, rfl, pv⟩ := al.one
  obtain ⟨rfl, KH, s0⟩ := pv
  refine ⟨delL S1 it.L, it.f, it.F, it.fr, it.dvs, it.ws, it.L, it.sp, it.Od, it.O, rfl, it.lok, KH.ext s, delL_mono s, it.ok, fun Q' E' hq hx => it.hR _ _ Q' E' s0 (delL_mono s) hq hx, fun w S2 H2 g2 ⟨d, hd, pw⟩ => q w _ H2 (Y.Gr.under s KH.shw KH.nd g2) ⟨d, hd, pw.up (shownL_sub fun p hp => ?_)⟩⟩
  rw [g2.old _ _ (s _ _ (KH.shw p hp)) (fun _ z => nomatch z)]
  exact delL_mem (List.mem_map_of_mem hp)
/-- _law_tries -/
def spTries (P : Program) (w : World) (K : PySem.W.Frag) (mg : Str → Option Value) (base : Heap) (tup : List Value) (k : Nat) : Sp := fun vs H Q _ => ∃ (S : Hp) (its : List (AskI P w K mg base tup k)) (l : V), Same S H ∧ vs = [l] ∧ LstP (its.map AskJ) l S ∧ its.length ≤ 1000 ∧ ∀ u S1 H1, Gr S H S1 H1 → (∃ rs, Paired (fun it r => RtD it.Od it.O r) its rs ∧ Dt K (.list rs) u S1) → Q u H1
end
/-! ## lambdas in a list -/
def LamF (e : Expr) (qual : Str) (cells : List (Str × Addr)) (c : Addr) (dT : Option Addr) : LF := match e with
  | .Lambda params body scope _ => ⟨qual, params, body, scope, cloFrom cells scope.names [], c, dT⟩
  | e => ⟨qual, default, e, default, [], c, dT⟩
def LamSc (e : Expr) : Scope := match e with
  | .Lambda _ _ s _ => s
  | _ => default
/-- the lambda at f, in a state -/
def AskS (F : LF) (f : Addr) (dvs : List V) (S : Hp) : Prop := S f = some (LamO f F) ∧ S F.c = some (CodeO F.c F.qual) ∧ LDef F dvs S
theorem AskS.up {F : LF} {f : Addr} {dvs : List V} {S S' : Hp} (h : AskS F f dvs S) (s : Same S S') : AskS F f dvs S' := ⟨s _ _ h.1, s _ _ h.2.1, ⟨h.2.2.1, fun T e => s _ _ (h.2.2.2 T e)⟩⟩
theorem extN_trans {H1 H2 H3 : Hp} (a : ExtN H1 H2) (b : ExtN H2 H3) : ExtN H1 H3 := fun x o e n => b x o (a x o e n) n
theorem extN_new {H : Hp} {p : Addr} {o : HO} (h : H p = none) : ExtN H (upd H p o) := fun b u e _ => (upd_ne (ne_of_none e h)).trans e
theorem extN_refl {H : Hp} : ExtN H H := fun _ _ e _ => e
theorem codeO_ne' {c : Addr} {q : Str} (ps : Array Value) : CodeO c q ≠ .tbl ps := fun z => by unfold CodeO at z; cases z
theorem AskS.ext {F : LF} {f : Addr} {dvs : List V} {H H' : Hp} (h : AskS F f dvs H) (s : ExtN H H') : AskS F f dvs H' := ⟨s _ _ h.1 lamO_ne, s _ _ h.2.1 codeO_ne', ⟨h.2.2.1, fun T e => s _ _ (h.2.2.2 T e) (fun _ z => nomatch z)⟩⟩
theorem AskS.noTab {F : LF} {f : Addr} {dvs : List V} {H : Hp} (h : AskS F f dvs H) : AskS F f dvs (Y.noTab H) := ⟨noTab_at h.1 lamO_ne, noTab_at h.2.1 codeO_ne', ⟨h.2.2.1, fun T e => noTab_at (h.2.2.2 T e) (fun _ z => nomatch z)⟩⟩
/-- v is the lambda e (b: it has a default) -/
def AskE (cells : List (Str × Addr)) (q : Str) (e : Expr) (b : Bool) (v : V) (S : Hp) : Prop := ∃ f c dT, v = .ref f ∧ (b = false → dT = none) ∧ (b = true → ∃ T, dT = some T) ∧ AskS (LamF e q cells c dT) f (if b = true then [.int 0] else []) S
theorem AskE.ext {cells : List (Str × Addr)} {q : Str} {e : Expr} {b : Bool} {v : V} {H H' : Hp} (h : AskE cells q e b v H) (s : ExtN H H') : AskE cells q e b v H' := let ⟨f, c, dT, h1, h2, h3, h4⟩ := h; ⟨f, c, dT, h1, h2, h3, h4.ext s⟩
theorem AskE.noTab {cells : List (Str × Addr)} {q : Str} {e : Expr} {b : Bool} {v : V} {H : Hp} (h : AskE cells q e b v H) : AskE cells q e b v (Y.noTab H) := let ⟨f, c, dT, h1, h2, h3, h4⟩ := h; ⟨f, c, dT, h1, h2, h3, h4.noTab⟩
instance {cells : List (Str × Addr)} {q : Str} {e : Expr} {b : Bool} : Mn (AskE cells q e b) := ⟨fun s ⟨f, c, dT, h1, h2, h3, h4⟩ => ⟨f, c, dT, h1, h2, h3, h4.up s⟩⟩
abbrev AskEs (cells : List (Str × Addr)) (q : Str) (es : List (Expr × Bool)) : List (V → Hp → Prop) := es.map fun p => AskE cells q p.1 p.2
theorem askEs_ext {cells : List (Str × Addr)} {q : Str} {H H' : Hp} (s : ExtN H H') : ∀ {es : List (Expr × Bool)} {vs : List V}, Al (AskEs cells q es) vs H → Al (AskEs cells q es) vs H'
  | [], _, h => by cases h; exact .nil
  | _ :: _, _, h => by cases h with | cons a t => exact .cons (a.ext s) (askEs_ext s t)
theorem askEs_noTab {cells : List (Str × Addr)} {q : Str} {H : Hp} : ∀ {es : List (Expr × Bool)} {vs : List V}, Al (AskEs cells q es) vs H → Al (AskEs cells q es) vs (Y.noTab H)
  | [], _, h => by cases h; exact .nil
  | _ :: _, _, h => by cases h with | cons a t => exact .cons a.noTab (askEs_noTab t)
theorem askEs_up {cells : List (Str × Addr)} {q : Str} {H H' : Hp} (s : Same H H') : ∀ {es : List (Expr × Bool)} {vs : List V}, Al (AskEs cells q es) vs H → Al (AskEs cells q es) vs H'
  | [], _, h => by cases h; exact .nil
  | _ :: _, _, h => by cases h with | cons a t => exact .cons (Mn.up s a) (askEs_up s t)
theorem al_app {Ps Qs : List (V → Hp → Prop)} {vs ws : List V} {S : Hp} (h : Al Ps vs S) (g : Al Qs ws S) : Al (Ps ++ Qs) (vs ++ ws) S := by
  induction h with
  | nil => exact g
  | cons p _ ih => exact .cons p (ih g)
theorem ldef0 {F : LF} {H : Hp} (h : F.dT = none) : LDef F [] H := ⟨fun _ => rfl, fun T e => (by rw [h] at e; cases e)⟩
theorem ldef1 {F : LF} {H : Hp} {T : Addr} {dvs : List V} (h : F.dT = some T) (e : H T = some (.tup dvs)) : LDef F dvs H := ⟨fun q => (by rw [h] at q; cases q), fun T' q => (by rw [h] at q; cases q; exact e)⟩
/-- what is asked of a lambda's expression -/
structure LamOk (X : Cx) (e : Expr) (b : Bool) : Prop where
  ex : ∃ params body scope pos, e = .Lambda params body scope pos ∧ (∀ y ∈ scope.names, y.2 = .free → X.env.scope.names.lookup y.1 = some .cell ∨ X.env.scope.names.lookup y.1 = some .free) ∧ (b = false → defaultsOf params X.env = ([], [])) ∧ (b = true → ∃ p0 k0, defaultsOf params X.env = ([eval (.Constant (.int 0) k0 p0) X.env], []))
/-- the law's code table is told -/
structure TabU (X : Cx) (c Pt : Addr) (q : Str) : Prop where
  tab : TabB X.base X.mg c Pt
  code : X.env.code = .ref c
  qual : X.env.qual ++ "<lambda>" = q
abbrev TabQ (Pt : Addr) (q : Str) : List NTab := [(Pt, fun _ _ => q)]
section
variable {X : Cx} {σ : L2.St} {H : Hp} {c Pt : Addr} {q : Str} {D : Ends} {rest : List Stmt}
theorem he_lamE {e : Expr} {b : Bool} (U : TabU X c Pt q) (hT : TabsN (TabQ Pt q) H) (ok : LamOk X e b) {Q : VK} (h : ∀ v H1, ExtN H H1 → TabsN (TabQ Pt q) H1 → AskE X.env.cells q e b v H1 → Q v H1) : HE X e σ H Q := by
  obtain ⟨params, body, scope, pos, rfl, hf, h0, h1⟩ := ok.ex
  have hu : ∀ p ∈ TabQ Pt q, p.1 = Pt → p.2 = fun _ _ => q := fun p hp _ => by rw [List.mem_singleton.mp hp]
  have hm : (Pt, fun _ _ => q) ∈ TabQ Pt q := List.mem_singleton.mpr rfl
  cases b with
  | false =>
    refine he_lam0 U.tab U.code hm U.qual.symm hu hT hf (h0 rfl) fun f c' H1 M => h _ _ M.ext M.tabs ⟨f, c', none, rfl, fun _ => rfl, (fun z => by cases z), ?_⟩
    have e1 := M.lam
    have e2 := M.code
    rw [U.qual] at e1 e2
    exact ⟨e1, e2, ldef0 rfl⟩
  | true =>
    obtain ⟨p0, k0, hd⟩ := h1 rfl
    refine he_lam1 U.tab U.code hm U.qual.symm hu hf hd (he_of pe_int ⟨hT, fun T hT2 f c' H1 M => h _ _ (extN_trans (extN_new hT2) M.ext) M.tabs ⟨f, c', some T, rfl, (fun z => by cases z), fun _ => ⟨T, rfl⟩, ?_⟩⟩)
    have e1 := M.lam
    have e2 := M.code
    rw [U.qual] at e1 e2
    exact ⟨e1, e2, ldef1 rfl (M.ext _ _ upd_same (fun _ z => nomatch z))⟩
theorem ha_lams (U : TabU X c Pt q) : ∀ {es : List (Expr × Bool)} {H : Hp}, TabsN (TabQ Pt q) H → (∀ p ∈ es, LamOk X p.1 p.2) → ∀ {Q : List V → Hp → Prop}, (∀ vs H1, ExtN H H1 → TabsN (TabQ Pt q) H1 → Al (AskEs X.env.cells q es) vs H1 → Q vs H1) → HA X (es.map (·.1)) σ H Q
  | [], H, hT, _, Q, h => ha_of pa_nil (h [] H extN_refl hT .nil)
  | p :: es, H, hT, ok, Q, h => by
    have hs : starEach ((p :: es).map (·.1)) X.env = (false, eval p.1 X.env) :: starEach (es.map (·.1)) X.env := by
      obtain ⟨params, body, scope, pos, e, _⟩ := (ok p List.mem_cons_self).ex
      obtain ⟨p1, p2⟩ := p
      cases e
      rfl
    refine ha_of (pa_cons (te := bE X p.1) (t := bA X (es.map (·.1))) peb pab hs) (he_lamE U hT (ok p List.mem_cons_self) fun v H1 x1 hT1 a => ?_)
    exact ha_lams U hT1 (fun p' hp => ok p' (List.mem_cons_of_mem _ hp)) fun vs H2 x2 hT2 al => h (v :: vs) H2 (extN_trans x1 x2) hT2 (.cons (a.ext x2) al)
/-- name = [lambda .., ..] -/
theorem hs_asks {es : List (Expr × Bool)} {i : Nat} {x : Str} {pos' pos pl : Pos} (U : TabU X c Pt q) (hN : X.N.Nodup) (hT : TabsN (TabQ Pt q) H) (ok : ∀ p ∈ es, LamOk X p.1 p.2) (hz : es.length ≤ 1000)
    (nx : ∀ l vs Hf, ExtN H Hf → TabsN (TabQ Pt q) Hf → Al (AskEs X.env.cells q es) vs (Y.noTab Hf) → Y.noTab Hf l = some (.lst vs) → HS X D rest (σ.set i (some (.ref l))) Hf) (hi : X.N[i]? = some x := by rfl) (hx : Loc X.env.scope x := by first | exact Or.inl rfl | exact Or.inr rfl)
    (hs : swapsWith (.List (es.map (·.1)) pl) (some (.Name x pos')) pos.line X.env = pure false := by rfl) (hf : X.fn x = true ∨ X.env.scope.names.lookup x = some .local := by first | exact .inl rfl | exact .inr rfl | assumption) : HS X D (.Assign [.Name x pos'] (.List (es.map (·.1)) pl) pos :: rest) σ H := by
  refine hs_cons (ps_set hN hi hx (pe_lst pab) hs hf) (ha_lams U hT ok fun vs H1 x1 hT1 al => ⟨?_, fun l hl => ?_⟩)
  · rw [al_len al, List.length_map]; show _ ≤ 16777216; omega
  · have x2 : ExtN H1 (upd H1 l (.lst vs)) := extN_new hl
    exact nx l vs _ (extN_trans x1 x2) (hT1.ext fun b o e => (upd_ne (ne_of_none e hl)).trans e) (askEs_noTab (askEs_ext x2 al)) (noTab_at upd_same (fun _ z => nomatch z))
/-- name = name + [lambda .., ..] -/
theorem hs_asksMore {es es0 : List (Expr × Bool)} {i l0 : Nat} {vs0 : List V} {x : Str} {pos' pos pl p1 p2 : Pos} (U : TabU X c Pt q) (hN : X.N.Nodup) (hT : TabsN (TabQ Pt q) H) (ok : ∀ p ∈ es, LamOk X p.1 p.2) (hz : es0.length + es.length ≤ 1000) (h0 : Al (AskEs X.env.cells q es0) vs0 H) (hl0 : H l0 = some (.lst vs0)) (hv : σ[i]? = some (some (.ref l0)))
    (nx : ∀ l vs Hf, ExtN H Hf → TabsN (TabQ Pt q) Hf → Al (AskEs X.env.cells q (es0 ++ es)) vs (Y.noTab Hf) → Y.noTab Hf l = some (.lst vs) → HS X D rest (σ.set i (some (.ref l))) Hf) (hi : X.N[i]? = some x := by rfl) (hx : Loc X.env.scope x := by first | exact Or.inl rfl | exact Or.inr rfl) (hvis : Vis X.env.scope x := by first | exact Or.inl rfl | exact Or.inr (Or.inl rfl))
    (hd : (x == ("__debug__" : Str)) = false := by decide) (hcd : (x == ("__classdict__" : Str)) = false := by decide)
    (hs : swapsWith (.BinOp (.Name x p1) .Add (.List (es.map (·.1)) pl) p2) (some (.Name x pos')) pos.line X.env = pure false := by rfl) (hf : X.fn x = true ∨ X.env.scope.names.lookup x = some .local := by first | exact .inl rfl | exact .inr rfl | assumption) : HS X D (.Assign [.Name x pos'] (.BinOp (.Name x p1) .Add (.List (es.map (·.1)) pl) p2) pos :: rest) σ H := by
  refine hs_cons (ps_set hN hi hx (pe_op op_cat (pe_var (i := i) hi hvis hd hcd) (pe_lst pab)) hs hf) ⟨.ref l0, hv, ha_lams U hT ok fun vs H1 x1 hT1 al => ⟨?_, fun l hl => ?_⟩⟩
  · rw [al_len al, List.length_map]; show _ ≤ 16777216; omega
  · have x2 : ExtN H1 (upd H1 l (.lst vs)) := extN_new hl
    have hb : l ≠ l0 := fun e => by
      subst e
      have := x1 _ _ hl0 (fun _ z => nomatch z)
      rw [hl] at this; cases this
    have e0 : upd H1 l (.lst vs) l0 = some (.lst vs0) := (upd_ne hb.symm).trans (x1 _ _ hl0 (fun _ z => nomatch z))
    refine ⟨l0, l, vs0, vs, rfl, rfl, e0, upd_same, ?_, fun l2 hl2 => ?_⟩
    · rw [al_len h0, al_len al, List.length_map, List.length_map]; show _ ≤ 16777216; omega
    · have x3 : ExtN (upd H1 l (.lst vs)) (upd (upd H1 l (.lst vs)) l2 (.lst (vs0 ++ vs))) := extN_new hl2
      have x13 := extN_trans x1 (extN_trans x2 x3)
      refine nx l2 (vs0 ++ vs) _ x13 ((hT1.ext fun b o e => (upd_ne (ne_of_none e hl)).trans e).ext fun b o e => (upd_ne (ne_of_none e hl2)).trans e) ?_ (noTab_at upd_same (fun _ z => nomatch z))
      refine askEs_noTab ?_
      show Al ((es0 ++ es).map _) _ _
      rw [List.map_append]
      exact al_app (askEs_ext x13 h0) (askEs_ext (extN_trans x2 x3) al)
end
/-! ## a call to which the running frame's cells are shown -/
theorem exi_hideL {K : PySem.W.Frag} {F : PyData → Prop} {v : V} {L : List (Addr × Obj)} {S : Hp} (h : Ex K F v S) (e : ∀ p ∈ L, S p.1 = some (.frz p.2 Tr)) (nd : (L.map (·.1)).Nodup) : Ex K F v (delL S L) := let ⟨d, hd, pv⟩ := h; ⟨d, hd, dt_hideL pv e nd⟩
section
variable {X : Cx} {σ : L2.St} {S H : Hp} {e : Expr} {es : List Expr} {x : Str} {k : Nat} {sp : Sp} {p pos : Pos} {F : PyData → Prop} {Q : VK}
theorem he_callCells (xs : List Str) (hxs : xs.Nodup) (hk : ∀ y ∈ xs, X.env.scope.names.lookup y = some .cell ∧ X.fn y = true) (D : KD X.prog X.w X.K X.mg X.base x k sp) (hr : Room k X.A)
    (ha : HA X (e :: es) σ H fun vs H1 => ∃ S1, Same S1 H1 ∧ (X.Ok → ∀ L, CellsOf X σ xs L → (∀ p ∈ L, H1 p.1 = none) → ∀ Q' : VK, (∀ v S2 H2, Gr (Y.shownL S1 L) (Y.shownL H1 L) S2 H2 → Ex X.K F v S2 → Q' v H2) → sp vs (Y.shownL H1 L) Q' E0) ∧ ∀ v S2 H2, Gr S1 H1 S2 H2 → Ex X.K F v S2 → Q v H2)
    (hg : Gl X x := by rfl) (hdb : (x == ("__debug__" : Str)) = false := by decide) (he : starEach (e :: es) X.env = (false, eval e X.env) :: starEach es X.env := by rfl) (hpl : (backTo pos (starEach es X.env)).any (·.1) = false := by rfl) : HE X (.Call (.Name x p) (e :: es) [] pos) σ H Q := fun pins s0 I => by
  obtain ⟨f, fd, ps, F1, hm, hkp, hb⟩ := D.ex
  refine wpAny_Call_Name_kw (ld_glob I hg hm ?_ hdb)
  refine PySem.W.callWith_K (h₀ := X.base) I.ok.mod.kin hkp (thn (ha pos pins s0 I) fun us s1 ⟨vs, H1, I1, r, S1, s, hsp, q⟩ => ⟨I1.kIn, ?_⟩) he hpl
  obtain ⟨L, C, hsh⟩ := cells_show I1 hxs hk
  refine run_shown F1 hr hb .nil pass0 hides0 I1 r hsh C.nd ?_
  rw [List.append_nil]
  exact hsp I1.ok L C (fun p hp => (hsh p hp).no) _ fun v S2 H2 g2 pv => q v (delL S2 L) (delL H2 L) (gr_unshownL s (fun p hp => (hsh p hp).no) C.nd g2) (exi_hideL pv (fun p hp => g2.st _ _ (shownL_at hp C.nd)) C.nd)
end
theorem shownL_mono {L : List (Addr × Obj)} : ∀ {S H : Hp}, Same S H → Same (Y.shownL S L) (Y.shownL H L) := by
  induction L with
  | nil => intro S H s; exact s
  | cons q L ih => intro S H s; exact shown_same_sub (ih s)
theorem unshow_sub {L : List (Addr × Obj)} {S : Hp} (h : ∀ p ∈ L, S p.1 = none) : Same S (delL (Y.shownL S L) L) := fun b o e => by
  have hb : ∀ p ∈ L, p.1 ≠ b := fun p hp z => by rw [← z, h p hp] at e; cases e
  rw [delL_ne hb, shownL_ne (fun z => by obtain ⟨p, hp, q⟩ := List.mem_map.mp z; exact hb p hp q)]
  exact e
theorem clo_in {cells : List (Str × Addr)} {names : List (Str × NameKind)} {xs : List Str} (h : ∀ y ∈ names, y.2 = .free → y.1 ∈ xs) {y : Str} {c : Addr} (e : (cloFrom cells names []).lookup y = some c) : y ∈ xs := by
  rcases cloFrom_mem (PySem.mem_of_lookup e) with hm | ⟨h1, _⟩
  · cases hm
  · exact h _ h1 rfl
theorem kept_of {F : LF} {g : Addr} {fr : List Str} {dvs : List V} {ws : List (Option V)} {L : List (Addr × Obj)} {S : Hp} (h : AskS F g dvs S) (s : Same S (Y.shownL S L)) (nd : (L.map (·.1)).Nodup) (cl : CellsL F.cl fr ws L) : Kept F g fr dvs ws L (Y.shownL S L) :=
  ⟨s _ _ h.1, s _ _ h.2.1, ⟨h.2.2.1, fun T e => s _ _ (h.2.2.2 T e)⟩, fun p hp => shownL_at hp nd, nd, cl⟩
/-- an ask of the law: the lambda e, what its captured names hold, what it answers -/
structure AskC (X : Cx) (q : Str) (tup : List Value) (k : Nat) (σ : L2.St) (xs : List Str) (S : Hp) where
  e : Expr
  b : Bool
  fr : List Str
  js : List Nat
  Od : PyData → Prop
  O : EK → PyData → Prop
  W : List (Option V) → Hp → Prop
  lam : ∃ params body scope pos, e = .Lambda params body scope pos
  lok : ∀ f c dT, (b = false → dT = none) → (b = true → ∃ T, dT = some T) → LOk X.prog X.w X.K X.mg X.base (L2.CX X.prog X.w) k f (LamF e q X.env.cells c dT) fr (if b = true then [.int 0] else []) (spAsk X.K W (Ex X.K Od) O)
  free : ∀ y ∈ (LamSc e).names, y.2 = .free → X.env.scope.names.lookup y.1 = some .cell ∨ X.env.scope.names.lookup y.1 = some .free
  sub : ∀ y ∈ (LamSc e).names, y.2 = .free → y.1 ∈ xs
  hfr : ∀ y ∈ fr, (y, NameKind.free) ∈ (LamSc e).names
  hjs : js.map (fun j => X.N[j]?) = fr.map some
  ok : ∀ e g, O e g → KOk X.K tup e
  hW : ∀ S', Same S S' → W (js.map (slotAt σ)) S'
/-- a kept ask, from its description -/
theorem ask_mk {X : Cx} {q : Str} {tup : List Value} {k : Nat} {σ : L2.St} {xs : List Str} {S S1 : Hp} {L : List (Addr × Obj)} (ok : X.Ok) (Cs : CellsOf X σ xs L) (s0 : Same S S1) (hn : ∀ p ∈ L, S1 p.1 = none) (it : AskC X q tup k σ xs S) {v : V} (h : AskE X.env.cells q it.e it.b v S1) :
    ∃ i : AskI X.prog X.w X.K X.mg X.base tup k, i.Od = it.Od ∧ i.O = it.O ∧ AskJ i v (Y.shownL S1 L) := by
  obtain ⟨f, c, dT, rfl, h0, h1, ha⟩ := h
  have hS : Same S1 (Y.shownL S1 L) := shownL_sub hn
  have hU : Same S1 (delL (Y.shownL S1 L) L) := unshow_sub hn
  obtain ⟨params, body, scope, pos, he⟩ := it.lam
  have hcl : (LamF it.e q X.env.cells c dT).cl = cloFrom X.env.cells (LamSc it.e).names [] := by rw [he]; rfl
  have kc := cellsL_of (js := it.js) (fr := it.fr) (cl := (LamF it.e q X.env.cells c dT).cl) ok Cs (by rw [hcl]; exact Caps.made ok it.free it.hfr it.hjs) (fun y c' e => by rw [hcl] at e; exact clo_in it.sub e) (fun y hy => it.sub (y, .free) (it.hfr y hy) rfl)
  exact ⟨⟨it.Od, it.O, f, LamF it.e q X.env.cells c dT, it.fr, _, it.js.map (slotAt σ), L, spAsk X.K it.W (Ex X.K it.Od) it.O, S1, it.lok f c dT h0 h1, it.ok, fun S2 H2 Q' E' s02 s22 hq hx => ⟨S2, s22, it.hW S2 (s0.trans s02), hq, hx⟩⟩, rfl, rfl, rfl, kept_of ha hS Cs.nd kc, hU⟩
theorem asks_mk {X : Cx} {q : Str} {tup : List Value} {k : Nat} {σ : L2.St} {xs : List Str} {S S1 : Hp} {L : List (Addr × Obj)} (ok : X.Ok) (Cs : CellsOf X σ xs L) (s0 : Same S S1) (hn : ∀ p ∈ L, S1 p.1 = none) : ∀ (its : List (AskC X q tup k σ xs S)) {vs : List V}, Al (AskEs X.env.cells q (its.map fun it => (it.e, it.b))) vs S1 →
    ∃ is : List (AskI X.prog X.w X.K X.mg X.base tup k), is.map (fun i => (i.Od, i.O)) = its.map (fun i => (i.Od, i.O)) ∧ Al (is.map AskJ) vs (Y.shownL S1 L)
  | [], _, h => by cases h; exact ⟨[], rfl, .nil⟩
  | it :: its, _, h => by
    cases h with
    | cons a t =>
      obtain ⟨i, e1, e2, h1⟩ := ask_mk ok Cs s0 hn it a
      obtain ⟨is, e3, h2⟩ := asks_mk ok Cs s0 hn its t
      refine ⟨i :: is, ?_, .cons h1 h2⟩
      rw [List.map_cons, List.map_cons, e3, e1, e2]
theorem paired_pairs {α β : Type} {f : α → (PyData → Prop) × (EK → PyData → Prop)} {g : β → (PyData → Prop) × (EK → PyData → Prop)} : ∀ {xs : List α} {ys : List β} {rs : List PyData}, xs.map f = ys.map g → Paired (fun x r => RtD (f x).1 (f x).2 r) xs rs → Paired (fun y r => RtD (g y).1 (g y).2 r) ys rs
  | [], [], _, _, h => by cases h; exact .nil
  | [], _ :: _, _, e, _ => nomatch e
  | _ :: _, [], _, e, _ => nomatch e
  | x :: xs, y :: ys, _, e, h => by
    cases h with
    | cons a t =>
      rw [List.map_cons, List.map_cons] at e
      obtain ⟨e1, e2⟩ := List.cons.inj e
      exact .cons (by rw [← e1]; exact a) (paired_pairs e2 t)
section
variable {X : Cx} {σ : L2.St} {S H : Hp} {q : Str} {tup : List Value} {k : Nat} {xs : List Str} {x y : Str} {p p2 pos : Pos} {i : Nat} {l : Addr} {vs : List V}
/-- _law_tries(asks) -/
theorem ee_tries (hxs : xs.Nodup) (hk : ∀ y ∈ xs, X.env.scope.names.lookup y = some .cell ∧ X.fn y = true) (D : KD X.prog X.w X.K X.mg X.base x (k + 3) (spTries X.prog X.w X.K X.mg X.base tup k)) (hr : Room (k + 3) X.A) (its : List (AskC X q tup k σ xs S)) (hz : its.length ≤ 1000) (hv : σ[i]? = some (some (.ref l))) (hl : S l = some (.lst vs)) (al : Al (AskEs X.env.cells q (its.map fun it => (it.e, it.b))) vs S)
    (hi : X.N[i]? = some y := by rfl) (hvis : Vis X.env.scope y := by first | exact Or.inl rfl | exact Or.inr (Or.inl rfl)) (hd : (y == ("__debug__" : Str)) = false := by decide) (hcd : (y == ("__classdict__" : Str)) = false := by decide) (hg : Gl X x := by rfl) (hdb : (x == ("__debug__" : Str)) = false := by decide) (he : starEach [.Name y p2] X.env = (false, eval (.Name y p2) X.env) :: starEach [] X.env := by rfl) (hpl : (backTo pos (starEach [] X.env)).any (·.1) = false := by rfl) :
    EE X σ S (.Call (.Name x p) [.Name y p2] [] pos) (Ex X.K fun d => ∃ rs, d = .list rs ∧ Paired (fun (it : AskC X q tup k σ xs S) r => RtD it.Od it.O r) its rs) := fun H s Q qq => by
  refine he_callCells xs hxs hk D hr (F := fun d => ∃ rs, d = .list rs ∧ Paired (fun (it : AskC X q tup k σ xs S) r => RtD it.Od it.O r) its rs) (ha_of (pa_cons (te := bE X (.Name y p2)) (t := tNil) peb pa_nil he) (he_of (pe_var (i := i) hi hvis hd hcd) ⟨.ref l, hv, ?_⟩)) hg hdb he hpl
  refine ⟨S, s, fun ok L C hn Q' q' => ?_, fun v S2 H2 g pv => qq v S2 H2 g pv⟩
  obtain ⟨is, e, h2⟩ := asks_mk ok C (Same.refl S) (fun p hp => s.free (hn p hp)) its al
  refine ⟨Y.shownL S L, is, .ref l, shownL_mono s, rfl, ⟨l, vs, rfl, shownL_sub (fun p hp => s.free (hn p hp)) _ _ hl, h2⟩, ?_, fun u S1 H1 g ⟨rs, h3, h4⟩ => q' u S1 H1 g ⟨_, ⟨rs, rfl, paired_pairs e h3⟩, h4⟩⟩
  have := congrArg List.length e
  rw [List.length_map, List.length_map] at this
  rw [this]; exact hz
end
end Y
namespace Y
open PySem PySem.Spec PyProof.Rows L2 Z
/-! ## staticmethods def m(a, b, ..) of plain parameters, called x.m(e, ..) -/
section
end
end Y
namespace Y
open PySem PySem.Spec PyProof.Rows L2 L2H Z LamX NdefX
/-! ## what stays when cells and tables are hidden -/
def NF (o : HO) : Prop := (∀ x, o ≠ .frz x Tr) ∧ ∀ ps, o ≠ .tbl ps
def Les (S S' : Hp) : Prop := ∀ a o, S a = some o → NF o → S' a = some o
class Rb (P : V → Hp → Prop) : Prop where
  rb : ∀ {v : V} {S S' : Hp}, Les S S' → P v S → P v S'
theorem dt_rb {K : PySem.W.Frag} {d : PyData} {v : V} {S S' : Hp} (h : Dt K d v S) (e : Les S S') : Dt K d v S' := by
  induction h with
  | non => exact .non
  | bl b => exact .bl b
  | int i => exact .int i
  | str x => exact .str x
  | lst h l z _ ih => exact .lst (e _ _ h ⟨(fun _ z => nomatch z), (fun _ z => nomatch z)⟩) l z fun i x d hx hd => ih i x d hx hd e
  | tup h l z _ ih =>
    refine .tup ?_ l z fun i x d hx hd => ih i x d hx hd e
    rcases h with h | ⟨e0, (h | ⟨o', h⟩) | h⟩
    · exact .inl (e _ _ h ⟨(fun _ z => nomatch z), (fun _ z => nomatch z)⟩)
    · exact .inl (e _ _ h ⟨(fun _ z => nomatch z), (fun _ z => nomatch z)⟩)
    · exact .inr ⟨e0, .inl (.inr ⟨o', (e _ _ h ⟨(fun _ z => nomatch z), (fun _ z => nomatch z)⟩)⟩)⟩
    · exact .inr ⟨e0, .inr h⟩
instance {K : PySem.W.Frag} {d : PyData} : Rb (Dt K d) := ⟨fun e h => dt_rb h e⟩
instance {K : PySem.W.Frag} {F : PyData → Prop} : Rb (Ex K F) := ⟨fun e ⟨d, hd, h⟩ => ⟨d, hd, dt_rb h e⟩⟩
def NoV : V → Hp → Prop := fun _ _ => False
instance : Rb NoV := ⟨fun _ h => h⟩
instance : Mn NoV := ⟨fun _ h => h⟩
/-! ## asks whose answers need not be data -/
section
variable {P : Program} {w : World} {K : PySem.W.Frag} {mg : Str → Option Value} {base : Heap}
/-- an ask: a kept lambda with what it may answer -/
structure AskIV (P : Program) (w : World) (K : PySem.W.Frag) (mg : Str → Option Value) (base : Heap) (tup : List Value) (k : Nat) where
  R : V → Hp → Prop
  rb : Rb R
  O : EK → PyData → Prop
  f : Addr
  F : LF
  fr : List Str
  dvs : List V
  ws : List (Option V)
  L : List (Addr × Obj)
  sp : List (Option V) → Hp → VK → XK → Prop
  S0 : Hp
  lok : LOk P w K mg base (L2.CX P w) k f F fr dvs sp
  ok : ∀ e g, O e g → KOk K tup e
  hR : ∀ S2 H2 Q' E', Same S0 S2 → Same S2 H2 → (∀ v S1 H1, Gr S2 H2 S1 H1 → R v S1 → Q' v H1) → (∀ e g, O e g → XErr K e g S2 H2 E') → sp ws H2 Q' E'
def AskJV {tup : List Value} {k : Nat} (it : AskIV P w K mg base tup k) (v : V) (S : Hp) : Prop := v = .ref it.f ∧ Kept it.F it.f it.fr it.dvs it.ws it.L S ∧ Same it.S0 (delL S it.L)
instance askMnV {tup : List Value} {k : Nat} {it : AskIV P w K mg base tup k} : Mn (AskJV it) := ⟨fun s ⟨h1, h2, h3⟩ => ⟨h1, h2.ext s, h3.trans (delL_mono s)⟩⟩
end
/-! ## a list comprehension whose elements are of any kind -/
section
end
/-! ## a call to which the running frame's cells are shown -/
section
end
section
end
end Y
namespace Y
open PySem PySem.Spec PyProof.Rows L2 L2H Z LamX NdefX
/-! ## pairs of things of any kind -/
class Mn2 (P : V → V → Hp → Prop) : Prop where
  up : ∀ {v u : V} {H H' : Hp}, Same H H' → P v u H → P v u H'
/-- a pair whose parts are as P says -/
def PrP (P : V → V → Hp → Prop) (v : V) (S : Hp) : Prop := ∃ l a b, v = .ref l ∧ S l = some (.tup [a, b]) ∧ P a b S
instance {P : V → V → Hp → Prop} [m : Mn2 P] : Mn (PrP P) := ⟨fun s ⟨l, a, b, h1, h2, h3⟩ => ⟨l, a, b, h1, s _ _ h2, m.up s h3⟩⟩
section
variable {X : Cx} {σ : L2.St} {S : Hp} {a b e : Expr} {p pos : Pos} {Rs : List (V → V → Hp → Prop)} {l m : Addr} {xs ys : List V}
/-! ## displays of things of any kind -/
def TupP (Ps : List (V → Hp → Prop)) (v : V) (S : Hp) : Prop := ∃ l xs, v = .ref l ∧ S l = some (.tup xs) ∧ Al Ps xs S
end
end Y
namespace Y
open PySem PySem.Spec PyProof.Rows L2 L2H Z LamX NdefX
theorem al_mn {Ps : List (V → Hp → Prop)} (h : ∀ P ∈ Ps, Mn P) {xs : List V} {S S' : Hp} (s : Same S S') (a : Al Ps xs S) : Al Ps xs S' := by
  induction a with
  | nil => exact .nil
  | cons p _ ih => exact .cons ((h _ List.mem_cons_self).up s p) (ih (fun P hP => h P (List.mem_cons_of_mem _ hP)) s)
section
end
end Y
namespace Y
open PySem PySem.Spec PyProof.Rows L2 L2H Z LamX NdefX
/-! ## lambdas where several code tables are told -/
section
end
end Y
namespace Y
open PySem PySem.Spec PyProof.Rows L2 L2H Z
section
end
end Y
namespace Y
open PySem PySem.Spec PyProof.Rows L2 L2H Z LamX NdefX PySem.W
section
end
end Y
namespace L2
open PySem PySem.Spec PyProof.Rows
section
end
end L2
namespace Y
open PySem PySem.Spec PyProof.Rows L2 Z
/-! ## own errors without an attribute -/
section
/-! ## methods def m(self, *xs) that raise -/
end
end Y
namespace Y
open PySem PySem.Spec PyProof.Rows L2 Z
/-! ## texts: count, partition, split, index -/
section
end
end Y
noncomputable section
namespace Y
open PySem PySem.Spec PyProof.Rows L2 PySem.Froz Z
/-! ## set(text), a text of ascii signs, equal ones among them -/
section
end
section
end
section
end
end Y
namespace Y
open PySem PySem.Spec PyProof.Rows L2 Z
/-! ## zip(text, list), zip(text, tuple) -/
end Y
namespace Y
open PySem PySem.Spec PyProof.Rows L2 L2H Z
section
end
end Y
namespace Y
open PySem PySem.Spec PyProof.Rows L2 Z
/-! ## name = [elt for x, y in iter if t] on one line, the name a local -/
section
end
end Y
namespace Y
open PySem PySem.Spec PyProof.Rows L2 Z
section
end
end Y
namespace Y
open PySem PySem.Spec PyProof.Rows L2 Z
section
end
end Y
namespace Y
open PySem PySem.Spec PyProof.Rows L2 Z
section
end
end Y
namespace Y
open PySem PySem.Spec PyProof.Rows L2 Z
section
end
end Y
namespace Y
open PySem PySem.Spec PyProof.Rows L2 L2H Z
section
end
end Y
namespace Y
open PySem PySem.Spec PyProof.Rows L2 Z
/-- a list l that grows: H knows it, S does not; all else that is known is S -/
structure Acc (K : PySem.W.Frag) (Sb Hb : Hp) (l : Addr) (ds : List PyData) (S H : Hp) : Prop where
  g : Gr Sb Hb S H
  n : S l = none
  sb : Same Sb Hb
  nb : Hb l = none
  ex : ∃ xs, H l = some (.lst xs) ∧ Dts K ds xs S ∧ xs.length ≤ sizeLine
theorem Acc.gr {K : PySem.W.Frag} {Sb Hb S H S1 H1 : Hp} {l : Addr} {ds : List PyData} (a : Acc K Sb Hb l ds S H) (g : Gr S H S1 H1) : Acc K Sb Hb l ds S1 H1 := by
  obtain ⟨xs, h1, h2, h3⟩ := a.ex
  exact ⟨a.g.trans g, (g.old l _ h1 (fun _ z => nomatch z)).trans a.n, a.sb, a.nb, xs, g.hh _ _ h1, h2.up g.st, h3⟩
/-- the list, told with all else -/
theorem Acc.full {K : PySem.W.Frag} {Sb Hb S H : Hp} {l : Addr} {ds : List PyData} (a : Acc K Sb Hb l ds S H) : ∃ S', Gr Sb Hb S' H ∧ Same S S' ∧ Dt K (.list ds) (.ref l) S' ∧ (∀ S2 H2, Gr S' H S2 H2 → Acc K Sb Hb l ds (del S2 l) H2 ∧ Same S (del S2 l)) := by
  obtain ⟨xs, h1, h2, h3⟩ := a.ex
  have sS : Same S (upd S l (.lst xs)) := Same.new a.n
  have hsb : Sb l = none := a.sb.free a.nb
  have sub : Same (upd S l (.lst xs)) H := fun b o e => by
    by_cases hb : b = l
    · subst hb; rw [upd_same] at e; rw [h1]; exact e
    · rw [upd_ne hb] at e; exact a.g.sub b o e
  have G : Gr Sb Hb (upd S l (.lst xs)) H := ⟨a.g.st.trans sS, sub, a.g.hh, fun b o e m => by
    have ne : b ≠ l := fun z => by subst z; rw [a.nb] at e; cases e
    rw [upd_ne ne]; exact a.g.old b o e m⟩
  refine ⟨_, G, sS, Dt.lst_mk upd_same (h2.up sS) h3, fun S2 H2 g => ?_⟩
  have hl : H2 l = some (.lst xs) := g.hh _ _ h1
  have e2 : upd H2 l (.lst xs) = H2 := by
    funext b
    by_cases hb : b = l
    · subst hb; rw [upd_same, hl]
    · rw [upd_ne hb]
  have G2 := Gr.cut (o := .lst xs) (G.trans g) a.sb a.nb
  rw [e2] at G2
  have s2 : Same S (del S2 l) := fun b o e => by
    have ne : b ≠ l := fun z => by subst z; rw [a.n] at e; cases e
    rw [del_ne ne]; exact g.st _ _ (sS _ _ e)
  exact ⟨⟨G2, del_self, a.sb, a.nb, xs, hl, h2.up s2, h3⟩, s2⟩
section
variable {X : Cx} {σ : L2.St} {S H Sb Hb : Hp} {e o : Expr} {pos p apos : Pos} {D : Ends} {rest body : List Stmt} {l : Addr} {ds : List PyData} {d : PyData}
/-- x = [] -/
theorem hs_acc0 {i : Nat} {x : Str} {pos' pl : Pos} (s : Same S H) (hN : X.N.Nodup) (q : ∀ l H', Acc X.K S H l [] S H' → HS X D rest (σ.set i (some (.ref l))) H') (hi : X.N[i]? = some x := by rfl) (hx : Loc X.env.scope x := by first | exact Or.inl rfl | exact Or.inr rfl)
    (hs : swapsWith (.List [] pl) (some (.Name x pos')) pos.line X.env = pure false := by rfl) (hf : X.fn x = true ∨ X.env.scope.names.lookup x = some .local := by first | exact .inl rfl | exact .inr rfl | assumption) : HS X D (.Assign [.Name x pos'] (.List [] pl) pos :: rest) σ H := by
  refine hs_cons (ps_set hN hi hx (pe_lst pab) hs hf) (ha_of pa_nil ⟨Nat.zero_le _, fun l hl => ?_⟩)
  refine q l _ ⟨⟨Same.refl S, fun b u e => ?_, Same.new hl, fun _ _ _ _ => rfl⟩, s.free hl, s, hl, [], upd_same, .nil, Nat.zero_le _⟩
  rw [upd_ne (ne_of_none (s b u e) hl)]
  exact s b u e
theorem Acc.put {K : PySem.W.Frag} {xs : List V} {es : List PyData} {ys : List V} (a : Acc K Sb Hb l ds S H) (hl : H l = some (.lst xs)) (hd : Dts K es ys S) (hz : xs.length + ys.length ≤ sizeLine) : Acc K Sb Hb l (ds ++ es) S (upd H l (.lst (xs ++ ys))) := by
  obtain ⟨xs', h1, h2, h3⟩ := a.ex
  rw [hl] at h1
  cases h1
  have G2 := Gr.cut (o := .lst (xs ++ ys)) a.g a.sb a.nb
  have e : del S l = S := by
    funext b
    by_cases hb : b = l
    · subst hb; rw [del_self, a.n]
    · rw [del_ne hb]
  rw [e] at G2
  exact ⟨G2, a.n, a.sb, a.nb, _, upd_same, h2.append hd, by rw [List.length_append]; exact hz⟩
/-- o.append(e) -/
theorem hs_accApp (a : Acc X.K Sb Hb l ds S H) (hz : ds.length < 100000) (ho : EE X σ S o (fun w _ => w = .ref l)) (he : EE X σ S e (Dt X.K d)) (q : ∀ S' H', Same S S' → Acc X.K Sb Hb l (ds ++ [d]) S' H' → HS X D rest σ H') (hbase : attributeBase o "append" X.env (eval o X.env) = eval o X.env := by rfl) (hline : (apos.endLine == p.line) = true := by rfl)
    (hs : swapsWith (.Call (.Attribute o "append" apos) [e] [] p) none pos.line X.env = pure false := by rfl) (hst : starEach [e] X.env = (false, eval e X.env) :: starEach [] X.env := by rfl)
    (hfew : ((backTo p (starEach [e] X.env)).all (fun x => !x.1) && (backToKw p (keywordEach [] X.env)).all (fun x => x.1.isSome) && decide ([e].length + ([] : List Keyword).length + (if ([] : List Keyword).isEmpty then 0 else 1) < 30)) = true := by rfl) : HS X D (.Expr (.Call (.Attribute o "append" apos) [e] [] p) pos :: rest) σ H :=
  hs_cons (ps_expr (pe_bm PySem.F.plainAttrs_list PySem.F.slot_list_append PySem.F.type_list_append mt_append peb (pa_cons (te := bE X e) (t := tNil) peb pa_nil hst) hbase hfew hline hst (by rfl)) hs) (ho H a.g.sub _ fun w S1 H1 g1 pw => by
    subst pw
    have a1 := a.gr g1
    obtain ⟨xs, h1, h2, h3⟩ := a1.ex
    refine ⟨.inl ⟨rfl, _, .inl (.inl h1)⟩, ?_⟩
    exact (he.up g1.st) H1 g1.sub _ fun v S2 H2 g2 pv => ⟨l, xs, v, rfl, rfl, g2.hh _ _ h1, by rw [h2.1]; show _ < 16777216; omega, q S2 _ (g1.st.trans g2.st) ((a1.gr g2).put (g2.hh _ _ h1) (.cons pv .nil) (by rw [h2.1]; show _ ≤ 16777216; simp only [List.length_singleton]; omega))⟩)
end
end Y
namespace Y
open PySem PySem.Spec PyProof.Rows L2 Z
/-! ## a staticmethod of plain parameters, called x.m(k1=e1, k2=e2, k3=e3) in reversed order -/
section
variable {X : Cx} {σ : L2.St} {S : Hp} {e1 e2 e3 : Expr} {R P1 P2 P3 : V → Hp → Prop} {pos p apos q1 q2 q3 : Pos} {k : Nat} {x m k1 k2 k3 : Str} {sp : Sp} {C : Addr}
/-- for .. in range(e), e not fixed -/
theorem hs_forRE {D : Ends} {H : Hp} {a tg : Expr} {body rest : List Stmt} {W : Nat → Prop} (hp : PassesOwn (model X.prog X.w) X.A X.env X.xe) (hc : X.calm = true) (hm : X.mg "range" = none) (hW : ∀ n, W n → (n : Int) < 2 ^ 62) (ha : EE X σ S a (Ex X.K fun d => ∃ n : Nat, d = .int n ∧ W n)) (s : Same S H)
    (q : ∀ n S1 H1, W n → Gr S H S1 H1 → ∃ Iv : Nat → L2.St → Hp → Prop, Iv 0 σ H1 ∧ (∀ i σ1 H2, i < n → Iv i σ1 H2 → HG X tg (.int (i : Nat)) σ1 H2 fun σ3 H3 => HS X { D with nx := Iv (i + 1), ct := Iv (i + 1), bk := fun σ' H' => HS X D rest σ' H' } body σ3 H3) ∧ (∀ σ1 H2, Iv n σ1 H2 → HS X D rest σ1 H2))
    (hg : Gl X "range" := by rfl) (hs1 : starEach [a] X.env = [(false, eval a X.env)] := by rfl) (hs : ∀ x, foldedSetIterable (.Call (.Name "range" p) [a] [] pos) X.env x = pure x := by intro _; rfl) {pos2 : Pos} :
    HS X D (.For tg (.Call (.Name "range" p) [a] [] pos) body [] pos2 :: rest) σ H :=
  hs_cons (ps_for hp hc (pi_range1 hg hm pab hs1) pgb psb hs) ((ea_1 ha (by rw [hs1]; rfl)).2 H s _ fun vs S1 H1 g1 al => by
    obtain ⟨v, rfl, pv⟩ := al.one
    obtain ⟨_, ⟨n, rfl, hn⟩, pv⟩ := pv
    cases pv
    obtain ⟨Iv, h0, step, done⟩ := q n S1 H1 hn g1
    refine ⟨(n : Int), rfl, by omega, hW n hn, for_it (G := fun _ => True) (Y := fun i H x H' => H' = H ∧ x = .int (0 + (i : Int))) (n := n) ⟨fun i H hi _ => ?_, fun H _ => ?_, fun i H x H' _ _ y => y⟩ Iv h0 (fun _ _ _ _ _ => trivial) (fun i x σ' H2 H3 hi iv y => ?_) done⟩
    · show i < ((n : Int)).toNat
      omega
    · show ((n : Int)).toNat ≤ n
      omega
    · obtain ⟨rfl, rfl⟩ := y
      rw [Int.zero_add]
      exact step i σ' H3 hi iv)
end
end Y
namespace Y
open PySem PySem.Spec PyProof.Rows L2 Z
/-! ## name = [elt for x in iter if ..] on one line, the name a local -/
section
end
end Y
namespace Y
open PySem PySem.Spec PyProof.Rows L2 Z
/-! ## a new instance of a class whose __init__ takes things -/
section
end
/-! ## o(e), o an instance with an own __call__ -/
section
end
end Y
namespace Y
open PySem PySem.Spec PyProof.Rows L2 Z
section
end
end Y
namespace Y
open PySem PySem.Spec PyProof.Rows L2 Z
section
end
end Y
namespace Y
open PySem PySem.Spec PyProof.Rows L2 Z
/-! ## (e0)(e): e0 any expression that answers an instance with an own __call__; C(e1, e2, ..) whose e2 raises -/
section
end
end Y
namespace Y
open PySem PySem.Spec PyProof.Rows L2 Z
section
end
end Y
namespace Y
open PySem PySem.W PySem.Spec PyProof.Rows
open Builtin Builtin.ObjectAttr
/-! ## stores on an exception whose class is over any built-in one (as HandS.Exc's exc_osa and HandS.ExcInit's osa_old are over ValueError) -/
section
end
end Y
namespace Y
open PySem PySem.Spec PyProof.Rows L2 Z
/-- an own exception class over the built-in B, its instances to be made and read -/
structure OexG (K : PySem.W.Frag) (C : Addr) : Prop where
  ex : ∃ (B newId initId : String) (bmB : List Value), ExcBaseFacts B newId initId bmB ∧ StoreFacts B bmB "object.__setattr__" "object" ∧ PySem.W.excInitIn K C bmB newId = true ∧ PySem.W.excOver K C bmB = true
  sa : PySem.W.findIn K (.ref C) "__setattr__" = some (some (.builtin "object.__setattr__"))
  xf : XfC K C
  kC : PySem.W.keepIn K (.ref C) = true
  ha : PySem.W.findIn K (.ref C) "__class__" = some (some (.builtin "object.__class__"))
  om : PySem.W.mroIn K C (.type "object") = some true
theorem OexG.dict {K : PySem.W.Frag} {C : Addr} (T : XfC K C) {cd : ClassData} (h : PySem.W.clsIn K C = some cd) : cd.hasDict = true := by
  obtain ⟨cd', hc, ho⟩ := PySem.W.any_some T.hdC
  rw [hc] at h
  cases h
  exact ho
section
end
section
end
end Y
namespace PySem
namespace HandSPX
open PySem.W PySem.Calls PyProof.Rows
/-! ### an own exception class called with keywords (as call_own and what it rests on, there without) -/
section
end
section
end
end HandSPX
end PySem
namespace Y
open PySem PySem.Spec PyProof.Rows L2 Z
section
end
/-- a made error of the kind k that keeps g -/
def ErV (K : PySem.W.Frag) (k : EK) (g : PyData) (v : V) (S : Hp) : Prop := ∃ a dx fs, v = .ref a ∧ S a = some (exo a k.C (some dx)) ∧ S dx = some (exd dx fs) ∧ fs.lookup ("code" : Str) = some (V.str k.code) ∧ ∀ x, k.fn = some x → ∃ w, fs.lookup x = some w ∧ Dt K g w S
instance {K : PySem.W.Frag} {k : EK} {g : PyData} : Mn (ErV K k g) := ⟨fun s ⟨a, dx, fs, h1, h2, h3, h4, h5⟩ => ⟨a, dx, fs, h1, s _ _ h2, s _ _ h3, h4, fun x hx => let ⟨w, e, d⟩ := h5 x hx; ⟨w, e, d.up s⟩⟩⟩
section
variable {X : Cx} {σ : L2.St} {S S' H : Hp} {e e1 o a b : Expr} {P P0 : V → Hp → Prop} {pos p pos2 q1 : Pos} {x fname n : Str} {k : EK} {g : PyData}
theorem ErV.code {K : PySem.W.Frag} {w : V} {S1 : Hp} (h : ErV K k g w S1) : ∃ a dx fs v, w = .ref a ∧ S1 a = some (exo a k.C (some dx)) ∧ S1 dx = some (exd dx fs) ∧ fs.lookup ("code" : Str) = some v ∧ Dt K (.str k.code) v S1 := by
  obtain ⟨a, dx, fs, h1, h2, h3, h4, _⟩ := h
  exact ⟨a, dx, fs, _, h1, h2, h3, h4, .str _⟩
theorem ErV.kept {K : PySem.W.Frag} {w : V} {S1 : Hp} (hf : k.fn = some n) (h : ErV K k g w S1) : ∃ a dx fs v, w = .ref a ∧ S1 a = some (exo a k.C (some dx)) ∧ S1 dx = some (exd dx fs) ∧ fs.lookup n = some v ∧ Dt K g v S1 := by
  obtain ⟨a, dx, fs, h1, h2, h3, _, h5⟩ := h
  obtain ⟨v, e, pv⟩ := h5 n hf
  exact ⟨a, dx, fs, v, h1, h2, h3, e, pv⟩
end
end Y
namespace Y
open PySem PySem.Spec PyProof.Rows L2 Z
/-! ## lists of things, put together -/
section
end
/-! ## an own error to be made, told by Bools -/
end Y
/-! ## set comprehensions of tuples of ints (as HandS.SetBool's of truth values, over HandS.TupSets' sets) -/
namespace PpSetT
open PySem PySem.Spec PyProof.Rows L2 PpSet
section
end
section
end
section
end
end PpSetT
namespace Y
open PySem PySem.Spec PyProof.Rows L2 Z
/-! ## sets of tuples of ints -/
/-- a set of tuples of ints: its members are those of ks -/
def SetP (P : Program) (w : World) (K : PySem.W.Frag) (ks : List (List Int)) (v : V) (S : Hp) : Prop := ∃ a L, v = .ref a ∧ S a = some (SetTO P w a L) ∧ (∀ p ∈ L, SqT K S p.1 (p.2.map V.int)) ∧ (∀ k, k ∈ L.map (·.2) ↔ k ∈ ks) ∧ (L.map (·.2)).Nodup ∧ L.length ≤ ks.length
instance {P : Program} {w : World} {K : PySem.W.Frag} {ks : List (List Int)} : Mn (SetP P w K ks) := ⟨fun s ⟨a, L, e, h1, h2, h3⟩ => ⟨a, L, e, s _ _ h1, fun p hp => sqt_up s (h2 p hp), h3⟩⟩
section
end
section
end
section
end
end Y
namespace Y
open PySem PySem.Spec PyProof.Rows L2 Z
/-! ## isdigit, startswith; a walk with both ends that never raises -/
section
end
theorem EW.is {X : Cx} {σ : L2.St} {S : Hp} {e : Expr} {k k' : Bool} (h : EW X σ S e k) (f : k = k') : EW X σ S e k' := f ▸ h
section
end
end Y
namespace Y
open PySem PySem.Spec PyProof.Rows L2 L2H Z
section
end
section
end
section
end
end Y
namespace Y
open PySem PySem.Spec PyProof.Rows L2 Z
/-! ## things that change, told exactly: targets, calls, while -/
section
/-! ## list(range(..)), told as new -/
end
/-! ## a comprehension whose items are told by themselves, its list told as new (after Y52's) -/
/-- a new list: its items stand in a heap without it -/
def LstPN (S : Hp) (Ps : List (V → Hp → Prop)) (v : V) (S' : Hp) : Prop := ∃ l xs S2, v = .ref l ∧ S l = none ∧ Same S S2 ∧ S2 l = none ∧ Same S2 S' ∧ S' l = some (.lst xs) ∧ Al Ps xs S2
instance {S : Hp} {Ps : List (V → Hp → Prop)} : Mn (LstPN S Ps) := ⟨fun s ⟨l, xs, S2, a, b, c, d, e, f, g⟩ => ⟨l, xs, S2, a, b, c, d, e.trans s, s _ _ f, g⟩⟩
section
end
end Y
namespace Y
open PySem PySem.Spec PyProof.Rows L2 Z NdefX ClX
/-! ## an __init__ that begins with super().__init__(..) -/
/-- a def with the cell __class__, the class at D in it -/
structure FunS (P : Program) (K : PySem.W.Frag) (x qual : Str) (params : Arguments) (body : List Stmt) (scope : Scope) (D f : Addr) (fd : FuncData) : Prop where
  ex : ∃ (oc : Value) (od : Option Addr) (dV kV doc pm : Value) (an : Option Addr) (c cc : Addr) (ct : Value) (osl : Array (Option Value)),
    fd = PySem.W.ksFn x qual params body scope dV kV doc pm an (.ref c) ct cc ∧ K.lookup f = some ⟨oc, od, .func fd, osl⟩ ∧ PySem.W.codeIn K (.ref c) qual = true ∧
    (∃ ccl cld csl, K.lookup cc = some ⟨ccl, cld, .cell (some (.ref D)), csl⟩) ∧ (∃ cd, PySem.W.clsIn K D = some cd) ∧ ∃ ccl cdd vs ccs file tf, K.lookup c = some ⟨ccl, cdd, .fields vs, ccs⟩ ∧ vs[2]? = some (.str file tf) ∧ ((P.main.file : Str) == file) = true
  kp : PySem.W.keepIn K (.ref f) = true
  dv : fd.defaults = .none
section
end
theorem FunS.bindsN {P : Program} {K : PySem.W.Frag} {x qual : Str} {params : Arguments} {body : List Stmt} {scope : Scope} {D f : Addr} {fd : FuncData} {ps : List Str} (F : FunS P K x qual params body scope D f fd)
    (h : ∀ (kV doc pm : Value) (an : Option Addr) (cdv ct : Value) (cc : Addr) (us : List Value), us.length = ps.length → bindArgs (PySem.W.ksFn x qual params body scope .none kV doc pm an cdv ct cc) ⟨us, []⟩ = pure (ps.zip us)) : Binds K fd ps [] := by
  obtain ⟨oc, od, dV, kV, doc, pm, an, c, cc, ct, osl, rfl, _⟩ := F.ex
  have := F.dv
  have hd : dV = .none := this
  subst hd
  exact .all (h kV doc pm an (.ref c) ct cc)
end Y
namespace Y
open PySem PySem.Spec PyProof.Rows L2 Z
section
end
section
end
end Y
namespace Y
open PySem PySem.Spec PyProof.Rows L2 Z
/-! ## name = [..] on one line, the list told as new -/
section
end
section
end
end Y
namespace PySem.W
open PySem PySem.Spec PySem.Calls PyProof.Rows
end PySem.W
namespace Y
open PySem PySem.Spec PyProof.Rows L2 Z
section
end
end Y
namespace Y
open PySem PySem.Spec PyProof.Rows L2 Z
section
end
end Y
namespace Y
open PySem PySem.Spec PyProof.Rows L2 Z
end Y
namespace Y
open PySem PySem.Spec PyProof.Rows L2 Z
section
end
end Y
namespace Y
open PySem PySem.Spec PyProof.Rows L2 Z LamX NdefX
section
end
end Y
namespace Y
open PySem PySem.Spec PyProof.Rows L2 L2H Z
section
end
end Y
namespace Y
open PySem PySem.Spec PyProof.Rows L2 Z
section
end
end Y
namespace Y
open PySem PySem.Spec PyProof.Rows L2 Z
/-! ## f(k1=, k2=, k3=), the parameters in the order k2, k3, k1 -/
section
end
end Y
namespace Y
open PySem PySem.Spec PyProof.Rows L2 Z
section
end
end Y
namespace Y
open PySem PySem.Spec PyProof.Rows L2 Z
/-! ## dict(a list of pairs) whose keys are tuples of ints, whose values are ints -/
/-- v is a dict that holds m -/
def DctP (m : MapI) (v : V) (S : Hp) : Prop := ∃ b, v = .ref b ∧ S b = some (.dT (kvM m))
instance {m : MapI} : Mn (DctP m) := ⟨fun s ⟨b, e, h⟩ => ⟨b, e, s _ _ h⟩⟩
section
end
section
end
/-! ## a not in b as a value -/
section
end
/-! ## any(a tuple of ints) -/
section
end
end Y
namespace Y
open PySem PySem.Spec PyProof.Rows L2 Z
/-! ## C(e1, e2, e3, ..) whose third part raises -/
section
end
/-! ## tests and calls over the whole heap -/
section
end
end Y
namespace Y
open PySem PySem.Spec PyProof.Rows L2 Z
/-! ## enumerate over zip of two tuples: the zip's own tuple is never let go, so its marks are any -/
section
open Sem (wp)
end
end Y
namespace Y
open PySem PySem.Spec PyProof.Rows L2 Z
section
end
end Y
namespace Y
open PySem PySem.Spec PyProof.Rows L2 Z
/-! ## if o: .., o an own thing with __bool__ -/
section
end
end Y
namespace Y
open PySem PySem.Spec PyProof.Rows L2 Z
/-! ## o.m(k1=a, k2=b) -/
section
end
end Y
namespace Y
open PySem PySem.Spec PyProof.Rows L2 Z
/-! ## zip of three tuples -/
section
end
end Y
namespace Y
open PySem PySem.Spec PyProof.Rows L2 Z
/-! ## zip of a list and a tuple -/
section
end
end Y
namespace Y
open PySem PySem.Spec PyProof.Rows L2 Z
/-! ## enumerate over a tuple of things of any kind -/
theorem tupP_mn {Ps : List (V → Hp → Prop)} (h : ∀ P ∈ Ps, Mn P) : Mn (TupP Ps) := ⟨fun s ⟨l, xs, a, b, c⟩ => ⟨l, xs, a, s _ _ b, al_mn h s c⟩⟩
instance tupP2_mn {A B : V → Hp → Prop} [ma : Mn A] [mb : Mn B] : Mn (TupP [A, B]) := tupP_mn fun P hP => by
  simp only [List.mem_cons, List.not_mem_nil, or_false] at hP
  rcases hP with rfl | rfl
  · exact ma
  · exact mb
section
end
/-! ## f(k1 = e1, k2 = e2), the values in the def's order or the other way round -/
section
end
end Y
namespace Y
open PySem PySem.Spec PyProof.Rows L2 Z
section
variable {X : Cx} {σ : L2.St} {S : Hp} {a b elt iter : Expr} {pos p px py tp : Pos} {ds1 : List PyData} {scope : Scope} {i j kk : Nat} {x y : Str} {d : PyData}
/-- x is None, x data -/
def isNn (d : PyData) : Bool := match d with
  | .none => true
  | _ => false
theorem dt_non {K : PySem.W.Frag} {v : V} {S : Hp} (h : Dt K d v S) : decide (v = .non) = isNn d := by
  cases h <;> simp [isNn]
end
end Y
/-! # a set comprehension with two clauses, of tuples of ints -/
namespace PpSetT
open PySem PySem.Spec PyProof.Rows L2 PpSet
section
end
section
end
end PpSetT
namespace Y
open PySem PySem.Spec PyProof.Rows L2 Z
/-! ## {elt for tg in iter for tg1 in iter1}, the elements tuples of ints -/
section
variable {α : Type} {R : α → V → Hp → Prop} {X : Cx} {σ : L2.St} {S : Hp} {elt tg iter tg1 iter1 : Expr} {scope : Scope} {own : List (Str × Nat)} {vs1 : List Nat} {pos : Pos} {ds : List α} {es : α → List PyData} {f : PyData → List Int}
/-- a set of tuples of ints, its members told as data -/
def SetD (P : Program) (w : World) (K : PySem.W.Frag) (ks : List (List Int)) (v : V) (S : Hp) : Prop := ∃ a L, v = .ref a ∧ S a = some (SetTO P w a L) ∧ (∀ p ∈ L, Dt K (.tuple (p.2.map .int)) (.ref p.1) S) ∧ (∀ k, k ∈ L.map (·.2) ↔ k ∈ ks) ∧ (L.map (·.2)).Nodup ∧ L.length ≤ ks.length
instance {P : Program} {w : World} {K : PySem.W.Frag} {ks : List (List Int)} : Mn (SetD P w K ks) := ⟨fun s ⟨a, L, e, h1, h2, h3⟩ => ⟨a, L, e, s _ _ h1, fun p hp => (h2 p hp).up s, h3⟩⟩
end
end Y
namespace Y
open PySem PySem.Spec PyProof.Rows L2 Z
/-! ## lists and tuples of things of any kind -/
/-- the thing x and what is told of it -/
def PinP (x : V) (P : V → Hp → Prop) : V → Hp → Prop := fun w S => w = x ∧ P w S
instance {x : V} {P : V → Hp → Prop} [m : Mn P] : Mn (PinP x P) := ⟨fun s ⟨a, b⟩ => ⟨a, m.up s b⟩⟩
/-- a list with these very things -/
def Pins (xs : List V) (v : V) (S : Hp) : Prop := ∃ l, v = .ref l ∧ S l = some (.lst xs)
instance {xs : List V} : Mn (Pins xs) := ⟨fun s ⟨l, e, h⟩ => ⟨l, e, s _ _ h⟩⟩
section
end
end Y
namespace Y
open PySem PySem.Spec PyProof.Rows L2 Z
/-! ## sorted(a set of tuples of ints) -/
section
end
end Y
namespace Y
open PySem PySem.Spec PyProof.Rows L2 Z
section
end
end Y
namespace Y
open PySem PySem.Spec PyProof.Rows L2 Z
section
end
end Y
namespace Y
open PySem PySem.Spec PyProof.Rows L2 Z
section
end
end Y
namespace Y
open PySem PySem.Spec PyProof.Rows L2 Z
/-! ## zip of a list and a tuple -/
section
/-! ## max of a tuple of ints -/
end
end Y
namespace Y
open PySem PySem.Spec PyProof.Rows L2 Z
/-! ## o.m(*e), a method of plain parameters -/
section
end
end Y
namespace Y
open PySem PySem.Spec PyProof.Rows L2 Z
section
end
end Y
namespace Y
open PySem PySem.Spec PyProof.Rows L2 L2H Z LamX NdefX
section
end
end Y
namespace Y
open PySem PySem.Spec PyProof.Rows L2 L2H Z LamX NdefX GenW
/-! ## a generator def that raises before it hands anything out -/
/-- an exception left a frame; pn stands, untracked -/
def CXP (P : Program) (w : World) (outer : List Env) (H : Hp) (s : Shared) (E : XK) (pn : List (Addr × Obj)) (u : Value) (s' : Shared) : Prop :=
  ∃ (a : Addr) (B : Heap) (H' : Hp) (cls : Value) (d : Option Addr), u = .ref a ∧ HandSPX.FlyingZ B outer a (Zc cls d) s'.heap ∧ HOk P w H' B ∧ UB (frs outer) H H' s.heap B s'.heap ∧ H' a = none ∧ s'.os = s.os ∧ AllBare s'.gens ∧ E cls d H' ∧ ∀ p ∈ pn, B.get? p.1 = some p.2 ∧ H' p.1 = none
theorem CXP.cx {P : Program} {w : World} {outer : List Env} {H : Hp} {s : Shared} {E : XK} {pn : List (Addr × Obj)} {u : Value} {s' : Shared} (c : CXP P w outer H s E pn u s') : L2.CX P w outer H s E u s' :=
  let ⟨a, B, H', cls, d, h1, h2, h3, h4, h5, h6, h7, h8, _⟩ := c
  ⟨a, B, H', cls, d, h1, h2, h3, h4, h5, h6, h7, h8⟩
def gcxP (P : Program) (w : World) (K : PySem.W.Frag) (mg : Str → Option Value) (base : Heap) (N : List Str) (qual : Str) (scope : Scope) (f : Addr) (cd : Value) (A : Around) (outer : List Env) (s : Shared) (H : Hp) (E : XK) (pn : List (Addr × Obj)) : Cx :=
  { cxOf (L2.CX P w) P w K mg base N qual scope f cd A outer s H E with
    pn := pn
    xe := fun e s' => wpAny (model P w) (A.deeper (envOfC qual scope s.heap.objs.size f cd)) (leaving (envOfC qual scope s.heap.objs.size f cd) e)
      (fun _ s'' => CXP P w outer H s E pn e s'') (fun _ _ => False) s' }
theorem leaveP {X : Cx} {W : WX} {E : XK} {s' : Shared} (hs : X.stack = X.env :: X.outer) (hf : X.env.frame = some X.env.locals) (hex : X.ex = []) {E₁ : Value → Shared → Prop} (hW : ∀ cls d σ H, W cls d σ H → E cls d H) {u : Value} (x : L2.XE X W u s') :
    wpAny (model X.prog X.w) X.A (leaving X.env u) (fun _ s'' => CXP X.prog X.w X.outer X.H_0 X.s_0 E X.pn u s'') E₁ s' := by
  obtain ⟨a, B, sI, pins, σ, H, cls, d, rfl, I, nb, up, sky, na, os, ag, w⟩ := x
  have hfr : X.A.frames = some (X.env :: X.outer) := by rw [I.ok.frames, hs]
  have nst : ∀ b o, X.s_0.heap.get? b = some o → b ∉ X.fs → b ∉ frs X.stack := fun b o e hb hm => by
    rcases List.mem_cons.mp (I.stkSub b hm) with z | z
    · have h1 := Heap.lt_size e
      have h2 := I.ok.above
      rw [z] at h1
      exact absurd (Nat.lt_of_lt_of_le h1 h2) (Nat.lt_irrefl _)
    · exact hb z
  have hex' : ∀ b, b ∉ X.ex := fun b hb => by rw [hex] at hb; cases hb
  have hokB := I.inGround nb
  have pinB : ∀ p ∈ X.pn, B.get? p.1 = some p.2 ∧ H p.1 = none := fun p hp => by
    obtain ⟨h1, h2, h3, h4, _⟩ := I.pin p (List.mem_append_left _ hp)
    refine ⟨nb p.1 p.2 h1 fun hm => ?_, h2⟩
    rcases List.mem_cons.mp (I.stkSub p.1 hm) with z | z
    · exact h3 z
    · exact h4 z
  have fin : ∀ h', HandSPX.FlyingZ B X.outer a (Zc cls d) h' → s'.heap.UpToSlots h' → CXP X.prog X.w X.outer X.H_0 X.s_0 E X.pn (.ref a) { s' with heap := h' } := fun h' fl up' => by
    refine ⟨a, B, H, cls, d, rfl, fl, hokB, ⟨fun b o e n hb => nb b o (I.base.keep b o e n hb (hex' b)) (nst b o e hb), fun b o e hb => ?_, fun b o e n => I.base.free b o e n (hex' b), fun b o e hb => ?_, I.base.tups, I.base.frzs, I.base.tbls⟩,
      na, os.trans I.os, ag, hW _ _ _ _ w, pinB⟩
    · obtain ⟨_, o₀, e₀, hnf⟩ := I.ok.funs.mem hb
      rw [e] at e₀; cases e₀
      obtain ⟨sl, e1⟩ := I.base.slot b o e (I.ok.frf b hb) hb (hex' b)
      obtain ⟨sl2, e2⟩ := up b _ e1 hnf
      obtain ⟨sl3, e3⟩ := up' b _ e2 hnf
      exact ⟨sl3, e3⟩
    · obtain ⟨o', e1⟩ := I.base.there b o e (hex' b)
      exact ⟨o', nb b o' e1 (nst b o e hb)⟩
  rw [hs] at sky
  rcases sky with ⟨hB, hn, hl, oe, vs, he, hz, hd, h1⟩ | fl | hd
  · exact HandSPX.leaving_firstZ Zc.steady hfr hl hf he hB hn hd h1 hz fin
  · exact HandSPX.leaves_onZ Zc.steady hfr hf fl fin
  · exact HandSPX.leaves_heldZ hf hd fin
section
variable {P : Program} {w : World} {K : PySem.W.Frag} {mg : Str → Option Value} {base : Heap} {N : List Str} {qual : Str} {scope : Scope} {f : Addr} {cd : Value} {A : Around} {outer : List Env} {s s1 : Shared} {H H' : Hp} {E : XK} {pn pins : List (Addr × Obj)} {σ : L2.St}
theorem takes_gcxP : L2.Takes (gcxP P w K mg base N qual scope f cd A outer s H E pn) (fun cls d _ H' => E cls d H') := fun u s' x =>
  leaveP (W := fun cls d _ H' => E cls d H') (E := E) rfl rfl rfl (fun _ _ _ _ h => h) x
theorem pinnedP (I : Inv (gcxOf P w K mg base N qual scope f cd A outer s H E []) [] σ H' s1)
    (h : ∀ p ∈ pn, s1.heap.get? p.1 = some p.2 ∧ H' p.1 = none ∧ p.1 ≠ (envOfC qual scope s.heap.objs.size f cd).locals ∧ p.1 ∉ frs outer ∧ ∀ v, p.2.data ≠ .cell v) :
    Inv (gcxP P w K mg base N qual scope f cd A outer s H E pn) [] σ H' s1 :=
  ⟨⟨I.ok.mod, I.ok.kind, I.ok.glob, I.ok.blt, I.ok.above, I.ok.inj, I.ok.has, I.ok.cab, I.ok.hd, I.ok.frames, I.ok.stk, I.ok.exf, I.ok.bs, I.ok.bsz, I.ok.noex, I.ok.exfs, I.ok.funs, I.ok.frf⟩, I.os, I.bare, I.base, I.loc, I.cell, I.free, I.freeC, fun p hp => h p (by
    rcases List.mem_append.mp hp with z | z
    · exact z
    · exact absurd z (by simp)), I.hok, I.len⟩
end
/-- what a call of such a generator def gives: whoever wakes it, gets an exception -/
def GRz (P : Program) (w : World) (k : Nat) (outer : List Env) (H : Hp) (s : Shared) (E : XK) (u : Value) (s' : Shared) : Prop :=
  ∃ (a : Addr) (g : Nat) (c : Code) (go : Obj), u = .ref a ∧ s.heap.objs.size ≤ a ∧ a < s'.heap.objs.size ∧ s'.heap.get? a = some go ∧ (∀ h : Heap, h.get? a = some go → h.IsGen a g) ∧ s'.gens[g]? = some (.fresh c) ∧ s'.os = s.os ∧ AllBare s'.gens ∧ s'.heap.NoLimit ∧ (∀ b o, s.heap.get? b = some o → s'.heap.get? b = some o) ∧
    ∀ (A : Around) (pn : List (Addr × Obj)) (s2 : Shared), Room k A → A.frames = some outer → (∀ p ∈ pn, s'.heap.objs.size ≤ p.1 ∧ s2.heap.get? p.1 = some p.2 ∧ ∀ v, p.2.data ≠ .cell v) → (∀ b o, s'.heap.get? b = some o → s2.heap.get? b = some o) → s2.os = s.os → AllBare s2.gens →
      Seg (model P w) A (fun _ _ r s1 => ∃ e, r = .error e ∧ CXP P w outer H s E ((a, go) :: pn) e s1) (fun _ _ _ _ _ => False) sizeLine s2 c ((model P w).den c) [] s2
structure GFnR (P : Program) (w : World) (K : PySem.W.Frag) (mg : Str → Option Value) (base : Heap) (k : Nat) (f : Addr) (fd : FuncData) (ps : List Str) (sp : Sp) : Prop where
  len : ∀ vs H Q E, sp vs H Q E → vs.length = ps.length
  run : ∀ (A : Around) (outer : List Env) (s : Shared) (H : Hp) (args : Args) (us : List Value) (vs : List V) (E : XK), Room k A → Env0 P w K mg base A outer s H → BindsTo s fd args (ps.zip us) → Vals vs us → sp vs H (fun _ _ => False) E →
    codeAny (model P w) A (.call (.ref f) args) (fun r s' => match r with | .ok (.ret u) => GRz P w k outer H s E u s' | _ => False) s
theorem gfnr_of {P : Program} {w : World} {K : PySem.W.Frag} {mg : Str → Option Value} {base : Heap} {x qual : Str} {params : Arguments} {body : List Stmt} {scope : Scope} {dvs : List V} {kws : List (Str × V)} {f : Addr} {fd : FuncData} {N ps : List Str} {k : Nat} {sp : Sp}
    (F : FunD K x qual params body scope dvs kws f fd) (S : GScope N ps scope) (len : ∀ vs H Q E, sp vs H Q E → vs.length = ps.length)
    (hbody : ∀ (cdv : Value) (A : Around) (outer : List Env) (s : Shared) (H : Hp) (vs : List V) (E : XK) (pn : List (Addr × Obj)), Room k (A.deeper (envOfC qual scope s.heap.objs.size f cdv)) → sp vs H (fun _ _ => False) E →
      L2.Takes (gcxP P w K mg base N qual scope f cdv A outer s H E pn) (fun cls d _ H' => E cls d H') →
      HS (gcxP P w K mg base N qual scope f cdv A outer s H E pn) { nx := fun _ _ => False, rt := fun _ _ => False } body (start N vs) H) :
    GFnR P w K mg base (k + 1) f fd ps sp := by
  obtain ⟨oc, od, dV, kV, doc, pm, an, cdv, ct, osl, rfl, lk, hcd, _, _⟩ := F.ex
  refine ⟨len, fun A outer s H args us vs E hr e0 hb r hsp => ?_⟩
  have hl := len _ _ _ _ hsp
  have KX : K.In s.heap := e0.mod.kin.keeps fun b o e => (e0.bs b o e).1
  have lim : s.heap.NoLimit := e0.mod.nolimit.keeps fun b o e => (e0.bs b o e).1
  have hkind : ∀ y ∈ ps.zip us, scope.names.lookup y.1 = some .local ∨ (scope.names.lookup y.1 = some .cell ∧ ((cellsFrom (s.heap.objs.size + 1) scope.names []).lookup y.1).isSome = true) := fun ⟨n, v⟩ hy => by
    rcases S.par n (List.of_mem_zip hy).1 with q | q
    · exact .inl q
    · exact .inr ⟨q, PySem.W.cellsFrom_some _ _ _ (.inl q)⟩
  refine codeAny_call_generator hr.depth (KX _ _ lk) rfl S.co S.gen rfl (PySem.W.codeRec_of KX hcd) (hb _ _ _ _ ?_)
  refine wpAny_newFunctionEnv_cells S.kind hkind fun env he s1 x => ?_
  subst he
  have lim1 : s1.heap.NoLimit := lim.keeps x.toInCall.keep
  refine ⟨lim1, ?_⟩
  obtain ⟨h1, tk, es1, hk1⟩ := x.done
  have os1 : s1.os = s.os := by rw [es1]
  have gen1 : s1.gens = s.gens := by rw [es1]
  have lt1 : s.heap.objs.size < s1.heap.objs.size := x.toInCall.ns.lt
  have sz1 : s.heap.objs.size ≤ s1.heap.objs.size := Nat.le_of_lt lt1
  have kp1 : ∀ b o, s.heap.get? b = some o → s1.heap.get? b = some o := x.toInCall.keep
  have main : ∀ (go : Obj) (nm qn : Value) (tk2 : Nat), go.cls = .type "generator" → go.data = .fields #[.int s1.gens.size 0, nm, qn] → go.slots = #[] → (∀ h : Heap, (h.push go).get? h.objs.size = some go) →
      GRz P w (k + 1) outer H s E (.ref s1.heap.objs.size) { s1 with gens := s1.gens.push (.fresh (.func body (envOfC qual scope s.heap.objs.size f cdv))), toks := tk2, heap := s1.heap.push go } := by
    intro go nm qn tk2 hgc hgd0 hgs hgp
    have hgen : ∀ h : Heap, h.get? s1.heap.objs.size = some go → h.IsGen s1.heap.objs.size s1.gens.size := fun h e => ⟨go, nm, qn, e, hgc, hgd0, hgs⟩
    have hpushed : (s1.heap.push go).get? s1.heap.objs.size = some go := hgp _
    refine ⟨s1.heap.objs.size, s1.gens.size, _, go, rfl, sz1, ?_, hpushed, hgen, Array.getElem?_push_size .., os1, ?_, lim1.keeps fun b o e => Heap.get?_push_of_some _ e, fun b o e => Heap.get?_push_of_some _ (kp1 b o e), ?_⟩
    · show _ < (s1.heap.push _).objs.size
      rw [Heap.size_push]; exact Nat.lt_succ_self _
    · exact AllBare.push (by rw [gen1]; exact e0.bare) rfl
    intro Aw pn s2 hrw hfr hpn hk2 hos hba
    have e0w : Env0 P w K mg base Aw outer s H := ⟨hfr, e0.mod, e0.bs, e0.bsz, e0.funs, e0.frf, e0.hok, e0.bare⟩
    have hB := hbody cdv Aw outer s H vs E ((s1.heap.objs.size, go) :: pn) (hrw.deeper _) hsp takes_gcxP
    have I1 : Inv (gcxOf P w K mg base N qual scope f cdv Aw outer s H E []) [] (start N vs) H s1 := inv_startG S hrw.hd e0w hl r x
    have kp2 : ∀ b o, s1.heap.get? b = some o → s2.heap.get? b = some o := fun b o e => hk2 b o (Heap.get?_push_of_some _ e)
    have I2 : Inv (gcxOf P w K mg base N qual scope f cdv Aw outer s H E []) [] (start N vs) H s2 :=
      I1.call' (ch := []) (hos.trans os1.symm) (Un.kept kp2) (I1.hok.kept kp2) hba fun b z => by simp at z
    have hea : s2.heap.get? s1.heap.objs.size = some go := hk2 s1.heap.objs.size go hpushed
    have hgd : ∀ v, go.data ≠ .cell v := fun v q => by rw [hgd0] at q; cases q
    have young : ∀ b, s1.heap.objs.size ≤ b → H b = none ∧ b ≠ s.heap.objs.size ∧ b ∉ frs outer := fun b hb =>
      ⟨I1.hok.fresh hb, Nat.ne_of_gt (Nat.lt_of_lt_of_le lt1 hb), I1.nofs hb⟩
    have I3 : Inv (gcxP P w K mg base N qual scope f cdv Aw outer s H E ((s1.heap.objs.size, go) :: pn)) [] (start N vs) H s2 := by
      refine pinnedP I2 fun p hp => ?_
      rcases List.mem_cons.mp hp with z | z
      · rw [z]
        obtain ⟨y1, y2, y3⟩ := young s1.heap.objs.size (Nat.le_refl _)
        exact ⟨hea, y1, y2, y3, hgd⟩
      · obtain ⟨q1, q2, q3⟩ := hpn p z
        have q1 : (s1.heap.push go).objs.size ≤ p.1 := q1
        rw [Heap.size_push] at q1
        obtain ⟨y1, y2, y3⟩ := young p.1 (Nat.le_of_succ_le q1)
        exact ⟨q2, y1, y2, y3, q3⟩
    refine seg_func ?_
    refine seg_wrap ?_
    rw [over_func]
    refine wpAny_mono (hB [] s2 I3) (fun fl s' hs => ?_) fun e s' hx => ?_
    · cases fl with
      | next => obtain ⟨_, _, _, q⟩ := hs; exact False.elim q
      | brk => obtain ⟨_, _, _, q⟩ := hs; exact False.elim q
      | cont => obtain ⟨_, _, _, q⟩ := hs; exact False.elim q
      | ret u => obtain ⟨_, _, _, _, _, q⟩ := hs; exact False.elim q
    · refine seg_wrap ?_
      rw [over_func]
      refine wpAny_mono (show wpAny (model P w) (Aw.deeper (envOfC qual scope s.heap.objs.size f cdv)) (leaving (envOfC qual scope s.heap.objs.size f cdv) e) (fun _ s'' => CXP P w outer H s E ((s1.heap.objs.size, go) :: pn) e s'') (fun _ _ => False) s' from hx) (fun _ s'' q => ?_) fun _ s'' q => q.elim
      exact seg_end (.error e) ⟨e, rfl, q⟩
  exact main _ _ _ _ rfl rfl rfl fun h => Heap.get?_push_size _ rfl
end Y
namespace Y
open PySem PySem.Spec PyProof.Rows L2 L2H Z LamX NdefX GenW
/-! ## [.. for .. in g(..)], where g raises before it hands anything out -/
section
variable {X : Cx} {pins : List (Addr × Obj)} {σ : L2.St} {H H' : Hp} {s s' : Shared} {B : Heap}
/-- a call's exception is in our air: the state without it, told -/
theorem airOf {a : Addr} {Z : Obj → Prop} (I : Inv X pins σ H s) (fl : HandSPX.FlyingZ B X.stack a Z s'.heap) (hok : HOk X.prog X.w H' B) (ub : UB (frs X.stack) H H' s.heap B s'.heap) (os : s'.os = s.os) (ag : AllBare s'.gens) :
    ∃ sI : Shared, Inv X pins σ H' sI ∧ (∀ b o, sI.heap.get? b = some o → b ∉ frs X.stack → B.get? b = some o) ∧ sI.heap.UpToSlots s'.heap ∧ s'.os = sI.os := by
  obtain ⟨G, g1, g2⟩ := restrict s'.heap fun b => (B.get? b).isSome || decide (b ∈ frs X.stack)
  have st : B.StaysIn s'.heap := fl.1
  have gB : ∀ b o, B.get? b = some o → G.get? b = some o := fun b o e => by
    rw [g1 b (by simp [e])]
    exact st b o e
  have gF : ∀ b, b ∈ frs X.stack → G.get? b = s'.heap.get? b := fun b hb => g1 b (by simp [hb])
  have og : ∀ b o, G.get? b = some o → s'.heap.get? b = some o ∧ ((B.get? b).isSome = true ∨ b ∈ frs X.stack) := fun b o e => by
    cases q : ((B.get? b).isSome || decide (b ∈ frs X.stack)) with
    | false => rw [g2 b q] at e; cases e
    | true =>
      rw [g1 b q] at e
      exact ⟨e, by simpa [Bool.or_eq_true] using q⟩
  refine ⟨{ s with heap := G, gens := s'.gens, drawn := s'.drawn, toks := s'.toks }, ?_, fun b o e hb => ?_, Heap.UpToSlots.of_keeps fun b o e => (og b o e).1, os⟩
  · refine I.call (ch := []) ⟨fun b o e n hb _ => gB b o (ub.keep b o e n hb), fun b o e n hb _ => ?_, fun b o e n _ => ub.free b o e n, fun b o e _ => ?_, ub.tups, ub.frzs, ub.tbls⟩ (hok.kept gB) ag (fun _ z => nomatch z)
    · obtain ⟨sl, q⟩ := ub.slot b o e hb
      exact ⟨sl, by rw [gF b hb]; exact q⟩
    · by_cases hb : b ∈ frs X.stack
      · obtain ⟨sl, q⟩ := ub.slot b o e hb
        exact ⟨_, by rw [gF b hb]; exact q⟩
      · obtain ⟨o', q⟩ := ub.there b o e hb
        exact ⟨o', gB b o' q⟩
  · obtain ⟨e', h⟩ := og b o e
    rcases h with h | h
    · obtain ⟨o', q⟩ := Option.isSome_iff_exists.mp h
      have z := st b o' q
      rw [e'] at z; cases z
      exact q
    · exact absurd h hb
/-- an exception out of a call amid a comprehension's block C (which the call did not know) leaves the block -/
theorem comp_fails {E' : XK} {W : WX} {C : Addr} {cO : Obj} {pn : List (Addr × Obj)} {x : Value} {ce : Env} {m : Str → Option Value} (tk : L2.Takes X W) (hW : ∀ cls d H, E' cls d H → W cls d σ H) (hs : X.stack = X.env :: X.outer) (hf : X.env.frame = some X.env.locals)
    (I : Inv X pins σ H s) (c : CXP X.prog X.w X.stack H s E' pn x s') (hC : (C, cO) ∈ pn) (hCs : s.heap.objs.size ≤ C) (hn : s'.heap.Ns C m) (hcf : ce.frame = X.env.frame) (hcl : ce.locals = C) :
    notedBy (model X.prog X.w) X.A ce (CompFails (model X.prog X.w) X.A X.xe ce) x s' := by
  obtain ⟨a, B0, H', cls, d, rfl, fl0, hok0, ub0, na, os, ag, hE, hpn⟩ := c
  obtain ⟨hBC, hHC⟩ := hpn _ hC
  obtain ⟨B, b1, b2⟩ := restrict B0 fun b => !(b == C)
  have bne : ∀ b, b ≠ C → B.get? b = B0.get? b := fun b h => b1 b (by simp [h])
  have bC : B.get? C = none := b2 C (by simp)
  have bs : ∀ b o, B.get? b = some o → B0.get? b = some o := fun b o e => by
    by_cases h : b = C
    · rw [h, bC] at e; cases e
    · rw [bne b h] at e; exact e
  have bn : ∀ b, B0.get? b = none → B.get? b = none := fun b e => by
    cases q : B.get? b with
    | none => rfl
    | some o => rw [bs b o q] at e; cases e
  have Cs : s.heap.get? C = none := by
    cases q : s.heap.get? C with
    | none => rfl
    | some o => exact absurd (Heap.lt_size q) (Nat.not_lt.mpr hCs)
  have old : ∀ b o, s.heap.get? b = some o → b ≠ C := fun b o e z => by rw [z, Cs] at e; cases e
  have fl : HandSPX.FlyingZ B X.stack a (Zc cls d) s'.heap := by
    obtain ⟨f1, f2, f3, oe, vs, T, oT, ts, he, hz, hd, h1, hnT, r⟩ := fl0
    exact ⟨fun b o e => f1 b o (bs b o e), bn a f2, funFrames_none f3 (fun L hL => bn L (f3.mem hL).1), oe, vs, T, oT, ts, he, hz, hd, h1, bn T hnT, r⟩
  have hok : HOk X.prog X.w H' B := fun b u q => (hok0 b u q).stay (fun c v hc y => by
      rw [bne c (fun z => ?_)]; exact y
      rcases hc with hc | hc
      · rw [← hc, z] at q; rw [hHC] at q; cases q
      · rw [z, hHC] at hc; cases hc) (fun _ y => y) fun _ _ y => y
  have ub : UB (frs X.stack) H H' s.heap B s'.heap := ⟨fun b o e n hb => by rw [bne b (old b o e)]; exact ub0.keep b o e n hb, ub0.slot, ub0.free, fun b o e hb => by
    obtain ⟨o', q⟩ := ub0.there b o e hb
    exact ⟨o', by rw [bne b (old b o e)]; exact q⟩, ub0.tups, ub0.frzs, ub0.tbls⟩
  obtain ⟨sI, II, nb, up0, os2⟩ := airOf I fl hok ub os ag
  have sC : sI.heap.get? C = none := by
    cases q : sI.heap.get? C with
    | none => rfl
    | some o =>
      by_cases hm : C ∈ frs X.stack
      · obtain ⟨_, o', e', _⟩ := I.stack.mem hm
        rw [Cs] at e'; cases e'
      · rw [nb C o q hm] at bC; cases bC
  have hfr : X.A.frames = some (X.env :: X.outer) := by rw [I.ok.frames, hs]
  show wpAny (model X.prog X.w) X.A (noteFrame (.ref a) ce) _ _ s'
  rw [noteFrame_env _ hcf]
  rw [hs] at fl
  refine HandSPX.looks_onZ Zc.steady hfr hf fl fun h1 held1 up1 => ?_
  have hn1 : h1.Ns C m := hn.upToSlots up1
  refine ⟨m, by rw [hcl]; exact hn1, fun h2 m2 hn2 hs2 => ?_⟩
  rw [hcl] at hn2 hs2
  obtain ⟨k1, k0, f1, oe, vs, T, oT, ts, he, hz, hd, h1', hnT, hTe, hT, hdT, h3⟩ := held1
  obtain ⟨oC, es, ep, hoC, hdC, _⟩ := hn1
  have hoC : h1.get? C = some oC := hoC
  have neC : ∀ b ob us, h1.get? b = some ob → ob.data = .fields us → b ≠ C := fun b ob us e e2 z => by
    rw [z, hoC] at e; cases e
    rw [hdC] at e2; cases e2
  have held2 : HandSPX.HeldZ B (X.env :: X.outer) a (Zc cls d) X.env.locals h2 :=
    ⟨fun b o e => (hs2.2 b fun z => by rw [z, bC] at e; cases e).trans (k1 b o e), k0, Heap.FunFrames.sameBut hs2 hn2 f1, oe, vs, T, oT, ts, (hs2.2 a (neC a oe vs he hd)).trans he, hz, hd, h1', hnT, hTe, (hs2.2 T (neC T oT ts hT hdT)).trans hT, hdT, h3⟩
  have up2 : sI.heap.UpToSlots h2 := fun b o e nf => by
    obtain ⟨sl, q⟩ := (up0.trans up1) b o e nf
    refine ⟨sl, (hs2.2 b fun z => ?_).trans q⟩
    rw [z, sC] at e; cases e
  unfold PySem.passOn
  refine wpAny_bind (wpAny_field ((hs2.2 a (neC a oe vs he hd)).trans he) hd h1' ?_)
  rw [if_neg (show ¬ ((Value.ref T == Value.none) = true) from by simp)]
  have fin : wpAny (model X.prog X.w) X.A (setFlight (.ref a) ce.frame) (fun _ s4 => wpAny (model X.prog X.w) X.A (throw (.ref a) : Sem Value) (fun _ _ => False) X.xe s4) X.xe { s' with heap := h2 } := by
    rw [hcf, hf]
    refine HandSPX.setFlight_onZ held2 fun h4 held4 up4 => wpAny_throw (tk _ _ ?_)
    exact ⟨a, B, sI, pins, σ, H', cls, d, rfl, II, nb, up2.trans up4, .inr (.inr (by rw [hs]; exact held4)), na, os2, ag, hW _ _ _ hE⟩
  first
    | exact wpAny_bind (wpAny_pure (wpAny_bind fin))
    | exact wpAny_bind fin
end
structure KGR (P : Program) (w : World) (K : PySem.W.Frag) (mg : Str → Option Value) (base : Heap) (x : Str) (k : Nat) (sp : Sp) : Prop where
  ex : ∃ f fd ps, GFnR P w K mg base k f fd ps sp ∧ mg x = some (.ref f) ∧ PySem.W.keepIn K (.ref f) = true ∧ Binds K fd ps []
theorem GRz.mono {P : Program} {w : World} {j k : Nat} {outer : List Env} {H : Hp} {s : Shared} {E : XK} {u : Value} {s' : Shared} (h : GRz P w j outer H s E u s') (hk : j ≤ k) : GRz P w k outer H s E u s' := by
  obtain ⟨a, g, c, go, h1, h2, h3, h4, h5, h6, h7, h8, h9, h10, wake⟩ := h
  exact ⟨a, g, c, go, h1, h2, h3, h4, h5, h6, h7, h8, h9, h10, fun A pn s2 hr => wake A pn s2 (hr.mono hk)⟩
section
variable {X : Cx} {σ : L2.St} {S : Hp} {elt tg e : Expr} {es ifs : List Expr} {Ps : List (V → Hp → Prop)} {scope : Scope} {own : List (Str × Nat)} {pos p pos' : Pos} {k : Nat} {x : Str} {sp : Sp} {O : EK → PyData → Prop} {E : XK} {R : V → Hp → Prop}
theorem er_lcG (tk : L2.Takes X (fun cls d _ H => E cls d H)) (D : KGR X.prog X.w X.K X.mg X.base x k sp) (hr : Room (k + 1) X.A) (ha : EA X σ S (e :: es) Ps) (hsp : SpO X.K sp S Ps NoP O) (hns : ∀ k g, O k g → PySem.W.subIn X.K (.ref k.C) (.type "StopIteration") = some false)
    (ok : BlkOk X.N X.env.scope scope own) (hst : X.stack = X.env :: X.outer) (hf : X.env.frame = some X.env.locals) (hg : Gl X x := by rfl) (hdb : (x == ("__debug__" : Str)) = false := by decide)
    (he : starEach (e :: es) X.env = (false, eval e X.env) :: starEach es X.env := by rfl) (hpl : (backTo pos' (starEach es X.env)).any (·.1) = false := by rfl) :
    ER X E σ S (.ListComp elt [⟨tg, .Call (.Name x p) (e :: es) [] pos', ifs, 0⟩] scope pos) R O := by
  intro H s hx Q q pins sh I
  obtain ⟨f, fd, ps, F, hm, hk, hb⟩ := D.ex
  rw [eval_ListComp]
  have hfree : ∀ y ∈ scope.names, y.2 = .free → ∃ c, X.env.cells.lookup y.1 = some c := fun y hy e => by
    rcases ok.free y hy e with k | k
    · exact I.ok.has _ (.inl k)
    · exact I.ok.has _ (.inr k)
  refine comprehension_at (use := none) rfl (fun _ => rfl) (closure_ok hfree) ok.kind (fun y hy e => by rw [ok.uniq y hy, e]) ?_
  show wpAny (model X.prog X.w) X.A (eval (.Call (.Name x p) (e :: es) [] pos') X.env) _ _ _
  refine wpAny_Call_Name_kw (ld_glob I hg hm ?_ hdb)
  let E' : XK := fun cls d H' => E cls d H' ∧ PySem.W.subIn X.K cls (.type "StopIteration") = some false
  refine PySem.W.callWith_K (h₀ := X.base) I.ok.mod.kin hk (thn (ha.2 H s (fun vs H1 => sp vs H1 (fun _ _ => False) E') (fun vs S1 H1 g1 al => ?_) pos' pins sh I) fun us s1 hus => ?_) he hpl
  · refine hsp vs S1 H1 g1.st g1.sub al _ E' (fun v S2 H2 _ pv => pv.elim) fun k g o => ?_
    intro d fs S3 H3 g3 hd hxd hc hn hfn
    exact ⟨(hx k g o).up g1 d fs S3 H3 g3 hd hxd hc hn hfn, hns k g o⟩
  obtain ⟨vs, H1, I1, r, q1⟩ := hus
  refine ⟨I1.kIn, ?_⟩
  have hl2 : us.length = ps.length := by rw [← r.length]; exact F.len _ _ _ _ q1
  have hb2 : BindsTo s1 fd ⟨us, []⟩ (ps.zip us) := by
    have z := hb s1 us I1.kIn (by rw [List.append_nil]; exact hl2)
    rw [List.append_nil] at z
    exact z
  refine wpAny_call (codeAny_mono (F.run X.A X.stack s1 H1 ⟨us, []⟩ us vs E' (hr.mono (Nat.le_succ _)) I1.env0 hb2 r q1) fun rr s2 hq => ?_)
  cases rr with
  | error e => exact False.elim hq
  | ok fl =>
  cases fl with
  | next => exact False.elim hq
  | brk => exact False.elim hq
  | cont => exact False.elim hq
  | ret u =>
  obtain ⟨a, g, c, go, rfl, ha1, ha2, hgo, hgen, hgs, hos, hbr, hlim, hkp, wake⟩ := hq
  refine wpAny_pyIter_gen (hgen _ hgo) ?_
  refine wpAny_newObj_type (newEnv_comp ?_) (by show 0 ≤ sizeLine; decide)
  generalize hs3 : ({ s2 with heap := s2.heap.push { cls := .type "list", data := .seq ([] : List Value).toArray } } : Shared) = s3
  have kp3 : ∀ b o, s2.heap.get? b = some o → s3.heap.get? b = some o := fun b o e => by rw [← hs3]; exact Heap.get?_push_of_some _ e
  have g3 : s3.gens = s2.gens := by rw [← hs3]
  have o3 : s3.os = s2.os := by rw [← hs3]
  have z3 : s2.heap.objs.size ≤ s3.heap.objs.size := by rw [← hs3]; show _ ≤ (s2.heap.push _).objs.size; rw [Heap.size_push]; exact Nat.le_succ _
  show codeAny _ _ (.compStart (.ListComp elt [⟨tg, .Call (.Name x p) (e :: es) [] pos', ifs, 0⟩] scope pos) 0 (.ref a) (.ref s2.heap.objs.size) (compEnvC scope (cellsFrom (s3.heap.objs.size + 1) scope.names (cloFrom X.env.cells scope.names [])) s3.heap.objs.size X.env)) (compEnds (model X.prog X.w) X.A X.xe none _ (.ref s2.heap.objs.size) (compEnvC scope (cellsFrom (s3.heap.objs.size + 1) scope.names (cloFrom X.env.cells scope.names [])) s3.heap.objs.size X.env)) { s3 with heap := pushCells (s3.heap.push { cls := .type "dict", data := .dict #[] }) scope.names }
  generalize hce : compEnvC scope (cellsFrom (s3.heap.objs.size + 1) scope.names (cloFrom X.env.cells scope.names [])) s3.heap.objs.size X.env = ce
  have cL : ce.locals = s3.heap.objs.size := by subst hce; rfl
  have cF : ce.frame = X.env.frame := by subst hce; rfl
  generalize hs4 : ({ s3 with heap := pushCells (s3.heap.push { cls := .type "dict", data := .dict #[] }) scope.names } : Shared) = s4
  have kp4 : ∀ b o, s2.heap.get? b = some o → s4.heap.get? b = some o := fun b o e => by rw [← hs4]; exact pushCells_keeps _ _ _ _ (Heap.get?_push_of_some _ (kp3 b o e))
  have hC4 : s4.heap.get? s3.heap.objs.size = some { cls := .type "dict", data := .dict #[] } := by rw [← hs4]; exact pushCells_keeps _ _ _ _ (Heap.get?_push_size _ rfl)
  have g4 : s4.gens = s2.gens := by rw [← hs4]; exact g3
  have o4 : s4.os = s2.os := by rw [← hs4]; exact o3
  have hgo4 := kp4 a go hgo
  have loop : codeAny (model X.prog X.w) X.A (.compLoop (.ListComp elt [⟨tg, .Call (.Name x p) (e :: es) [] pos', ifs, 0⟩] scope pos) 0 (.ref a) (.ref s2.heap.objs.size) ce) (compEnds (model X.prog X.w) X.A X.xe none (fun v s' => EP X pins σ Q v s') (.ref s2.heap.objs.size) ce) s4 := by
    refine compLoop_any (fun n s' => n = 0 ∧ s' = s4) ?_ 0 ⟨rfl, rfl⟩
    rintro n s5 ⟨rfl, rfl⟩
    have hgs5 : s5.gens[g]? = some (.fresh c) := by rw [g4]; exact hgs
    have rm : Room k X.A.in1 := ⟨hr.hd, by have := hr.dp; show X.A.depth + 3 * k + 5 < _; omega, by have := hr.un; show X.A.units + 1 + 16 * k + 200 < _; omega⟩
    refine next_genG (n := sizeLine) (F := fun _ _ _ => False) (Er := fun e s₁ => CXP X.prog X.w X.stack H1 s1 E' [(a, go), (s3.heap.objs.size, { cls := .type "dict", data := .dict #[] })] e s₁) (Y := fun _ _ _ _ _ => False) hr.hd (hlim.keeps kp4) (by have := hr.dp; omega) (hgen _ hgo4) hgs5
      ⟨rfl, seg_imp (R := fun _ _ r s1' => ∃ e, r = .error e ∧ CXP X.prog X.w X.stack H1 s1 E' [(a, go), (s3.heap.objs.size, { cls := .type "dict", data := .dict #[] })] e s1') (Y := fun _ _ _ _ _ => False) (fun _ _ r s1' hR => .inr hR) (fun _ _ _ _ _ _ _ h => h) _ (wake X.A.in1 [(s3.heap.objs.size, { cls := .type "dict", data := .dict #[] })] (s5.setGen g .running) rm I1.ok.frames (fun p hp => ?_) kp4 (o4.trans hos) (allBare_setGen (by rw [g4]; exact hbr) rfl))⟩
      (fun _ _ _ _ hY => hY.elim) (fun _ hF => hF.elim) (fun e s₁ he => ?_)
    · rw [List.mem_singleton.mp hp]
      exact ⟨z3, hC4, fun v z => by cases z⟩
    · have hcp := he
      obtain ⟨ax, B, H', cls, d, rfl, fl, hok, ub, na, os', ag, hE, hpn⟩ := he
      have eg : s₁.heap.get? a = some go := fl.1 _ _ (hpn (a, go) List.mem_cons_self).1
      have eC : s₁.heap.get? s3.heap.objs.size = some { cls := .type "dict", data := .dict #[] } := fl.1 _ _ (hpn (s3.heap.objs.size, _) (List.mem_cons_of_mem _ List.mem_cons_self)).1
      refine ⟨hgen _ eg, notStop_of (K := X.K) (fun cls d H h => h.2) ?_ hcp.cx, ?_⟩
      · refine I1.ok.mod.kin.keeps fun b o eb => fl.1 b o (ub.keep b o (I1.bs b o eb).1 (I1.bs b o eb).2 fun hm => ?_)
        rcases List.mem_cons.mp (I1.stkSub b hm) with z | z
        · have h1 := Heap.lt_size eb
          have h2 := Nat.le_trans I1.ok.bsz I1.ok.above
          rw [z] at h1
          exact absurd (Nat.lt_of_lt_of_le h1 h2) (Nat.lt_irrefl _)
        · exact I1.ok.nofr eb z
      · refine comp_fails (E' := E') (s' := s₁.setGen g .finished) (m := fun name => nsFind #[] name) (pn := [(a, go), (s3.heap.objs.size, { cls := .type "dict", data := .dict #[] })]) tk (fun cls d H h => h.1) hst hf I1 ⟨ax, B, H', cls, d, rfl, fl, hok, ub, na, os', allBare_setGen ag rfl, hE, hpn⟩ (List.mem_cons_of_mem _ List.mem_cons_self) ?_ ⟨_, _, _, eC, rfl, fun e he => absurd he (by simp), fun _ => rfl⟩ cF cL
        refine Nat.le_trans (Nat.le_trans ha1 (Nat.le_of_lt ha2)) z3
  exact codeAny_compStart_list loop (wpAny_pyIter_gen (hgen _ hgo4) loop)
end
end Y
namespace Y
open PySem PySem.Spec PyProof.Rows L2 L2H Z LamX NdefX
/-! ## a tuple times 0 -/
theorem tuple_mul0 (l : Addr) (items : Array Value) (n : Nat) (dd : Option Addr) (sl : Array (Option Value)) (u : Tok) (c1 : (items.isEmpty || (0 : Int) == 1) = false) :
    Meets (Builtin.«tuple.__mul__» ⟨[.ref l, .int 0 u], []⟩) (fun _ R s => s.heap.get? l = some { cls := .type "tuple", dict := dd, data := .seq items n, slots := sl } ∧
      R (.ok (.ret (Value.ref s.heap.objs.size))) { s with heap := s.heap.push { cls := Value.type "tuple", data := Data.seq #[] }, toks := s.toks }) :=
  .of_wp fun prog w A R s h => by
    obtain ⟨hp, g, d, tk, os⟩ := s
    obtain ⟨hl, h⟩ := h
    have f1 := AutoSeq1.idx_int
    have c0 : (decide ((0 : Int) < -(2 ^ 63)) || decide ((0 : Int) ≥ 2 ^ 63)) = false := by decide
    have c2 : (decide ((0 : Int) ≤ 0) || items.isEmpty) = true := by simp
    wp_walk using wpAny_loadPart' hl
    repeat (first
      | (refine wpAny_ite_false (decide_eq_false (by rw [c0]; exact Bool.false_ne_true)) ?_; wp_walk using wpAny_loadPart' hl)
      | (refine wpAny_ite_false (decide_eq_false (by rw [c1]; exact Bool.false_ne_true)) ?_; wp_walk using wpAny_loadPart' hl)
      | (refine wpAny_ite_true (decide_eq_true c2) ?_; wp_walk using wpAny_loadPart' hl)
      | (refine wpAny_ite_false (decide_eq_false (by decide)) ?_; wp_walk using wpAny_loadPart' hl))
    exact ⟨_, rfl, h⟩
def rRep0 (K : PySem.W.Frag) : R2 := fun x y H Q => ∃ l xs, x = .ref l ∧ y = .int 0 ∧ SqT K H l xs ∧ xs ≠ [] ∧ ∀ p, H p = none → Q (.ref p) (upd H p (.tup []))
section
variable {X : Cx} {σ : L2.St} {S : Hp} {a b : Expr} {pos : Pos} {ds : List PyData}
theorem op_rep0 : OpR X (binaryOp .Mult) (rRep0 X.K) := by
  intro pins s σ H x y v u Q I rx ry h
  obtain ⟨l, xs, rfl, rfl, hT, hne, q⟩ := h
  cases rx
  obtain ⟨t, rfl⟩ := ry
  obtain ⟨its, r, ⟨⟨cls, dd, data, sl⟩, ho, hc, n, hd⟩, hs⟩ := I.tuple hT
  simp only at hc hd
  subst hc hd
  have hle : its.length = xs.length := r.length.symm
  have hn : its ≠ [] := fun e => hne (by
    rw [e] at hle
    exact List.eq_nil_of_length_eq_zero hle.symm)
  have hi : its.toArray.isEmpty = false := by
    cases its with
    | nil => exact absurd rfl hn
    | cons a b => rfl
  have c1 : (its.toArray.isEmpty || (0 : Int) == 1) = false := by rw [hi]; rfl
  refine wpAny_binaryOp_repeat_ref (T := "tuple") (U := "int") (by decide) ⟨_, ho, rfl⟩ (fun s' => typeIs_int s' 0 t) noFill_tuple_mul F.fills_int_mul F.slot_int_rmul repeat_tuple F.slot_int_index.lookup
    (call_meets F.slot_int_rmul (typeIs_int s 0 t) F.entry_int_rmul (F.args_int_rmul_2 _ _) (int_rmul_tuple 0 t l its.toArray n dd sl)
      ⟨ho, rfl, ⟨_, ho, rfl⟩, call_meets F.slot_tuple_mul ⟨_, ho, rfl⟩ F.entry_tuple_mul (F.args_tuple_mul_2 _ _) (tuple_mul0 l its.toArray n dd sl t c1) ⟨ho, ?_⟩⟩)
  refine ⟨.ref s.heap.objs.size, _, I.laid (t' := s.toks) (o := .tup []) (fun b ob q => Heap.get?_push_of_some _ q) (Nat.le_refl _) ?_, rfl, q _ (I.hok.fresh (Nat.le_refl _))⟩
  exact ⟨Nat.zero_le _, _, .nil, IsTup.new _ _⟩
theorem ee_rep0 (hne : ds ≠ []) (ha : EE X σ S a (Dt X.K (.tuple ds))) (hb : EE X σ S b (Dt X.K (.int 0))) : EE X σ S (.BinOp a .Mult b pos) (Dt X.K (.tuple [])) := by
  refine ee_op op_rep0 ha hb fun x y S1 H1 _ s px py Q q => ?_
  cases py
  obtain ⟨l, xs, rfl, hl, hx, z⟩ := px.tup_inv
  refine ⟨l, xs, rfl, rfl, sqt_up s hl, fun e => hne ?_, fun t ht => q _ _ _ (Gr.new s ht) (Dt.tup_mk (tus_of upd_same) .nil (Nat.zero_le _))⟩
  have := hx.1; rw [e] at this; exact List.eq_nil_of_length_eq_zero this.symm
/-- (x, ..) * n, n any -/
theorem ee_repT0 {n : Nat} (hz : n ≤ 1000) (hc : ds.length ≤ 1000) (hne : ds ≠ []) (ha : EE X σ S a (Dt X.K (.tuple ds))) (hb : EE X σ S b (Dt X.K (.int n))) : EE X σ S (.BinOp a .Mult b pos) (Dt X.K (.tuple (List.replicate n ds).flatten)) := by
  rcases Nat.eq_zero_or_pos n with rfl | h
  · exact ee_rep0 hne ha hb
  · exact ee_repT h hz hc hne ha hb
end
end Y
namespace K42
open PySem PySem.Spec PyProof.Rows L2 Z Y
abbrev FnT (K : PySem.W.Frag) (x : Str) (st : Stmt) (f : Addr) (fd : FuncData) : Prop := FunD K x x (defArgs st) (defBody st) (defScope st) [] [] f fd
/-! ## data in short -/
def tI (l : List Int) : PyData := .tuple (l.map .int)
def lI (l : List Int) : PyData := .list (l.map .int)
def tP (a b : List Int) : PyData := .tuple [tI a, tI b]
def isNum (d : PyData) (l : Int) : Bool := match d with
  | .int i => decide (l ≤ i)
  | _ => false
def leNum (d : PyData) (m : Int) : Bool := match d with
  | .int i => decide (i ≤ m)
  | _ => false
def isExp (d : PyData) (w : Int) : Bool := match d with
  | .tuple ds => decide ((ds.length : Int) = w) && ds.all fun x => isNum x 0 && leNum x 6
  | _ => false
theorem map_all {α : Type} (f : α → Bool) (l : List α) : (l.map f).all (fun b => b) = l.all f := by
  induction l with
  | nil => rfl
  | cons a l ih => simp [List.map_cons, List.all_cons, ih]
/-- the facts as data; what a row must keep -/
def ruleD (p : List Int × List Int) : PyData := tP p.1 p.2
def kindN : PyData → Nat
  | .none => 0
  | .bool _ => 1
  | .int _ => 2
  | .str _ => 3
  | .list _ => 4
  | .tuple _ => 5
  | .dict _ => 6
def marksL (d : PyData) : List Bool := [decide (kindN d = 0), isD d "bool", isD d "int", isD d "str"] ++ [isD d "list", isD d "tuple", true]
theorem marks_at (d : PyData) : (marksL d)[kindN d]? = some true := by cases d <;> rfl
theorem marks_no (d : PyData) : ∀ m, m < kindN d → (marksL d)[m]? = some false := by
  cases d with
  | none => exact fun m h => absurd h (Nat.not_lt_zero _)
  | bool b => exact fun
    | 0, _ => rfl
    | m + 1, h => absurd (show m + 1 < 1 from h) (by omega)
  | int b => exact fun
    | 0, _ => rfl
    | 1, _ => rfl
    | m + 2, h => absurd (show m + 2 < 2 from h) (by omega)
  | str b => exact fun
    | 0, _ => rfl
    | 1, _ => rfl
    | 2, _ => rfl
    | m + 3, h => absurd (show m + 3 < 3 from h) (by omega)
  | list b => exact fun
    | 0, _ => rfl
    | 1, _ => rfl
    | 2, _ => rfl
    | 3, _ => rfl
    | m + 4, h => absurd (show m + 4 < 4 from h) (by omega)
  | tuple b => exact fun
    | 0, _ => rfl
    | 1, _ => rfl
    | 2, _ => rfl
    | 3, _ => rfl
    | 4, _ => rfl
    | m + 5, h => absurd (show m + 5 < 5 from h) (by omega)
  | dict b => exact fun
    | 0, _ => rfl
    | 1, _ => rfl
    | 2, _ => rfl
    | 3, _ => rfl
    | 4, _ => rfl
    | 5, _ => rfl
    | m + 6, h => absurd (show m + 6 < 6 from h) (by omega)
theorem dt_non {K : PySem.W.Frag} {d : PyData} {v : V} {S : Hp} (h : Dt K d v S) : decide (v = .non) = decide (kindN d = 0) := by
  cases h <;> rfl
/-- data without dicts, at most n deep -/
def Bd : Nat → PyData → Prop
  | _, .none => True
  | _, .bool _ => True
  | _, .int _ => True
  | _, .str _ => True
  | 0, .list _ => False
  | 0, .tuple _ => False
  | n + 1, .list xs => ∀ x ∈ xs, Bd n x
  | n + 1, .tuple xs => ∀ x ∈ xs, Bd n x
  | _, .dict _ => False
theorem zip_self (xs : List PyData) : xs.zip xs = xs.map fun x => (x, x) := by
  induction xs with
  | nil => rfl
  | cons a l ih => simp [ih]
section
variable {P : Program} {w : World} {K : PySem.W.Frag} {mg : Str → Option Value} {base : Heap} {f : Addr} {fd : FuncData}
def FisNumber : List PyData → PyData → Prop := fun ds r => ∃ d l, ds = [d, .int l] ∧ r = .bool (isNum d l)
theorem sc_is_number : FnScope ["value", "least"] ["value", "least"] (defScope sis_number) := ⟨rfl, rfl, rfl, by decide +kernel, rfl, by decide +kernel, by decide +kernel⟩
theorem ok_is_number (F : FnT K "is_number" sis_number f fd) (g1 : mg "isinstance" = none) (g2 : mg "int" = none) (g3 : mg "bool" = none) : FnOk P w K mg base CX0 1 f fd ["value", "least"] (spD K FisNumber) := by
  refine fn_hs F sc_is_number (fun vs H Q E h => ?_) (fun cdv A outer sh H vs Q E hr h => ?_)
  · obtain ⟨S, ds, d, _, hd, ⟨_, _, rfl, _⟩, _⟩ := h
    exact hd.1
  · obtain ⟨S, ds, r, s, hd, ⟨d, l, rfl, rfl⟩, q⟩ := h
    obtain ⟨v1, v2, rfl, p1, p2⟩ := hd.two
    refine hs_ret ((ee_and (ee_isi (isD_ok d (T := "int") (by simp)) g1 g2 boot_int (ee_var 0 rfl p1)) fun h1 =>
      ee_and (ee_not (ee_isi (isD_ok d (T := "bool") (by simp)) g1 g3 boot_bool (ee_var 0 rfl p1))) fun h2 => ee_one (P := Dt K (.bool (isNum d l))) ?_).isd ?_) s q
    · cases d <;> first | (exact ee_ge (ee_var 0 rfl p1) (ee_var 1 rfl p2)) | (exfalso; simp [isDi, isDb] at h1 h2; done)
    · cases d <;> rfl
def FisExp : List PyData → PyData → Prop := fun ds r => ∃ d w, ds = [d, .int w] ∧ r = .bool (isExp d w)
theorem sc_is_exponent : FnScope ["value", "width", "item"] ["value", "width"] (defScope sis_exponent) := ⟨rfl, rfl, rfl, by decide +kernel, rfl, by decide +kernel, by decide +kernel⟩
theorem ok_is_exponent (F : FnT K "is_exponent" sis_exponent f fd) (D1 : KD P w K mg base "is_number" 1 (spD K FisNumber)) (g1 : mg "isinstance" = none) (g2 : mg "tuple" = none) (g3 : mg "len" = none) (g4 : mg "all" = none) (g5 : ∃ t, mg "MOST_EXPONENT" = some (.int 6 t)) : FnOk P w K mg base CX0 2 f fd ["value", "width"] (spD K FisExp) := by
  refine fn_hs F sc_is_exponent (fun vs H Q E h => ?_) (fun cdv A outer sh H vs Q E hr h => ?_)
  · obtain ⟨S, ds, d, _, hd, ⟨_, _, rfl, _⟩, _⟩ := h
    exact hd.1
  · obtain ⟨S, ds, r, s, hd, ⟨d, w', rfl, rfl⟩, q⟩ := h
    obtain ⟨v1, v2, rfl, p1, p2⟩ := hd.two
    obtain ⟨t, g5⟩ := g5
    by_cases hd' : ∃ es, d = .tuple es
    · obtain ⟨es, rfl⟩ := hd'
      refine hs_if (et_w (ew_or (et_not (et_val (ee_isi (isD_ok (.tuple es) (T := "tuple") (by simp)) g1 g2 boot_tuple (ee_var 0 rfl p1)))) fun _ => ew_or1 (et_neI (ee_len g3 rfl (ee_var 0 rfl p1)) (ee_var 1 rfl p2)))) s (fun h1 S1 H1 g => ?_) (fun h1 S1 H1 g => hs_nil ?_)
      · have hl : ¬ ((es.length : Int) = w') := by simpa [isDt] using h1
        refine hs_ret ee_bl g.sub fun v S2 H2 g2 pv => q v S2 H2 (g.trans g2) ?_
        have e : isExp (.tuple es) w' = false := by unfold isExp; simp [hl]
        rw [e]; exact pv
      · have hl : (es.length : Int) = w' := by simpa [isDt] using h1
        have hz : es.length ≤ sizeLine := by obtain ⟨l, xs, _, _, hx, z⟩ := p1.tup_inv; rw [← hx.1]; exact z
        refine hs_ret ((ee_all (bs := es.map fun x => isNum x 0 && leNum x 6) rfl g4 (ee_lc (i := 2) (enc := .bool) (f := fun x => isNum x 0 && leNum x 6) rfl sc_is_exponent.nd (blkOk_by (N := ["value", "width", "item"]) (sc := defScope sis_exponent) (by decide +kernel)) (ei_tup (ee_var 0 rfl (p1.up g.st))) hz ?_)).isd ?_) g.sub fun v S2 H2 g2 pv => q v S2 H2 (g.trans g2) pv
        · intro x hx v S2 s2 pv sh' H0 C cl fp
          refine ee_and (k1 := isNum x 0) (k2 := leNum x 6) (ee_callD D1 hr ⟨x, 0, rfl, rfl⟩ (ea_2 (ee_var 2 rfl pv) ee_int)) fun h2 => ee_one (P := Dt K (.bool (leNum x 6))) ?_
          cases x with
          | int i => exact ee_le (ee_var 2 rfl pv) (ee_globI g5)
          | _ => exfalso; simp [isNum] at h2; done
        · rw [map_all]
          unfold isExp
          simp [hl]
    · refine hs_ifT ((et_w (ew_or (k2 := true) (et_not (et_val (ee_isi (isD_ok d (T := "tuple") (by simp)) g1 g2 boot_tuple (ee_var 0 rfl p1)))) fun h1 => ?_)).is ?_) s fun S1 H1 g => hs_ret ee_bl g.sub fun v S2 H2 g2 pv => q v S2 H2 (g.trans g2) ?_
      · exfalso; cases d <;> first | (simp [isDt] at h1; done) | exact hd' ⟨_, rfl⟩
      · simp
      · have e : isExp d w' = false := by cases d <;> first | rfl | exact absurd ⟨_, rfl⟩ hd'
        rw [e]; exact pv
def spOpen0 (K : PySem.W.Frag) : Sp := fun vs H Q _ => ∃ (a : Addr) (ns : List Int), vs = [.ref a] ∧ SqL K H a (ns.map V.int) ∧ ns.length ≤ 63 ∧ ∀ (b c : Addr) (ms : List Int) (k : Int) (H' : Hp), H b = none → H c = none → b ≠ c → Same H H' → ms.length ≤ 63 → 0 ≤ k → k < 100000 →
  H' c = some (.lst (ms.map V.int)) → H' b = some (.lst [.ref c, .int 0, .int 0, .int k, .int 0]) → Q (.ref b) H'
def spOpen (K : PySem.W.Frag) : Sp := fun vs H Q _ => ∃ (a : Addr) (ns : List Int), vs = [.ref a] ∧ SqL K H a (ns.map V.int) ∧ ns.length ≤ 63 ∧ ∀ v H', Same H H' → BX v H' → Q v H'
theorem scL_open : FnScope ["_law_script"] ["_law_script"] (defScope sL_open) := ⟨rfl, rfl, rfl, by decide +kernel, rfl, by decide +kernel, by decide +kernel⟩
theorem cut_ints (ns : List Int) (k : Nat) : cutV (ns.map V.int) none (some (k : Int)) = (ns.take k).map V.int := by
  unfold cutV
  rw [HT.sIx_none, HT.sIx_nat, List.drop_zero, List.map_take, Nat.sub_zero]
  by_cases h : k ≤ (ns.map V.int).length
  · rw [Nat.min_eq_left h]
  · rw [Nat.min_eq_right (by omega), List.take_of_length_le (Nat.le_refl _), List.take_of_length_le (by omega)]
theorem ok_L_open0 (F : FnT K "_law_open" sL_open f fd) (g1 : mg "list" = none) (g2 : mg "len" = none) : FnOk P w K mg base CX0 1 f fd ["_law_script"] (spOpen0 K) := by
  refine fn_hs F scL_open (fun vs H Q E h => ?_) (fun cdv A outer sh H vs Q E hr h => ?_)
  · obtain ⟨a, ns, rfl, _⟩ := h
    rfl
  · obtain ⟨a, ns, rfl, hS, hl, q⟩ := h
    refine hs_cons (ps_ret (pe_lst (pa_cons (pe_callTy call_list_of (by rfl) g1 boot_list (pa_cons (pe_slice sl_list (pv 0) po_none (po_some pe_int)) pa_nil)) (pa_cons pe_int (pa_cons pe_int (pa_cons (pe_op op_add pe_int (pe_op op_mul pe_int (pe_callB call_len_seq (by rfl) g2 PySem.boot_len (pa_cons (pv 0) pa_nil)))) (pa_cons pe_int pa_nil))))))) ?_
    refine ⟨_, rfl, _, rfl, a, _, rfl, hS, fun p hp => ⟨p, _, rfl, .inl (sql_of upd_same), fun c hc => ?_⟩⟩
    have s1 : Same H (upd H p (.lst (cutV (ns.map V.int) none (some 63)))) := Same.new hp
    have hcp : p ≠ c := ne_of_none upd_same hc
    have hc0 : H c = none := s1.free hc
    have s2 := s1.trans (Same.new (o := .lst (cutV (ns.map V.int) none (some 63))) hc)
    refine ⟨_, rfl, a, _, rfl, .inl (sql_up s2 hS), 7, ((ns.map V.int).length : Int), rfl, rfl, .inl (by decide), 12016, 7 * ((ns.map V.int).length : Int), rfl, rfl, (by show 5 ≤ 16777216; decide), fun b hb => ?_⟩
    have hbc : b ≠ c := (ne_of_none upd_same hb).symm
    rw [List.length_map]
    refine q b c (ns.take 63) _ _ (s2.free hb) hc0 hbc (s2.trans (Same.new hb)) (by rw [List.length_take]; omega) (by omega) (by omega) ?_ upd_same
    rw [upd_ne hbc.symm, upd_same]
    exact congrArg (fun l => some (HO.lst l)) (cut_ints ns 63)
theorem ok_L_open (F : FnT K "_law_open" sL_open f fd) (g1 : mg "list" = none) (g2 : mg "len" = none) : FnOk P w K mg base CX0 1 f fd ["_law_script"] (spOpen K) := by
  refine FnOk.close (ok_L_open0 F g1 g2) (fun vs H Q E h => by obtain ⟨a, ns, rfl, _⟩ := h; rfl) fun vs H Q E h => ?_
  obtain ⟨a, ns, rfl, hS, hl, q⟩ := h
  refine ⟨a, ns, rfl, hS, hl, fun b c ms k H' nb nc nbc sm hm k0 k1 hc hb => ⟨b, _, boxPhi b c, nb, hb, sm, fun h' o => box_of ⟨0, 0, k, 0, rfl, by omega, by omega, k0, by omega, by omega⟩ o, box_stab, ?_⟩⟩
  refine q _ _ (fun x o e => by rw [upd_ne (ne_of_none e nb)]; exact sm _ _ e) ⟨b, c, ms, rfl, nbc, upd_same, by rw [upd_ne nbc.symm]; exact hc, hm⟩
def spTake0 : Sp := fun vs H Q _ => ∃ (b c : Addr) (ns : List Int) (sz : Int) (xs : List V), vs = [.ref b, .int sz] ∧ b ≠ c ∧ H b = some (.lst xs) ∧ BoxV c xs ∧ H c = some (.lst (ns.map V.int)) ∧ ns.length ≤ 63 ∧ 0 < sz ∧ sz < 1073741824 ∧
  ∀ (n : Int) (H' : Hp) (ys : List V), 0 ≤ n → n < sz → (∀ a o, H a = some o → a ≠ b → H' a = some o) → H' b = some (.lst ys) → BoxV c ys → Q (.int n) H'
def Ftake : List PyData → (PyData → Prop) → Prop := fun ds G => ∃ sz, ds = [.int sz] ∧ 0 < sz ∧ sz < 1073741824 ∧ G = fun d => ∃ n, d = .int n ∧ 0 ≤ n ∧ n < sz
theorem scL_take : FnScope ["_law_box", "_law_size", "_law_cell", "_law_digit", "_law_seed"] ["_law_box", "_law_size"] (defScope sL_take) := ⟨rfl, rfl, rfl, by decide +kernel, rfl, by decide +kernel, by decide +kernel⟩
theorem bound_mod {x y : Int} (h : 0 < y) : 0 ≤ x % y ∧ x % y < y := ⟨Int.emod_nonneg x (by omega), Int.emod_lt_of_pos x h⟩
/-- the box at b in H', all else as in H -/
structure TkI (H : Hp) (b c : Addr) (H' : Hp) (i g m k : Int) : Prop where
  hb : H' b = some (.lst [.ref c, .int i, .int g, .int m, .int k])
  ot : ∀ a o, H a = some o → a ≠ b → H' a = some o
  i0 : 0 ≤ i
  g0 : 0 ≤ g
  m0 : 0 ≤ m
  m1 : m < 2147483648
  k0 : 0 ≤ k
theorem TkI.up {H : Hp} {b c : Addr} {H1 H2 : Hp} {i g m k : Int} (t : TkI H b c H1 i g m k) (s : Same H1 H2) : TkI H b c H2 i g m k := ⟨s _ _ t.hb, fun a o h n => s _ _ (t.ot a o h n), t.i0, t.g0, t.m0, t.m1, t.k0⟩
theorem TkI.put {H : Hp} {b c : Addr} {H1 : Hp} {i g m k i' g' m' k' : Int} (t : TkI H b c H1 i g m k) (xs : List V) (e : xs = [.ref c, .int i', .int g', .int m', .int k']) (a0 : 0 ≤ i') (a1 : 0 ≤ g') (a2 : 0 ≤ m') (a3 : m' < 2147483648) (a4 : 0 ≤ k') : TkI H b c (upd H1 b (.lst xs)) i' g' m' k' := by
  subst e
  exact ⟨upd_same, fun a o h n => by rw [upd_ne n]; exact t.ot a o h n, a0, a1, a2, a3, a4⟩
theorem small64' {z : Int} (h0 : 0 ≤ z) (h : z < 2147483648) : -(2 ^ 64) < z ∧ z < 2 ^ 64 := by
  have e : (2 : Int) ^ 64 = 18446744073709551616 := by decide
  omega
theorem ok_L_take0 (F : FnT K "_law_take" sL_take f fd) (g1 : mg "len" = none) (g2 : mg "int" = none) : FnOk P w K mg base CX0 1 f fd ["_law_box", "_law_size"] spTake0 := by
  refine fn_hs F scL_take (fun vs H Q E h => ?_) (fun cdv A outer sh H vs Q E hr h => ?_)
  · obtain ⟨b, c, ns, sz, xs, rfl, _⟩ := h
    rfl
  · obtain ⟨b, c, ns, sz, xs, rfl, hbc, hb, hx, hc, hl, z0, z1, q⟩ := h
    obtain ⟨i, g, m, k, rfl, i0, g0, m0, m1, k0⟩ := hx.ex
    have T0 : TkI H b c H i g m k := ⟨hb, fun a o h _ => h, i0, g0, m0, m1, k0⟩
    have eb : ∀ {σ : L2.St} {S : Hp} {pos : Pos}, σ[0]? = some (some (V.ref b)) → EE (cxOf CX0 P w K mg base ["_law_box", "_law_size", "_law_cell", "_law_digit", "_law_seed"] "_law_take" (defScope sL_take) f cdv A outer sh H E).nox σ S (.Name "_law_box" pos) (fun w _ => w = .ref b) := fun h => ee_var 0 h rfl
    have hnz : ns.length ≤ sizeLine := Nat.le_trans hl (by decide)
    have ec : ∀ {S : Hp} {i g m k : Int} {σ : L2.St} {p1 p2 p3 : Pos} {n : Nat}, TkI H b c S i g m k → σ[0]? = some (some (V.ref b)) → EE (cxOf CX0 P w K mg base ["_law_box", "_law_size", "_law_cell", "_law_digit", "_law_seed"] "_law_take" (defScope sL_take) f cdv A outer sh H E).nox σ S (.Subscript (.Name "_law_box" p1) (.Constant (.int 0) n p2) p3) (Dt K (lI ns)) := fun {S i g m k} _ _ _ _ _ T h =>
      ee_ixB T.hb (eb h) ee_int (v := .ref c) rfl fun S' s => Dt.lst_mk (s _ _ (T.ot _ _ hc hbc.symm)) (int_dts ns S') (by rw [List.length_map]; exact hnz)
    refine hs_ifR (S := H) (fun σ' H' => ∃ (v : Option V) (i g m k : Int), σ' = [some (.ref b), some (.int sz), v, none, none] ∧ TkI H b c H' i g m k)
      (et_w (ew_and (et_eqI (ee_ixB hb (eb rfl) ee_int (v := .int g) rfl fun _ _ => .int g) ee_int) fun _ => ew_and1 (et_lt (ee_ixB hb (eb rfl) ee_int (v := .int i) rfl fun _ _ => .int i) (ee_len g1 (n := ns.length) (by simp [lI, lenD]) (ec T0 rfl))))) (Same.refl H) (fun hk S1 H1 g1' => ?_) (fun hk S1 H1 g1' => hs_nil ⟨none, i, g, m, k, rfl, T0.up g1'.hh⟩) ?_
    · -- a cell is taken
      have hi : i < (ns.length : Int) := by
        have h2 := (Bool.and_eq_true_iff.mp hk).2
        exact of_decide_eq_true h2
      have T1 := T0.up g1'.hh
      have hget : atI (ns.map PyData.int) i = some (.int (ns[i.toNat]'(by omega))) := by
        unfold atI ixN
        rw [if_pos i0, List.length_map, if_pos hi]
        show (ns.map PyData.int)[i.toNat]? = _
        rw [List.getElem?_map, List.getElem?_eq_getElem (by omega)]
        rfl
      refine hs_set (S := H1) (i := 2) (ee_ixL hget (ec T1 rfl) (ee_ixB T1.hb (eb rfl) ee_int (v := .int i) rfl fun _ _ => .int i)) (Same.refl _) scL_take.nd fun v S2 H2 g2' pv => ?_
      cases pv
      have T2 := T1.up g2'.hh
      refine hs_setL (ee_add (ee_ixB T2.hb (eb rfl) ee_int (v := .int i) rfl fun _ _ => .int i) ee_int) (eb rfl) ee_int T2.hb (j := 1) rfl fun v H3 s3 pv => ?_
      cases pv
      have T3 := (T2.up s3).put ([.ref c, .int i, .int g, .int m, .int k].set 1 (.int (i + 1))) rfl (by omega) g0 m0 m1 k0
      refine hs_if (S := _) (et_ge (ee_var 2 rfl (Dt.int (K := K) _)) (ee_pow (by exact ⟨by decide, by decide, by decide⟩) ee_int ee_int)) (Same.refl _) (fun hk4 S4 H4 g4 => ?_) (fun hk4 S4 H4 g4 => ?_)
      · have T4 := T3.up g4.hh
        have hge := of_decide_eq_true hk4
        refine hs_setL (ee_var 2 rfl (Dt.int (K := K) _)) (eb rfl) ee_int T4.hb (j := 2) rfl fun v H5 s5 pv => hs_nil (hs_nil ?_)
        cases pv
        have e18 : (0 : Int) ≤ 10 ^ (18 : Int).toNat := by decide
        exact ⟨_, i + 1, _, m, k, rfl, (T4.up s5).put _ rfl (by omega) (by omega) m0 m1 k0⟩
      · have T4 := T3.up g4.hh
        have b1 := @bound_mod (ns[i.toNat]'(by omega)) 2147483497 (by decide)
        refine hs_setL (ee_mod (by decide) (ee_intOf g2 (ee_add (ee_add (ee_mulS (.inr (by decide)) (ee_ixB T4.hb (eb rfl) ee_int (v := .int m) rfl fun _ _ => .int m) ee_int) (ee_mulS (.inr (by decide)) (ee_mod (by decide) (ee_intOf g2 (ee_var 2 rfl (Dt.int (K := K) _))) ee_int) ee_int)) ee_int)) ee_int) (eb rfl) ee_int T4.hb (j := 3) rfl fun v H5 s5 pv => hs_nil (hs_nil ?_)
        cases pv
        have b2 := @bound_mod (m * 39119 + ns[i.toNat]'(by omega) % 2147483497 * 6143 + 53) 2147483563 (by decide)
        exact ⟨_, i + 1, g, _, k, rfl, (T4.up s5).put _ rfl (by omega) g0 b2.1 (by omega) k0⟩
    · rintro σ' H2 ⟨v, i, g, m, k, rfl, T2⟩
      have g0 := T2.g0
      have m0 := T2.m0
      refine hs_if (S := H2) (et_gt (ee_ixB T2.hb (eb rfl) ee_int (v := .int g) rfl fun _ _ => .int g) ee_int) (Same.refl _) (fun hk S3 H3 g3 => ?_) (fun hk S3 H3 g3 => hs_nil ?_)
      · have T3 := T2.up g3.hh
        refine hs_set (S := H3) (i := 3) (ee_mod z0 (ee_intOf g2 (ee_ixB T3.hb (eb rfl) ee_int (v := .int g) rfl fun _ _ => .int g)) (ee_var 1 rfl (Dt.int (K := K) sz))) (Same.refl _) scL_take.nd fun v S4 H4 g4 pv => ?_
        cases pv
        have T4 := T3.up g4.hh
        have b3 := @bound_mod g sz z0
        refine hs_setL (ee_fdiv (wide_div (b := 31) z0 (by omega) (by decide) (by decide)) (ee_ixB T4.hb (eb rfl) ee_int (v := .int g) rfl fun _ _ => .int g) (ee_var 1 rfl (Dt.int (K := K) sz))) (eb rfl) ee_int T4.hb (j := 2) rfl fun v H5 s5 pv => ?_
        cases pv
        have T5 := (T4.up s5).put ([.ref c, .int i, .int g, .int m, .int k].set 2 (.int (g / sz))) rfl T2.i0 (Int.ediv_nonneg g0 (by omega)) T2.m0 T2.m1 T2.k0
        refine hs_ret (S := _) (ee_var 3 rfl (Dt.int (K := K) _)) (Same.refl _) fun v S6 H6 g6 pv => ?_
        cases pv
        have T6 := T5.up g6.hh
        exact q _ H6 _ b3.1 b3.2 T6.ot T6.hb ⟨i, g / sz, m, k, rfl, T6.i0, T6.g0, T6.m0, T6.m1, T6.k0⟩
      · have T3 := T2.up g3.hh
        refine hs_setL (ee_add (ee_ixB T3.hb (eb rfl) ee_int (v := .int k) rfl fun _ _ => .int k) ee_int) (eb rfl) ee_int T3.hb (j := 4) rfl fun v H4 s4 pv => ?_
        cases pv
        have k0 := T3.k0
        have T4 := (T3.up s4).put ([.ref c, .int i, .int g, .int m, .int k].set 4 (.int (k + 1))) rfl T3.i0 T3.g0 T3.m0 T3.m1 (by omega)
        refine hs_set (S := _) (i := 4) (ee_ixB (P := Dt K (.int m)) T4.hb (eb rfl) ee_int (v := .int m) rfl fun _ _ => .int m) (Same.refl _) scL_take.nd fun v S5 H5 g5 pv => ?_
        cases pv
        have T5 := T4.up g5.hh
        refine hs_setL (ee_mod (by decide) (ee_intOf g2 (ee_add (ee_add (ee_add (ee_mulS (.inl (small64' m0 T2.m1)) (ee_var 4 rfl (Dt.int (K := K) m)) (ee_var 4 rfl (Dt.int (K := K) m))) (ee_mulS (.inr (by decide)) (ee_var 4 rfl (Dt.int (K := K) m)) ee_int)) (ee_mulS (.inr (by decide)) (ee_ixB T5.hb (eb rfl) ee_int (v := .int (k + 1)) rfl fun _ _ => .int (k + 1)) ee_int)) ee_int)) ee_int) (eb rfl) ee_int T5.hb (j := 3) rfl fun v H6 s6 pv => ?_
        cases pv
        have b2 := @bound_mod (m * m + m * 28411 + (k + 1) * 1500007 + 90001) 2147483587 (by decide)
        have T6 := (T5.up s6).put ([.ref c, .int i, .int g, .int m, .int (k + 1)].set 3 (.int ((m * m + m * 28411 + (k + 1) * 1500007 + 90001) % 2147483587))) rfl T5.i0 T5.g0 b2.1 (by omega) (by omega)
        refine hs_ret (S := _) (ee_mod z0 (ee_intOf g2 (ee_add (ee_fdiv (wide_div (b := 31) (by decide) (by decide) (by decide) (by decide)) (ee_ixB T6.hb (eb rfl) ee_int (P := Dt K (.int ((m * m + m * 28411 + (k + 1) * 1500007 + 90001) % 2147483587))) (v := .int ((m * m + m * 28411 + (k + 1) * 1500007 + 90001) % 2147483587)) rfl fun _ _ => .int _) ee_int) (ee_mulS (.inr (by decide)) (ee_mod (by decide) (ee_intOf g2 (ee_ixB T6.hb (eb rfl) ee_int (P := Dt K (.int ((m * m + m * 28411 + (k + 1) * 1500007 + 90001) % 2147483587))) (v := .int ((m * m + m * 28411 + (k + 1) * 1500007 + 90001) % 2147483587)) rfl fun _ _ => .int _)) ee_int) ee_int))) (ee_var 1 rfl (Dt.int (K := K) sz))) (Same.refl _) fun v S7 H7 g7 pv => ?_
        cases pv
        have T7 := T6.up g7.hh
        exact q _ H7 _ (bound_mod z0).1 (bound_mod z0).2 T7.ot T7.hb ⟨_, _, _, _, rfl, T7.i0, T7.g0, T7.m0, T7.m1, T7.k0⟩
theorem ok_L_take (F : FnT K "_law_take" sL_take f fd) (g1 : mg "len" = none) (g2 : mg "int" = none) : FnOk P w K mg base CX0 1 f fd ["_law_box", "_law_size"] (spB K Ftake) := by
  refine FnOk.box (ok_L_take0 F g1 g2) (fun vs H Q E h => ?_) fun vs H Q E h => ?_
  · obtain ⟨S, v, ws, ds, G, rfl, _, _, hd, ⟨sz, rfl, _⟩, _⟩ := h
    have := hd.1
    simp at this
    simp [this]
  · obtain ⟨S, v, ws, ds, G, rfl, s, ⟨b, c, ns, rfl, hbc, hb, hc, hl⟩, hd, ⟨sz, rfl, z0, z1, rfl⟩, q⟩ := h
    obtain ⟨u, rfl, pu⟩ := hd.one
    cases pu
    refine ⟨b, boxPhi b c, s _ _ hb, fun h p => ?_⟩
    obtain ⟨xs, hx, ox⟩ := of_box (P := P) (w := w) (H := H) p
    refine ⟨xs, ox, b, c, ns, sz, xs, rfl, hbc, upd_same, hx, by rw [upd_ne hbc.symm]; exact s _ _ hc, hl, z0, z1, fun n H' ys n0 n1 ot hy hys => ⟨ys, hy, fun h' o => box_of hys o, fun a o e ne => ot a o (by rw [upd_ne ne]; exact e) ne, ?_⟩⟩
    have sm : Same H (upd H' b (.ext (boxPhi b c))) := fun a o e => by
      by_cases ha : a = b
      · subst ha; rw [upd_same]; rw [s _ _ hb] at e; exact e
      · rw [upd_ne ha]; exact ot a o (by rw [upd_ne ha]; exact e) ha
    exact q (.int n) ⟨n, rfl, n0, n1⟩ _ S _ ⟨Same.refl S, s.trans sm, sm, fun _ _ _ _ => rfl⟩ (Dt.int n)
def Fone : List PyData → (PyData → Prop) → Prop := fun ds G => ∃ xs, ds = [.list xs] ∧ 0 < xs.length ∧ xs.length < 1073741824 ∧ G = fun d => d ∈ xs
theorem scL_one : FnScope ["_law_box", "_law_some"] ["_law_box", "_law_some"] (defScope sL_one) := ⟨rfl, rfl, rfl, by decide +kernel, rfl, by decide +kernel, by decide +kernel⟩
theorem ok_L_one (F : FnT K "_law_one" sL_one f fd) (D1 : KD P w K mg base "_law_take" 1 (spB K Ftake)) (g1 : mg "len" = none) : FnOk P w K mg base CX0 2 f fd ["_law_box", "_law_some"] (spB K Fone) := by
  refine fn_hs F scL_one (fun vs H Q E h => ?_) (fun cdv A outer sh H vs Q E hr h => ?_)
  · obtain ⟨S, v, ws, ds, G, rfl, _, _, hd, ⟨xs, rfl, _⟩, _⟩ := h
    have := hd.1
    simp at this
    simp [this]
  · obtain ⟨S, v, ws, ds, G, rfl, s, hb, hd, ⟨xs, rfl, z0, z1, rfl⟩, q⟩ := h
    obtain ⟨u, rfl, pu⟩ := hd.one
    refine hs_ret (ee_ixE (ee_var 1 rfl pu) ((ee_callBx D1 hr ⟨xs.length, rfl, by omega, by omega, rfl⟩ (ea_2 (ee_var 0 rfl hb) (ee_len g1 rfl (ee_var 1 rfl pu)))).exi fun d ⟨n, e, n0, n1⟩ => ⟨n, e, n0, n1⟩)) s ?_
    rintro v S' H' g ⟨d, hd, pd⟩
    exact q d hd v S' H' g pd
def oddL : List PyData := [.none, .bool true, .bool false, .str "", .str "Q7", .int (-1), .tuple [.int 1, .str "a"], .list [.int 1], .tuple [], .list [.str "a"], .tuple [.bool true]]
def Fodd : List PyData → (PyData → Prop) → Prop := fun ds G => ∃ xs, ds = [.list xs] ∧ xs.length ≤ 1000 ∧ G = fun d => d ∈ oddL ++ xs
theorem scL_odd : FnScope ["_law_box", "_law_more"] ["_law_box", "_law_more"] (defScope sL_odd) := ⟨rfl, rfl, rfl, by decide +kernel, rfl, by decide +kernel, by decide +kernel⟩
theorem ok_L_odd (F : FnT K "_law_odd" sL_odd f fd) (D1 : KD P w K mg base "_law_one" 2 (spB K Fone)) : FnOk P w K mg base CX0 3 f fd ["_law_box", "_law_more"] (spB K Fodd) := by
  refine fn_hs F scL_odd (fun vs H Q E h => ?_) (fun cdv A outer sh H vs Q E hr h => ?_)
  · obtain ⟨S, v, ws, ds, G, rfl, _, _, hd, ⟨xs, rfl, _⟩, _⟩ := h
    have := hd.1
    simp at this
    simp [this]
  · obtain ⟨S, v, ws, ds, G, rfl, s, hb, hd, ⟨xs, rfl, z1, rfl⟩, q⟩ := h
    obtain ⟨u, rfl, pu⟩ := hd.one
    have l11 : oddL.length = 11 := rfl
    refine hs_ret (ee_callBx D1 hr ⟨oddL ++ xs, rfl, by rw [List.length_append, l11]; omega, by rw [List.length_append, l11]; omega, rfl⟩ (ea_2 (ee_var 0 rfl hb) (ee_catL (by rw [l11]; show _ ≤ 16777216; omega)
      (ee_lst (ds := oddL) (ea_cons ee_non (ea_cons ee_bl (ea_cons ee_bl (ea_cons ee_str (ea_cons ee_str (ea_cons (ee_neg ee_int) (ea_cons (ee_tup (ds := [.int 1, .str "a"]) (ea_2 ee_int ee_str)) (ea_cons (ee_lst (ds := [.int 1]) (ea_1 ee_int)) (ea_cons (ee_tup (ds := []) ea_nil) (ea_cons (ee_lst (ds := [.str "a"]) (ea_1 ee_str)) (ea_cons (ee_tup (ds := [.bool true]) (ea_1 ee_bl)) ea_nil)))))))))))) (ee_var 1 rfl pu)))) s ?_
    rintro v S' H' g ⟨d, hd, pd⟩
    exact q d hd v S' H' g pd
def Fexp : List PyData → (PyData → Prop) → Prop := fun ds G => ∃ (n : Nat) (m : Int), ds = [.int n, .int m] ∧ n ≤ 1000 ∧ 0 ≤ m ∧ m < 1000000 ∧ G = fun d => ∃ l : List Int, d = tI l ∧ l.length = n ∧ ∀ x ∈ l, 0 ≤ x ∧ x ≤ m
theorem scL_exp : FnScope ["_law_box", "_law_many", "_law_most", "_law_at"] ["_law_box", "_law_many", "_law_most"] (defScope sL_exp) := ⟨rfl, rfl, rfl, by decide +kernel, rfl, by decide +kernel, by decide +kernel⟩
theorem paired_ints {ds rs : List PyData} {G : Int → Prop} (h : Paired (fun _ d => ∃ i, d = .int i ∧ G i) ds rs) : ∃ l : List Int, rs = l.map .int ∧ l.length = ds.length ∧ ∀ x ∈ l, G x := by
  induction h with
  | nil => exact ⟨[], rfl, rfl, fun _ h => nomatch h⟩
  | cons g _ ih =>
    obtain ⟨i, rfl, gi⟩ := g
    obtain ⟨l, rfl, h2, h3⟩ := ih
    exact ⟨i :: l, rfl, by simp [h2], fun x hx => by
      rcases List.mem_cons.mp hx with rfl | hx
      · exact gi
      · exact h3 x hx⟩
theorem ok_L_exp (F : FnT K "_law_exp" sL_exp f fd) (D1 : KD P w K mg base "_law_take" 1 (spB K Ftake)) (g1 : mg "tuple" = none) (g2 : mg "range" = none) : FnOk P w K mg base CX0 2 f fd ["_law_box", "_law_many", "_law_most"] (spB K Fexp) := by
  refine fn_hs F scL_exp (fun vs H Q E h => ?_) (fun cdv A outer sh H vs Q E hr h => ?_)
  · obtain ⟨S, v, ws, ds, G, rfl, _, _, hd, ⟨n, m, rfl, _⟩, _⟩ := h
    have := hd.1
    simp at this
    simp [this]
  · obtain ⟨S, v, ws, ds, G, rfl, s, hb, hd, ⟨n, m, rfl, hn, m0, m1, rfl⟩, q⟩ := h
    obtain ⟨v1, v2, rfl, p1, p2⟩ := hd.two
    refine hs_ret ((ee_tupleE g1 (ee_lcN (i := 3) rfl scL_exp.nd (blkOk_by (N := ["_law_box", "_law_many", "_law_most", "_law_at"]) (sc := defScope sL_exp) (by decide +kernel)) (ei_range g2 (by omega) (ee_var 1 rfl p1)) (by rw [upto_len]; show _ ≤ 16777216; omega)
      (F := fun _ d => ∃ i, d = .int i ∧ 0 ≤ i ∧ i ≤ m) fun x hx v S2 s2 pv sh' H0 C cl fp => ?_)).exi (G := fun d => ∃ l : List Int, d = tI l ∧ l.length = n ∧ ∀ x ∈ l, 0 ≤ x ∧ x ≤ m) fun d ⟨rs, e, hp⟩ => ?_) s ?_
    · exact (ee_callBx D1 hr ⟨m + 1, rfl, by omega, by omega, rfl⟩ (ea_2 (ee_var 0 rfl (Mn.up s2 hb)) (ee_add (ee_var 2 rfl (p2.up s2)) ee_int))).exi fun d ⟨i, e, i0, i1⟩ => ⟨i, e, i0, by omega⟩
    · obtain ⟨l, rfl, h2, h3⟩ := paired_ints hp
      exact ⟨l, e, by rw [h2, upto_len], h3⟩
    · rintro v S' H' g ⟨d, hd, pd⟩
      exact q d hd v S' H' g pd
def Fkind : List PyData → PyData → Prop := fun ds r => ∃ d, ds = [d] ∧ r = .int (kindN d : Nat)
theorem scL_kind : FnScope ["_law_thing", "_law_marks"] ["_law_thing"] (defScope sL_kind) := ⟨rfl, rfl, rfl, by decide +kernel, rfl, by decide +kernel, by decide +kernel⟩
theorem ok_L_kind (F : FnT K "_law_kind" sL_kind f fd) (g1 : mg "isinstance" = none) (g2 : mg "bool" = none) (g3 : mg "int" = none) (g4 : mg "str" = none) (g5 : mg "list" = none) (g6 : mg "tuple" = none) : FnOk P w K mg base CX0 1 f fd ["_law_thing"] (spD K Fkind) := by
  refine fn_hs F scL_kind (fun vs H Q E h => ?_) (fun cdv A outer sh H vs Q E hr h => ?_)
  · obtain ⟨S, ds, d, _, hd, ⟨_, rfl, _⟩, _⟩ := h
    exact hd.1
  · obtain ⟨S, ds, r, s, hd, ⟨d, rfl, rfl⟩, q⟩ := h
    obtain ⟨v, rfl, p⟩ := hd.one
    refine hs_set (i := 1) (ee_lst (ds := [.bool (decide (kindN d = 0)), .bool (isD d "bool"), .bool (isD d "int"), .bool (isD d "str")]) (ea_cons (by rw [← dt_non p]; exact ee_isN (ee_var 0 rfl rfl)) (ea_cons (ee_isi (isD_ok d (T := "bool") (by simp)) g1 g2 boot_bool (ee_var 0 rfl p)) (ea_cons (ee_isi (isD_ok d (T := "int") (by simp)) g1 g3 boot_int (ee_var 0 rfl p)) (ea_cons (ee_isi (isD_ok d (T := "str") (by simp)) g1 g4 boot_str (ee_var 0 rfl p)) ea_nil))))) s scL_kind.nd fun m1 S1 H1 gr1 pm1 => ?_
    have p1 := p.up gr1.st
    refine hs_set (i := 1) (ee_catL (by show _ ≤ 16777216; exact Nat.le_of_ble_eq_true rfl) (ee_var 1 rfl pm1) (ee_lst (ds := [.bool (isD d "list"), .bool (isD d "tuple"), .bool true]) (ea_cons (ee_isi (isD_ok d (T := "list") (by simp)) g1 g5 boot_list (ee_var 0 rfl p1)) (ea_cons (ee_isi (isD_ok d (T := "tuple") (by simp)) g1 g6 boot_tuple (ee_var 0 rfl p1)) (ea_cons ee_bl ea_nil))))) gr1.sub scL_kind.nd fun m2 S2 H2 gr2 pm2 => ?_
    exact hs_ret (ee_indexT (bs := marksL d) (marks_at d) (marks_no d) (ee_var 1 rfl pm2) ee_bl) gr2.sub fun v S3 H3 gr3 pv => q v S3 H3 (gr1.trans (gr2.trans gr3)) pv
def Fsame (n : Nat) : List PyData → PyData → Prop := fun ds r => ∃ d, ds = [d, d] ∧ Bd n d ∧ r = .bool true
theorem scL_same : FnScope ["_law_found", "_law_due", "_law_a", "_law_b"] ["_law_found", "_law_due"] (defScope sL_same) := ⟨rfl, rfl, rfl, by decide +kernel, rfl, by decide +kernel, by decide +kernel⟩
theorem okL_same_all (xs : List PyData) : ((xs.zip xs).map fun _ => true).all (fun b => b) = true := by
  rw [List.all_eq_true]
  intro b hb
  obtain ⟨_, _, rfl⟩ := List.mem_map.mp hb
  rfl
theorem ok_L_same (F : FnT K "_law_same" sL_same f fd) (hm : mg "_law_same" = some (.ref f)) (hb : Binds K fd ["_law_found", "_law_due"] []) (D1 : KD P w K mg base "_law_kind" 1 (spD K Fkind)) (g1 : mg "len" = none) (g2 : mg "all" = none) (g3 : mg "zip" = none) : ∀ n : Nat, FnOk P w K mg base CX0 (n + 2) f fd ["_law_found", "_law_due"] (spD K (Fsame n)) := by
  have step : ∀ n : Nat, (∀ m, n = m + 1 → FnOk P w K mg base CX0 (m + 2) f fd ["_law_found", "_law_due"] (spD K (Fsame m))) → FnOk P w K mg base CX0 (n + 2) f fd ["_law_found", "_law_due"] (spD K (Fsame n)) := fun n ih => by
    refine fn_hs F scL_same (fun vs H Q E h => ?_) (fun cdv A outer sh H vs Q E hr h => ?_)
    · obtain ⟨S, ds, d, _, hd, ⟨_, rfl, _⟩, _⟩ := h
      exact hd.1
    · obtain ⟨S, ds, r, s, hd, ⟨d, rfl, hbd, rfl⟩, q⟩ := h
      obtain ⟨v1, v2, rfl, p1, p2⟩ := hd.two
      refine hs_ifN ((et_neI (ee_callD D1 (hr.mono (by omega)) ⟨d, rfl, rfl⟩ (ea_1 (ee_var 0 rfl p1))) (ee_callD D1 (hr.mono (by omega)) ⟨d, rfl, rfl⟩ (ea_1 (ee_var 1 rfl p2)))).is (by simp)) s fun S1 H1 g4 => ?_
      have p1 := p1.up g4.st
      have p2 := p2.up g4.st
      refine hs_if (et_inT (ns := [4, 5]) (ee_callD D1 (hr.mono (by omega)) ⟨d, rfl, rfl⟩ (ea_1 (ee_var 1 rfl p2))) (ee_tup (ds := [.int 4, .int 5]) (ea_2 ee_int ee_int))) g4.sub (fun hk S2 H2 g5 => ?_) (fun hk S2 H2 g5 => hs_nil ?_)
      · have p1 := p1.up g5.st
        have p2 := p2.up g5.st
        obtain ⟨m, rfl⟩ : ∃ m, n = m + 1 := by
          cases n with
          | zero => exfalso; cases d <;> first | (simp [kindN] at hk; done) | exact hbd
          | succ m => exact ⟨m, rfl⟩
        have D2 : KD P w K mg base "_law_same" (m + 2) (spD K (Fsame m)) := ⟨f, fd, _, ih m rfl, hm, F.kp, hb⟩
        cases d with
        | list xs =>
          have hz : xs.length ≤ sizeLine := by obtain ⟨l, ys, _, _, hx, z⟩ := p1.lst_inv; rw [← hx.1]; exact z
          refine hs_ret ((ee_and (ee_eqI (ee_len g1 rfl (ee_var 0 rfl p1)) (ee_len g1 rfl (ee_var 1 rfl p2))) fun _ => ee_one (ee_all (bs := (xs.zip xs).map fun _ => true) rfl g2
            (ee_lc2 (i := 2) (j := 3) (enc := .bool) (f := fun _ => true) rfl scL_same.nd (blkOk_by (N := ["_law_found", "_law_due", "_law_a", "_law_b"]) (sc := defScope sL_same) (by decide +kernel)) (by rw [← zipD_eq]; exact ei_zipL g3 (ee_var 0 rfl p1) (ee_var 1 rfl p2)) (by rw [zip_self, List.length_map]; exact hz) ?_))).isd ?_) g5.sub fun v S3 H3 g6 pv => q v S3 H3 (g4.trans (g5.trans g6)) pv
          · intro p hp v u S2 s2 pv pu sh' H0 C cl fp
            rw [zip_self] at hp
            obtain ⟨x, hx, rfl⟩ := List.mem_map.mp hp
            exact ee_callD D2 (hr.mono (by omega)) ⟨x, rfl, hbd x hx, rfl⟩ (ea_2 (ee_var 2 rfl pv) (ee_var 3 rfl pu))
          · rw [okL_same_all]; simp
        | tuple xs =>
          have hz : xs.length ≤ sizeLine := by obtain ⟨l, ys, _, _, hx, z⟩ := p1.tup_inv; rw [← hx.1]; exact z
          refine hs_ret ((ee_and (ee_eqI (ee_len g1 rfl (ee_var 0 rfl p1)) (ee_len g1 rfl (ee_var 1 rfl p2))) fun _ => ee_one (ee_all (bs := (xs.zip xs).map fun _ => true) rfl g2
            (ee_lc2 (i := 2) (j := 3) (enc := .bool) (f := fun _ => true) rfl scL_same.nd (blkOk_by (N := ["_law_found", "_law_due", "_law_a", "_law_b"]) (sc := defScope sL_same) (by decide +kernel)) (by rw [← zipD_eq]; exact ei_zipT g3 (ee_var 0 rfl p1) (ee_var 1 rfl p2)) (by rw [zip_self, List.length_map]; exact hz) ?_))).isd ?_) g5.sub fun v S3 H3 g6 pv => q v S3 H3 (g4.trans (g5.trans g6)) pv
          · intro p hp v u S2 s2 pv pu sh' H0 C cl fp
            rw [zip_self] at hp
            obtain ⟨x, hx, rfl⟩ := List.mem_map.mp hp
            exact ee_callD D2 (hr.mono (by omega)) ⟨x, rfl, hbd x hx, rfl⟩ (ea_2 (ee_var 2 rfl pv) (ee_var 3 rfl pu))
          · rw [okL_same_all]; simp
        | _ => exfalso; simp [kindN] at hk; done
      · have p1 := p1.up g5.st
        have p2 := p2.up g5.st
        have fin : ∀ b : Bool, b = true → ∀ v S3 H3, Gr S2 H2 S3 H3 → Dt K (.bool b) v S3 → Q v H3 := fun b hb v S3 H3 g6 pv => q v S3 H3 (g4.trans (g5.trans g6)) (hb ▸ pv)
        cases d with
        | none => exact hs_ret (ee_eq hr (by decide +kernel) (by decide +kernel) (ee_var 0 rfl p1) (ee_var 1 rfl p2)) g5.sub (fin _ rfl)
        | bool b => exact hs_ret (ee_eq hr (by cases b <;> decide +kernel) (by cases b <;> decide +kernel) (ee_var 0 rfl p1) (ee_var 1 rfl p2)) g5.sub (fin _ (by cases b <;> rfl))
        | int i => exact hs_ret (ee_eqI (ee_var 0 rfl p1) (ee_var 1 rfl p2)) g5.sub (fin _ (by simp))
        | str x => exact hs_ret (ee_eqS (ee_var 0 rfl p1) (ee_var 1 rfl p2)) g5.sub (fin _ (by simp))
        | list xs => exfalso; simp [kindN] at hk; done
        | tuple xs => exfalso; simp [kindN] at hk; done
        | dict xs => exfalso; cases n <;> exact hbd
  intro n
  induction n with
  | zero => exact step 0 fun m h => nomatch h
  | succ n ih => exact step (n + 1) fun m h => by cases h; exact ih
end
end K42
namespace K42
open PySem PySem.Spec PyProof.Rows L2 Z Y
def alpha : Str := "abcdefghijklmnopqrstuvwxyz"
theorem alpha_at : ∀ n : Nat, n < 26 → atI alpha.cps.toList (n : Int) = some (97 + n) := by
  have h : ((List.range 26).all fun n => decide (atI alpha.cps.toList ((n : Nat) : Int) = some (97 + n))) = true := by decide +kernel
  intro n hn
  exact of_decide_eq_true (List.all_eq_true.mp h n (List.mem_range.mpr hn))
theorem alpha_len : alpha.length ≤ sizeLine := by decide +kernel
/-- the columns that a law draws -/
def colCode (a s : Int) (i : Nat) : Nat := 97 + ((a + s * (i : Int)) % 26).toNat
def cols (a s : Int) (n : Nat) : Str := ⟨((List.range n).map (colCode a s)).toArray⟩
def stepOk (s : Int) : Prop := s ∈ ([1, 25, 3, 7, 11] : List Int)
theorem col_range (a s : Int) (i : Nat) : 97 ≤ colCode a s i ∧ colCode a s i ≤ 122 := by
  unfold colCode
  have h1 := Int.emod_nonneg (a + s * (i : Int)) (show (26 : Int) ≠ 0 by decide)
  have h2 := Int.emod_lt_of_pos (a + s * (i : Int)) (show (0 : Int) < 26 by decide)
  omega
theorem col_inj {a s : Int} (hs : stepOk s) {i j : Nat} (hi : i < 3) (hj : j < 3) (h : colCode a s i = colCode a s j) : i = j := by
  unfold colCode at h
  have hs : s = 1 ∨ s = 25 ∨ s = 3 ∨ s = 7 ∨ s = 11 := by simpa [stepOk] using hs
  have hi : i = 0 ∨ i = 1 ∨ i = 2 := by omega
  have hj : j = 0 ∨ j = 1 ∨ j = 2 := by omega
  rcases hs with rfl | rfl | rfl | rfl | rfl <;> rcases hi with rfl | rfl | rfl <;> rcases hj with rfl | rfl | rfl <;> omega
theorem cols_nodup {a s : Int} (hs : stepOk s) {n : Nat} (hn : n ≤ 3) : ((List.range n).map (colCode a s)).Nodup := by
  rw [List.nodup_iff_pairwise_ne, List.pairwise_map]
  refine List.Pairwise.imp_of_mem (fun {x y} hx hy hxy h => hxy ?_) List.nodup_range
  rw [List.mem_range] at hx hy
  exact col_inj hs (by omega) (by omega) h
theorem cols_size (a s : Int) (n : Nat) : (cols a s n).cps.size = n := by unfold cols; simp
theorem joinL_nil : ∀ ps : List (List Nat), TL.joinL [] ps = ps.flatten
  | [] => rfl
  | [p] => by simp [TL.joinL]
  | p :: q :: r => by
    show p ++ ([] ++ TL.joinL [] (q :: r)) = _
    rw [joinL_nil (q :: r), List.nil_append]
    simp
theorem join_signs (cs : List Nat) : Txt.join Str.empty (cs.map fun c => (⟨#[c]⟩ : Str)) = ⟨cs.toArray⟩ := by
  refine TL.ext_tl ?_
  rw [TL.join_eq, TL.tl_join]
  show TL.joinL [] _ = cs
  rw [joinL_nil, List.map_map]
  induction cs with
  | nil => rfl
  | cons c cs ih => rw [List.map_cons, List.flatten_cons, ih]; rfl
section
variable {P : Program} {w : World} {K : PySem.W.Frag} {mg : Str → Option Value} {base : Heap} {f : Addr} {fd : FuncData}
def Fletters : List PyData → (PyData → Prop) → Prop := fun ds G => ∃ n : Nat, ds = [.int n] ∧ n ≤ 1000 ∧ G = fun d => ∃ a st : Int, d = .str (cols a st n) ∧ stepOk st
theorem scL_letters : FnScope ["_law_box", "_law_many", "_law_letters_here", "_law_first", "_law_step", "_law_at"] ["_law_box", "_law_many"] (defScope sL_letters) := ⟨rfl, rfl, rfl, by decide +kernel, rfl, by decide +kernel, by decide +kernel⟩
theorem ok_L_letters (F : FnT K "_law_letters" sL_letters f fd) (D1 : KD P w K mg base "_law_take" 1 (spB K Ftake)) (D2 : KD P w K mg base "_law_one" 2 (spB K Fone)) (g1 : mg "range" = none) (g2 : mg "int" = none) : FnOk P w K mg base CX0 3 f fd ["_law_box", "_law_many"] (spB K Fletters) := by
  refine fn_hs F scL_letters (fun vs H Q E h => ?_) (fun cdv A outer sh H vs Q E hr h => ?_)
  · obtain ⟨S, v, ws, ds, G, rfl, _, _, hd, ⟨n, rfl, _⟩, _⟩ := h
    have := hd.1
    simp at this
    simp [this]
  · obtain ⟨S, v, ws, ds, G, rfl, s, hb, hd, ⟨n, rfl, hn, rfl⟩, q⟩ := h
    obtain ⟨v1, rfl, p1⟩ := hd.one
    refine hs_set (i := 2) ee_str s scL_letters.nd fun w1 S1 H1 gr1 q1 => ?_
    have hb1 : BX v S1 := Mn.up gr1.st hb
    refine hs_unpackE (i := 3) (j := 4) (F := fun d => ∃ a : Int, d = .int a ∧ 0 ≤ a ∧ a < 26) (G := fun d => ∃ a : Int, d = .int a ∧ stepOk a) rfl scL_letters.nd
      (ee_pairE ((ee_callBx D1 (hr.mono (by decide)) ⟨26, rfl, by decide, by decide, rfl⟩ (ea_2 (ee_var 0 rfl hb1) ee_int)).exi fun d h => h)
        ((ee_callBx D2 hr ⟨[.int 1, .int 25, .int 3, .int 7, .int 11], rfl, by decide, by decide, rfl⟩ (ea_2 (ee_var 0 rfl hb1) (ee_lst (ds := [.int 1, .int 25, .int 3, .int 7, .int 11]) (ea_cons ee_int (ea_cons ee_int (ea_cons ee_int (ea_cons ee_int (ea_cons ee_int ea_nil)))))))).exi fun d h => by
          rcases List.mem_cons.mp h with rfl | h
          · exact ⟨1, rfl, by simp [stepOk]⟩
          rcases List.mem_cons.mp h with rfl | h
          · exact ⟨25, rfl, by simp [stepOk]⟩
          rcases List.mem_cons.mp h with rfl | h
          · exact ⟨3, rfl, by simp [stepOk]⟩
          rcases List.mem_cons.mp h with rfl | h
          · exact ⟨7, rfl, by simp [stepOk]⟩
          rcases List.mem_cons.mp h with rfl | h
          · exact ⟨11, rfl, by simp [stepOk]⟩
          cases h)) gr1.sub ?_
    rintro d1 d2 u1 u2 S2 H2 ⟨a, rfl, a0, a1⟩ ⟨st, rfl, hst⟩ gr2 k1 k2
    have p2 := (p1.up gr1.st).up gr2.st
    have q2 : Dt K (.str alpha) w1 S2 := q1.up gr2.st
    let el : PyData → Str := fun d => match d with
      | .int i => ⟨#[colCode a st i.toNat]⟩
      | _ => Str.empty
    have hst' : st = 1 ∨ st = 25 ∨ st = 3 ∨ st = 7 ∨ st = 11 := by simpa [stepOk] using hst
    have e0 : (upto n).map el = ((List.range n).map (colCode a st)).map fun c => (⟨#[c]⟩ : Str) := by
      unfold upto
      rw [List.map_map, List.map_map]
      rfl
    have elen : ∀ z ∈ (upto n).map el, z.length = 1 := fun z hz => by
      rw [e0] at hz
      obtain ⟨c, _, rfl⟩ := List.mem_map.mp hz
      rfl
    have esum : (((upto n).map el).map (·.length)).sum = n := by
      have e1 : ((upto n).map el).map (·.length) = (upto n).map fun _ => 1 := by
        rw [List.map_map]
        refine List.map_congr_left fun d hd => elen (el d) (List.mem_map.mpr ⟨d, hd, rfl⟩)
      rw [e1]
      have : ∀ l : List PyData, (l.map fun _ => 1).sum = l.length := fun l => by
        induction l with
        | nil => rfl
        | cons a l ih => simp [ih]; omega
      rw [this, upto_len]
    refine hs_ret (ee_join (z := Str.empty) (ys := (upto n).map el) (by rw [esum, List.length_map, upto_len]; show n + n * 0 ≤ _; omega) ee_str (ee_lc (i := 5) (enc := .str) (f := el) rfl scL_letters.nd (blkOk_by (N := ["_law_box", "_law_many", "_law_letters_here", "_law_first", "_law_step", "_law_at"]) (sc := defScope sL_letters) (by decide +kernel))
      (ei_range g1 (by omega) (ee_var 1 rfl p2)) (by rw [upto_len]; show _ ≤ 16777216; omega) ?_)) gr2.sub ?_
    · intro d hd v S3 s3 pv sh' H0 C cl fp
      obtain ⟨i, hi, rfl⟩ := List.mem_map.mp hd
      rw [List.mem_range] at hi
      have b := @Int.emod_nonneg (a + st * (i : Nat)) 26 (by decide)
      have b2 := Int.emod_lt_of_pos (a + st * (i : Nat)) (show (0 : Int) < 26 by decide)
      have hat := alpha_at ((a + st * (i : Nat)) % 26).toNat (by omega)
      rw [Int.toNat_of_nonneg b] at hat
      exact ee_ixS alpha_len hat (ee_var 2 rfl (q2.up s3)) (ee_mod (by decide) (ee_intOf g2 (ee_add (ee_var 3 rfl (k1.up s3)) (ee_mulS (.inl (by rcases hst' with rfl | rfl | rfl | rfl | rfl <;> decide)) (ee_var 4 rfl (k2.up s3)) (ee_var 5 rfl pv)))) ee_int)
    · intro u S3 H3 gr3 pu
      rw [e0, join_signs] at pu
      exact q _ ⟨a, st, rfl, hst⟩ u S3 H3 (gr1.trans (gr2.trans gr3)) pu
def Fsome : List PyData → (PyData → Prop) → Prop := fun ds G => ∃ (n : Nat) (m z : Int), ds = [.int n, .int m, .int z] ∧ n ≤ 1000 ∧ 0 ≤ m ∧ m < 1000000 ∧ 0 ≤ z ∧ z < 1000 ∧
  G = fun d => ∃ ps : List (List Int × List Int), d = .list (ps.map ruleD) ∧ (ps.length : Int) ≤ z ∧ ∀ p ∈ ps, (p.1.length = n ∧ ∀ x ∈ p.1, 0 ≤ x ∧ x ≤ m) ∧ (p.2.length = n ∧ ∀ x ∈ p.2, 0 ≤ x ∧ x ≤ m)
theorem scL_some : FnScope ["_law_box", "_law_many", "_law_most", "_law_size", "_law_at"] ["_law_box", "_law_many", "_law_most", "_law_size"] (defScope sL_some_facts) := ⟨rfl, rfl, rfl, by decide +kernel, rfl, by decide +kernel, by decide +kernel⟩
theorem paired_any {α : Type} {enc : α → PyData} {ds rs : List PyData} {G : α → Prop} (h : Paired (fun _ d => ∃ i, d = enc i ∧ G i) ds rs) : ∃ l : List α, rs = l.map enc ∧ l.length = ds.length ∧ ∀ x ∈ l, G x := by
  induction h with
  | nil => exact ⟨[], rfl, rfl, fun _ h => nomatch h⟩
  | cons g _ ih =>
    obtain ⟨i, rfl, gi⟩ := g
    obtain ⟨l, rfl, h2, h3⟩ := ih
    exact ⟨i :: l, rfl, by simp [h2], fun x hx => by
      rcases List.mem_cons.mp hx with rfl | hx
      · exact gi
      · exact h3 x hx⟩
theorem ok_L_some_facts (F : FnT K "_law_some_facts" sL_some_facts f fd) (D1 : KD P w K mg base "_law_take" 1 (spB K Ftake)) (D2 : KD P w K mg base "_law_exp" 2 (spB K Fexp)) (g1 : mg "range" = none) : FnOk P w K mg base CX0 3 f fd ["_law_box", "_law_many", "_law_most", "_law_size"] (spB K Fsome) := by
  refine fn_hs F scL_some (fun vs H Q E h => ?_) (fun cdv A outer sh H vs Q E hr h => ?_)
  · obtain ⟨S, v, ws, ds, G, rfl, _, _, hd, ⟨n, m, z, rfl, _⟩, _⟩ := h
    have := hd.1
    simp at this
    simp [this]
  · obtain ⟨S, v, ws, ds, G, rfl, s, hb, hd, ⟨n, m, z, rfl, hn, m0, m1, z0, z1, rfl⟩, q⟩ := h
    obtain ⟨v1, v2, v3, rfl, p1, p2, p3⟩ := hd.three
    refine hs_ret ((ee_lcW (i := 4) (F := fun _ d => ∃ p : List Int × List Int, d = ruleD p ∧ (p.1.length = n ∧ ∀ x ∈ p.1, 0 ≤ x ∧ x ≤ m) ∧ (p.2.length = n ∧ ∀ x ∈ p.2, 0 ≤ x ∧ x ≤ m)) rfl scL_some.nd (blkOk_by (N := ["_law_box", "_law_many", "_law_most", "_law_size", "_law_at"]) (sc := defScope sL_some_facts) (by decide +kernel))
      (eiw_range (F := fun k => (k : Int) ≤ z) g1 (fun k hk => by omega) ((ee_callBx D1 (hr.mono (by decide)) ⟨z + 1, rfl, by omega, by omega, rfl⟩ (ea_2 (ee_var 0 rfl hb) (ee_add (ee_var 3 rfl p3) ee_int))).exi fun d ⟨i, e, i0, i1⟩ => ⟨i.toNat, by rw [e]; congr 1; omega, by omega⟩)) (fun ds ⟨k, hk, e⟩ => by rw [e, upto_len]; show _ ≤ 16777216; omega) ?_).exi
      (G := fun d => ∃ ps : List (List Int × List Int), d = .list (ps.map ruleD) ∧ (ps.length : Int) ≤ z ∧ ∀ p ∈ ps, (p.1.length = n ∧ ∀ x ∈ p.1, 0 ≤ x ∧ x ≤ m) ∧ (p.2.length = n ∧ ∀ x ∈ p.2, 0 ≤ x ∧ x ≤ m)) fun d ⟨rs, e, ds, ⟨k, hk, e2⟩, hp⟩ => ?_) s ?_
    · intro ds hds d hd v S2 s2 pv sh' H0 C cl fp
      have hb2 : BX _ S2 := Mn.up s2 hb
      refine (ee_pairE (ee_callBx D2 hr ⟨n, m, rfl, hn, m0, m1, rfl⟩ (ea_cons (ee_var 0 rfl hb2) (ea_2 (ee_var 1 rfl (p1.up s2)) (ee_var 2 rfl (p2.up s2))))) (ee_callBx D2 hr ⟨n, m, rfl, hn, m0, m1, rfl⟩ (ea_cons (ee_var 0 rfl hb2) (ea_2 (ee_var 1 rfl (p1.up s2)) (ee_var 2 rfl (p2.up s2)))))).exi ?_
      rintro d ⟨d1, d2, rfl, ⟨l1, rfl, h1⟩, ⟨l2, rfl, h2⟩⟩
      exact ⟨(l1, l2), rfl, h1, h2⟩
    · obtain ⟨l, rfl, h2, h3⟩ := paired_any (enc := ruleD) hp
      exact ⟨l, e, by rw [h2, e2, upto_len]; exact hk, h3⟩
    · rintro v S' H' g ⟨d, hd, pd⟩
      exact q d hd v S' H' g pd
end
abbrev FnM (K : PySem.W.Frag) (x q : Str) (st : Stmt) (f : Addr) (fd : FuncData) : Prop := FunD K x q (defArgs st) (defBody st) (defScope st) [] [] f fd
/-! ## schemas -/
def ColOk (z : Str) : Prop := z.cps.all (· < 128) = true ∧ z.cps.toList.Nodup ∧ 1 ≤ z.cps.size ∧ z.cps.size ≤ 3 ∧ ∀ c ∈ z.cps.toList, 97 ≤ c ∧ c ≤ 122
def RuleOk (n : Nat) (p : List Int × List Int) : Prop := (p.1.length = n ∧ ∀ x ∈ p.1, 0 ≤ x ∧ x ≤ 6) ∧ (p.2.length = n ∧ ∀ x ∈ p.2, 0 ≤ x ∧ x ≤ 6)
abbrev Rules := List (List Int × List Int)
def SchOk (z : Str) (ps : Rules) : Prop := ColOk z ∧ ps.length ≤ 4 ∧ ∀ p ∈ ps, RuleOk z.cps.size p
def schF (z : Str) (l : Addr) : List (Str × V) := [("columns", .str z), ("width", .int z.cps.size), ("_facts", .ref l)]
def SchL (K : PySem.W.Frag) (C : Addr) (z : Str) (ps : Rules) (l : Addr) : V → Hp → Prop := fun v S => ∃ a dx xs, v = .ref a ∧ S a = some (.ins C dx (schF z l)) ∧ S l = some (.lst xs) ∧ Dts K (ps.map ruleD) xs S ∧ xs.length ≤ sizeLine
def SchP (K : PySem.W.Frag) (C : Addr) (z : Str) (ps : Rules) : V → Hp → Prop := fun v S => ∃ l, SchL K C z ps l v S
instance {K : PySem.W.Frag} {C : Addr} {z : Str} {ps : Rules} {l : Addr} : Mn (SchL K C z ps l) := ⟨fun s ⟨a, dx, xs, e, h1, h2, h3, h4⟩ => ⟨a, dx, xs, e, s _ _ h1, s _ _ h2, h3.up s, h4⟩⟩
instance {K : PySem.W.Frag} {C : Addr} {z : Str} {ps : Rules} : Mn (SchP K C z ps) := ⟨fun s ⟨l, h⟩ => ⟨l, Mn.up s h⟩⟩
/-- the width is told -/
def WidP (C : Addr) (w : Int) (P0 : V → Hp → Prop) : Prop := ∀ v S, P0 v S → ∃ a dx fs, v = .ref a ∧ S a = some (.ins C dx fs) ∧ fs.lookup ("width" : Str) = some (.int w)
theorem SchP.wid {K : PySem.W.Frag} {C : Addr} {z : Str} {ps : Rules} : WidP C z.cps.size (SchP K C z ps) := fun v S ⟨l, a, dx, xs, e, h, _⟩ => ⟨a, dx, _, e, h, rfl⟩
theorem SchP.ins {K : PySem.W.Frag} {C : Addr} {z : Str} {ps : Rules} : ∀ v S, SchP K C z ps v S → ∃ a dx fs, v = .ref a ∧ S a = some (.ins C dx fs) := fun v S ⟨l, a, dx, xs, e, h, _⟩ => ⟨a, dx, _, e, h⟩
theorem SchP.insP {K : PySem.W.Frag} {C : Addr} {z : Str} {ps : Rules} {m : Str} (h : ∀ l, (schF z l).lookup m = none := by intro _; rfl) : InsP C m (SchP K C z ps) := fun v S ⟨l, a, dx, xs, e, q, _⟩ => ⟨a, dx, _, e, q, h l⟩
/-- a method that tells data -/
def spO (K : PySem.W.Frag) (F : (V → Hp → Prop) → List PyData → PyData → Prop) : Sp := fun vs H Q _ => ∃ S P0 v ws ds d, vs = v :: ws ∧ Same S H ∧ Mn P0 ∧ P0 v S ∧ Dts K ds ws S ∧ F P0 ds d ∧ ∀ u S' H', Gr S H S' H' → Dt K d u S' → Q u H'
theorem spO_E {K : PySem.W.Frag} {S : Hp} {ds : List PyData} {d : PyData} {P0 : V → Hp → Prop} {F : (V → Hp → Prop) → List PyData → PyData → Prop} [m : Mn P0] (hF : F P0 ds d) : SpE (spO K F) S (P0 :: Ds K ds) (Dt K d) := fun vs S1 H1 _ s al Q q => by
  cases al with
  | cons p r => exact ⟨S1, P0, _, _, ds, d, rfl, s, m, p, al_dts r, hF, q⟩
section
variable {P : Program} {w : World} {K : PySem.W.Frag} {mg : Str → Option Value} {base : Heap} {f : Addr} {fd : FuncData}
def unI (d : PyData) : List Int := match d with
  | .tuple ds => ds.map fun x => match x with | .int i => i | _ => 0
  | _ => []
theorem unI_tI (l : List Int) : unI (tI l) = l := by
  show (l.map PyData.int).map _ = l
  rw [List.map_map]
  exact (List.map_congr_left (fun _ _ => rfl)).trans (List.map_id l)
def FchkC : List PyData → PyData → Prop := fun ds r => ∃ z, ds = [.str z] ∧ r = .none ∧ ColOk z
theorem sc_check_columns : FnScope ["columns", "letter"] ["columns"] (defScope scheck_columns) := ⟨rfl, rfl, rfl, by decide +kernel, rfl, by decide +kernel, by decide +kernel⟩
theorem abc_mem {c : Nat} (h : 97 ≤ c ∧ c ≤ 122) : c ∈ ("abcdefghijklmnopqrstuvwxyz" : Str).cps.toList := by
  have key : ∀ k, k < 26 → 97 + k ∈ ("abcdefghijklmnopqrstuvwxyz" : Str).cps.toList := by decide +kernel
  have := key (c - 97) (by omega)
  rwa [show 97 + (c - 97) = c by omega] at this
theorem ok_check_columns (F : FnT K "check_columns" scheck_columns f fd) (g1 : mg "isinstance" = none) (g2 : mg "str" = none) (g3 : mg "len" = none) (g4 : mg "set" = none) : FnOk P w K mg base CX0 1 f fd ["columns"] (spD K FchkC) := by
  refine fn_hs F sc_check_columns (fun vs H Q E h => ?_) (fun cdv A outer sh H vs Q E hr h => ?_)
  · obtain ⟨S, ds, d, _, hd, ⟨_, rfl, _⟩, _⟩ := h
    exact hd.1
  · obtain ⟨S, ds, r, s, hd, ⟨z, rfl, rfl, ha, hnd, h1, h3, hc⟩, q⟩ := h
    obtain ⟨v1, rfl, p1⟩ := hd.one
    have hz : z.length ≤ sizeLine := Nat.le_trans h3 (by show 3 ≤ 16777216; decide)
    refine hs_ifN ((et_w (ew_or (et_not (et_val (ee_isi (isD_ok (.str z) (T := "str") (by simp)) g1 g2 boot_str (ee_var 0 rfl p1)))) fun _ => ew_or (et_not (et_chainLE ee_int (ee_len g3 rfl (ee_var 0 rfl p1) (fun x hx => by cases hx; exact hz)) ee_int)) fun _ =>
      ew_or1 (et_neI (ee_lenSetS g3 g4 (ee_var 0 rfl p1) ha hnd (by omega) rfl) (ee_len g3 rfl (ee_var 0 rfl p1) (fun x hx => by cases hx; exact hz))))).is ?_) s fun S1 H1 g => ?_
    · have e1 : ((1 : Int) ≤ (z.length : Int)) := by have : z.length = z.cps.size := rfl; omega
      have e2 : ((z.length : Int) ≤ 3) := by have : z.length = z.cps.size := rfl; omega
      have e3 : ((z.cps.size : Nat) : Int) = (z.length : Int) := rfl
      simp [isDs, e1, e2, e3]
    · refine hs_for (fun i σ S2 => ∃ a, σ = [some (.str z), a]) PassesOwn.never rfl (ei_str (ee_var 0 rfl (p1.up g.st))) g.sub (fun S2 H2 g3 => ⟨none, by cases p1; rfl⟩) ?_ ?_
      · rintro i Pi σ1 S2 H2 x S3 H3 hP g3 ⟨a, rfl⟩ g4 px
        have hi : i < z.cps.toList.length := by
          have := (List.getElem?_eq_some_iff.mp hP).1
          rw [ds_len] at this; unfold strD at this; simpa using this
        have hzi : (strD z)[i]? = some (.str ⟨#[z.cps.toList[i]]⟩) := by unfold strD; rw [List.getElem?_map, List.getElem?_eq_getElem hi]; rfl
        rw [ds_get hzi] at hP
        obtain rfl := Option.some.inj hP
        refine (eg_name (i := 1) sc_check_columns.nd rfl (Or.inl rfl)) H3 g4.sub _ ?_
        have hm := abc_mem (hc _ (List.getElem_mem hi))
        refine hs_ifN ((et_notInC (ee_var 1 rfl px) ee_str).is ?_) g4.sub fun S4 H4 g5 => hs_nil ?_
        · rw [decide_eq_true hm]; rfl
        · exact ⟨S4, g5, _, rfl⟩
      · rintro σ1 S2 H2 g3 ⟨a, rfl⟩
        exact hs_nil (q _ _ _ (g.trans g3) .non)
def Fsch_isExp (C : Addr) : (V → Hp → Prop) → List PyData → PyData → Prop := fun P0 ds d => ∃ x w, WidP C w P0 ∧ ds = [x] ∧ d = .bool (isExp x w)
theorem sc_Sis_exponent : FnScope ["self", "value"] ["self", "value"] (defScope sSchema__is_exponent) := ⟨rfl, rfl, rfl, by decide +kernel, rfl, by decide +kernel, by decide +kernel⟩
theorem ok_Sis_exponent {C : Addr} (F : FnM K "is_exponent" "Schema.is_exponent" sSchema__is_exponent f fd) (D1 : KD P w K mg base "is_exponent_schemas" 2 (spD K FisExp)) (c : Cls K C) (n1 : NoAttr K C "width") : FnOk P w K mg base CX0 3 f fd ["self", "value"] (spO K (Fsch_isExp C)) := by
  refine fn_hs F sc_Sis_exponent (fun vs H Q E h => ?_) (fun cdv A outer sh H vs Q E hr h => ?_)
  · obtain ⟨S, P0, v, ws, ds, d, rfl, _, _, _, hd, ⟨_, _, _, rfl, _⟩, _⟩ := h
    have := hd.1
    simp at this
    simp [this]
  · obtain ⟨S, P0, v, ws, ds, d, rfl, s, m, pv, hd, ⟨x, w', hw, rfl, rfl⟩, q⟩ := h
    obtain ⟨u, rfl, pu⟩ := hd.one
    haveI := m
    exact hs_ret (ee_callD D1 hr ⟨x, w', rfl, rfl⟩ (ea_2 (ee_var 1 rfl pu) (ee_fld (P := Dt K (.int w')) (ee_var 0 rfl pv) (fun v S1 h => by
      obtain ⟨a, dx, fs, e, h1, h2⟩ := hw v S1 h
      exact ⟨a, dx, fs, .int w', e, h1, h2, .int w'⟩) c n1))) s q
inductive TD : PyData → Prop
  | int (i : Int) : TD (.int i)
  | tup {ds : List PyData} : (∀ d ∈ ds, TD d) → TD (.tuple ds)
theorem td_ints (l : List Int) : TD (.tuple (l.map .int)) := .tup fun d hd => by
  obtain ⟨i, _, rfl⟩ := List.mem_map.mp hd
  exact .int i
theorem td_rule (p : List Int × List Int) : TD (ruleD p) := .tup (ds := [tI p.1, tI p.2]) fun d hd => by
  rcases List.mem_cons.mp hd with rfl | hd
  · exact td_ints _
  · obtain rfl := List.mem_singleton.mp hd
    exact td_ints _
/-- data of tuples and ints stand where the tuples stand -/
theorem td_keep {K : PySem.W.Frag} {S S' : Hp} (k : ∀ b ys, TuS K S b ys → TuS K S' b ys) {d : PyData} (t : TD d) : ∀ {v : V}, Dt K d v S → Dt K d v S' := by
  induction t with
  | int i => intro v h; obtain rfl := h.int_inv; exact .int i
  | tup _ ih =>
    intro v h
    obtain ⟨a, xs, rfl, ht, hx, z⟩ := h.tup_invS
    exact Dt.tup_mk (k _ _ ht) ⟨hx.1, fun i x d hi hd => ih d (List.mem_of_getElem? hd) (hx.2 i x d hi hd)⟩ z
theorem tds_keep {K : PySem.W.Frag} {S S' : Hp} (k : ∀ b ys, TuS K S b ys → TuS K S' b ys) {ds : List PyData} (t : ∀ d ∈ ds, TD d) {xs : List V} (h : Dts K ds xs S) : Dts K ds xs S' :=
  ⟨h.1, fun i x d hi hd => td_keep k (t d (List.mem_of_getElem? hd)) (h.2 i x d hi hd)⟩
theorem rules_keep {K : PySem.W.Frag} {S S' : Hp} {ps : Rules} {xs : List V} (k : ∀ b ys, TuS K S b ys → TuS K S' b ys) (h : Dts K (ps.map ruleD) xs S) : Dts K (ps.map ruleD) xs S' :=
  tds_keep k (fun d hd => by obtain ⟨p, _, rfl⟩ := List.mem_map.mp hd; exact td_rule p) h
theorem sqt_put0 {K : PySem.W.Frag} {S : Hp} {a : Addr} {o u : HO} (h : S a = some o) (n1 : ∀ xs, o ≠ .tup xs) (n2 : ∀ x y, o ≠ .frz x y) : ∀ b ys, SqT K S b ys → SqT K (upd S a u) b ys := fun b ys q => by
  rcases q with (q | ⟨w, q⟩) | q
  · exact .inl (.inl (by rw [upd_ne (fun z => by subst z; rw [h] at q; cases q; exact n1 _ rfl)]; exact q))
  · exact .inl (.inr ⟨w, by rw [upd_ne (fun z => by subst z; rw [h] at q; cases q; exact n2 _ _ rfl)]; exact q⟩)
  · exact .inr q
theorem sqt_put {K : PySem.W.Frag} {S : Hp} {a : Addr} {o u : HO} (h : S a = some o) (n1 : ∀ xs, o ≠ .tup xs) (n2 : ∀ x y, o ≠ .frz x y) : ∀ b ys, TuS K S b ys → TuS K (upd S a u) b ys := fun b ys q => by
  rcases q with q | ⟨e, q⟩
  · exact .inl (by rw [upd_ne (fun z => by subst z; rw [h] at q; cases q; exact n1 _ rfl)]; exact q)
  · exact .inr ⟨e, sqt_put0 h n1 n2 _ _ q⟩
def Finit (K : PySem.W.Frag) (C : Addr) : List PyData → (Addr → V → Hp → Prop) → Prop := fun ds R => ∃ z d ps, ds = [.str z, d] ∧ (d = .list (ps.map ruleD) ∨ d = .tuple (ps.map ruleD)) ∧ SchOk z ps ∧ R = SchL K C z ps
theorem sc_Sinit : FnScope ["self", "columns", "facts", "at", "fact"] ["self", "columns", "facts"] (defScope sSchema____init__) := ⟨rfl, rfl, rfl, by decide +kernel, rfl, by decide +kernel, by decide +kernel⟩
theorem exp_rule {n : Nat} {l : List Int} (h1 : l.length = n) (h2 : ∀ x ∈ l, 0 ≤ x ∧ x ≤ 6) : isExp (tI l) n = true := by
  show (decide (((l.map PyData.int).length : Int) = n) && (l.map PyData.int).all fun x => isNum x 0 && leNum x 6) = true
  rw [List.length_map, h1, List.all_map, Bool.and_eq_true]
  refine ⟨by simp, ?_⟩
  rw [List.all_eq_true]
  intro x hx
  show (decide (0 ≤ x) && decide (x ≤ 6)) = true
  rw [Bool.and_eq_true, decide_eq_true_eq, decide_eq_true_eq]
  exact h2 x hx
/-- C.f, a constant of the class -/
theorem ee_cval {X : Cx} {σ : L2.St} {S : Hp} {x f : Str} {p pos : Pos} {C : Addr} {mc : Value} {v : V} {u : Value} {P : V → Hp → Prop} (hm : X.mg x = some (.ref C)) (r : ClX.CRead X.K C mc) (k : ClX.CVal X.K C mc f v u) (h : ∀ S1, P v S1) (hg : Gl X x := by rfl) (hd : (x == ("__debug__" : Str)) = false := by decide) (hb : attributeBase (.Name x p) f X.env (eval (.Name x p) X.env) = eval (.Name x p) X.env := by rfl) : EE X σ S (.Attribute (.Name x p) f pos) P := fun H s Q q =>
  he_of (ClX.pe_cval (pe_glob hg hm (v := .ref C) rfl hd) hb) ⟨C, mc, v, u, rfl, r, k, q v S H (Gr.refl s) (h S)⟩
theorem enum_get {ds : List PyData} {i : Nat} {d : PyData} (h : ds[i]? = some d) : (enumD ds)[i]? = some (.tuple [.int i, d]) := by
  unfold enumD
  have hi := (List.getElem?_eq_some_iff.mp h).1
  exact zipD_get (upto_get hi) h
theorem enum_len {K : PySem.W.Frag} {ds : List PyData} : (Ds K (enumD ds)).length = ds.length := by
  rw [ds_len]; unfold enumD zipD; rw [List.length_zipWith, upto_len]; omega
theorem ok_Sinit {C : Addr} {mc : Value} {dvs : List V} {t : Tok} (F : FunD K "__init__" "Schema.__init__" (defArgs sSchema____init__) (defBody sSchema____init__) (defScope sSchema____init__) dvs [] f fd) (D1 : KD P w K mg base "check_columns" 1 (spD K FchkC)) (D2 : KM P w K mg base C "is_exponent" 3 (spO K (Fsch_isExp C))) (c : Cls K C)
    (n1 : NoAttr K C "columns") (n2 : NoAttr K C "width") (n3 : NoAttr K C "_facts") (gS : mg "Schema" = some (.ref C)) (cr : ClX.CRead K C mc) (cv : ClX.CVal K C mc "MOST" (.int 4) (.int 4 t)) (g1 : mg "len" = none) (g2 : mg "isinstance" = none) (g3 : mg "list" = none) (g4 : mg "tuple" = none) (g5 : mg "enumerate" = none) :
    FnOk P w K mg base CX0 4 f fd ["self", "columns", "facts"] (spI C K (Finit K C)) := by
  refine fn_hs F sc_Sinit (fun vs H Q E h => ?_) (fun cdv A outer sh H vs Q E hr h => ?_)
  · obtain ⟨S, a, dx, ws, ds, R, rfl, _, _, _, hd, ⟨_, _, _, rfl, _⟩, _⟩ := h
    have := hd.1
    simp at this
    simp [this]
  · obtain ⟨S, a, dx, ws, ds, R, rfl, s, hSa, hHa, hd, ⟨z, d, ps, rfl, hdd, ho, rfl⟩, q⟩ := h
    obtain ⟨vc, vf, rfl, p1, p2⟩ := hd.two
    obtain rfl := p1.str_inv
    have h3 := ho.1.2.2.2.1
    have i0 := GrI.start (o := .ins C dx []) s hSa hHa
    refine hs_expr (ee_callD D1 (hr.mono (by decide)) ⟨z, rfl, rfl, ho.1⟩ (ea_1 (ee_var 1 rfl (.str z)))) i0.sub fun _ S1 H1 g6 _ => ?_
    have i1 := i0.step g6
    have a1 : S1 a = some (.ins C dx []) := g6.st _ _ upd_same
    refine hs_fld (P := Dt K (.str z)) (r := a) (C := C) (dx := dx) (fs := []) (ee_var 1 rfl (.str z)) i1.sub (fun S2 _ => ee_var 0 rfl rfl) (i1.sub _ _ a1) c n1 (by decide) fun v S2 H2 g7 pv e2 => ?_
    obtain rfl := pv.str_inv
    have i2 := (i1.step g7).put (o := .ins C dx [("columns", .str z)]) hSa
    refine hs_fld (P := Dt K (.int (z.length : Nat))) (r := a) (C := C) (dx := dx) (fs := [("columns", .str z)]) (ee_len g1 rfl (ee_var 1 rfl (.str z)) (fun x hx => by cases hx; exact Nat.le_trans h3 (by show 3 ≤ 16777216; decide))) i2.sub (fun S3 _ => ee_var 0 rfl rfl) upd_same c n2 (show 1 < 1000 by decide) fun v S3 H3 g8 pv e3 => ?_
    obtain rfl := pv.int_inv
    have i3 := (i2.step g8).put (o := .ins C dx [("columns", .str z), ("width", .int (z.length : Nat))]) hSa
    have eH3 : upd H3 a (.ins C dx (putF "width" (.int (z.length : Nat)) [("columns", .str z)])) = upd H3 a (.ins C dx [("columns", .str z), ("width", .int (z.length : Nat))]) := rfl
    rw [eH3]
    have p23 : Dt K d vf (upd S3 a (.ins C dx [("columns", .str z), ("width", .int (z.length : Nat))])) := p2.up i3.st
    generalize hS4 : upd S3 a (.ins C dx [("columns", .str z), ("width", .int (z.length : Nat))]) = S4 at i3 p23
    have a4 : S4 a = some (.ins C dx [("columns", .str z), ("width", .int (z.length : Nat))]) := by rw [← hS4]; exact upd_same
    generalize upd H3 a (.ins C dx [("columns", .str z), ("width", .int (z.length : Nat))]) = H4 at i3
    have hlt : (isD d "list" || isD d "tuple") = true := by rcases hdd with rfl | rfl <;> rfl
    refine hs_ifN ((et_not (et_val (ee_isiLT rfl g2 g3 g4 (ee_var 2 rfl p23)))).is (by rw [hlt]; rfl)) i3.sub fun S5 H5 g9 => ?_
    have i5 := i3.step g9
    have a5 := g9.st _ _ a4
    have p25 := p23.up g9.st
    have hps : ps.length ≤ sizeLine := Nat.le_trans ho.2.1 (by show 4 ≤ 16777216; decide)
    let SP : V → Hp → Prop := fun v S => v = .ref a ∧ S a = some (.ins C dx [("columns", .str z), ("width", .int (z.length : Nat))])
    haveI mSP : Mn SP := ⟨fun s ⟨e, h⟩ => ⟨e, s _ _ h⟩⟩
    have hSPw : WidP C (z.length : Nat) SP := fun v S ⟨e, h⟩ => ⟨a, dx, _, e, h, rfl⟩
    have hSPi : InsP C "is_exponent" SP := fun v S ⟨e, h⟩ => ⟨a, dx, _, e, h, rfl⟩
    refine hs_for (Ps := Ds K (enumD (ps.map ruleD))) (fun i σ S2 => ∃ x y, σ = [some (.ref a), some (.str z), some vf, x, y]) PassesOwn.never rfl (by
      rcases hdd with rfl | rfl
      · exact ei_enumL g5 (ee_var 2 rfl p25)
      · exact ei_enumT g5 (ee_var 2 rfl p25)) i5.sub (fun S2 H2 g3 => ⟨none, none, rfl⟩) ?_ ?_
    · rintro i Pi σ1 S6 H6 x S7 H7 hP g10 ⟨y, y', rfl⟩ g11 px
      have hi : i < ps.length := by
        have := (List.getElem?_eq_some_iff.mp hP).1
        rw [enum_len, List.length_map] at this; exact this
      have hz : (ps.map ruleD)[i]? = some (ruleD ps[i]) := by rw [List.getElem?_map, List.getElem?_eq_getElem hi]; rfl
      rw [ds_get (enum_get hz)] at hP
      obtain rfl := Option.some.inj hP
      have hro := ho.2.2 ps[i] (List.getElem_mem hi)
      obtain ⟨u1, u2, k1, k2, hg⟩ := eg_pair (σ := [some (.ref a), some (.str z), some vf, y, y']) (i := 3) (j := 4) (x := "at") (y := "fact") (kk := _) (px := _) (py := _) (pos := _) (X := (cxOf CX0 P w K mg base ["self", "columns", "facts", "at", "fact"] "Schema.__init__" (defScope sSchema____init__) f cdv A outer sh H E).nox) rfl sc_Sinit.nd rfl rfl (Or.inl rfl) (Or.inl rfl) px
      refine hg H7 g11.sub _ ?_
      have a7 := g11.st _ _ (g10.st _ _ a5)
      refine hs_ifN ((et_w (ew_or (et_not (et_val (ee_isi (isD_ok (ruleD ps[i]) (T := "tuple") (by simp)) g2 g4 boot_tuple (ee_var 4 rfl k2)))) fun _ => ew_or1 (et_neI (ee_len g1 (d := ruleD ps[i]) (n := 2) rfl (ee_var 4 rfl k2)) ee_int))).is (by rfl)) g11.sub fun S8 H8 g12 => ?_
      have k8 := k2.up g12.st
      have a8 : SP (.ref a) S8 := ⟨rfl, g12.st _ _ a7⟩
      refine hs_ifN ((et_w (ew_or (et_not (et_val ((ee_meth D2 c (hr.mono (by decide)) (ee_var (P := SP) 0 rfl a8) hSPi (ea_1 (ee_ixT (ds := [tI ps[i].1, tI ps[i].2]) (d := tI ps[i].1) rfl (ee_var 4 rfl k8) ee_int)) (spO_E (F := Fsch_isExp C) (P0 := SP) (ds := [tI ps[i].1]) (d := .bool (isExp (tI ps[i].1) (z.length : Nat))) ⟨_, _, hSPw, rfl, rfl⟩))))) fun _ =>
        ew_or1 (et_not (et_val ((ee_meth D2 c (hr.mono (by decide)) (ee_var (P := SP) 0 rfl a8) hSPi (ea_1 (ee_ixT (ds := [tI ps[i].1, tI ps[i].2]) (d := tI ps[i].2) rfl (ee_var 4 rfl k8) ee_int)) (spO_E (F := Fsch_isExp C) (P0 := SP) (ds := [tI ps[i].2]) (d := .bool (isExp (tI ps[i].2) (z.length : Nat))) ⟨_, _, hSPw, rfl, rfl⟩))))))).is ?_) g12.sub fun S9 H9 g13 => hs_nil ?_
      · rw [exp_rule (n := z.length) hro.1.1 hro.1.2, exp_rule (n := z.length) hro.2.1 hro.2.2]; rfl
      · exact ⟨S9, g12.trans g13, _, _, rfl⟩
    · rintro σ1 S6 H6 g10 ⟨y, y', rfl⟩
      have i6 := i5.step g10
      have a6 := g10.st _ _ a5
      have p26 := p25.up g10.st
      have hlen : lenD d = some ps.length := by rcases hdd with rfl | rfl <;> (show some (ps.map ruleD).length = _; rw [List.length_map])
      refine hs_ifN ((et_gt (ee_len g1 hlen (ee_var 2 rfl p26) (fun x hx => by rcases hdd with rfl | rfl <;> cases hx)) (ee_cval (P := Dt K (.int 4)) gS cr cv (fun _ => .int 4))).is (by have := ho.2.1; rw [decide_eq_false (by omega)])) i6.sub fun S7 H7 g11 => ?_
      have i7 := i6.step g11
      have a7 := g11.st _ _ a6
      refine hs_fld (r := a) (C := C) (dx := dx) (fs := [("columns", .str z), ("width", .int (z.length : Nat))]) (ee_listN g3 hdd (ee_var 2 rfl (p26.up g11.st))) i7.sub (fun S3 _ => ee_var 0 rfl rfl) (i7.sub _ _ a7) c n3 (show 2 < 1000 by decide) fun v S8 H8 g12 pv e8 => hs_nil ?_
      obtain ⟨l, xs, rfl, h0, hl1, hx, hz⟩ := pv
      have a8 := g12.st _ _ a7
      have i8 := (i7.step g12).put (o := .ins C dx (schF z l)) hSa
      have lne : l ≠ a := fun e => by subst e; rw [a7] at h0; cases h0
      refine q l _ _ i8 (i7.st.free h0) ⟨a, dx, xs, rfl, upd_same, by rw [upd_ne lne]; exact hl1, rules_keep (sqt_put a8 (fun _ z => nomatch z) (fun _ _ z => nomatch z)) hx, hz⟩
/-- Schema is made: by two values, by one, by names -/
structure MkS (P : Program) (w : World) (K : PySem.W.Frag) (mg : Str → Option Value) (base : Heap) (C : Addr) : Prop where
  ex : ∃ fi fdi ps dv, Mk K C fi ∧ FnOk P w K mg base CX0 4 fi fdi ps (spI C K (Finit K C)) ∧ Binds K fdi ps [] ∧ (∃ us, Vals [dv] us ∧ Binds K fdi ps us) ∧ (∀ S, Dt K (.tuple []) dv S) ∧ ∃ g gV, KBn K fdi ps 1 ["facts", "columns"] g gV ∧ ∀ s v w, gV [s] [v, w] = [s, w, v]
section
end
theorem newR_sch {K : PySem.W.Frag} {C : Addr} {z : Str} {ps : Rules} {S S' : Hp} {v : V} (h : NewR (SchL K C z ps) S v S') : SchP K C z ps v S' := let ⟨l, _, h⟩ := h; ⟨l, h⟩
end
theorem can_ints : ∀ l : List Int, PyData.canLayAll0 (l.map .int) = true
  | [] => by simp [PyData.canLayAll0]
  | a :: l => by simp [PyData.canLayAll0, PyData.canLay0, can_ints l]
theorem dep_ints : ∀ l : List Int, PyData.depthAll (l.map .int) ≤ 1
  | [] => by simp [PyData.depthAll]
  | a :: l => by have := dep_ints l; simp [PyData.depthAll, PyData.depth]; omega
section
variable {P : Program} {w : World} {K : PySem.W.Frag} {mg : Str → Option Value} {base : Heap} {f : Addr} {fd : FuncData}
/-! rows, plainly: what rays want -/
theorem eqvAll_ints : ∀ a b : List Int, PyData.eqvAll (a.map .int) (b.map .int) = decide (a = b)
  | [], [] => by simp [PyData.eqvAll]
  | [], _ :: _ => by simp [PyData.eqvAll]
  | _ :: _, [] => by simp [PyData.eqvAll]
  | x :: a, y :: b => by
    rw [List.map_cons, List.map_cons]
    unfold PyData.eqvAll
    rw [eqvAll_ints a b]
    simp [PyData.eqv, Bool.decide_and]
    rfl
theorem eqv_tI (a b : List Int) : PyData.eqv (tI a) (tI b) = decide (a = b) := by
  show PyData.eqv (.tuple (a.map .int)) (.tuple (b.map .int)) = _
  rw [PyData.eqv]
  exact eqvAll_ints a b
end
/-! ## plain facts about tuples of ints (of more_math) -/
theorem cut_to {α : Type} (xs : List α) {i : Nat} (h : i ≤ xs.length) : Z.cutD xs none (some (i : Int)) = xs.take i := by
  unfold Z.cutD
  have e1 : HT.sIx xs.length 0 none = 0 := rfl
  have e2 : HT.sIx xs.length xs.length (some (i : Int)) = i := by
    show (if (i : Int) < 0 then ((i : Int) + xs.length).toNat else min (i : Int).toNat xs.length) = i
    rw [if_neg (by omega)]; omega
  rw [e1, e2]; simp
theorem shaped_tI (l : List Int) : SeqAt.shaped (tI l) = true := by
  show SeqAt.shaped (.tuple (l.map .int)) = true
  unfold SeqAt.shaped
  rw [Bool.and_eq_true, decide_eq_true_eq]
  have := dep_ints l
  exact ⟨by simp [PyData.canLay0, can_ints], by simp [PyData.depth]; omega⟩
theorem can_tI (l : List Int) : PyData.canLay0 (tI l) = true := by
  show PyData.canLay0 (.tuple (l.map .int)) = true
  simp [PyData.canLay0, can_ints]
theorem dep_tI (l : List Int) : PyData.depth (tI l) ≤ 2 := by
  show PyData.depth (.tuple (l.map .int)) ≤ 2
  have := dep_ints l
  simp [PyData.depth]; omega
theorem shaped_tIs (ls : List (List Int)) : SeqAt.shaped (.list (ls.map tI)) = true := by
  have c : ∀ ps : List (List Int), PyData.canLayAll0 (ps.map tI) = true := fun ps => by
    induction ps with
    | nil => simp [PyData.canLayAll0]
    | cons p ps ih => simp [PyData.canLayAll0, can_tI, ih]
  have d : ∀ ps : List (List Int), PyData.depthAll (ps.map tI) ≤ 3 := fun ps => by
    induction ps with
    | nil => simp [PyData.depthAll]
    | cons p ps ih => have := dep_tI p; simp [PyData.depthAll]; omega
  unfold SeqAt.shaped
  rw [Bool.and_eq_true, decide_eq_true_eq]
  have := d ls
  refine ⟨by simp [PyData.canLay0, c], by simp [PyData.depth]; omega⟩
theorem any_tI (ls : List (List Int)) (r : List Int) : ((ls.map tI).any fun z => PyData.eqv z (tI r)) = decide (r ∈ ls) := by
  rw [List.any_map]
  induction ls with
  | nil => rfl
  | cons l ls ih =>
    rw [List.any_cons, ih]
    simp only [Function.comp_def, eqv_tI, List.mem_cons, Bool.decide_or]
    congr 1
    exact decide_eq_decide.mpr ⟨Eq.symm, Eq.symm⟩
theorem room_u65 {k : Nat} {A : Around} (h : Room k A) : A.units + 65 < cLine := by have := h.un; omega
end K42
namespace K42
open PySem PySem.Spec PyProof.Rows L2 Z Y
section
variable {P : Program} {w : World} {K : PySem.W.Frag} {mg : Str → Option Value} {base : Heap} {f : Addr} {fd : FuncData}
/-! ## the law's own exponents, factors, worths and texts -/
def ExpsOk (n : Nat) (m : Int) (es : List (List Int)) : Prop := es.Nodup ∧ ∀ e ∈ es, e.length = n ∧ ∀ x ∈ e, 0 ≤ x ∧ x ≤ m
def Fexps : List PyData → (PyData → Prop) → Prop := fun ds G => ∃ (n sz : Nat) (m : Int), ds = [.int n, .int m, .int sz] ∧ n ≤ 1000 ∧ 0 ≤ m ∧ m < 1000000 ∧ 1 ≤ sz ∧ sz ≤ 50 ∧ G = fun d => ∃ es : List (List Int), d = .list (es.map tI) ∧ es.length ≤ sz ∧ es ≠ [] ∧ ExpsOk n m es
abbrev NExps : List Str := ["_law_box", "_law_many", "_law_most", "_law_size", "_law_found", "_law_at", "_law_late"]
theorem scL_exps : FnScope NExps ["_law_box", "_law_many", "_law_most", "_law_size"] (defScope sL_exps) := ⟨rfl, rfl, rfl, by decide +kernel, rfl, by decide +kernel, by decide +kernel⟩
theorem ok_L_exps (F : FnT K "_law_exps" sL_exps f fd) (D1 : KD P w K mg base "_law_exp" 2 (spB K Fexp)) (g1 : mg "range" = none) : FnOk P w K mg base CX0 3 f fd ["_law_box", "_law_many", "_law_most", "_law_size"] (spB K Fexps) := by
  refine fn_hs F scL_exps (fun vs H Q E h => ?_) (fun cdv A outer sh H vs Q E hr h => ?_)
  · obtain ⟨S, v, ws, ds, G, rfl, _, _, hd, ⟨n, sz, m, rfl, _⟩, _⟩ := h
    have := hd.1
    simp at this
    simp [this]
  · obtain ⟨S, v, ws, ds, G, rfl, s, hb, hd, ⟨n, sz, m, rfl, hn, m0, m1, z1, z2, rfl⟩, q⟩ := h
    obtain ⟨v1, v2, v3, rfl, p1, p2, p3⟩ := hd.three
    refine hs_acc0 (i := 4) s scL_exps.nd fun l H1 a1 => ?_
    refine hs_forRE (W := fun k => k = sz) PassesOwn.never rfl g1 (fun k hk => by omega) ((ee_var 3 rfl p3).ex ⟨sz, rfl, rfl⟩) a1.g.sub fun k S2 H2 hk g2 => ?_
    subst hk
    refine ⟨fun i σ H' => ∃ (S' : Hp) (es : List (List Int)) (a5 a6 : Option V), Same S2 S' ∧ Acc K S H l (es.map tI) S' H' ∧ es.length ≤ i ∧ (0 < i → es ≠ []) ∧ ExpsOk n m es ∧ σ = [some v, some v1, some v2, some v3, some (.ref l), a5, a6], ⟨S2, [], none, none, Same.refl _, a1.gr g2, Nat.le_refl _, (fun h => absurd h (by omega)), ⟨List.nodup_nil, fun _ h => nomatch h⟩, rfl⟩, ?_, ?_⟩
    · rintro i σ1 H3 hi ⟨S3, es, a5, a6, s3, a3, hel, hne, ⟨hnd, hall⟩, rfl⟩
      refine (eg_name (S := S3) (i := 5) scL_exps.nd rfl (Or.inl rfl)) H3 a3.g.sub _ ?_
      have s03 := g2.st.trans s3
      refine hs_set (i := 6) (P := Ex K fun d => ∃ l : List Int, d = tI l ∧ l.length = n ∧ ∀ x ∈ l, 0 ≤ x ∧ x ≤ m) (ee_callBx D1 (hr.mono (by decide)) ⟨n, m, rfl, hn, m0, m1, rfl⟩ (ea_cons (ee_var 0 rfl (Mn.up s03 hb)) (ea_2 (ee_var 1 rfl (p1.up s03)) (ee_var 2 rfl (p2.up s03))))) a3.g.sub scL_exps.nd fun v6 S4 H4 g4 pe => ?_
      obtain ⟨_, ⟨e, rfl, he1, he2⟩, pe⟩ := pe
      have a4 := a3.gr g4
      obtain ⟨S5, G5, s5, pf, back⟩ := a4.full
      refine hs_if (k := !decide (e ∈ es)) ((et_notInD (room_u65 hr) (shaped_tI _) (shaped_tIs _) (ee_var 6 rfl (pe.up s5)) (ee_var 4 rfl pf)).is ?eb) G5.sub (fun hk S6 H6 g6 => ?_) (fun hk S6 H6 g6 => ?_)
      case eb => rw [any_tI]
      all_goals obtain ⟨a6', s6⟩ := back S6 H6 g6
      · have hm : ¬ e ∈ es := by simpa using hk
        refine hs_accApp a6' (by rw [List.length_map]; omega) (ee_var (P := fun w _ => w = .ref l) 4 rfl rfl) (ee_var 6 rfl (pe.up s6)) fun S7 H7 s7 a7 => hs_nil (hs_nil ?_)
        refine ⟨S7, es ++ [e], _, _, ((s3.trans g4.st).trans s6).trans s7, by rw [List.map_append]; exact a7, by rw [List.length_append]; simp; omega, (fun _ h => by simp at h), ⟨?_, fun e' he' => ?_⟩, rfl⟩
        · rw [List.nodup_append]
          exact ⟨hnd, by simp, fun a ha b hb' => by rw [List.mem_singleton.mp hb']; exact fun z => hm (z ▸ ha)⟩
        · rcases List.mem_append.mp he' with h | h
          · exact hall e' h
          · rw [List.mem_singleton.mp h]; exact ⟨he1, he2⟩
      · have hm : e ∈ es := by simpa using hk
        exact hs_nil (hs_nil ⟨_, es, _, _, (s3.trans g4.st).trans s6, a6', by omega, (fun _ h => by rw [h] at hm; cases hm), ⟨hnd, hall⟩, rfl⟩)
    · rintro σ1 H3 ⟨S3, es, a5, a6, s3, a3, hel, hne, hok, rfl⟩
      obtain ⟨S5, G5, s5, pf, _⟩ := a3.full
      exact hs_ret (ee_var 4 rfl pf) G5.sub fun r S' H' g pr => q _ ⟨es, rfl, hel, hne (by omega), hok⟩ r S' H' (G5.trans g) pr
end
end K42
namespace K42
open PySem PySem.Spec PyProof.Rows L2 Z Y LamX NdefX
section
variable {P : Program} {w : World} {K : PySem.W.Frag} {mg : Str → Option Value} {base : Heap} {f : Addr} {fd : FuncData}
/-! ## check_sums, check_goal -/
def SmsOk (n : Nat) (es : List (List Int)) : Prop := es.Nodup ∧ ∀ e ∈ es, e.length = n ∧ ∀ x ∈ e, 0 ≤ x ∧ x ≤ 6
/-- sums that check_sums refuses at i -/
def BadSm (n : Nat) (d : PyData) (i : Int) : Prop :=
  (i = -1 ∧ ((isD d "list" || isD d "tuple") = false ∨ d = .tuple [] ∨ ∃ l, d = .list l ∧ ¬ (1 ≤ l.length ∧ l.length ≤ 5))) ∨
  (∃ (es : List (List Int)) (x : PyData) (rest : List PyData), i = (es.length : Nat) ∧ d = .list (es.map tI ++ x :: rest) ∧ SmsOk n es ∧ es.length + 1 + rest.length ≤ 5 ∧ (isExp x (n : Nat) = false ∨ ∃ e ∈ es, x = tI e))
def GoodSm (n : Nat) (d : PyData) : Prop := ∃ es : List (List Int), d = .list (es.map tI) ∧ 1 ≤ es.length ∧ es.length ≤ 5 ∧ SmsOk n es
def spSm (K : PySem.W.Frag) (C : Addr) (kS : EK) : Sp := fun vs H Q E => ∃ S z ps v u d, vs = [v, u] ∧ Same S H ∧ SchP K C z ps v S ∧ Dt K d u S ∧ ((GoodSm z.cps.size d ∧ ∀ S' H', Gr S H S' H' → Q .non H') ∨ ∃ i, BadSm z.cps.size d i ∧ XErr K kS (.int i) S H E)
theorem spSm_O {K : PySem.W.Frag} {C : Addr} {kS : EK} {S : Hp} {z : Str} {ps : Rules} {d : PyData} (h : GoodSm z.cps.size d ∨ ∃ i, BadSm z.cps.size d i) : SpO K (spSm K C kS) S [SchP K C z ps, Dt K d] (fun _ _ => GoodSm z.cps.size d) (fun k g => ∃ i, BadSm z.cps.size d i ∧ k = kS ∧ g = .int i) := fun vs S1 H1 st s al Q E q hx => by
  obtain ⟨v, u, rfl, p1, p2⟩ := al.two
  refine ⟨S1, z, ps, v, u, d, rfl, s, p1, p2, ?_⟩
  rcases h with h | ⟨i, h⟩
  · exact .inl ⟨h, fun S' H' g => q _ S' H' g h⟩
  · exact .inr ⟨i, h, hx _ _ ⟨i, h, rfl, rfl⟩⟩
theorem sc_check_sums : FnScope ["schema", "sums", "at", "exponent"] ["schema", "sums"] (defScope scheck_sums) := ⟨rfl, rfl, rfl, by decide +kernel, rfl, by decide +kernel, by decide +kernel⟩
theorem et_inDL {X : Cx} {σ : L2.St} {S : Hp} {a b : Expr} {pos : Pos} {d : PyData} {ds : List PyData} (hu : X.A.units + 65 < cLine) (h1 : SeqAt.shaped d = true) (h2 : SeqAt.shaped (.list ds) = true) (ha : EE X σ S a (Dt X.K d)) (hb : EE X σ S b (Dt X.K (.list ds))) (hm : behindInMarks .In b = false := by first | rfl | with_unfolding_all rfl) : ET X σ S (.Compare a [.In] [b] pos) (ds.any fun z => PyData.eqv z d) :=
  et_cmp (op_inD hu) ha hb (fun v w S1 H1 _ s pv pw Q q => ⟨d, ds, (pv.up s).dp, (pw.up s).dp, h1, h2, q _ S1 H1 (Gr.refl s) (.bl _)⟩) hm
theorem sms_take (es : List (List Int)) (l : List PyData) {i : Nat} (h : i ≤ es.length) : Z.cutD (es.map tI ++ l) none (some (i : Int)) = (es.take i).map tI := by
  rw [cut_to _ (by rw [List.length_append, List.length_map]; omega), List.take_append_of_le_length (by rw [List.length_map]; omega), List.map_take]
theorem nodup_take {α : Type} [DecidableEq α] {l : List α} (h : l.Nodup) {i : Nat} (hi : i < l.length) : ¬ l[i] ∈ l.take i := fun hm => by
  obtain ⟨j, hj, e⟩ := List.mem_iff_getElem.mp hm
  rw [List.getElem_take] at e
  rw [List.length_take] at hj
  have hj' : j < i := by omega
  exact absurd ((List.getElem_inj h).mp e) (by omega)
theorem ok_check_sums {C : Addr} {kS : EK} (F : FnT K "check_sums" scheck_sums f fd) (RI : Err P w K mg base "InvalidSums" kS.C "at" kS.code) (hI : kS.fn = some "at") (D2 : KM P w K mg base C "is_exponent" 3 (spO K (Fsch_isExp C))) (c : Cls K C) (g1 : mg "isinstance" = none) (g2 : mg "list" = none) (g3 : mg "tuple" = none) (g4 : mg "len" = none) (g5 : mg "enumerate" = none) (gM : ∃ t, mg "MOST_SUMS" = some (.int 5 t)) : FnOk P w K mg base (L2.CX P w) 5 f fd ["schema", "sums"] (spSm K C kS) := by
  refine fn_hsX F sc_check_sums (fun vs H Q E h => ?_) (fun cdv A outer sh H vs Q E hr h tk => ?_)
  · obtain ⟨S, z, ps, v, u, d, rfl, _⟩ := h
    rfl
  · obtain ⟨S, z, ps, v, u, d, rfl, s, pv, pu, hb⟩ := h
    obtain ⟨tM, gM⟩ := gM
    have isi : ∀ {σ : L2.St} {S1 : Hp} (h : σ[1]? = some (some u)) (pu : Dt K d u S1), EE (cxOf (L2.CX P w) P w K mg base ["schema", "sums", "at", "exponent"] "check_sums" (defScope scheck_sums) f cdv A outer sh H E) σ S1 (match defBody scheck_sums with | .If (.BoolOp _ (.UnaryOp _ e _ :: _) _) _ _ _ :: _ => e | _ => .Constant .none 0 ⟨0, 0, 0, 0⟩) (Dt K (.bool (isD d "list" || isD d "tuple"))) := fun h pu => ee_isiLT rfl g1 g2 g3 (ee_var 1 h pu)
    have hlen : ∀ {m : Nat} {σ : L2.St} {S1 : Hp} (h : σ[1]? = some (some u)) (pu : Dt K d u S1) (hl : lenD d = some m) (ho : (isD d "list" || isD d "tuple") = true), ET (cxOf (L2.CX P w) P w K mg base ["schema", "sums", "at", "exponent"] "check_sums" (defScope scheck_sums) f cdv A outer sh H E) σ S1 (match defBody scheck_sums with | .If c _ _ _ :: _ => c | _ => .Constant .none 0 ⟨0, 0, 0, 0⟩) (!decide (1 ≤ m ∧ m ≤ 5)) := fun {m σ S1} h pu hl ho => by
      refine ET.is (et_w (ew_or (et_not (et_val (isi h pu))) fun _ => ew_or1 (et_not (et_chainLE ee_int (ee_len g4 hl (ee_var 1 h pu) (fun x hx => by subst hx; cases ho)) (ee_globI gM))))) ?_
      have e1 : (1 : Int) ≤ ((m : Nat) : Int) ↔ 1 ≤ m := by omega
      have e2 : ((m : Nat) : Int) ≤ 5 ↔ m ≤ 5 := by omega
      simp only [e1, e2, ho]
      by_cases h1 : 1 ≤ m <;> by_cases h2 : m ≤ 5 <;> simp [h1, h2]
    have loop : ∀ (es : List (List Int)) (l : List PyData), d = .list (es.map tI ++ l) → 1 ≤ es.length + l.length → es.length + l.length ≤ 5 → SmsOk z.cps.size es → (l = [] → ∀ S' H', Gr S H S' H' → Q .non H') → (∀ x rest, l = x :: rest → (isExp x (z.cps.size : Nat) = false ∨ ∃ e ∈ es, x = tI e) ∧ XErr K kS (.int (es.length : Nat)) S H E) →
        HS (cxOf (L2.CX P w) P w K mg base ["schema", "sums", "at", "exponent"] "check_sums" (defScope scheck_sums) f cdv A outer sh H E) { nx := fun _ H' => Q .non H', rt := Q } (defBody scheck_sums) [some v, some u, none, none] H := by
      rintro es l rfl hl1 hl5 ⟨hnd, hall⟩ qn qx
      refine hs_ifN ((hlen rfl pu (m := es.length + l.length) (by show some _ = some _; rw [List.length_append, List.length_map]) rfl).is (by rw [decide_eq_true ⟨hl1, hl5⟩]; rfl)) s fun S1 H1 e1 => ?_
      refine hs_for (fun i σ S2 => (∃ a3 a4, σ = [some v, some u, a3, a4]) ∧ i ≤ es.length) (passes_of rfl) rfl (ei_enumL g5 (ee_var 1 rfl (pu.up e1.st))) e1.sub (fun S2 H2 g3 => ⟨⟨none, none, rfl⟩, Nat.zero_le _⟩) ?_ ?_
      · rintro i Pi σ1 S2 H2 x S3 H3 hP g3 ⟨⟨a3, a4, rfl⟩, hi⟩ g4 px
        have hi2 : i < (es.map tI ++ l).length := by
          have := (List.getElem?_eq_some_iff.mp hP).1
          rw [enum_len] at this
          exact this
        obtain ⟨y, hy⟩ : ∃ y, (es.map tI ++ l)[i]? = some y := ⟨_, List.getElem?_eq_getElem hi2⟩
        have px2 : Dt K (.tuple [.int (i : Nat), y]) x S3 := by
          rw [ds_get (enum_get hy)] at hP
          obtain rfl := Option.some.inj hP
          exact px
        obtain ⟨v1, v2, p1, p2, hg⟩ := eg_pair (σ := [some v, some u, a3, a4]) (X := cxOf (L2.CX P w) P w K mg base ["schema", "sums", "at", "exponent"] "check_sums" (defScope scheck_sums) f cdv A outer sh H E) (i := 2) (j := 3) rfl sc_check_sums.nd rfl rfl (Or.inl rfl) (Or.inl rfl) px2
        refine hg H3 g4.sub _ ?_
        have g13 := (e1.trans g3).trans g4
        have pv3 : SchP K C z ps v S3 := Mn.up g13.st pv
        have pu3 := pu.up g13.st
        have hex : EE (cxOf (L2.CX P w) P w K mg base ["schema", "sums", "at", "exponent"] "check_sums" (defScope scheck_sums) f cdv A outer sh H E) [some v, some u, some v1, some v2] S3 (match defBody scheck_sums with | [_, .For _ _ (.If (.BoolOp _ (.UnaryOp _ e _ :: _) _) _ _ _ :: _) _ _] => e | _ => .Constant .none 0 ⟨0, 0, 0, 0⟩) (Dt K (.bool (isExp y z.cps.size))) :=
          ee_meth D2 c (hr.mono (by decide)) (ee_var (P := SchP K C z ps) 0 rfl pv3) SchP.insP (ea_1 (ee_var 3 rfl p2)) (spO_E (F := Fsch_isExp C) (P0 := SchP K C z ps) (ds := [y]) (d := .bool (isExp y z.cps.size)) ⟨_, _, SchP.wid, rfl, rfl⟩)
        rcases Nat.lt_or_ge i es.length with h | h
        · have ey : y = tI es[i] := by
            rw [List.getElem?_append_left (by rw [List.length_map]; exact h), List.getElem?_map, List.getElem?_eq_getElem h] at hy
            exact (Option.some.inj hy).symm
          subst ey
          refine hs_ifN ((et_w (ew_or (et_not (et_val hex)) fun _ => ew_or1 (et_inDL (room_u65 hr) (shaped_tI _) (shaped_tIs (es.take i)) (ee_var 3 rfl p2) ((ee_slL (ee_var 1 rfl pu3) eo_none (eo_some (ee_var 2 rfl p1))).isd (by rw [sms_take es l hi]))))).is ?_) g4.sub fun S4 H4 g5 => hs_nil ⟨S4, g5, ⟨_, _, rfl⟩, h⟩
          rw [exp_rule (hall _ (List.getElem_mem h)).1 (hall _ (List.getElem_mem h)).2, any_tI, decide_eq_false (nodup_take hnd h)]
          rfl
        · obtain rfl : i = es.length := by omega
          obtain ⟨rest, rfl⟩ : ∃ rest, l = y :: rest := by
            rw [List.getElem?_append_right (by rw [List.length_map]; exact Nat.le_refl _), List.length_map, Nat.sub_self] at hy
            cases l with
            | nil => cases hy
            | cons a r => cases hy; exact ⟨r, rfl⟩
          obtain ⟨hbad, hx⟩ := qx y rest rfl
          have hc : ET (cxOf (L2.CX P w) P w K mg base ["schema", "sums", "at", "exponent"] "check_sums" (defScope scheck_sums) f cdv A outer sh H E) [some v, some u, some v1, some v2] S3 (match defBody scheck_sums with | [_, .For _ _ (.If c _ _ _ :: _) _ _] => c | _ => .Constant .none 0 ⟨0, 0, 0, 0⟩) true := by
            rcases hbad with h0 | ⟨e, he, rfl⟩
            · refine (et_w (ew_or (k2 := true) (et_not (et_val hex)) fun hz => ?_)).is (by rw [h0]; rfl)
              rw [h0] at hz; cases hz
            · refine (et_w (ew_or (et_not (et_val hex)) fun _ => ew_or1 (et_inDL (room_u65 hr) (shaped_tI _) (shaped_tIs (es.take es.length)) (ee_var 3 rfl p2) ((ee_slL (ee_var 1 rfl pu3) eo_none (eo_some (ee_var 2 rfl p1))).isd (by rw [sms_take es _ (Nat.le_refl _)]))))).is ?_
              rw [any_tI, List.take_length, decide_eq_true he, Bool.or_true]
          exact hs_ifT hc g4.sub fun S4 H4 g5 => hs_raise1 rfl tk RI hI (by decide) (hr.mono (by decide)) (ee_var 2 rfl (p1.up g5.st)) g5.sub (hx.up (g13.trans g5))
      · rintro σ1 S2 H2 g3 ⟨_, hi⟩
        have hn : (es.map tI ++ l).length ≤ es.length := by rw [enum_len] at hi; exact hi
        rw [List.length_append, List.length_map] at hn
        have : l = [] := List.eq_nil_of_length_eq_zero (by omega)
        exact hs_nil (qn this _ _ (e1.trans g3))
    rcases hb with ⟨⟨es, rfl, h1, h5, ho⟩, q⟩ | ⟨i, hbad, hx⟩
    · refine loop es [] (by rw [List.append_nil]) (by simpa using h1) (by simpa using h5) ho (fun _ => q) (fun x rest h => nomatch h)
    · rcases hbad with ⟨rfl, h⟩ | ⟨es, x, rest, rfl, rfl, ho, h5, hb⟩
      · rcases h with ho | rfl | ⟨l, rfl, hl⟩
        · refine hs_ifT ((et_w (ew_or (k2 := true) (et_not (et_val (isi rfl pu))) fun h => ?_)).is (by rw [ho]; rfl)) s fun S1 H1 e1 => hs_raise1 rfl tk RI hI (by decide) (hr.mono (by decide)) (ee_neg ee_int) e1.sub (hx.up e1)
          rw [ho] at h; cases h
        · exact hs_ifT ((hlen rfl pu (m := 0) rfl rfl).is rfl) s fun S1 H1 e1 => hs_raise1 rfl tk RI hI (by decide) (hr.mono (by decide)) (ee_neg ee_int) e1.sub (hx.up e1)
        · exact hs_ifT ((hlen rfl pu (m := l.length) rfl rfl).is (by rw [decide_eq_false hl]; rfl)) s fun S1 H1 e1 => hs_raise1 rfl tk RI hI (by decide) (hr.mono (by decide)) (ee_neg ee_int) e1.sub (hx.up e1)
      · exact loop es (x :: rest) rfl (by rw [List.length_cons]; omega) (by rw [List.length_cons]; omega) ho (fun h => nomatch h) (fun x' rest' h => by cases h; exact ⟨hb, hx⟩)
end
end K42
namespace K42
open PySem PySem.Spec PyProof.Rows L2 Z Y LamX NdefX
section
variable {P : Program} {w : World} {K : PySem.W.Frag} {mg : Str → Option Value} {base : Heap} {f : Addr} {fd : FuncData}
/-! ## check_goal, and what raises by it: corners, upper_bounds, lower_bounds, base, Keeper, least_lots -/
/-- what check_goal refuses -/
def BadGo (kS kE : EK) (n : Nat) (d g : PyData) (k : EK) (r : PyData) : Prop := (∃ i, BadSm n d i ∧ k = kS ∧ r = .int i) ∨ (GoodSm n d ∧ isExp g (n : Nat) = false ∧ k = kE ∧ r = g)
def GGo (C : Addr) (kS kE : EK) (K : PySem.W.Frag) : List V → Hp → EK → PyData → Prop := fun vs S k r => ∃ z ps v u t d g, vs = [v, u, t] ∧ SchP K C z ps v S ∧ Dt K d u S ∧ Dt K g t S ∧ BadGo kS kE z.cps.size d g k r
/-- what base, Keeper refuse -/
def GSm (C : Addr) (kS : EK) (K : PySem.W.Frag) : List V → Hp → EK → PyData → Prop := fun vs S k r => ∃ z ps v u d i, vs = [v, u] ∧ SchP K C z ps v S ∧ Dt K d u S ∧ BadSm z.cps.size d i ∧ k = kS ∧ r = .int i
/-- what least_lots refuses -/
def BadGs (n : Nat) (g : PyData) (i : Int) : Prop :=
  (i = -1 ∧ ((isD g "list" || isD g "tuple") = false ∨ g = .tuple [] ∨ g = .list [])) ∨
  (∃ (es : List (List Int)) (x : PyData), i = (es.length : Nat) ∧ g = .list (es.map tI ++ [x]) ∧ SmsOk n es ∧ es.length + 1 ≤ 5 ∧ isExp x (n : Nat) = false)
def GLo (C : Addr) (kS : EK) (K : PySem.W.Frag) : List V → Hp → EK → PyData → Prop := fun vs S k r => ∃ z ps v u t d g i, vs = [v, u, t] ∧ SchP K C z ps v S ∧ Dt K d u S ∧ Dt K g t S ∧ (BadSm z.cps.size d i ∨ (GoodSm z.cps.size d ∧ BadGs z.cps.size g i)) ∧ k = kS ∧ r = .int i
theorem bad_not_good {n : Nat} {d : PyData} {i : Int} (h : BadSm n d i) (hg : GoodSm n d) : False := by
  obtain ⟨es, rfl, h1, h5, ho⟩ := hg
  rcases h with ⟨_, h⟩ | ⟨es', x, rest, rfl, e, ho', hl, hb⟩
  · rcases h with h | h | ⟨l, h, hl⟩
    · cases h
    · cases h
    · cases h
      rw [List.length_map] at hl
      exact hl ⟨h1, h5⟩
  · injection e with e
    have hx : (es.map tI)[es'.length]? = some x := by
      rw [e, List.getElem?_append_right (by rw [List.length_map]; exact Nat.le_refl _), List.length_map, Nat.sub_self]; rfl
    have hp : ∀ j (h : j < es'.length), (es.map tI)[j]? = some (tI es'[j]) := fun j h => by
      rw [e, List.getElem?_append_left (by rw [List.length_map]; exact h), List.getElem?_map, List.getElem?_eq_getElem h]; rfl
    rw [List.getElem?_map] at hx
    obtain ⟨y, hy, rfl⟩ := Option.map_eq_some_iff.mp hx
    have hyl := (List.getElem?_eq_some_iff.mp hy).1
    rcases hb with hb | ⟨e', he', he2⟩
    · have hm := List.mem_of_getElem? hy
      rw [exp_rule (ho.2 y hm).1 (ho.2 y hm).2] at hb
      cases hb
    · obtain ⟨j, hj, rfl⟩ := List.mem_iff_getElem.mp he'
      have q := hp j hj
      rw [List.getElem?_map] at q
      obtain ⟨y2, hy2, he3⟩ := Option.map_eq_some_iff.mp q
      have i1 := congrArg unI he2
      have i2 := congrArg unI he3
      rw [unI_tI, unI_tI] at i1 i2
      have hj2 := (List.getElem?_eq_some_iff.mp hy2).1
      have a1 : es[es'.length] = y := (List.getElem?_eq_some_iff.mp hy).2
      have a2 : es[j] = y2 := (List.getElem?_eq_some_iff.mp hy2).2
      have : es[j] = es[es'.length] := by rw [a1, a2, i1, i2]
      exact absurd ((List.getElem_inj ho.1).mp this) (by omega)
theorem bad_uniq {n : Nat} {d : PyData} {i j : Int} (h : BadSm n d i) (h' : BadSm n d j) : i = j := by
  have len : ∀ {es : List (List Int)} {x : PyData} {rest : List PyData}, es.length + 1 + rest.length ≤ 5 → 1 ≤ (es.map tI ++ x :: rest).length ∧ (es.map tI ++ x :: rest).length ≤ 5 := fun {es x rest} h => by
    rw [List.length_append, List.length_map, List.length_cons]; omega
  have pre : ∀ {es es' : List (List Int)} {x x' : PyData} {rest rest' : List PyData}, es.map tI ++ x :: rest = es'.map tI ++ x' :: rest' → SmsOk n es' → (isExp x (n : Nat) = false ∨ ∃ e ∈ es, x = tI e) → es.length < es'.length → False := fun {es es' x x' rest rest'} e ho hb hlt => by
    have hx : (es'.map tI ++ x' :: rest')[es.length]? = some x := by
      rw [← e, List.getElem?_append_right (by rw [List.length_map]; exact Nat.le_refl _), List.length_map, Nat.sub_self]; rfl
    rw [List.getElem?_append_left (by rw [List.length_map]; exact hlt), List.getElem?_map, List.getElem?_eq_getElem hlt] at hx
    have ex : tI es'[es.length] = x := Option.some.inj hx
    rcases hb with hb | ⟨e0, he0, he1⟩
    · rw [← ex, exp_rule (ho.2 _ (List.getElem_mem hlt)).1 (ho.2 _ (List.getElem_mem hlt)).2] at hb
      cases hb
    · obtain ⟨j, hj, rfl⟩ := List.mem_iff_getElem.mp he0
      have hj2 : (es'.map tI ++ x' :: rest')[j]? = some (tI es[j]) := by
        rw [← e, List.getElem?_append_left (by rw [List.length_map]; exact hj), List.getElem?_map, List.getElem?_eq_getElem hj]; rfl
      rw [List.getElem?_append_left (by rw [List.length_map]; omega), List.getElem?_map, List.getElem?_eq_getElem (show j < es'.length by omega)] at hj2
      have e2 := congrArg unI (Option.some.inj hj2)
      have e3 := congrArg unI (ex.trans he1)
      rw [unI_tI, unI_tI] at e2 e3
      exact absurd ((List.getElem_inj ho.1).mp (e2.trans e3.symm)) (by omega)
  rcases h with ⟨rfl, h⟩ | ⟨es, x, rest, rfl, rfl, ho, hl, hb⟩ <;> rcases h' with ⟨rfl, h'⟩ | ⟨es', x', rest', rfl, e', ho', hl', hb'⟩
  · rfl
  · subst e'
    rcases h with h | h | ⟨l, h, hn⟩
    · cases h
    · cases h
    · cases h; exact absurd (len hl') hn
  · rcases h' with h | h | ⟨l, h, hn⟩
    · cases h
    · cases h
    · cases h; exact absurd (len hl) hn
  · injection e' with e'
    rcases Nat.lt_trichotomy es.length es'.length with h | h | h
    · exact (pre e' ho' hb h).elim
    · rw [h]
    · exact (pre e'.symm ho hb' h).elim
theorem sc_check_goal : FnScope ["schema", "sums", "goal"] ["schema", "sums", "goal"] (defScope scheck_goal) := ⟨rfl, rfl, rfl, by decide +kernel, rfl, by decide +kernel, by decide +kernel⟩
theorem ok_check_goal {C : Addr} {kS kE : EK} (F : FnT K "check_goal" scheck_goal f fd) (D1 : KDX P w K mg base "check_sums" 5 (spSm K C kS)) (RE : Err P w K mg base "InvalidExponent" kE.C "given" kE.code) (hE : kE.fn = some "given") (D2 : KM P w K mg base C "is_exponent" 3 (spO K (Fsch_isExp C))) (c : Cls K C) : FnOk P w K mg base (L2.CX P w) 6 f fd ["schema", "sums", "goal"] (spX K (GGo C kS kE K)) := by
  refine fn_hsX F sc_check_goal (fun vs H Q E h => ?_) (fun cdv A outer sh H vs Q E hr h tk => ?_)
  · obtain ⟨S, k, r, _, ⟨z, ps, v, u, t, d, g, rfl, _⟩, _⟩ := h
    rfl
  · obtain ⟨S, k, r, s, ⟨z, ps, v, u, t, d, g, rfl, pv, pu, pt, hb⟩, hx⟩ := h
    refine hs_exprX (er_call tk D1 (hr.mono (by decide)) (ea_2 (ee_var 0 rfl pv) (ee_var 1 rfl pu)) (spSm_O (d := d) (by
      rcases hb with ⟨i, h, _⟩ | ⟨h, _⟩
      · exact .inr ⟨i, h⟩
      · exact .inl h))) s (fun k' r' ⟨i', h', e1, e2⟩ => ?_) fun v1 S1 H1 g1 hg => ?_
    · subst e1
      subst e2
      rcases hb with ⟨i, h, rfl, rfl⟩ | ⟨h, _⟩
      · rw [bad_uniq h' h]; exact hx
      · exact (bad_not_good h' h).elim
    · rcases hb with ⟨i, h, _⟩ | ⟨_, ho, rfl, rfl⟩
      · exact (bad_not_good h hg).elim
      · have pv1 : SchP K C z ps v S1 := Mn.up g1.st pv
        refine hs_ifT ((et_not (et_val (ee_meth D2 c (hr.mono (by decide)) (ee_var (P := SchP K C z ps) 0 rfl pv1) SchP.insP (ea_1 (ee_var 2 rfl (pt.up g1.st))) (spO_E (F := Fsch_isExp C) (P0 := SchP K C z ps) (ds := [r]) (d := .bool (isExp r z.cps.size)) ⟨_, _, SchP.wid, rfl, rfl⟩)))).is (by rw [ho]; rfl)) g1.sub fun S2 H2 g2 => ?_
        exact hs_raise1 rfl tk RE hE (by decide) (hr.mono (by decide)) (ee_var 2 rfl (pt.up (g1.trans g2).st)) g2.sub (hx.up (g1.trans g2))
theorem spGo_O {C : Addr} {kS kE : EK} {K : PySem.W.Frag} {S : Hp} {z : Str} {ps : Rules} {d g : PyData} {k : EK} {r : PyData} (h : BadGo kS kE z.cps.size d g k r) : SpO K (spX K (GGo C kS kE K)) S [SchP K C z ps, Dt K d, Dt K g] NoP (O1 k r) := spX_O fun vs S1 _ al => by
  obtain ⟨v, u, t, rfl, pv, pu, pt⟩ := al.three
  exact ⟨k, r, ⟨z, ps, v, u, t, d, g, rfl, pv, pu, pt, h⟩, rfl, rfl⟩
theorem sc_upper : FnScope ["schema", "sums", "goal", "corner"] ["schema", "sums", "goal"] (defScope supper_bounds) := ⟨rfl, rfl, rfl, by decide +kernel, rfl, by decide +kernel, by decide +kernel⟩
theorem ok_upper {C : Addr} {kS kE : EK} (F : FnT K "upper_bounds" supper_bounds f fd) (D1 : KDX P w K mg base "check_goal" 6 (spX K (GGo C kS kE K))) : FnOk P w K mg base (L2.CX P w) 7 f fd ["schema", "sums", "goal"] (spX K (GGo C kS kE K)) := by
  refine fn_hsX F sc_upper (fun vs H Q E h => ?_) (fun cdv A outer sh H vs Q E hr h tk => ?_)
  · obtain ⟨S, k, r, _, ⟨z, ps, v, u, t, d, g, rfl, _⟩, _⟩ := h
    rfl
  · obtain ⟨S, k, r, s, ⟨z, ps, v, u, t, d, g, rfl, pv, pu, pt, hb⟩, hx⟩ := h
    exact hs_exprX (er_call tk D1 (hr.mono (by decide)) (ea_cons (ee_var 0 rfl pv) (ea_2 (ee_var 1 rfl pu) (ee_var 2 rfl pt))) (spGo_O hb)) s (fun k' r' ⟨e1, e2⟩ => by subst e1; subst e2; exact hx) fun v1 S1 H1 g1 hg => hg.elim
abbrev NLow : List Str := ["schema", "sums", "goal", "wider", "place", "found", "exponent", "some", "corner"]
theorem sc_lower : FnScope NLow ["schema", "sums", "goal"] (defScope slower_bounds) := ⟨rfl, rfl, rfl, by decide +kernel, rfl, by decide +kernel, by decide +kernel⟩
theorem ok_lower {C : Addr} {kS kE : EK} (F : FnT K "lower_bounds" slower_bounds f fd) (D1 : KDX P w K mg base "check_goal" 6 (spX K (GGo C kS kE K))) : FnOk P w K mg base (L2.CX P w) 7 f fd ["schema", "sums", "goal"] (spX K (GGo C kS kE K)) := by
  refine fn_hsX F sc_lower (fun vs H Q E h => ?_) (fun cdv A outer sh H vs Q E hr h tk => ?_)
  · obtain ⟨S, k, r, _, ⟨z, ps, v, u, t, d, g, rfl, _⟩, _⟩ := h
    rfl
  · obtain ⟨S, k, r, s, ⟨z, ps, v, u, t, d, g, rfl, pv, pu, pt, hb⟩, hx⟩ := h
    exact hs_exprX (er_call tk D1 (hr.mono (by decide)) (ea_cons (ee_var 0 rfl pv) (ea_2 (ee_var 1 rfl pu) (ee_var 2 rfl pt))) (spGo_O hb)) s (fun k' r' ⟨e1, e2⟩ => by subst e1; subst e2; exact hx) fun v1 S1 H1 g1 hg => hg.elim
theorem sc_corners : GScope ["schema", "sums", "goal", "corner"] ["schema", "sums", "goal"] (defScope scorners) := ⟨rfl, rfl, rfl, by decide +kernel, rfl, by decide +kernel, by decide +kernel⟩
theorem ok_corners {C : Addr} {kS kE : EK} (F : FnT K "corners" scorners f fd) (D1 : KDX P w K mg base "check_goal" 6 (spX K (GGo C kS kE K))) : GFnR P w K mg base 7 f fd ["schema", "sums", "goal"] (spX K (GGo C kS kE K)) := by
  refine gfnr_of F sc_corners (fun vs H Q E h => ?_) (fun cdv A outer sh H vs E pn hr h tk => ?_)
  · obtain ⟨S, k, r, _, ⟨z, ps, v, u, t, d, g, rfl, _⟩, _⟩ := h
    rfl
  · obtain ⟨S, k, r, s, ⟨z, ps, v, u, t, d, g, rfl, pv, pu, pt, hb⟩, hx⟩ := h
    exact hs_exprX (X := gcxP P w K mg base ["schema", "sums", "goal", "corner"] "corners" (defScope scorners) f cdv A outer sh H E pn) (er_call tk D1 (hr.mono (by decide)) (ea_cons (ee_var 0 rfl pv) (ea_2 (ee_var 1 rfl pu) (ee_var 2 rfl pt))) (spGo_O hb)) s (fun k' r' ⟨e1, e2⟩ => by subst e1; subst e2; exact hx) fun v1 S1 H1 g1 hg => hg.elim
theorem spSm_X {C : Addr} {kS : EK} {K : PySem.W.Frag} {S : Hp} {z : Str} {ps : Rules} {d : PyData} {i : Int} (h : BadSm z.cps.size d i) : SpO K (spSm K C kS) S [SchP K C z ps, Dt K d] NoP (O1 kS (.int i)) := fun vs S1 H1 st s al Q E q hx => by
  obtain ⟨v, u, rfl, p1, p2⟩ := al.two
  exact ⟨S1, z, ps, v, u, d, rfl, s, p1, p2, .inr ⟨i, h, hx _ _ ⟨rfl, rfl⟩⟩⟩
theorem sc_base : FnScope ["schema", "sums"] ["schema", "sums"] (defScope sbase) := ⟨rfl, rfl, rfl, by decide +kernel, rfl, by decide +kernel, by decide +kernel⟩
theorem ok_base {C : Addr} {kS : EK} (F : FnT K "base" sbase f fd) (D1 : KDX P w K mg base "check_sums" 5 (spSm K C kS)) : FnOk P w K mg base (L2.CX P w) 6 f fd ["schema", "sums"] (spX K (GSm C kS K)) := by
  refine fn_hsX F sc_base (fun vs H Q E h => ?_) (fun cdv A outer sh H vs Q E hr h tk => ?_)
  · obtain ⟨S, k, r, _, ⟨z, ps, v, u, d, i, rfl, _⟩, _⟩ := h
    rfl
  · obtain ⟨S, k, r, s, ⟨z, ps, v, u, d, i, rfl, pv, pu, hb, rfl, rfl⟩, hx⟩ := h
    exact hs_exprX (er_call tk D1 (hr.mono (by decide)) (ea_2 (ee_var 0 rfl pv) (ee_var 1 rfl pu)) (spSm_X hb)) s (fun k' r' ⟨e1, e2⟩ => by subst e1; subst e2; exact hx) fun v1 S1 H1 g1 hg => hg.elim
theorem sc_Kinit : FnScope ["self", "schema", "sums"] ["self", "schema", "sums"] (defScope sKeeper____init__) := ⟨rfl, rfl, rfl, by decide +kernel, rfl, by decide +kernel, by decide +kernel⟩
theorem ok_Kinit {CK C : Addr} {kS : EK} (F : FnM K "__init__" "Keeper.__init__" sKeeper____init__ f fd) (D1 : KDX P w K mg base "check_sums" 5 (spSm K C kS)) : FnOk P w K mg base (L2.CX P w) 6 f fd ["self", "schema", "sums"] (spXI' CK K (GSm C kS K)) := by
  refine fn_hsX F sc_Kinit (fun vs H Q E h => ?_) (fun cdv A outer sh H vs Q E hr h tk => ?_)
  · obtain ⟨S, a, dx, ws, k, r, rfl, _, _, _, ⟨z, ps, v, u, d, i, rfl, _⟩, _⟩ := h
    rfl
  · obtain ⟨S, a, dx, ws, k, r, rfl, s, ha, hHa, ⟨z, ps, v, u, d, i, rfl, pv, pu, hb, rfl, rfl⟩, hx⟩ := h
    exact hs_exprX (er_call tk D1 (hr.mono (by decide)) (ea_2 (ee_var 1 rfl pv) (ee_var 2 rfl pu)) (spSm_X hb)) s (fun k' r' ⟨e1, e2⟩ => by subst e1; subst e2; exact hx) fun v1 S1 H1 g1 hg => hg.elim
/-! ## least_lots refused -/
abbrev NLl : List Str := ["schema", "pool", "goals", "at", "goal", "rays", "good"]
theorem sc_lots : FnScope NLl ["schema", "pool", "goals"] (defScope sleast_lots) := ⟨rfl, rfl, rfl, by decide +kernel, rfl, by decide +kernel, by decide +kernel⟩
theorem ok_lots {C : Addr} {kS : EK} (F : FnT K "least_lots" sleast_lots f fd) (D1 : KDX P w K mg base "check_sums" 5 (spSm K C kS)) (RI : Err P w K mg base "InvalidSums" kS.C "at" kS.code) (hI : kS.fn = some "at") (D2 : KM P w K mg base C "is_exponent" 3 (spO K (Fsch_isExp C))) (c : Cls K C) (g1 : mg "isinstance" = none) (g2 : mg "list" = none) (g3 : mg "tuple" = none) (g4 : mg "len" = none) (g5 : mg "enumerate" = none) (gM : ∃ t, mg "MOST_SUMS" = some (.int 5 t)) : FnOk P w K mg base (L2.CX P w) 6 f fd ["schema", "pool", "goals"] (spX K (GLo C kS K)) := by
  refine fn_hsX F sc_lots (fun vs H Q E h => ?_) (fun cdv A outer sh H vs Q E hr h tk => ?_)
  · obtain ⟨S, k, r, _, ⟨z, ps, v, u, t, d, g, i, rfl, _⟩, _⟩ := h
    rfl
  · obtain ⟨S, k, r, s, ⟨z, ps, v, u, t, d, g, i, rfl, pv, pu, pt, hb, rfl, rfl⟩, hx⟩ := h
    obtain ⟨tM, gM⟩ := gM
    refine hs_exprX (er_call tk D1 (hr.mono (by decide)) (ea_2 (ee_var 0 rfl pv) (ee_var 1 rfl pu)) (spSm_O (d := d) (by
      rcases hb with h | ⟨h, _⟩
      · exact .inr ⟨i, h⟩
      · exact .inl h))) s (fun k' r' ⟨i', h', e1, e2⟩ => ?_) fun v1 S1 H1 e1 hg => ?_
    · subst e1
      subst e2
      rcases hb with h | ⟨h, _⟩
      · rw [bad_uniq h' h]; exact hx
      · exact (bad_not_good h' h).elim
    rcases hb with h | ⟨_, hb⟩
    · exact (bad_not_good h hg).elim
    have pv1 : SchP K C z ps v S1 := Mn.up e1.st pv
    have pt1 := pt.up e1.st
    have hx1 := hx.up e1
    let X2 := cxOf (L2.CX P w) P w K mg base NLl "least_lots" (defScope sleast_lots) f cdv A outer sh H E
    have isi : EE X2 [some v, some u, some t, none, none, none, none] S1 (match defBody sleast_lots with | _ :: .If (.BoolOp _ (.UnaryOp _ e _ :: _) _) _ _ _ :: _ => e | _ => .Constant .none 0 ⟨0, 0, 0, 0⟩) (Dt K (.bool (isD g "list" || isD g "tuple"))) := ee_isiLT rfl g1 g2 g3 (ee_var 2 rfl pt1)
    have hlen : ∀ {m : Nat} (hl : lenD g = some m) (ho : (isD g "list" || isD g "tuple") = true), ET X2 [some v, some u, some t, none, none, none, none] S1 (match defBody sleast_lots with | _ :: .If c _ _ _ :: _ => c | _ => .Constant .none 0 ⟨0, 0, 0, 0⟩) (!decide (1 ≤ m ∧ m ≤ 5)) := fun {m} hl ho => by
      refine ET.is (et_w (ew_or (et_not (et_val isi)) fun _ => ew_or1 (et_not (et_chainLE ee_int (ee_len g4 hl (ee_var 2 rfl pt1) (fun x hx => by subst hx; cases ho)) (ee_globI gM))))) ?_
      have e1 : (1 : Int) ≤ ((m : Nat) : Int) ↔ 1 ≤ m := by omega
      have e2 : ((m : Nat) : Int) ≤ 5 ↔ m ≤ 5 := by omega
      simp only [e1, e2, ho]
      by_cases h1 : 1 ≤ m <;> by_cases h2 : m ≤ 5 <;> simp [h1, h2]
    rcases hb with ⟨rfl, h⟩ | ⟨es, x, rfl, rfl, ⟨hnd, hall⟩, hl5, hbx⟩
    · rcases h with ho | rfl | rfl
      · refine hs_ifT ((et_w (ew_or (k2 := true) (et_not (et_val isi)) fun h => ?_)).is (by rw [ho]; rfl)) e1.sub fun S2 H2 e2 => hs_raise1 rfl tk RI hI (by decide) (hr.mono (by decide)) (ee_neg ee_int) e2.sub (hx1.up e2)
        rw [ho] at h; cases h
      · exact hs_ifT ((hlen (m := 0) rfl rfl).is rfl) e1.sub fun S2 H2 e2 => hs_raise1 rfl tk RI hI (by decide) (hr.mono (by decide)) (ee_neg ee_int) e2.sub (hx1.up e2)
      · exact hs_ifT ((hlen (m := 0) rfl rfl).is rfl) e1.sub fun S2 H2 e2 => hs_raise1 rfl tk RI hI (by decide) (hr.mono (by decide)) (ee_neg ee_int) e2.sub (hx1.up e2)
    · refine hs_ifN ((hlen (m := es.length + 1) (by show some _ = some _; rw [List.length_append, List.length_map]; rfl) rfl).is (by rw [decide_eq_true ⟨by omega, hl5⟩]; rfl)) e1.sub fun S2 H2 e2 => ?_
      refine hs_for (fun i σ S2 => (∃ a3 a4, σ = [some v, some u, some t, a3, a4, none, none]) ∧ i ≤ es.length) (passes_of rfl) rfl (ei_enumL g5 (ee_var 2 rfl (pt1.up e2.st))) e2.sub (fun S2 H2 g3 => ⟨⟨none, none, rfl⟩, Nat.zero_le _⟩) ?_ ?_
      · rintro i Pi σ1 S3 H3 y S4 H4 hP g3 ⟨⟨a3, a4, rfl⟩, hi⟩ g4' px
        have hi2 : i < (es.map tI ++ [x]).length := by
          have := (List.getElem?_eq_some_iff.mp hP).1
          rw [enum_len] at this
          exact this
        obtain ⟨q, hq⟩ : ∃ q, (es.map tI ++ [x])[i]? = some q := ⟨_, List.getElem?_eq_getElem hi2⟩
        have px2 : Dt K (.tuple [.int (i : Nat), q]) y S4 := by
          rw [ds_get (enum_get hq)] at hP
          obtain rfl := Option.some.inj hP
          exact px
        obtain ⟨v1, v2, p1, p2, hg⟩ := eg_pair (σ := [some v, some u, some t, a3, a4, none, none]) (X := X2) (i := 3) (j := 4) rfl sc_lots.nd rfl rfl (by first | exact Or.inl rfl | exact Or.inr rfl) (by first | exact Or.inl rfl | exact Or.inr rfl) px2
        refine hg H4 g4'.sub _ ?_
        have g24 := (e2.trans g3).trans g4'
        have pv4 : SchP K C z ps v S4 := Mn.up g24.st pv1
        have hc : ET X2 [some v, some u, some t, some v1, some v2, none, none] S4 (match defBody sleast_lots with | _ :: _ :: .For _ _ (.If c _ _ _ :: _) _ _ :: _ => c | _ => .Constant .none 0 ⟨0, 0, 0, 0⟩) (!isExp q z.cps.size) :=
          et_not (et_val (ee_meth D2 c (hr.mono (by decide)) (ee_var (P := SchP K C z ps) 0 rfl pv4) SchP.insP (ea_1 (ee_var 4 rfl p2)) (spO_E (F := Fsch_isExp C) (P0 := SchP K C z ps) (ds := [q]) (d := .bool (isExp q z.cps.size)) ⟨_, _, SchP.wid, rfl, rfl⟩)))
        rcases Nat.lt_or_ge i es.length with h | h
        · have ey : q = tI es[i] := by
            rw [List.getElem?_append_left (by rw [List.length_map]; exact h), List.getElem?_map, List.getElem?_eq_getElem h] at hq
            exact (Option.some.inj hq).symm
          subst ey
          refine hs_ifN (hc.is ?_) g4'.sub fun S5 H5 g5 => hs_nil ⟨S5, g5, ⟨_, _, rfl⟩, h⟩
          rw [exp_rule (hall _ (List.getElem_mem h)).1 (hall _ (List.getElem_mem h)).2]
          rfl
        · obtain rfl : i = es.length := by omega
          obtain rfl : x = q := by
            rw [List.getElem?_append_right (by rw [List.length_map]; exact Nat.le_refl _), List.length_map, Nat.sub_self] at hq
            exact Option.some.inj hq
          exact hs_ifT (hc.is (by rw [hbx]; rfl)) g4'.sub fun S5 H5 g5 => hs_raise1 rfl tk RI hI (by decide) (hr.mono (by decide)) (ee_var 3 rfl (p1.up g5.st)) g5.sub (hx1.up (g24.trans g5))
      · rintro σ1 S3 H3 g3 ⟨_, hi⟩
        have hn : (es.map tI ++ [x]).length ≤ es.length := by rw [enum_len] at hi; exact hi
        rw [List.length_append, List.length_map] at hn
        exact absurd hn (by simp)
end
end K42
namespace K42
open PySem PySem.Spec PyProof.Rows L2 Z Y LamX NdefX
section
variable {P : Program} {w : World} {K : PySem.W.Frag} {mg : Str → Option Value} {base : Heap} {f : Addr} {fd : FuncData}
/-! ## _law_field: any kind -/
theorem sc_law_field : FnScope ["_law_e"] ["_law_e"] (defScope sL_field) := ⟨rfl, rfl, rfl, by decide +kernel, rfl, by decide +kernel, by decide +kernel⟩
theorem ok_law_fieldG {tup : List Value} (F : FnT K "_law_field" sL_field f fd) : FnP P w K mg base 1 f fd ["_law_e"] (spFieldG K tup) := by
  refine fn_hsP F sc_law_field (fun p vs H Q h => ?_) (fun cdv A outer sh H vs Q p hr h => ?_)
  · obtain ⟨S, k, g, _, rfl, _⟩ := h
    rfl
  · obtain ⟨S, k, g, s, rfl, ok, px, q⟩ := h
    have hp : p ∈ [p] := List.mem_cons_self
    have hfld := ok.fld
    have fin : ∀ {S1 H1 : Hp} {v : V} {S' H' : Hp}, Gr S H S1 H1 → Gr S1 H1 S' H' → Dt K g v S' → Q v H' := fun a b c => q _ _ _ (a.trans b) c
    refine hs_if (et_inLs (ns := fldAt) (ee_codeG hp px ok (ee_var 0 rfl rfl)) (ee_lst (ds := fldAt.map .str) (by repeat (first | exact ea_nil | refine ea_cons ee_str ?_)))) s (fun hk S1 H1 g1 => ?_) (fun hk S1 H1 g1 => hs_nil ?_)
    · unfold fieldOf at hfld
      rw [if_pos hk] at hfld
      exact hs_ret (ee_keptG hp (px.up g1.st) ok hfld (ee_var 0 rfl rfl)) g1.sub fun v S' H' g' pv => fin g1 g' pv
    unfold fieldOf at hfld
    rw [if_neg (by rw [hk]; exact Bool.false_ne_true)] at hfld
    have px := px.up g1.st
    refine hs_if (et_inLs (ns := fldNm) (ee_codeG hp px ok (ee_var 0 rfl rfl)) (ee_lst (ds := fldNm.map .str) (by repeat (first | exact ea_nil | refine ea_cons ee_str ?_)))) g1.sub (fun hk S2 H2 g2 => ?_) (fun hk S2 H2 g2 => hs_nil ?_)
    · rw [if_pos hk] at hfld
      exact hs_ret (ee_keptG hp (px.up g2.st) ok hfld (ee_var 0 rfl rfl)) g2.sub fun v S' H' g' pv => fin (g1.trans g2) g' pv
    rw [if_neg (by rw [hk]; exact Bool.false_ne_true)] at hfld
    have px := px.up g2.st
    have g12 := g1.trans g2
    refine hs_if (et_inLs (ns := fldNo) (ee_codeG hp px ok (ee_var 0 rfl rfl)) (ee_lst (ds := fldNo.map .str) (by repeat (first | exact ea_nil | refine ea_cons ee_str ?_)))) g2.sub (fun hk S3 H3 g3 => ?_) (fun hk S3 H3 g3 => hs_nil ?_)
    · rw [if_pos hk] at hfld
      obtain ⟨dd, fs, _, _, _, _, _, h6, _⟩ := px
      have e := h6 hfld
      subst e
      exact hs_ret (P := Dt K .none) ee_non g3.sub fun v S' H' g' pv => fin (g12.trans g3) g' pv
    rw [if_neg (by rw [hk]; exact Bool.false_ne_true)] at hfld
    have px := px.up g3.st
    have g13 := g12.trans g3
    refine hs_if (et_eqS (ee_codeG hp px ok (ee_var 0 rfl rfl)) ee_str) g3.sub (fun hk S4 H4 g4 => ?_) (fun hk S4 H4 g4 => hs_nil ?_)
    · rw [if_pos hk] at hfld
      exact hs_ret (ee_keptG hp (px.up g4.st) ok hfld (ee_var 0 rfl rfl)) g4.sub fun v S' H' g' pv => fin (g13.trans g4) g' pv
    rw [if_neg (by rw [hk]; exact Bool.false_ne_true)] at hfld
    have px := px.up g4.st
    have g14 := g13.trans g4
    refine hs_if (et_eqS (ee_codeG hp px ok (ee_var 0 rfl rfl)) ee_str) g4.sub (fun hk S5 H5 g5 => ?_) (fun hk S5 H5 g5 => hs_nil ?_)
    · rw [if_pos hk] at hfld
      exact hs_ret (ee_keptG hp (px.up g5.st) ok hfld (ee_var 0 rfl rfl)) g5.sub fun v S' H' g' pv => fin (g14.trans g5) g' pv
    rw [if_neg (by rw [hk]; exact Bool.false_ne_true)] at hfld
    have px := px.up g5.st
    have g15 := g14.trans g5
    refine hs_if (et_eqS (ee_codeG hp px ok (ee_var 0 rfl rfl)) ee_str) g5.sub (fun hk S6 H6 g6 => ?_) (fun hk S6 H6 g6 => hs_nil ?_)
    · rw [if_pos hk] at hfld
      exact hs_ret (ee_keptG hp (px.up g6.st) ok hfld (ee_var 0 rfl rfl)) g6.sub fun v S' H' g' pv => fin (g15.trans g6) g' pv
    rw [if_neg (by rw [hk]; exact Bool.false_ne_true)] at hfld
    have px := px.up g6.st
    have g16 := g15.trans g6
    refine hs_ifN ((et_eqS (ee_codeG hp px ok (ee_var 0 rfl rfl)) ee_str).is ok.nt) g6.sub fun S7 H7 g7 => ?_
    have px := px.up g7.st
    refine hs_ifN ((et_eqS (ee_codeG hp px ok (ee_var 0 rfl rfl)) ee_str).is ok.nb) g7.sub fun S8 H8 g8 => ?_
    have px := px.up g8.st
    have g18 := (g16.trans g7).trans g8
    refine hs_ret (ee_if (Q' := Dt K g) (et_eqS (ee_codeG hp px ok (ee_var 0 rfl rfl)) ee_str) (fun hk => ?_) fun hk => ?_) g8.sub fun v S' H' g' pv => fin g18 g' pv
    · rw [if_pos hk] at hfld
      exact ee_keptG hp px ok hfld (ee_var 0 rfl rfl)
    · rw [if_neg (by rw [hk]; exact Bool.false_ne_true)] at hfld
      exact ee_keptG hp px ok hfld (ee_var 0 rfl rfl)
/-! ## _law_try, _law_tries: asks of any kind -/
theorem sc_law_try : FnScope ["_law_ask", "_law_e"] ["_law_ask"] (defScope sL_try) := ⟨rfl, rfl, rfl, by decide +kernel, rfl, by decide +kernel, by decide +kernel⟩
theorem ok_law_try {C1 C2 C3 : Addr} {k : Nat} (F : FnT K "_law_try" sL_try f fd) (D1 : ∃ f fd, FnP P w K mg base 1 f fd ["_law_e"] (spFieldG K [.ref C1, .ref C2, .ref C3]) ∧ mg "_law_field" = some (.ref f) ∧ PySem.W.keepIn K (.ref f) = true ∧ Binds K fd ["_law_e"] [])
    (m1 : mg "DealError" = some (.ref C1)) (m2 : mg "Missing" = some (.ref C2)) (m3 : mg "NothingLeft" = some (.ref C3)) (hk : 1 ≤ k) : FnOk P w K mg base CX0 (k + 1) f fd ["_law_ask"] (spTry P w K mg base [.ref C1, .ref C2, .ref C3] k) := by
  refine fn_hs F sc_law_try (fun vs H Q E h => ?_) (fun cdv A outer sh H vs Q E hr h => ?_)
  · obtain ⟨S, f', F', fr, dvs, ws, L, sp, Od, O, rfl, _⟩ := h
    rfl
  · obtain ⟨S, f', F', fr, dvs, ws, L, sp, Od, O, rfl, LO, KH, s, hok, hR, q⟩ := h
    obtain ⟨fF, fdF, FP, hmF, hkF, hbF⟩ := D1
    refine hs_tryAs (Wout := fun _ _ _ _ => False) (i := 1) (n := "_law_e") rfl rfl (show (["_law_ask", "_law_e"] : List Str).Nodup by decide) rfl rfl LamX.takes0 fun pn xe tk _ => ?_
    refine hs_cons (ps_ret (pe_tup (pa_cons (te := tC (.str "")) pe_str (pa_cons (te := bE _ _) peb pa_nil)))) ?_
    refine he_callLam (i := 0) (E := fun cls d H' => ∀ σ', WAs _ _ 1 _ (fun _ _ _ _ => False) _ cls d σ' H') tk (fun cls d σ' H' h => h σ') LO hr rfl KH (hR _ _ (fun v S1 H1 g1 ⟨d, hd, pv⟩ hL => ?_) fun e g ho => ?_) rfl (Or.inl rfl)
    · -- a value
      have g2 : Gr S H S1 (shownL H1 L) := Y.Gr.shownL g1 hL KH.shw KH.nd
      refine ⟨by show 2 ≤ 16777216; omega, fun p hp => ?_⟩
      exact q _ _ _ (g2.trans (Gr.new g2.sub hp)) ⟨_, .inl ⟨d, hd, rfl⟩, Dt.tup_mk (tus_of upd_same) (al_dts (ds := [.str "", d]) (.cons (.str _) (.cons (pv.up (Same.new (g2.sub.free hp))) .nil))) (by show 2 ≤ 16777216; omega)⟩
    · intro d fs S3 H3 g1 hd hxd hcode hnone hat hL σ' hlen
      have ok := hok e g ho
      have g2 : Gr S H S3 (shownL H3 L) := Y.Gr.shownL g1 hL KH.shw KH.nd
      refine ⟨true, tst3 ⟨rfl, by decide, .inl m1⟩ ⟨rfl, by decide, .inl m2⟩ ⟨rfl, by decide, .inl m3⟩ ok.ex, fun _ a oe pn na nb hz hf => ?_, fun z => nomatch z⟩
      have px : ExcG K e g (a, oe) S3 := ⟨d, fs, hz.1, hz.2, hf, hxd, hcode, hnone, hat⟩
      have hσ : (σ'.set 1 (some (V.ref a)))[1]? = some (some (V.ref a)) := by
        have z : σ'.length = 2 := hlen
        rw [List.getElem?_set_self (by omega)]
      refine hs_cons (ps_ret (pe_tup (pa_cons (te := bE _ _) peb (pa_cons (te := bE _ _) peb pa_nil)))) ?_
      refine (ee_codeG (p := (a, oe)) List.mem_cons_self px ok (ee_var (P := fun w _ => w = .ref a) 1 hσ rfl)) _ g2.sub _ fun x S4 H4 g4 px4 => ?_
      cases px4
      refine he_callP FP ⟨(L2H.roomH_of (hr.mono hk)).dp, (L2H.roomH_of (hr.mono hk)).un⟩ hmF hkF hbF (he_of (pv 1 rfl (Or.inl rfl) (by decide) (by decide)) ⟨.ref a, hσ, rfl, rfl⟩) ⟨S4, e, g, g4.sub, rfl, ok, px.up g4.st, fun v S5 H5 g5 pv5 => ⟨by show 2 ≤ 16777216; omega, fun p hp => ?_⟩⟩
      refine q _ _ _ (((g2.trans g4).trans g5).trans (Gr.new g5.sub hp)) ⟨_, .inr ⟨e, g, ho, rfl⟩, Dt.tup_mk (tus_of upd_same) (al_dts (ds := [.str e.code, g]) (.cons (.str _) (.cons (pv5.up (Same.new (g5.sub.free hp))) .nil))) (by show 2 ≤ 16777216; omega)⟩
theorem sc_law_tries : FnScope ["_law_asks", "_law_ask"] ["_law_asks"] (defScope sL_tries) := ⟨rfl, rfl, rfl, by decide +kernel, rfl, by decide +kernel, by decide +kernel⟩
theorem ok_law_tries {tup : List Value} {k : Nat} (F : FnT K "_law_tries" sL_tries f fd) (D1 : KD P w K mg base "_law_try" (k + 1) (spTry P w K mg base tup k)) : FnOk P w K mg base CX0 (k + 3) f fd ["_law_asks"] (spTries P w K mg base tup k) := by
  refine fn_hs F sc_law_tries (fun vs H Q E h => ?_) (fun cdv A outer sh H vs Q E hr h => ?_)
  · obtain ⟨S, its, l, _, rfl, _⟩ := h
    rfl
  · obtain ⟨S, its, l, s, rfl, hl, hz, q⟩ := h
    refine hs_ret (ee_lcA (R := AskJ) (ds := its) (own := [("_law_ask", 1)]) (p := fun _ => true) (G := fun it r => RtD it.Od it.O r) rfl sc_law_tries.nd (blkOk_by (N := ["_law_asks", "_law_ask"]) (sc := defScope sL_tries) (by decide +kernel)) (ei_lstP (fun P hP => ?_) (ee_var 0 rfl hl)) (Nat.le_trans hz (by show 1000 ≤ 16777216; omega)) fun it _ v S' s' pv => ⟨_, wipe1, fun sh' H0 C' cl fp => ⟨eg_name (i := 1) sc_law_tries.nd rfl (by first | exact Or.inl rfl | exact Or.inr rfl) (by first | exact .inl rfl | exact .inr rfl), ets_nil, fun _ => ?_⟩⟩) s fun u S1 H1 g h => ?_
    · obtain ⟨it, _, rfl⟩ := List.mem_map.mp hP
      exact askMn
    · exact ee_call D1 (hr.mono (by omega)) (ea_1 (ee_var 1 rfl pv)) (try_E it)
    · obtain ⟨rs, h1, h2⟩ := h
      rw [filter_true] at h1
      exact q u S1 H1 g ⟨rs, h1, h2⟩
end
end K42
namespace K42
open PySem PySem.Spec PyProof.Rows L2 Z Y LamX NdefX
/-! ## k42: what a turn draws -/
theorem col_ok {a st : Int} {n : Nat} (hs : stepOk st) (n1 : 1 ≤ n) (n3 : n ≤ 3) : ColOk (cols a st n) := by
  have e : (cols a st n).cps.toList = (List.range n).map (colCode a st) := by unfold cols; simp
  refine ⟨?_, ?_, ?_, ?_, fun c hc => ?_⟩
  · rw [← Array.all_toList, e, List.all_eq_true]
    intro c hc
    obtain ⟨i, _, rfl⟩ := List.mem_map.mp hc
    have := col_range a st i
    exact decide_eq_true (by omega)
  · rw [e]; exact cols_nodup hs n3
  · rw [cols_size]; exact n1
  · rw [cols_size]; exact n3
  · rw [e] at hc
    obtain ⟨i, _, rfl⟩ := List.mem_map.mp hc
    exact col_range a st i
theorem ex_len {n : Nat} {l : List PyData} (h : l.length ≠ n) : isExp (.tuple l) (n : Nat) = false := by
  show (decide ((l.length : Int) = n) && _) = false
  rw [decide_eq_false (by omega)]; rfl
theorem ex_rep {n : Nat} (n1 : 1 ≤ n) {d : PyData} (h : (isNum d 0 && leNum d 6) = false) : isExp (.tuple (List.replicate n d)) (n : Nat) = false := by
  show (decide (((List.replicate n d).length : Int) = n) && (List.replicate n d).all fun x => isNum x 0 && leNum x 6) = false
  obtain ⟨m, rfl⟩ : ∃ m, n = m + 1 := ⟨n - 1, by omega⟩
  rw [List.replicate_succ, List.all_cons, h]
  simp
theorem tI_rep (n : Nat) (c : Int) : tI (List.replicate n c) = .tuple (List.replicate n (.int c)) := by
  show PyData.tuple ((List.replicate n c).map .int) = _
  rw [List.map_replicate]
theorem bd_ints : ∀ l : List Int, Bd 1 (tI l) := fun l x hx => by
  obtain ⟨i, _, rfl⟩ := List.mem_map.mp hx
  trivial
theorem oddL_bd {d : PyData} (h : d ∈ oddL) : Bd 1 d := by
  unfold oddL at h
  simp only [List.mem_cons, List.not_mem_nil, or_false] at h
  rcases h with rfl | rfl | rfl | rfl | rfl | rfl | rfl | rfl | rfl | rfl | rfl
  all_goals first | trivial | (intro x hx; cases hx; done) | (intro x hx; simp only [List.mem_cons, List.not_mem_nil, or_false] at hx; obtain rfl := hx; trivial) | (intro x hx; simp only [List.mem_cons, List.not_mem_nil, or_false] at hx; rcases hx with rfl | rfl <;> trivial)
theorem pair_bd {c : Str} {g : PyData} (h : Bd 1 g) : Bd 2 (.tuple [.str c, g]) := fun y hy => by
  simp only [List.mem_cons, List.not_mem_nil, or_false] at hy
  rcases hy with rfl | rfl
  · trivial
  · exact h
theorem bd_list {L : List PyData} (h : ∀ d ∈ L, Bd 2 d) : Bd 3 (.list L) := h
theorem cut_from {α : Type} (xs : List α) {i : Nat} (h : i ≤ xs.length) : Z.cutD xs (some (i : Int)) none = xs.drop i := by
  unfold Z.cutD
  have e1 : HT.sIx xs.length 0 (some (i : Int)) = i := by
    show (if (i : Int) < 0 then ((i : Int) + xs.length).toNat else min (i : Int).toNat xs.length) = i
    rw [if_neg (by omega)]; omega
  have e2 : HT.sIx xs.length xs.length none = xs.length := rfl
  rw [e1, e2]
  exact List.take_of_length_le (by rw [List.length_drop]; omega)
theorem rep_c {n : Nat} {d : PyData} : (List.replicate n [d]).flatten = List.replicate n d := by
  induction n with
  | zero => rfl
  | succ n ih => rw [List.replicate_succ, List.flatten_cons, ih]; rfl
def odds (n : Nat) : List PyData := [tI (List.replicate n 7), tI (List.replicate (n + 1) 0)]
theorem odd_exp {n : Nat} (n1 : 1 ≤ n) (n3 : n ≤ 3) {d : PyData} (h : d ∈ oddL ++ odds n) : isExp d (n : Nat) = false := by
  have key : ∀ m : Nat, m ≤ 3 → 1 ≤ m → ((oddL ++ odds m).all fun d => !isExp d (m : Nat)) = true := by decide +kernel
  have := List.all_eq_true.mp (key n n3 n1) d h
  simpa using this
theorem odd_bd {n : Nat} {d : PyData} (h : d ∈ oddL ++ odds n) : Bd 1 d := by
  rcases List.mem_append.mp h with h | h
  · exact oddL_bd h
  · unfold odds at h
    simp only [List.mem_cons, List.not_mem_nil, or_false] at h
    rcases h with rfl | rfl
    · exact bd_ints _
    · exact bd_ints _
/-- what is put in among the exponents -/
def wrongsS (n : Nat) (e0 : List Int) : List PyData := [.none, tI (List.replicate n 7), tI (e0 ++ [0]), tI (e0.drop 1), .list (e0.map .int), .tuple (List.replicate n (.bool true)), .int 3, .str "S[]"]
theorem wrong_exp {n : Nat} {e0 : List Int} (n1 : 1 ≤ n) (hl : e0.length = n) {d : PyData} (h : d ∈ wrongsS n e0) : isExp d (n : Nat) = false := by
  unfold wrongsS at h
  simp only [List.mem_cons, List.not_mem_nil, or_false] at h
  rcases h with rfl | rfl | rfl | rfl | rfl | rfl | rfl | rfl
  · rfl
  · rw [tI_rep]; exact ex_rep n1 rfl
  · exact ex_len (by rw [List.length_map, List.length_append]; show e0.length + 1 ≠ n; omega)
  · exact ex_len (by rw [List.length_map, List.length_drop]; omega)
  · rfl
  · exact ex_rep n1 rfl
  · rfl
  · rfl
def sixD (n : Nat) : PyData := .list ((upto 6).map fun d => tI ((match d with | .int i => i | _ => 0) :: List.replicate (n - 1) 0))
def nonesS (n : Nat) : List PyData := [.none, .list [], .tuple [], .int 3, .str "x", sixD n]
theorem none_bad {n : Nat} {d : PyData} (h : d ∈ nonesS n) : BadSm n d (-1) := by
  unfold nonesS at h
  simp only [List.mem_cons, List.not_mem_nil, or_false] at h
  refine .inl ⟨rfl, ?_⟩
  rcases h with rfl | rfl | rfl | rfl | rfl | rfl
  · exact .inl rfl
  · exact .inr (.inr ⟨[], rfl, by decide⟩)
  · exact .inr (.inl rfl)
  · exact .inl rfl
  · exact .inl rfl
  · refine .inr (.inr ⟨_, rfl, fun h => ?_⟩)
    rw [List.length_map, upto_len] at h
    omega
def bentS (es : List (List Int)) (sp : Nat) (wr : PyData) : PyData := .list ((es.take sp).map tI ++ wr :: (es.drop sp).map tI)
/-- what a turn draws: exponents e0 :: et -/
structure TurnH (n : Nat) (e0 : List Int) (et : List (List Int)) (sp : Nat) (wr od no : PyData) : Prop where
  n1 : 1 ≤ n
  n3 : n ≤ 3
  ok : ExpsOk n 5 (e0 :: et)
  hl : et.length ≤ 3
  hsp : sp ≤ et.length + 1
  hw : wr ∈ wrongsS n e0
  ho : od ∈ oddL ++ odds n
  hn : no ∈ nonesS n
section
variable {n : Nat} {e0 : List Int} {et : List (List Int)} {sp : Nat} {wr od no : PyData}
theorem TurnH.sm (T : TurnH n e0 et sp wr od no) : SmsOk n (e0 :: et) := ⟨T.ok.1, fun e he => ⟨(T.ok.2 e he).1, fun x hx => by have := (T.ok.2 e he).2 x hx; omega⟩⟩
theorem TurnH.odx (T : TurnH n e0 et sp wr od no) : isExp od (n : Nat) = false := odd_exp T.n1 T.n3 T.ho
theorem TurnH.bent (T : TurnH n e0 et sp wr od no) : BadSm n (bentS (e0 :: et) sp wr) (sp : Nat) := by
  have hl : ((e0 :: et).take sp).length = sp := by rw [List.length_take]; have := T.hsp; show min sp (et.length + 1) = sp; omega
  refine .inr ⟨(e0 :: et).take sp, wr, ((e0 :: et).drop sp).map tI, by rw [hl], rfl, ⟨T.sm.1.sublist (List.take_sublist _ _), fun e he => T.sm.2 e (List.mem_of_mem_take he)⟩, ?_, .inl (wrong_exp T.n1 (T.sm.2 e0 List.mem_cons_self).1 T.hw)⟩
  rw [hl, List.length_map, List.length_drop]
  have := T.hl
  have := T.hsp
  show sp + 1 + (et.length + 1 - sp) ≤ 5
  omega
theorem TurnH.twice (T : TurnH n e0 et sp wr od no) : BadSm n (.list ((e0 :: et).map tI ++ [tI e0])) (et.length + 1 : Nat) := by
  refine .inr ⟨e0 :: et, tI e0, [], rfl, rfl, T.sm, ?_, .inr ⟨e0, List.mem_cons_self, rfl⟩⟩
  have := T.hl
  show et.length + 1 + 1 + 0 ≤ 5
  omega
theorem TurnH.nox (T : TurnH n e0 et sp wr od no) : BadSm n no (-1) := none_bad T.hn
theorem TurnH.good (T : TurnH n e0 et sp wr od no) : GoodSm n (.list ((e0 :: et).map tI)) := ⟨e0 :: et, rfl, by show 1 ≤ et.length + 1; omega, by have := T.hl; show et.length + 1 ≤ 5; omega, T.sm⟩
theorem TurnH.first (T : TurnH n e0 et sp wr od no) : BadGs n (.list [tI e0, od]) 1 := by
  refine .inr ⟨[e0], od, rfl, rfl, ⟨by simp, fun e he => ?_⟩, by show 1 + 1 ≤ 5; decide, T.odx⟩
  obtain rfl := List.mem_singleton.mp he
  exact T.sm.2 _ List.mem_cons_self
theorem goals_bad {g : PyData} (h : g ∈ ([.none, .list [], .int 3] : List PyData)) : BadGs n g (-1) := by
  simp only [List.mem_cons, List.not_mem_nil, or_false] at h
  rcases h with rfl | rfl | rfl
  · exact .inl ⟨rfl, .inl rfl⟩
  · exact .inl ⟨rfl, .inr (.inr rfl)⟩
  · exact .inl ⟨rfl, .inl rfl⟩
end
section
variable {P : Program} {w : World} {K : PySem.W.Frag} {mg : Str → Option Value} {base : Heap} {f : Addr} {fd : FuncData}
abbrev kIS (C : Addr) : EK := ⟨C, "InvalidSums", some "at"⟩
abbrev kIE (C : Addr) : EK := ⟨C, "InvalidExponent", some "given"⟩
/-- Keeper(..) that raises -/
structure MkKX (P : Program) (w : World) (K : PySem.W.Frag) (mg : Str → Option Value) (base : Heap) (CK C : Addr) (kS : EK) : Prop where
  ex : ∃ fi fdi ps, Mk K CK fi ∧ FnOk P w K mg base (L2.CX P w) 6 fi fdi ps (spXI' CK K (GSm C kS K)) ∧ Binds K fdi ps []
/-- what stands around the law -/
structure LE (P : Program) (w : World) (K : PySem.W.Frag) (mg : Str → Option Value) (base : Heap) (C CK CI CE : Addr) (tup : List Value) (c Pt : Addr) : Prop where
  openD : KD P w K mg base "_law_open" 1 (spOpen K)
  take : KD P w K mg base "_law_take" 1 (spB K Ftake)
  one : KD P w K mg base "_law_one" 2 (spB K Fone)
  exps : KD P w K mg base "_law_exps" 3 (spB K Fexps)
  odd : KD P w K mg base "_law_odd" 3 (spB K Fodd)
  letters : KD P w K mg base "_law_letters" 3 (spB K Fletters)
  sfacts : KD P w K mg base "_law_some_facts" 3 (spB K Fsome)
  same : ∀ n, KD P w K mg base "_law_same" (n + 2) (spD K (Fsame n))
  tries : KD P w K mg base "_law_tries" 13 (spTries P w K mg base tup 10)
  mkS : MkS P w K mg base C
  gS : mg "Schema" = some (.ref C)
  gK : mg "Keeper" = some (.ref CK)
  corX : KGR P w K mg base "corners" 7 (spX K (GGo C (kIS CI) (kIE CE) K))
  uppX : KDX P w K mg base "upper_bounds" 7 (spX K (GGo C (kIS CI) (kIE CE) K))
  lowX : KDX P w K mg base "lower_bounds" 7 (spX K (GGo C (kIS CI) (kIE CE) K))
  basX : KDX P w K mg base "base" 6 (spX K (GSm C (kIS CI) K))
  keeX : MkKX P w K mg base CK C (kIS CI)
  lotX : KDX P w K mg base "least_lots" 6 (spX K (GLo C (kIS CI) K))
  okS : KOk K tup (kIS CI)
  okE : KOk K tup (kIE CE)
  stS : PySem.W.subIn K (.ref CI) (.type "StopIteration") = some false
  stE : PySem.W.subIn K (.ref CE) (.type "StopIteration") = some false
  tab : TabB base mg c Pt
  flist : mg "list" = none
  frange : mg "range" = none
  flen : mg "len" = none
abbrev NL : List Str := ["_law_script", "_law_box", "_law_turn", "_law_many", "_law_schema_z", "_law_exps_z", "_law_spot", "_law_wrong", "_law_bent", "_law_odd_here", "_law_twice", "_law_at", "_law_none", "_law_asks", "_law_end", "_law_due"]
theorem sc_law : FnScope NL ["_law_script"] (defScope slaw) := ⟨rfl, rfl, rfl, by decide +kernel, rfl, by decide +kernel, by decide +kernel⟩
def forBody (s : Stmt) : List Stmt := match s with
  | .For _ _ b _ _ => b
  | _ => []
def stAt (l : List Stmt) (i : Nat) : Stmt := l.getD i (.Pass ⟨0, 0, 0, 0⟩)
def turnBody : List Stmt := forBody (stAt (defBody slaw) 1)
/-- the i-th lambda of the list in a statement -/
def lamOf (s : Stmt) (i : Nat) : Expr := match s with
  | .Assign _ (.List es _) _ => es.getD i (.Constant .none 0 ⟨0, 0, 0, 0⟩)
  | .Assign _ (.BinOp _ _ (.List es _) _) _ => es.getD i (.Constant .none 0 ⟨0, 0, 0, 0⟩)
  | _ => .Constant .none 0 ⟨0, 0, 0, 0⟩
def lamQ : Str := (envOfC "law" (defScope slaw) 0 0 .none).qual ++ "<lambda>"
abbrev LX (P : Program) (w : World) (K : PySem.W.Frag) (mg : Str → Option Value) (base : Heap) (f c : Addr) (A : Around) (outer : List Env) (sh : Shared) (H0 : Hp) (E : XK) : Cx := (cxOf CX0 P w K mg base NL "law" (defScope slaw) f (.ref c) A outer sh H0 E).nox
theorem LE.U {C CK CI CE : Addr} {tup : List Value} {c Pt : Addr} (L : LE P w K mg base C CK CI CE tup c Pt) {A : Around} {outer : List Env} {sh : Shared} {H0 : Hp} {E : XK} : TabU (LX P w K mg base f c A outer sh H0 E) c Pt lamQ := ⟨L.tab, rfl, rfl⟩
theorem tab_step {S H Hf : Hp} (s : Same S H) (nT : ∀ a ps, S a ≠ some (.tbl ps)) (x : ExtN H Hf) : Same S (Y.noTab Hf) := fun a o e => noTab_at (x a o (s a o e) fun ps z => nT a ps (by rw [e, z])) fun ps z => nT a ps (by rw [e, z])
theorem sch_noTab {C : Addr} {z : Str} {ps : Rules} {v : V} {S : Hp} (h : SchP K C z ps v S) : SchP K C z ps v (Y.noTab S) := by
  obtain ⟨l, a, dx, xs, e, h1, h2, h3, h4⟩ := h
  exact ⟨l, a, dx, xs, e, noTab_at h1 (fun _ z => nomatch z), noTab_at h2 (fun _ z => nomatch z), ⟨h3.1, fun i x d hx hd => dt_noTab (h3.2 i x d hx hd)⟩, h4⟩
/-- the names that the lambdas capture -/
abbrev capN : List Str := ["_law_schema_z", "_law_bent", "_law_odd_here", "_law_twice", "_law_none", "_law_exps_z", "_law_box"]
theorem cap_cells {c : Addr} {A : Around} {outer : List Env} {sh : Shared} {H0 : Hp} {E : XK} : ∀ y ∈ capN, (LX P w K mg base f c A outer sh H0 E).env.scope.names.lookup y = some .cell ∧ (LX P w K mg base f c A outer sh H0 E).fn y = true := fun y hy => by
  simp only [capN, List.mem_cons, List.not_mem_nil, or_false] at hy
  rcases hy with rfl | rfl | rfl | rfl | rfl | rfl | rfl <;> exact ⟨rfl, rfl⟩
def lamB (e : Expr) : Bool := (LamSc e).names.all fun y => !decide (y.2 = .free) || (decide ((defScope slaw).names.lookup y.1 = some .cell) && decide (y.1 ∈ capN))
theorem lamB_free {e : Expr} (h : lamB e = true) : ∀ y ∈ (LamSc e).names, y.2 = .free → (defScope slaw).names.lookup y.1 = some .cell ∨ (defScope slaw).names.lookup y.1 = some .free := fun y hy hf => by
  have := List.all_eq_true.mp h y hy
  rw [hf] at this
  simp only [decide_true, Bool.not_true, Bool.false_or, Bool.and_eq_true, decide_eq_true_eq] at this
  exact .inl this.1
theorem lamB_sub {e : Expr} (h : lamB e = true) : ∀ y ∈ (LamSc e).names, y.2 = .free → y.1 ∈ capN := fun y hy hf => by
  have := List.all_eq_true.mp h y hy
  rw [hf] at this
  simp only [decide_true, Bool.not_true, Bool.false_or, Bool.and_eq_true, decide_eq_true_eq] at this
  exact this.2
def NoD : PyData → Prop := fun _ => False
theorem rt_err {k : EK} {g r : PyData} (h : RtD NoD (O1 k g) r) : r = .tuple [.str k.code, g] := by
  rcases h with ⟨d, hd, _⟩ | ⟨k', g', ⟨rfl, rfl⟩, e⟩
  · exact hd.elim
  · exact e
theorem ok_one {K : PySem.W.Frag} {tup : List Value} {k : EK} {g : PyData} (h : KOk K tup k) : ∀ e g', O1 k g e g' → KOk K tup e := fun e g' ⟨a, _⟩ => by subst a; exact h
/-- each answer, when all are errors -/
theorem all_err {X : Cx} {q : Str} {tup : List Value} {k : Nat} {σ : L2.St} {xs : List Str} {S : Hp} : ∀ {its : List (AskC X q tup k σ xs S)} {kg : List (EK × PyData)} {rs : List PyData}, its.map (fun i => (i.Od, i.O)) = kg.map (fun p => (NoD, O1 p.1 p.2)) → Paired (fun (it : AskC X q tup k σ xs S) r => RtD it.Od it.O r) its rs → rs = kg.map fun p => .tuple [.str p.1.code, p.2]
  | [], [], _, _, h => by cases h; rfl
  | [], _ :: _, _, e, _ => nomatch e
  | _ :: _, [], _, e, _ => nomatch e
  | i :: its, p :: kg, _, e, h => by
    rw [List.map_cons, List.map_cons] at e
    obtain ⟨e1, e2⟩ := List.cons.inj e
    obtain ⟨e3, e4⟩ := Prod.mk.inj e1
    cases h with
    | cons a t =>
      rw [e3, e4] at a
      rw [rt_err a, all_err e2 t]; rfl
/-- Schema(a, b), nothing fixed -/
theorem ee_mk2N {X : Cx} {σ : L2.St} {S : Hp} {C : Addr} {a b : Expr} {p pos : Pos} {W : Str → Prop} {U : Rules → Prop} (M : MkS X.prog X.w X.K X.mg X.base C) (hr : Room 5 X.A) (gS : X.mg "Schema" = some (.ref C)) (ha : EE X σ S a (Ex X.K fun d => ∃ z, d = .str z ∧ W z)) (hb : EE X σ S b (Ex X.K fun d => ∃ ps : Rules, d = .list (ps.map ruleD) ∧ U ps)) (hW : ∀ z ps, W z → U ps → SchOk z ps) (hg : Gl X "Schema" := by rfl)
    (he : starEach [a, b] X.env = (false, eval a X.env) :: starEach [b] X.env := by rfl) (he2 : starEach [b] X.env = (false, eval b X.env) :: starEach [] X.env := by rfl) (hpl : (backTo pos (starEach [b] X.env)).any (·.1) = false := by rfl) : EE X σ S (.Call (.Name "Schema" p) [a, b] [] pos) (fun v S' => ∃ z ps, W z ∧ SchP X.K C z ps v S') := fun H s Q q => by
  obtain ⟨fi, fdi, ps', dv, m, G, b3, _, _, _⟩ := M.ex
  refine he_of (pe_make m G hr hg gS b3 .nil pass0 pab (by decide) he hpl) ((ea_2 ha hb he he2).2 H s _ fun vs S1 H1 g1 al a dx h1 h2 h3 => ?_)
  obtain ⟨v, w, rfl, ⟨_, ⟨z, rfl, hz⟩, pv⟩, _, ⟨ps, rfl, hu⟩, pw⟩ := al.two
  exact make_init (vs := [v, w] ++ []) (ds := [.str z, .list (ps.map ruleD)] ++ []) (R := SchL X.K C z ps) g1.sub ((Dts.cons pv (Dts.cons pw .nil)).append .nil) ⟨z, _, ps, rfl, .inl rfl, hW z ps hz hu, rfl⟩ h1 h2 h3 fun S2 H2 g2 r => q _ S2 H2 (g1.trans g2) ⟨z, ps, hz, newR_sch r⟩
end
end K42
namespace K42
open PySem PySem.Spec PyProof.Rows L2 Z Y LamX NdefX
section
variable {P : Program} {w : World} {K : PySem.W.Frag} {mg : Str → Option Value} {base : Heap} {f : Addr} {fd : FuncData}
section
variable {C CK CI CE : Addr} {tup : List Value} {c Pt : Addr} {A : Around} {outer : List Env} {sh : Shared} {H0 : Hp} {E : XK} {vs vb : V} {S H : Hp} {D : Ends} {rest : List Stmt}
/-- many, schema, exponents, spot, wrong, bent, odd, twice, none -/
theorem turn_a (L : LE P w K mg base C CK CI CE tup c Pt) (hr : Room 14 (LX P w K mg base f c A outer sh H0 E).A) {a2 a3 a4 a5 a6 a7 a8 a9 a10 a11 a12 a13 a14 a15 : Option V} (s : Same S H) (hb : BX vb S)
    (nx : ∀ n z ps e0 et sp wr od no v3 v4 v5 v6 v7 v8 v9 v10 v12 S' H', Gr S H S' H' → z.cps.size = n → TurnH n e0 et sp wr od no → SchP K C z ps v4 S' → Dt K (.list ((e0 :: et).map tI)) v5 S' → Dt K (.int (sp : Nat)) v6 S' → Dt K (bentS (e0 :: et) sp wr) v8 S' → Dt K od v9 S' → Dt K (.list ((e0 :: et).map tI ++ [tI e0])) v10 S' → Dt K no v12 S' →
      HS (LX P w K mg base f c A outer sh H0 E) D rest [some vs, some vb, a2, some v3, some v4, some v5, some v6, some v7, some v8, some v9, some v10, a11, some v12, a13, a14, a15] H') :
    HS (LX P w K mg base f c A outer sh H0 E) D (stAt turnBody 0 :: stAt turnBody 1 :: stAt turnBody 2 :: stAt turnBody 3 :: stAt turnBody 4 :: stAt turnBody 5 :: stAt turnBody 6 :: stAt turnBody 7 :: rest) [some vs, some vb, a2, a3, a4, a5, a6, a7, a8, a9, a10, a11, a12, a13, a14, a15] H := by
  refine hs_set (i := 3) (P := Ex K fun d => ∃ n : Nat, d = .int n ∧ 1 ≤ n ∧ n ≤ 3) ((ee_addE (F := fun i => i = 1) (G := fun i => 0 ≤ i ∧ i < 3) (ee_int.ex ⟨1, rfl, rfl⟩) (ee_callBx L.take (hr.mono (by decide)) ⟨3, rfl, by decide, by decide, rfl⟩ (ea_2 (ee_var 1 rfl hb) ee_int))).exi fun d ⟨i, e, x, y, hx, hy, hi⟩ => ⟨(1 + y).toNat, by rw [e]; congr 1; omega, by omega, by omega⟩) s sc_law.nd fun v3 S1 H1 g1 pm => ?_
  obtain ⟨_, ⟨n, rfl, n1, n3⟩, pm⟩ := pm
  have hb1 : BX vb S1 := Mn.up g1.st hb
  refine hs_set (i := 4) (P := fun v S' => ∃ z ps, (∃ a st : Int, z = cols a st n ∧ stepOk st) ∧ SchP K C z ps v S') (ee_mk2N (U := fun ps => (ps.length : Int) ≤ 1 ∧ ∀ p ∈ ps, (p.1.length = n ∧ ∀ x ∈ p.1, 0 ≤ x ∧ x ≤ 1) ∧ (p.2.length = n ∧ ∀ x ∈ p.2, 0 ≤ x ∧ x ≤ 1)) L.mkS (hr.mono (by decide)) L.gS ((ee_callBx L.letters (hr.mono (by decide)) ⟨n, rfl, by omega, rfl⟩ (ea_2 (ee_var 1 rfl hb1) (ee_var 3 rfl pm))).exi fun d ⟨a, st, e, h⟩ => ⟨_, e, a, st, rfl, h⟩) (ee_callBx L.sfacts (hr.mono (by decide)) ⟨n, 1, 1, rfl, by omega, by decide, by decide, by decide, by decide, rfl⟩ (ea_cons (ee_var 1 rfl hb1) (ea_cons (ee_var 3 rfl pm) (ea_2 ee_int ee_int)))) fun z ps hz hu => ?so) g1.sub sc_law.nd fun v4 S2 H2 g2 pz => ?_
  case so =>
    obtain ⟨a, st, rfl, hst⟩ := hz
    obtain ⟨u1, u2⟩ := hu
    refine ⟨col_ok hst n1 n3, by omega, fun q hq => ?_⟩
    rw [cols_size]
    obtain ⟨⟨q1, q2⟩, q3, q4⟩ := u2 q hq
    exact ⟨⟨q1, fun x hx => by have := q2 x hx; omega⟩, q3, fun x hx => by have := q4 x hx; omega⟩
  obtain ⟨z, ps, ⟨a, st, rfl, hst⟩, pz⟩ := pz
  have hb2 : BX vb S2 := Mn.up g2.st hb1
  have pm2 := pm.up g2.st
  refine hs_set (i := 5) (P := Ex K fun d => ∃ es : List (List Int), d = .list (es.map tI) ∧ es.length ≤ 4 ∧ es ≠ [] ∧ ExpsOk n 5 es) (ee_callBx L.exps (hr.mono (by decide)) ⟨n, 4, 5, rfl, by omega, by decide, by decide, by decide, by decide, rfl⟩ (ea_cons (ee_var 1 rfl hb2) (ea_cons (ee_var 3 rfl pm2) (ea_2 ee_int ee_int)))) g2.sub sc_law.nd fun v5 S3 H3 g3 pe => ?_
  obtain ⟨_, ⟨es, rfl, hel, hne, heo⟩, pe⟩ := pe
  obtain ⟨e0, et, rfl⟩ : ∃ e0 et, es = e0 :: et := by
    cases es with
    | nil => exact absurd rfl hne
    | cons a l => exact ⟨a, l, rfl⟩
  have hel : et.length + 1 ≤ 4 := hel
  have hlen : ((e0 :: et).map tI).length = et.length + 1 := by rw [List.length_map]; rfl
  have hb3 : BX vb S3 := Mn.up g3.st hb2
  have q0 : e0.length = n := (heo.2 e0 List.mem_cons_self).1
  have G3 := (g1.trans g2).trans g3
  refine hs_set (i := 6) (P := Ex K fun d => ∃ k : Nat, d = .int k ∧ k ≤ et.length + 1) ((ee_callBx L.take (hr.mono (by decide)) ⟨((et.length + 1 : Nat) : Int) + 1, rfl, by omega, by omega, rfl⟩ (ea_2 (ee_var 1 rfl hb3) ((ee_add (ee_len L.flen (n := et.length + 1) (by show some _ = some _; rw [hlen]) (ee_var 5 rfl pe)) ee_int)))).exi fun d ⟨i, e, i0, i1⟩ => ⟨i.toNat, by rw [e]; congr 1; omega, by omega⟩) g3.sub sc_law.nd fun v6 S4 H4 g4 psp => ?_
  obtain ⟨_, ⟨sp, rfl, hsp⟩, psp⟩ := psp
  have G4 := G3.trans g4
  have hb4 : BX vb S4 := Mn.up g4.st hb3
  have pm4 := pm2.up (g3.st.trans g4.st)
  have pe4 := pe.up g4.st
  have c1 : Z.cutD (e0.map PyData.int) (some 1) none = (e0.drop 1).map .int := by
    have := cut_from (e0.map PyData.int) (i := 1) (by rw [List.length_map]; omega)
    rw [List.map_drop]
    exact this
  refine hs_set (i := 7) (P := Ex K fun d => d ∈ wrongsS n e0) (ee_callBx L.one (hr.mono (by decide)) ⟨wrongsS n e0, rfl, by show 0 < 8; decide, by show 8 < 1073741824; decide, rfl⟩ (ea_2 (ee_var 1 rfl hb4) ?wl)) g4.sub sc_law.nd fun v7 S5 H5 g5 pw => ?_
  case wl =>
    refine ee_lst (ds := wrongsS n e0) ?_ (by show 8 ≤ 16777216; decide)
    exact (ea_cons ee_non (ea_cons ((ee_repT n1 (by omega) (by show 1 ≤ 1000; decide) (by simp) (ee_tup (ds := [.int 7]) (ea_1 ee_int)) (ee_var 3 rfl pm4)).isd (by rw [rep_c, tI_rep])) (ea_cons ((ee_catT (ds1 := e0.map .int) (ds2 := [.int 0]) (by rw [List.length_map]; show _ + 1 ≤ 16777216; omega) (ee_ixL (ds := (e0 :: et).map tI) (d := tI e0) (L2.atI_nat (j := 0) rfl) (ee_var 5 rfl pe4) ee_int) (ee_tup (ds := [.int 0]) (ea_1 ee_int))).isd (by unfold tI; rw [List.map_append]; rfl)) (ea_cons ((ee_slT (ds := e0.map .int) (ee_ixL (ds := (e0 :: et).map tI) (d := tI e0) (L2.atI_nat (j := 0) rfl) (ee_var 5 rfl pe4) ee_int) (eo_some ee_int) eo_none).isd (by rw [c1]; rfl)) (ea_cons (ee_list L.flist (.inr rfl) (show EE _ _ _ _ (Dt K (.tuple (e0.map .int))) from (ee_ixL (ds := (e0 :: et).map tI) (d := tI e0) (L2.atI_nat (j := 0) rfl) (ee_var 5 rfl pe4) ee_int))) (ea_cons ((ee_repT n1 (by omega) (by show 1 ≤ 1000; decide) (by simp) (ee_tup (ds := [.bool true]) (ea_1 ee_bl)) (ee_var 3 rfl pm4)).isd (by rw [rep_c])) (ea_cons ee_int (ea_cons ee_str ea_nil))))))))
  obtain ⟨wr, hwr, pw⟩ := pw
  have G5 := G4.trans g5
  have hb5 : BX vb S5 := Mn.up g5.st hb4
  have pm5 := pm4.up g5.st
  have pe5 := pe4.up g5.st
  have psp5 := psp.up g5.st
  refine hs_unp2 (i := 8) (j := 9) (Pa := Dt K (bentS (e0 :: et) sp wr)) (Pb := Ex K fun d => d ∈ oddL ++ odds n) rfl sc_law.nd (EE.isd (ee_catL (ds1 := ((e0 :: et).map tI).take sp ++ [wr]) (ds2 := ((e0 :: et).map tI).drop sp) ?z1 (ee_catL ?z2 ((ee_slL (ee_var 5 rfl pe5) eo_none (eo_some (ee_var 6 rfl psp5))).isd (by rw [cut_to _ (show sp ≤ ((e0 :: et).map tI).length by omega)])) (ee_lst (ds := [wr]) (ea_1 (ee_var 7 rfl pw)))) ((ee_slL (ee_var 5 rfl pe5) (eo_some (ee_var 6 rfl psp5)) eo_none).isd (by rw [cut_from _ (show sp ≤ ((e0 :: et).map tI).length by omega)]))) ?eq) (ee_callBx L.odd (hr.mono (by decide)) ⟨odds n, rfl, by show 2 ≤ 1000; decide, rfl⟩ (ea_2 (ee_var 1 rfl hb5) ?ol)) g5.sub fun v8 v9 S6 H6 pbt pod g6 => ?_
  case z1 => rw [List.length_append, List.length_take, List.length_drop, hlen]; show _ + 1 + _ ≤ 16777216; omega
  case z2 => rw [List.length_take, hlen]; show _ + 1 ≤ 16777216; omega
  case eq => unfold bentS; rw [List.map_take, List.map_drop]; simp
  case ol =>
    refine ee_lst (ds := odds n) ?_ (by show 2 ≤ 16777216; decide)
    exact (ea_cons ((ee_repT n1 (by omega) (by show 1 ≤ 1000; decide) (by simp) (ee_tup (ds := [.int 7]) (ea_1 ee_int)) (ee_var 3 rfl pm5)).isd (by rw [rep_c, tI_rep])) (ea_cons ((ee_repT (n := n + 1) (by omega) (by omega) (by show 1 ≤ 1000; decide) (by simp) (ee_tup (ds := [.int 0]) (ea_1 ee_int)) ((ee_add (ee_var 3 rfl pm5) ee_int).isd (by show PyData.int _ = PyData.int _; congr 1))).isd (by rw [rep_c, tI_rep])) ea_nil))
  obtain ⟨od, hod, pod⟩ := pod
  have G6 := G5.trans g6
  have hb6 : BX vb S6 := Mn.up g6.st hb5
  have pm6 := pm5.up g6.st
  have pe6 := pe5.up g6.st
  refine hs_set (i := 10) (P := Dt K (.list ((e0 :: et).map tI ++ [tI e0]))) (ee_catL (by rw [hlen]; show _ + 1 ≤ 16777216; omega) (ee_var 5 rfl pe6) (ee_lst (ds := [tI e0]) (ea_1 (ee_ixL (ds := (e0 :: et).map tI) (d := tI e0) (L2.atI_nat (j := 0) rfl) (ee_var 5 rfl pe6) ee_int)))) g6.sub sc_law.nd fun v10 S7 H7 g7 ptw => ?_
  have G7 := G6.trans g7
  have hb7 : BX vb S7 := Mn.up g7.st hb6
  have pm7 := pm6.up g7.st
  refine hs_set (i := 12) (P := Ex K fun d => d ∈ nonesS n) (ee_callBx L.one (hr.mono (by decide)) ⟨nonesS n, rfl, by show 0 < 6; decide, by show 6 < 1073741824; decide, rfl⟩ (ea_2 (ee_var 1 rfl hb7) ?nl)) g7.sub sc_law.nd fun v12 S8 H8 g8 pno => ?_
  case nl =>
    refine ee_lst (ds := nonesS n) ?_ (by show 6 ≤ 16777216; decide)
    refine ea_cons ee_non (ea_cons (ee_lst (ds := []) ea_nil) (ea_cons (ee_tup (ds := []) ea_nil) (ea_cons ee_int (ea_cons ee_str (ea_cons ?six ea_nil)))))
    case six =>
      refine EE.isd (ee_lc (i := 11) (enc := tI) (f := fun d => (match d with | .int i => i | _ => 0) :: List.replicate (n - 1) 0) rfl sc_law.nd (blkOk_by (N := NL) (sc := defScope slaw) (by decide +kernel)) (ei_range (n := 6) L.frange (by decide) ee_int) (by decide) fun d hd v S' s' pv sh' H0' C' cl fp => ?_) ?eq6
      · obtain ⟨i, hi, rfl⟩ : ∃ i : Nat, i < 6 ∧ d = .int i := by
          unfold upto at hd
          obtain ⟨i, hi, rfl⟩ := List.mem_map.mp hd
          exact ⟨i, List.mem_range.mp hi, rfl⟩
        have pv' : Dt K (.int (i : Nat)) v S' := pv
        have pm' : Dt K (.int (n : Nat)) v3 S' := pm7.up s'
        refine EE.isd (ee_catT (ds1 := [.int (i : Nat)]) (ds2 := (List.replicate (n - 1) [.int 0]).flatten) ?zz (ee_tup (ds := [.int (i : Nat)]) (ea_1 (ee_var 11 rfl pv'))) (ee_repT0 (n := n - 1) (by omega) (by show 1 ≤ 1000; decide) (by simp) (ee_tup (ds := [.int 0]) (ea_1 ee_int)) ((ee_sub (ee_var 3 rfl pm') ee_int).isd (by congr 1; omega)))) ?ee
        case zz => rw [rep_c, List.length_replicate]; show 1 + _ ≤ 16777216; omega
        case ee => rw [rep_c]; unfold tI; rw [List.map_cons, List.map_replicate]; rfl
      case eq6 => first | rfl | (unfold sixD; rw [List.map_map]; rfl)
  obtain ⟨no, hno, pno⟩ := pno
  have s78 := g7.st.trans g8.st
  exact nx n (cols a st n) ps e0 et sp wr od no v3 v4 v5 v6 v7 v8 v9 v10 v12 S8 H8 (G7.trans g8) (cols_size a st n) ⟨n1, n3, heo, by omega, hsp, hwr, hod, hno⟩ (Mn.up ((((g3.st.trans g4.st).trans g5.st).trans g6.st).trans s78) pz) (pe6.up s78) (psp5.up (g6.st.trans s78)) (pbt.up s78) (pod.up s78) (ptw.up g8.st) pno
end
end
end K42
namespace K42
open PySem PySem.Spec PyProof.Rows L2 Z Y LamX NdefX
section
variable {P : Program} {w : World} {K : PySem.W.Frag} {mg : Str → Option Value} {base : Heap} {f : Addr} {fd : FuncData}
/-! ## the lambdas -/
section
variable {K : PySem.W.Frag} {C : Addr} {kS : EK} {S : Hp} {z : Str} {ps : Rules} {d g : PyData} {i : Int}
theorem spBs_O (h : BadSm z.cps.size d i) : SpO K (spX K (GSm C kS K)) S [SchP K C z ps, Dt K d] NoP (O1 kS (.int i)) := spX_O fun vs S1 _ al => by
  obtain ⟨v, u, rfl, pv, pu⟩ := al.two
  exact ⟨_, _, ⟨z, ps, v, u, d, i, rfl, pv, pu, h, rfl, rfl⟩, rfl, rfl⟩
theorem spLo_O (h : BadSm z.cps.size d i ∨ (GoodSm z.cps.size d ∧ BadGs z.cps.size g i)) : SpO K (spX K (GLo C kS K)) S [SchP K C z ps, Dt K d, Dt K g] NoP (O1 kS (.int i)) := spX_O fun vs S1 _ al => by
  obtain ⟨v, u, t, rfl, pv, pu, pt⟩ := al.three
  exact ⟨_, _, ⟨z, ps, v, u, t, d, g, i, rfl, pv, pu, pt, h, rfl, rfl⟩, rfl, rfl⟩
end
section
variable {X : Cx} {E : XK} {σ : L2.St} {S : Hp} {a b : Expr} {p pos : Pos} {CK C : Addr} {kS : EK} {R : V → Hp → Prop} {z : Str} {ps : Rules} {d : PyData} {i : Int}
theorem er_mkK (tk : L2.Takes X (fun cls d _ H => E cls d H)) (M : MkKX X.prog X.w X.K X.mg X.base CK C kS) (hr : Room 7 X.A) (gK : X.mg "Keeper" = some (.ref CK)) (ha : EE X σ S a (SchP X.K C z ps)) (hb : EE X σ S b (Dt X.K d)) (h : BadSm z.cps.size d i) (hg : Gl X "Keeper" := by rfl) (he : starEach [a, b] X.env = (false, eval a X.env) :: starEach [b] X.env := by rfl) (he2 : starEach [b] X.env = (false, eval b X.env) :: starEach [] X.env := by rfl) (hpl : (backTo pos (starEach [b] X.env)).any (·.1) = false := by rfl) : ER X E σ S (.Call (.Name "Keeper" p) [a, b] [] pos) R (O1 kS (.int i)) := by
  obtain ⟨fi, fdi, ps', m, G, hb0⟩ := M.ex
  refine er_make (Pd := []) tk m G hr gK hb0 .nil (ea_2 ha hb he he2) (fun ws S1 _ al => ?_) hg (by decide) he hpl
  obtain ⟨v, u, rfl, pv, pu⟩ := al.two
  exact ⟨_, _, ⟨z, ps, v, u, d, i, rfl, pv, pu, h, rfl, rfl⟩, rfl, rfl⟩
end
section
variable {C CK CI CE : Addr} {tup : List Value} {c Pt : Addr} {z : Str} {ps : Rules} {e0 : List Int} {et : List (List Int)} {sp : Nat} {wr od no : PyData}
theorem la0 (L : LE P w K mg base C CK CI CE tup c Pt) (T0 : TurnH z.cps.size e0 et sp wr od no) {f' c' : Addr} {cells : List (Str × Addr)} : LOk P w K mg base (L2.CX P w) 10 f' (LamF (lamOf (stAt turnBody 8) 0) lamQ cells c' none) ["_law_schema_z", "_law_bent", "_law_odd_here"] [] (spAsk K (fun ws S => ∃ v1 v2 v3, ws = [some v1, some v2, some v3] ∧ (SchP K C z ps) v1 S ∧ (Dt K (bentS (e0 :: et) sp wr)) v2 S ∧ (Dt K od) v3 S) (Ex K NoD) (O1 (kIS CI) (.int (sp : Nat)))) := by
  refine lok_ask (N := ["_law_schema_z", "_law_bent", "_law_odd_here"]) (ps := []) (nscope_by (sc := LamSc (lamOf (stAt turnBody 8) 0)) (by decide +kernel)) (lbind0 rfl fun _ _ => rfl) rfl fun A outer s H ws E S hr hlen hw tk => ?_
  obtain ⟨v1, v2, v3, rfl, p1, p2, p3⟩ := hw
  exact er_lcG tk L.corX (hr.mono (by decide)) (ea_cons (ee_var 0 rfl p1) (ea_2 (ee_var 1 rfl p2) (ee_var 2 rfl p3))) (spGo_O (.inl ⟨_, T0.bent, rfl, rfl⟩)) (fun k g h => by obtain ⟨rfl, rfl⟩ := h; exact L.stS) (own := []) (blkOk_by (N := ["_law_schema_z", "_law_bent", "_law_odd_here"]) (sc := LamSc (lamOf (stAt turnBody 8) 0)) (by decide +kernel)) rfl rfl
theorem la1 (L : LE P w K mg base C CK CI CE tup c Pt) (T0 : TurnH z.cps.size e0 et sp wr od no) {f' c' : Addr} {cells : List (Str × Addr)} {T : Addr} : LOk P w K mg base (L2.CX P w) 10 f' (LamF (lamOf (stAt turnBody 8) 1) lamQ cells c' (some T)) ["_law_schema_z", "_law_twice", "_law_odd_here"] [.int 0] (spAsk K (fun ws S => ∃ v1 v2 v3, ws = [some v1, some v2, some v3] ∧ (SchP K C z ps) v1 S ∧ (Dt K (.list ((e0 :: et).map tI ++ [tI e0]))) v2 S ∧ (Dt K od) v3 S) (Ex K NoD) (O1 (kIS CI) (.int (et.length + 1 : Nat)))) := by
  refine lok_ask (N := ["_law_a", "_law_schema_z", "_law_twice", "_law_odd_here"]) (ps := ["_law_a"]) (nscope_by (sc := LamSc (lamOf (stAt turnBody 8) 1)) (by decide +kernel)) (lbind1 rfl fun _ _ => ⟨_, rfl, fun _ => rfl⟩) rfl fun A outer s H ws E S hr hlen hw tk => ?_
  obtain ⟨v1, v2, v3, rfl, p1, p2, p3⟩ := hw
  exact (er_call tk L.uppX (hr.mono (by decide)) (ea_cons (ee_var 1 rfl p1) (ea_2 (ee_var 2 rfl p2) (ee_var 3 rfl p3))) (spGo_O (.inl ⟨_, T0.twice, rfl, rfl⟩))).imp fun v S' h => h.elim
theorem la2 (L : LE P w K mg base C CK CI CE tup c Pt) (T0 : TurnH z.cps.size e0 et sp wr od no) {f' c' : Addr} {cells : List (Str × Addr)} {T : Addr} : LOk P w K mg base (L2.CX P w) 10 f' (LamF (lamOf (stAt turnBody 8) 2) lamQ cells c' (some T)) ["_law_schema_z", "_law_none", "_law_odd_here"] [.int 0] (spAsk K (fun ws S => ∃ v1 v2 v3, ws = [some v1, some v2, some v3] ∧ (SchP K C z ps) v1 S ∧ (Dt K no) v2 S ∧ (Dt K od) v3 S) (Ex K NoD) (O1 (kIS CI) (.int (-1)))) := by
  refine lok_ask (N := ["_law_b", "_law_schema_z", "_law_none", "_law_odd_here"]) (ps := ["_law_b"]) (nscope_by (sc := LamSc (lamOf (stAt turnBody 8) 2)) (by decide +kernel)) (lbind1 rfl fun _ _ => ⟨_, rfl, fun _ => rfl⟩) rfl fun A outer s H ws E S hr hlen hw tk => ?_
  obtain ⟨v1, v2, v3, rfl, p1, p2, p3⟩ := hw
  exact (er_call tk L.lowX (hr.mono (by decide)) (ea_cons (ee_var 1 rfl p1) (ea_2 (ee_var 2 rfl p2) (ee_var 3 rfl p3))) (spGo_O (.inl ⟨_, T0.nox, rfl, rfl⟩))).imp fun v S' h => h.elim
theorem la3 (L : LE P w K mg base C CK CI CE tup c Pt) (T0 : TurnH z.cps.size e0 et sp wr od no) {f' c' : Addr} {cells : List (Str × Addr)} {T : Addr} : LOk P w K mg base (L2.CX P w) 10 f' (LamF (lamOf (stAt turnBody 8) 3) lamQ cells c' (some T)) ["_law_schema_z", "_law_bent"] [.int 0] (spAsk K (fun ws S => ∃ v1 v2, ws = [some v1, some v2] ∧ (SchP K C z ps) v1 S ∧ (Dt K (bentS (e0 :: et) sp wr)) v2 S) (Ex K NoD) (O1 (kIS CI) (.int (sp : Nat)))) := by
  refine lok_ask (N := ["_law_c", "_law_schema_z", "_law_bent"]) (ps := ["_law_c"]) (nscope_by (sc := LamSc (lamOf (stAt turnBody 8) 3)) (by decide +kernel)) (lbind1 rfl fun _ _ => ⟨_, rfl, fun _ => rfl⟩) rfl fun A outer s H ws E S hr hlen hw tk => ?_
  obtain ⟨v1, v2, rfl, p1, p2⟩ := hw
  exact (er_call tk L.basX (hr.mono (by decide)) (ea_2 (ee_var 1 rfl p1) (ee_var 2 rfl p2)) (spBs_O (T0.bent))).imp fun v S' h => h.elim
theorem la4 (L : LE P w K mg base C CK CI CE tup c Pt) (T0 : TurnH z.cps.size e0 et sp wr od no) {f' c' : Addr} {cells : List (Str × Addr)} {T : Addr} : LOk P w K mg base (L2.CX P w) 10 f' (LamF (lamOf (stAt turnBody 8) 4) lamQ cells c' (some T)) ["_law_schema_z", "_law_twice"] [.int 0] (spAsk K (fun ws S => ∃ v1 v2, ws = [some v1, some v2] ∧ (SchP K C z ps) v1 S ∧ (Dt K (.list ((e0 :: et).map tI ++ [tI e0]))) v2 S) (Ex K NoD) (O1 (kIS CI) (.int (et.length + 1 : Nat)))) := by
  refine lok_ask (N := ["_law_d", "_law_schema_z", "_law_twice"]) (ps := ["_law_d"]) (nscope_by (sc := LamSc (lamOf (stAt turnBody 8) 4)) (by decide +kernel)) (lbind1 rfl fun _ _ => ⟨_, rfl, fun _ => rfl⟩) rfl fun A outer s H ws E S hr hlen hw tk => ?_
  obtain ⟨v1, v2, rfl, p1, p2⟩ := hw
  exact er_mkK tk L.keeX (hr.mono (by decide)) L.gK (ee_var 1 rfl p1) (ee_var 2 rfl p2) (T0.twice)
theorem la5 (L : LE P w K mg base C CK CI CE tup c Pt) (T0 : TurnH z.cps.size e0 et sp wr od no) {f' c' : Addr} {cells : List (Str × Addr)} : LOk P w K mg base (L2.CX P w) 10 f' (LamF (lamOf (stAt turnBody 9) 0) lamQ cells c' none) ["_law_schema_z", "_law_exps_z", "_law_odd_here"] [] (spAsk K (fun ws S => ∃ v1 v2 v3, ws = [some v1, some v2, some v3] ∧ (SchP K C z ps) v1 S ∧ (Dt K (.list ((e0 :: et).map tI))) v2 S ∧ (Dt K od) v3 S) (Ex K NoD) (O1 (kIE CE) od)) := by
  refine lok_ask (N := ["_law_schema_z", "_law_exps_z", "_law_odd_here"]) (ps := []) (nscope_by (sc := LamSc (lamOf (stAt turnBody 9) 0)) (by decide +kernel)) (lbind0 rfl fun _ _ => rfl) rfl fun A outer s H ws E S hr hlen hw tk => ?_
  obtain ⟨v1, v2, v3, rfl, p1, p2, p3⟩ := hw
  exact er_lcG tk L.corX (hr.mono (by decide)) (ea_cons (ee_var 0 rfl p1) (ea_2 (ee_var 1 rfl p2) (ee_var 2 rfl p3))) (spGo_O (.inr ⟨T0.good, T0.odx, rfl, rfl⟩)) (fun k g h => by obtain ⟨rfl, rfl⟩ := h; exact L.stE) (own := []) (blkOk_by (N := ["_law_schema_z", "_law_exps_z", "_law_odd_here"]) (sc := LamSc (lamOf (stAt turnBody 9) 0)) (by decide +kernel)) rfl rfl
theorem la6 (L : LE P w K mg base C CK CI CE tup c Pt) (T0 : TurnH z.cps.size e0 et sp wr od no) {f' c' : Addr} {cells : List (Str × Addr)} {T : Addr} : LOk P w K mg base (L2.CX P w) 10 f' (LamF (lamOf (stAt turnBody 9) 1) lamQ cells c' (some T)) ["_law_schema_z", "_law_exps_z", "_law_odd_here"] [.int 0] (spAsk K (fun ws S => ∃ v1 v2 v3, ws = [some v1, some v2, some v3] ∧ (SchP K C z ps) v1 S ∧ (Dt K (.list ((e0 :: et).map tI))) v2 S ∧ (Dt K od) v3 S) (Ex K NoD) (O1 (kIE CE) od)) := by
  refine lok_ask (N := ["_law_a", "_law_schema_z", "_law_exps_z", "_law_odd_here"]) (ps := ["_law_a"]) (nscope_by (sc := LamSc (lamOf (stAt turnBody 9) 1)) (by decide +kernel)) (lbind1 rfl fun _ _ => ⟨_, rfl, fun _ => rfl⟩) rfl fun A outer s H ws E S hr hlen hw tk => ?_
  obtain ⟨v1, v2, v3, rfl, p1, p2, p3⟩ := hw
  exact (er_call tk L.uppX (hr.mono (by decide)) (ea_cons (ee_var 1 rfl p1) (ea_2 (ee_var 2 rfl p2) (ee_var 3 rfl p3))) (spGo_O (.inr ⟨T0.good, T0.odx, rfl, rfl⟩))).imp fun v S' h => h.elim
theorem la7 (L : LE P w K mg base C CK CI CE tup c Pt) (T0 : TurnH z.cps.size e0 et sp wr od no) {f' c' : Addr} {cells : List (Str × Addr)} {T : Addr} : LOk P w K mg base (L2.CX P w) 10 f' (LamF (lamOf (stAt turnBody 9) 2) lamQ cells c' (some T)) ["_law_schema_z", "_law_exps_z", "_law_odd_here"] [.int 0] (spAsk K (fun ws S => ∃ v1 v2 v3, ws = [some v1, some v2, some v3] ∧ (SchP K C z ps) v1 S ∧ (Dt K (.list ((e0 :: et).map tI))) v2 S ∧ (Dt K od) v3 S) (Ex K NoD) (O1 (kIE CE) od)) := by
  refine lok_ask (N := ["_law_b", "_law_schema_z", "_law_exps_z", "_law_odd_here"]) (ps := ["_law_b"]) (nscope_by (sc := LamSc (lamOf (stAt turnBody 9) 2)) (by decide +kernel)) (lbind1 rfl fun _ _ => ⟨_, rfl, fun _ => rfl⟩) rfl fun A outer s H ws E S hr hlen hw tk => ?_
  obtain ⟨v1, v2, v3, rfl, p1, p2, p3⟩ := hw
  exact (er_call tk L.lowX (hr.mono (by decide)) (ea_cons (ee_var 1 rfl p1) (ea_2 (ee_var 2 rfl p2) (ee_var 3 rfl p3))) (spGo_O (.inr ⟨T0.good, T0.odx, rfl, rfl⟩))).imp fun v S' h => h.elim
theorem la8 (L : LE P w K mg base C CK CI CE tup c Pt) (T0 : TurnH z.cps.size e0 et sp wr od no) {f' c' : Addr} {cells : List (Str × Addr)} {T : Addr} : LOk P w K mg base (L2.CX P w) 10 f' (LamF (lamOf (stAt turnBody 9) 3) lamQ cells c' (some T)) ["_law_schema_z", "_law_none"] [.int 0] (spAsk K (fun ws S => ∃ v1 v2, ws = [some v1, some v2] ∧ (SchP K C z ps) v1 S ∧ (Dt K no) v2 S) (Ex K NoD) (O1 (kIS CI) (.int (-1)))) := by
  refine lok_ask (N := ["_law_c", "_law_schema_z", "_law_none"]) (ps := ["_law_c"]) (nscope_by (sc := LamSc (lamOf (stAt turnBody 9) 3)) (by decide +kernel)) (lbind1 rfl fun _ _ => ⟨_, rfl, fun _ => rfl⟩) rfl fun A outer s H ws E S hr hlen hw tk => ?_
  obtain ⟨v1, v2, rfl, p1, p2⟩ := hw
  exact (er_call tk L.basX (hr.mono (by decide)) (ea_2 (ee_var 1 rfl p1) (ee_var 2 rfl p2)) (spBs_O (T0.nox))).imp fun v S' h => h.elim
theorem la9 (L : LE P w K mg base C CK CI CE tup c Pt) (T0 : TurnH z.cps.size e0 et sp wr od no) {f' c' : Addr} {cells : List (Str × Addr)} {T : Addr} : LOk P w K mg base (L2.CX P w) 10 f' (LamF (lamOf (stAt turnBody 9) 4) lamQ cells c' (some T)) ["_law_schema_z", "_law_none"] [.int 0] (spAsk K (fun ws S => ∃ v1 v2, ws = [some v1, some v2] ∧ (SchP K C z ps) v1 S ∧ (Dt K no) v2 S) (Ex K NoD) (O1 (kIS CI) (.int (-1)))) := by
  refine lok_ask (N := ["_law_d", "_law_schema_z", "_law_none"]) (ps := ["_law_d"]) (nscope_by (sc := LamSc (lamOf (stAt turnBody 9) 4)) (by decide +kernel)) (lbind1 rfl fun _ _ => ⟨_, rfl, fun _ => rfl⟩) rfl fun A outer s H ws E S hr hlen hw tk => ?_
  obtain ⟨v1, v2, rfl, p1, p2⟩ := hw
  exact er_mkK tk L.keeX (hr.mono (by decide)) L.gK (ee_var 1 rfl p1) (ee_var 2 rfl p2) (T0.nox)
theorem la10 (L : LE P w K mg base C CK CI CE tup c Pt) (T0 : TurnH z.cps.size e0 et sp wr od no) {f' c' : Addr} {cells : List (Str × Addr)} : LOk P w K mg base (L2.CX P w) 10 f' (LamF (lamOf (stAt turnBody 10) 0) lamQ cells c' none) ["_law_schema_z", "_law_bent", "_law_odd_here"] [] (spAsk K (fun ws S => ∃ v1 v2 v3, ws = [some v1, some v2, some v3] ∧ (SchP K C z ps) v1 S ∧ (Dt K (bentS (e0 :: et) sp wr)) v2 S ∧ (Dt K od) v3 S) (Ex K NoD) (O1 (kIS CI) (.int (sp : Nat)))) := by
  refine lok_ask (N := ["_law_schema_z", "_law_bent", "_law_odd_here"]) (ps := []) (nscope_by (sc := LamSc (lamOf (stAt turnBody 10) 0)) (by decide +kernel)) (lbind0 rfl fun _ _ => rfl) rfl fun A outer s H ws E S hr hlen hw tk => ?_
  obtain ⟨v1, v2, v3, rfl, p1, p2, p3⟩ := hw
  exact (er_call tk L.lotX (hr.mono (by decide)) (ea_cons (ee_var 0 rfl p1) (ea_2 (ee_var 1 rfl p2) (ee_lst (ds := [od]) (ea_1 (ee_var 2 rfl p3))))) (spLo_O (i := (sp : Nat)) (.inl T0.bent))).imp fun v S' h => h.elim
theorem la11 (L : LE P w K mg base C CK CI CE tup c Pt) (T0 : TurnH z.cps.size e0 et sp wr od no) {f' c' : Addr} {cells : List (Str × Addr)} {T : Addr} : LOk P w K mg base (L2.CX P w) 10 f' (LamF (lamOf (stAt turnBody 10) 1) lamQ cells c' (some T)) ["_law_schema_z", "_law_exps_z", "_law_odd_here"] [.int 0] (spAsk K (fun ws S => ∃ v1 v2 v3, ws = [some v1, some v2, some v3] ∧ (SchP K C z ps) v1 S ∧ (Dt K (.list ((e0 :: et).map tI))) v2 S ∧ (Dt K od) v3 S) (Ex K NoD) (O1 (kIS CI) (.int 1))) := by
  refine lok_ask (N := ["_law_a", "_law_schema_z", "_law_exps_z", "_law_odd_here"]) (ps := ["_law_a"]) (nscope_by (sc := LamSc (lamOf (stAt turnBody 10) 1)) (by decide +kernel)) (lbind1 rfl fun _ _ => ⟨_, rfl, fun _ => rfl⟩) rfl fun A outer s H ws E S hr hlen hw tk => ?_
  obtain ⟨v1, v2, v3, rfl, p1, p2, p3⟩ := hw
  exact (er_call tk L.lotX (hr.mono (by decide)) (ea_cons (ee_var 1 rfl p1) (ea_2 (ee_var 2 rfl p2) (EE.isd (ee_catL (ds1 := [tI e0]) (ds2 := [od]) (by show 1 + 1 ≤ 16777216; decide) ((ee_slL (ee_var 2 rfl p2) eo_none (eo_some ee_int)).isd (by rw [show (1 : Int) = ((1 : Nat) : Int) from rfl, cut_to _ (by rw [List.length_map]; show 1 ≤ et.length + 1; omega)]; rfl)) (ee_lst (ds := [od]) (ea_1 (ee_var 3 rfl p3)))) rfl))) (spLo_O (i := 1) (.inr ⟨T0.good, T0.first⟩))).imp fun v S' h => h.elim
theorem la12 (L : LE P w K mg base C CK CI CE tup c Pt) (T0 : TurnH z.cps.size e0 et sp wr od no) {f' c' : Addr} {cells : List (Str × Addr)} {T : Addr} : LOk P w K mg base (L2.CX P w) 10 f' (LamF (lamOf (stAt turnBody 10) 2) lamQ cells c' (some T)) ["_law_schema_z", "_law_exps_z", "_law_box"] [.int 0] (spAsk K (fun ws S => ∃ v1 v2 v3, ws = [some v1, some v2, some v3] ∧ (SchP K C z ps) v1 S ∧ (Dt K (.list ((e0 :: et).map tI))) v2 S ∧ BX v3 S) (Ex K NoD) (O1 (kIS CI) (.int (-1)))) := by
  refine lok_ask (N := ["_law_b", "_law_schema_z", "_law_exps_z", "_law_box"]) (ps := ["_law_b"]) (nscope_by (sc := LamSc (lamOf (stAt turnBody 10) 2)) (by decide +kernel)) (lbind1 rfl fun _ _ => ⟨_, rfl, fun _ => rfl⟩) rfl fun A outer s H ws E S hr hlen hw tk => ?_
  obtain ⟨v1, v2, v3, rfl, p1, p2, p3⟩ := hw
  refine (er_call (P := NoP) tk L.lotX (hr.mono (by decide)) (ea_cons (ee_var 1 rfl p1) (ea_2 (ee_var 2 rfl p2) (ee_callBx L.one (hr.mono (by decide)) ⟨[.none, .list [], .int 3], rfl, by decide, by decide, rfl⟩ (ea_2 (ee_var 3 rfl p3) (ee_lst (ds := [.none, .list [], .int 3]) (ea_cons ee_non (ea_cons (ee_lst (ds := []) ea_nil) (ea_cons ee_int ea_nil)))))))) (spX_O fun vs S1 _ al => ?_)).imp fun v S' h => h.elim
  obtain ⟨x, u, t, rfl, q1, q2, g, hg, q3⟩ := al.three
  exact ⟨_, _, ⟨z, ps, x, u, t, _, g, -1, rfl, q1, q2, q3, .inr ⟨T0.good, goals_bad hg⟩, rfl, rfl⟩, rfl, rfl⟩
theorem la13 (L : LE P w K mg base C CK CI CE tup c Pt) (T0 : TurnH z.cps.size e0 et sp wr od no) {f' c' : Addr} {cells : List (Str × Addr)} {T : Addr} : LOk P w K mg base (L2.CX P w) 10 f' (LamF (lamOf (stAt turnBody 10) 3) lamQ cells c' (some T)) ["_law_schema_z", "_law_none", "_law_odd_here"] [.int 0] (spAsk K (fun ws S => ∃ v1 v2 v3, ws = [some v1, some v2, some v3] ∧ (SchP K C z ps) v1 S ∧ (Dt K no) v2 S ∧ (Dt K od) v3 S) (Ex K NoD) (O1 (kIS CI) (.int (-1)))) := by
  refine lok_ask (N := ["_law_c", "_law_schema_z", "_law_none", "_law_odd_here"]) (ps := ["_law_c"]) (nscope_by (sc := LamSc (lamOf (stAt turnBody 10) 3)) (by decide +kernel)) (lbind1 rfl fun _ _ => ⟨_, rfl, fun _ => rfl⟩) rfl fun A outer s H ws E S hr hlen hw tk => ?_
  obtain ⟨v1, v2, v3, rfl, p1, p2, p3⟩ := hw
  exact er_lcG tk L.corX (hr.mono (by decide)) (ea_cons (ee_var 1 rfl p1) (ea_2 (ee_var 2 rfl p2) (ee_var 3 rfl p3))) (spGo_O (.inl ⟨_, T0.nox, rfl, rfl⟩)) (fun k g h => by obtain ⟨rfl, rfl⟩ := h; exact L.stS) (own := []) (blkOk_by (N := ["_law_c", "_law_schema_z", "_law_none", "_law_odd_here"]) (sc := LamSc (lamOf (stAt turnBody 10) 3)) (by decide +kernel)) rfl rfl
end
end
end K42
namespace K42
open PySem PySem.Spec PyProof.Rows L2 Z Y LamX NdefX
section
variable {P : Program} {w : World} {K : PySem.W.Frag} {mg : Str → Option Value} {base : Heap} {f : Addr} {fd : FuncData}
abbrev es8 : List (Expr × Bool) := [(lamOf (stAt turnBody 8) 0, false), (lamOf (stAt turnBody 8) 1, true), (lamOf (stAt turnBody 8) 2, true), (lamOf (stAt turnBody 8) 3, true), (lamOf (stAt turnBody 8) 4, true)]
abbrev es9 : List (Expr × Bool) := [(lamOf (stAt turnBody 9) 0, false), (lamOf (stAt turnBody 9) 1, true), (lamOf (stAt turnBody 9) 2, true), (lamOf (stAt turnBody 9) 3, true), (lamOf (stAt turnBody 9) 4, true)]
abbrev es10 : List (Expr × Bool) := [(lamOf (stAt turnBody 10) 0, false), (lamOf (stAt turnBody 10) 1, true), (lamOf (stAt turnBody 10) 2, true), (lamOf (stAt turnBody 10) 3, true)]
section
variable {C CK CI CE : Addr} {tup : List Value} {c Pt : Addr} {A : Around} {outer : List Env} {sh : Shared} {H0 : Hp} {E : XK} {vs vb : V} {S H : Hp} {D : Ends} {rest : List Stmt} {z : Str} {ps : Rules} {e0 : List Int} {et : List (List Int)} {sp : Nat} {wr od no : PyData}
/-- the asks -/
theorem turn_b (L : LE P w K mg base C CK CI CE tup c Pt) (hr : Room 14 (LX P w K mg base f c A outer sh H0 E).A) {v4 v5 v6 v8 v9 v10 v12 : V} {a2 a3 a7 a11 a13 a14 a15 : Option V} (s : Same S H) (nT : ∀ a ps, S a ≠ some (.tbl ps)) (hT : TabsN (TabQ Pt lamQ) H) (hb : BX vb S) (T0 : TurnH z.cps.size e0 et sp wr od no) (p4 : SchP K C z ps v4 S) (p8 : Dt K (bentS (e0 :: et) sp wr) v8 S) (p9 : Dt K od v9 S) (p10 : Dt K (.list ((e0 :: et).map tI ++ [tI e0])) v10 S) (p12 : Dt K no v12 S) (p5 : Dt K (.list ((e0 :: et).map tI)) v5 S) (p6 : Dt K (.int (sp : Nat)) v6 S)
    (nx : ∀ b13 b14 b15 Hf, Same S Hf → TabsN (TabQ Pt lamQ) Hf → HS (LX P w K mg base f c A outer sh H0 E) D rest [some vs, some vb, a2, a3, some v4, some v5, some v6, a7, some v8, some v9, some v10, a11, some v12, b13, b14, b15] Hf) :
    HS (LX P w K mg base f c A outer sh H0 E) D (stAt turnBody 8 :: stAt turnBody 9 :: stAt turnBody 10 :: stAt turnBody 11 :: stAt turnBody 12 :: stAt turnBody 13 :: rest) [some vs, some vb, a2, a3, some v4, some v5, some v6, a7, some v8, some v9, some v10, a11, some v12, a13, a14, a15] H := by
  refine hs_asks (es := es8) (i := 13) L.U sc_law.nd hT (fun p hp => ?_) (by decide) fun l xs Hf xf hTf al hl => ?_
  · simp only [es8, List.mem_cons, List.not_mem_nil, or_false] at hp
    rcases hp with rfl | rfl | rfl | rfl | rfl
    · exact ⟨_, _, _, _, rfl, lamB_free (e := lamOf (stAt turnBody 8) 0) (by decide +kernel), fun _ => rfl, (by intro z; cases z)⟩
    · exact ⟨_, _, _, _, rfl, lamB_free (e := lamOf (stAt turnBody 8) 1) (by decide +kernel), (by intro z; cases z), fun _ => ⟨_, _, rfl⟩⟩
    · exact ⟨_, _, _, _, rfl, lamB_free (e := lamOf (stAt turnBody 8) 2) (by decide +kernel), (by intro z; cases z), fun _ => ⟨_, _, rfl⟩⟩
    · exact ⟨_, _, _, _, rfl, lamB_free (e := lamOf (stAt turnBody 8) 3) (by decide +kernel), (by intro z; cases z), fun _ => ⟨_, _, rfl⟩⟩
    · exact ⟨_, _, _, _, rfl, lamB_free (e := lamOf (stAt turnBody 8) 4) (by decide +kernel), (by intro z; cases z), fun _ => ⟨_, _, rfl⟩⟩
  refine hs_asksMore (es := es9) (es0 := es8) (i := 13) L.U sc_law.nd hTf (fun p hp => ?_) (by decide) (askEs_up noTab_sub al) (noTab_sub _ _ hl) rfl fun l2 xs2 Hg xg hTg al2 hl2 => ?_
  · simp only [es9, List.mem_cons, List.not_mem_nil, or_false] at hp
    rcases hp with rfl | rfl | rfl | rfl | rfl
    · exact ⟨_, _, _, _, rfl, lamB_free (e := lamOf (stAt turnBody 9) 0) (by decide +kernel), fun _ => rfl, (by intro z; cases z)⟩
    · exact ⟨_, _, _, _, rfl, lamB_free (e := lamOf (stAt turnBody 9) 1) (by decide +kernel), (by intro z; cases z), fun _ => ⟨_, _, rfl⟩⟩
    · exact ⟨_, _, _, _, rfl, lamB_free (e := lamOf (stAt turnBody 9) 2) (by decide +kernel), (by intro z; cases z), fun _ => ⟨_, _, rfl⟩⟩
    · exact ⟨_, _, _, _, rfl, lamB_free (e := lamOf (stAt turnBody 9) 3) (by decide +kernel), (by intro z; cases z), fun _ => ⟨_, _, rfl⟩⟩
    · exact ⟨_, _, _, _, rfl, lamB_free (e := lamOf (stAt turnBody 9) 4) (by decide +kernel), (by intro z; cases z), fun _ => ⟨_, _, rfl⟩⟩
  refine hs_asksMore (es := es10) (es0 := es8 ++ es9) (i := 13) L.U sc_law.nd hTg (fun p hp => ?_) (by decide) (askEs_up noTab_sub al2) (noTab_sub _ _ hl2) rfl fun l3 xs3 Hh xh hTh al3 hl3 => ?_
  · simp only [es10, List.mem_cons, List.not_mem_nil, or_false] at hp
    rcases hp with rfl | rfl | rfl | rfl
    · exact ⟨_, _, _, _, rfl, lamB_free (e := lamOf (stAt turnBody 10) 0) (by decide +kernel), fun _ => rfl, (by intro z; cases z)⟩
    · exact ⟨_, _, _, _, rfl, lamB_free (e := lamOf (stAt turnBody 10) 1) (by decide +kernel), (by intro z; cases z), fun _ => ⟨_, _, rfl⟩⟩
    · exact ⟨_, _, _, _, rfl, lamB_free (e := lamOf (stAt turnBody 10) 2) (by decide +kernel), (by intro z; cases z), fun _ => ⟨_, _, rfl⟩⟩
    · exact ⟨_, _, _, _, rfl, lamB_free (e := lamOf (stAt turnBody 10) 3) (by decide +kernel), (by intro z; cases z), fun _ => ⟨_, _, rfl⟩⟩
  have s1 : Same S (Y.noTab Hf) := tab_step s nT xf
  have s2 : Same S (Y.noTab Hg) := tab_step (s1.trans noTab_sub) nT xg
  have sf : Same S (Y.noTab Hh) := tab_step (s2.trans noTab_sub) nT xh
  have f5 : Dt K (.list ((e0 :: et).map tI)) v5 (Y.noTab Hh) := p5.up sf
  let told : List PyData := [.tuple [.str "InvalidSums", .int (sp : Nat)], .tuple [.str "InvalidSums", .int (et.length + 1 : Nat)], .tuple [.str "InvalidSums", .int (-1)], .tuple [.str "InvalidSums", .int (sp : Nat)], .tuple [.str "InvalidSums", .int (et.length + 1 : Nat)], .tuple [.str "InvalidExponent", od], .tuple [.str "InvalidExponent", od], .tuple [.str "InvalidExponent", od], .tuple [.str "InvalidSums", .int (-1)], .tuple [.str "InvalidSums", .int (-1)], .tuple [.str "InvalidSums", .int (sp : Nat)], .tuple [.str "InvalidSums", .int 1], .tuple [.str "InvalidSums", .int (-1)], .tuple [.str "InvalidSums", .int (-1)]]
  refine hs_set (i := 14) (P := Dt K (.int (et.length + 1 : Nat))) (ee_len L.flen (n := et.length + 1) (by show some _ = some _; rw [List.length_map]; rfl) (ee_var 5 rfl f5)) noTab_sub sc_law.nd fun v14 S1 H1 g1 pn => ?_
  have sg1 := sf.trans g1.st
  have f6 : Dt K (.int (sp : Nat)) v6 S1 := p6.up sg1
  have f9 : Dt K od v9 S1 := p9.up sg1
  refine hs_set (i := 15) (P := Dt K (.list told)) (ee_catL (ds1 := [.tuple [.str "InvalidSums", .int (sp : Nat)], .tuple [.str "InvalidSums", .int (et.length + 1 : Nat)], .tuple [.str "InvalidSums", .int (-1)], .tuple [.str "InvalidSums", .int (sp : Nat)], .tuple [.str "InvalidSums", .int (et.length + 1 : Nat)], .tuple [.str "InvalidExponent", od], .tuple [.str "InvalidExponent", od], .tuple [.str "InvalidExponent", od], .tuple [.str "InvalidSums", .int (-1)], .tuple [.str "InvalidSums", .int (-1)]]) (ds2 := [.tuple [.str "InvalidSums", .int (sp : Nat)], .tuple [.str "InvalidSums", .int 1], .tuple [.str "InvalidSums", .int (-1)], .tuple [.str "InvalidSums", .int (-1)]]) (by show 10 + 4 ≤ 16777216; decide) (ee_catL (ds1 := [.tuple [.str "InvalidSums", .int (sp : Nat)], .tuple [.str "InvalidSums", .int (et.length + 1 : Nat)], .tuple [.str "InvalidSums", .int (-1)], .tuple [.str "InvalidSums", .int (sp : Nat)], .tuple [.str "InvalidSums", .int (et.length + 1 : Nat)], .tuple [.str "InvalidExponent", od], .tuple [.str "InvalidExponent", od], .tuple [.str "InvalidExponent", od]]) (ds2 := [.tuple [.str "InvalidSums", .int (-1)], .tuple [.str "InvalidSums", .int (-1)]]) (by show 8 + 2 ≤ 16777216; decide) (ee_catL (ds1 := [.tuple [.str "InvalidSums", .int (sp : Nat)], .tuple [.str "InvalidSums", .int (et.length + 1 : Nat)], .tuple [.str "InvalidSums", .int (-1)], .tuple [.str "InvalidSums", .int (sp : Nat)], .tuple [.str "InvalidSums", .int (et.length + 1 : Nat)]]) (ds2 := [.tuple [.str "InvalidExponent", od], .tuple [.str "InvalidExponent", od], .tuple [.str "InvalidExponent", od]]) (by show 5 + 3 ≤ 16777216; decide) (ee_lst (ds := [.tuple [.str "InvalidSums", .int (sp : Nat)], .tuple [.str "InvalidSums", .int (et.length + 1 : Nat)], .tuple [.str "InvalidSums", .int (-1)], .tuple [.str "InvalidSums", .int (sp : Nat)], .tuple [.str "InvalidSums", .int (et.length + 1 : Nat)]]) (ea_cons (ee_tup (ds := [.str "InvalidSums", .int (sp : Nat)]) (ea_2 ee_str (ee_var 6 rfl f6))) (ea_cons (ee_tup (ds := [.str "InvalidSums", .int (et.length + 1 : Nat)]) (ea_2 ee_str (ee_var 14 rfl pn))) (ea_cons (ee_tup (ds := [.str "InvalidSums", .int (-1)]) (ea_2 ee_str (ee_neg ee_int))) (ea_cons (ee_tup (ds := [.str "InvalidSums", .int (sp : Nat)]) (ea_2 ee_str (ee_var 6 rfl f6))) (ea_cons (ee_tup (ds := [.str "InvalidSums", .int (et.length + 1 : Nat)]) (ea_2 ee_str (ee_var 14 rfl pn))) ea_nil)))))) ((ee_repL (ds := [.tuple [.str "InvalidExponent", od]]) (i := 3) (by decide) (by decide) (by show 1 * 3 ≤ 16777216; decide) (ee_lst (ds := [.tuple [.str "InvalidExponent", od]]) (ea_1 (ee_tup (ds := [.str "InvalidExponent", od]) (ea_2 ee_str (ee_var 9 rfl f9))))) ee_int).isd (d' := .list [.tuple [.str "InvalidExponent", od], .tuple [.str "InvalidExponent", od], .tuple [.str "InvalidExponent", od]]) rfl)) ((ee_repL (ds := [.tuple [.str "InvalidSums", .int (-1)]]) (i := 2) (by decide) (by decide) (by show 1 * 2 ≤ 16777216; decide) (ee_lst (ds := [.tuple [.str "InvalidSums", .int (-1)]]) (ea_1 (ee_tup (ds := [.str "InvalidSums", .int (-1)]) (ea_2 ee_str (ee_neg ee_int))))) ee_int).isd (d' := .list [.tuple [.str "InvalidSums", .int (-1)], .tuple [.str "InvalidSums", .int (-1)]]) rfl)) (ee_lst (ds := [.tuple [.str "InvalidSums", .int (sp : Nat)], .tuple [.str "InvalidSums", .int 1], .tuple [.str "InvalidSums", .int (-1)], .tuple [.str "InvalidSums", .int (-1)]]) (ea_cons (ee_tup (ds := [.str "InvalidSums", .int (sp : Nat)]) (ea_2 ee_str (ee_var 6 rfl f6))) (ea_cons (ee_tup (ds := [.str "InvalidSums", .int 1]) (ea_2 ee_str ee_int)) (ea_cons (ee_tup (ds := [.str "InvalidSums", .int (-1)]) (ea_2 ee_str (ee_neg ee_int))) (ea_cons (ee_tup (ds := [.str "InvalidSums", .int (-1)]) (ea_2 ee_str (ee_neg ee_int))) ea_nil)))))) g1.sub sc_law.nd fun v15 S2 H2 g2 pd => ?_
  have sg := sg1.trans g2.st
  have hl4 := g2.st _ _ (g1.st _ _ hl3)
  have al4 := askEs_up g2.st (askEs_up g1.st al3)
  have e1 : BX vb S2 := Mn.up sg hb
  have e4 : (SchP K C z ps) v4 S2 := Mn.up sg p4
  have e8 : (Dt K (bentS (e0 :: et) sp wr)) v8 S2 := Mn.up sg p8
  have e9 : (Dt K od) v9 S2 := Mn.up sg p9
  have e10 : (Dt K (.list ((e0 :: et).map tI ++ [tI e0]))) v10 S2 := Mn.up sg p10
  have e12 : (Dt K no) v12 S2 := Mn.up sg p12
  have e5 : (Dt K (.list ((e0 :: et).map tI))) v5 S2 := Mn.up sg p5
  let σ : L2.St := [some vs, some vb, a2, a3, some v4, some v5, some v6, a7, some v8, some v9, some v10, a11, some v12, some (.ref l3), some v14, some v15]
  let X0 := LX P w K mg base f c A outer sh H0 E
  let i1 : AskC X0 lamQ tup 10 σ capN (S2) := { e := lamOf (stAt turnBody 8) 0, b := false, fr := ["_law_schema_z", "_law_bent", "_law_odd_here"], js := [4, 8, 9], Od := NoD, O := O1 (kIS CI) (.int (sp : Nat)), W := fun ws S => ∃ v1 v2 v3, ws = [some v1, some v2, some v3] ∧ (SchP K C z ps) v1 S ∧ (Dt K (bentS (e0 :: et) sp wr)) v2 S ∧ (Dt K od) v3 S, lam := ⟨_, _, _, _, rfl⟩, lok := fun f' c' dT h0 _ => by obtain rfl := h0 rfl; exact la0 L T0, free := lamB_free (by decide +kernel), sub := lamB_sub (by decide +kernel), hfr := by decide +kernel, hjs := rfl, ok := ok_one L.okS, hW := fun S' s' => ⟨v4, v8, v9, rfl, Mn.up s' e4, Mn.up s' e8, Mn.up s' e9⟩ }
  let i2 : AskC X0 lamQ tup 10 σ capN (S2) := { e := lamOf (stAt turnBody 8) 1, b := true, fr := ["_law_schema_z", "_law_twice", "_law_odd_here"], js := [4, 10, 9], Od := NoD, O := O1 (kIS CI) (.int (et.length + 1 : Nat)), W := fun ws S => ∃ v1 v2 v3, ws = [some v1, some v2, some v3] ∧ (SchP K C z ps) v1 S ∧ (Dt K (.list ((e0 :: et).map tI ++ [tI e0]))) v2 S ∧ (Dt K od) v3 S, lam := ⟨_, _, _, _, rfl⟩, lok := fun f' c' dT _ h0 => by obtain ⟨T, rfl⟩ := h0 rfl; exact la1 L T0, free := lamB_free (by decide +kernel), sub := lamB_sub (by decide +kernel), hfr := by decide +kernel, hjs := rfl, ok := ok_one L.okS, hW := fun S' s' => ⟨v4, v10, v9, rfl, Mn.up s' e4, Mn.up s' e10, Mn.up s' e9⟩ }
  let i3 : AskC X0 lamQ tup 10 σ capN (S2) := { e := lamOf (stAt turnBody 8) 2, b := true, fr := ["_law_schema_z", "_law_none", "_law_odd_here"], js := [4, 12, 9], Od := NoD, O := O1 (kIS CI) (.int (-1)), W := fun ws S => ∃ v1 v2 v3, ws = [some v1, some v2, some v3] ∧ (SchP K C z ps) v1 S ∧ (Dt K no) v2 S ∧ (Dt K od) v3 S, lam := ⟨_, _, _, _, rfl⟩, lok := fun f' c' dT _ h0 => by obtain ⟨T, rfl⟩ := h0 rfl; exact la2 L T0, free := lamB_free (by decide +kernel), sub := lamB_sub (by decide +kernel), hfr := by decide +kernel, hjs := rfl, ok := ok_one L.okS, hW := fun S' s' => ⟨v4, v12, v9, rfl, Mn.up s' e4, Mn.up s' e12, Mn.up s' e9⟩ }
  let i4 : AskC X0 lamQ tup 10 σ capN (S2) := { e := lamOf (stAt turnBody 8) 3, b := true, fr := ["_law_schema_z", "_law_bent"], js := [4, 8], Od := NoD, O := O1 (kIS CI) (.int (sp : Nat)), W := fun ws S => ∃ v1 v2, ws = [some v1, some v2] ∧ (SchP K C z ps) v1 S ∧ (Dt K (bentS (e0 :: et) sp wr)) v2 S, lam := ⟨_, _, _, _, rfl⟩, lok := fun f' c' dT _ h0 => by obtain ⟨T, rfl⟩ := h0 rfl; exact la3 L T0, free := lamB_free (by decide +kernel), sub := lamB_sub (by decide +kernel), hfr := by decide +kernel, hjs := rfl, ok := ok_one L.okS, hW := fun S' s' => ⟨v4, v8, rfl, Mn.up s' e4, Mn.up s' e8⟩ }
  let i5 : AskC X0 lamQ tup 10 σ capN (S2) := { e := lamOf (stAt turnBody 8) 4, b := true, fr := ["_law_schema_z", "_law_twice"], js := [4, 10], Od := NoD, O := O1 (kIS CI) (.int (et.length + 1 : Nat)), W := fun ws S => ∃ v1 v2, ws = [some v1, some v2] ∧ (SchP K C z ps) v1 S ∧ (Dt K (.list ((e0 :: et).map tI ++ [tI e0]))) v2 S, lam := ⟨_, _, _, _, rfl⟩, lok := fun f' c' dT _ h0 => by obtain ⟨T, rfl⟩ := h0 rfl; exact la4 L T0, free := lamB_free (by decide +kernel), sub := lamB_sub (by decide +kernel), hfr := by decide +kernel, hjs := rfl, ok := ok_one L.okS, hW := fun S' s' => ⟨v4, v10, rfl, Mn.up s' e4, Mn.up s' e10⟩ }
  let i6 : AskC X0 lamQ tup 10 σ capN (S2) := { e := lamOf (stAt turnBody 9) 0, b := false, fr := ["_law_schema_z", "_law_exps_z", "_law_odd_here"], js := [4, 5, 9], Od := NoD, O := O1 (kIE CE) od, W := fun ws S => ∃ v1 v2 v3, ws = [some v1, some v2, some v3] ∧ (SchP K C z ps) v1 S ∧ (Dt K (.list ((e0 :: et).map tI))) v2 S ∧ (Dt K od) v3 S, lam := ⟨_, _, _, _, rfl⟩, lok := fun f' c' dT h0 _ => by obtain rfl := h0 rfl; exact la5 L T0, free := lamB_free (by decide +kernel), sub := lamB_sub (by decide +kernel), hfr := by decide +kernel, hjs := rfl, ok := ok_one L.okE, hW := fun S' s' => ⟨v4, v5, v9, rfl, Mn.up s' e4, Mn.up s' e5, Mn.up s' e9⟩ }
  let i7 : AskC X0 lamQ tup 10 σ capN (S2) := { e := lamOf (stAt turnBody 9) 1, b := true, fr := ["_law_schema_z", "_law_exps_z", "_law_odd_here"], js := [4, 5, 9], Od := NoD, O := O1 (kIE CE) od, W := fun ws S => ∃ v1 v2 v3, ws = [some v1, some v2, some v3] ∧ (SchP K C z ps) v1 S ∧ (Dt K (.list ((e0 :: et).map tI))) v2 S ∧ (Dt K od) v3 S, lam := ⟨_, _, _, _, rfl⟩, lok := fun f' c' dT _ h0 => by obtain ⟨T, rfl⟩ := h0 rfl; exact la6 L T0, free := lamB_free (by decide +kernel), sub := lamB_sub (by decide +kernel), hfr := by decide +kernel, hjs := rfl, ok := ok_one L.okE, hW := fun S' s' => ⟨v4, v5, v9, rfl, Mn.up s' e4, Mn.up s' e5, Mn.up s' e9⟩ }
  let i8 : AskC X0 lamQ tup 10 σ capN (S2) := { e := lamOf (stAt turnBody 9) 2, b := true, fr := ["_law_schema_z", "_law_exps_z", "_law_odd_here"], js := [4, 5, 9], Od := NoD, O := O1 (kIE CE) od, W := fun ws S => ∃ v1 v2 v3, ws = [some v1, some v2, some v3] ∧ (SchP K C z ps) v1 S ∧ (Dt K (.list ((e0 :: et).map tI))) v2 S ∧ (Dt K od) v3 S, lam := ⟨_, _, _, _, rfl⟩, lok := fun f' c' dT _ h0 => by obtain ⟨T, rfl⟩ := h0 rfl; exact la7 L T0, free := lamB_free (by decide +kernel), sub := lamB_sub (by decide +kernel), hfr := by decide +kernel, hjs := rfl, ok := ok_one L.okE, hW := fun S' s' => ⟨v4, v5, v9, rfl, Mn.up s' e4, Mn.up s' e5, Mn.up s' e9⟩ }
  let i9 : AskC X0 lamQ tup 10 σ capN (S2) := { e := lamOf (stAt turnBody 9) 3, b := true, fr := ["_law_schema_z", "_law_none"], js := [4, 12], Od := NoD, O := O1 (kIS CI) (.int (-1)), W := fun ws S => ∃ v1 v2, ws = [some v1, some v2] ∧ (SchP K C z ps) v1 S ∧ (Dt K no) v2 S, lam := ⟨_, _, _, _, rfl⟩, lok := fun f' c' dT _ h0 => by obtain ⟨T, rfl⟩ := h0 rfl; exact la8 L T0, free := lamB_free (by decide +kernel), sub := lamB_sub (by decide +kernel), hfr := by decide +kernel, hjs := rfl, ok := ok_one L.okS, hW := fun S' s' => ⟨v4, v12, rfl, Mn.up s' e4, Mn.up s' e12⟩ }
  let i10 : AskC X0 lamQ tup 10 σ capN (S2) := { e := lamOf (stAt turnBody 9) 4, b := true, fr := ["_law_schema_z", "_law_none"], js := [4, 12], Od := NoD, O := O1 (kIS CI) (.int (-1)), W := fun ws S => ∃ v1 v2, ws = [some v1, some v2] ∧ (SchP K C z ps) v1 S ∧ (Dt K no) v2 S, lam := ⟨_, _, _, _, rfl⟩, lok := fun f' c' dT _ h0 => by obtain ⟨T, rfl⟩ := h0 rfl; exact la9 L T0, free := lamB_free (by decide +kernel), sub := lamB_sub (by decide +kernel), hfr := by decide +kernel, hjs := rfl, ok := ok_one L.okS, hW := fun S' s' => ⟨v4, v12, rfl, Mn.up s' e4, Mn.up s' e12⟩ }
  let i11 : AskC X0 lamQ tup 10 σ capN (S2) := { e := lamOf (stAt turnBody 10) 0, b := false, fr := ["_law_schema_z", "_law_bent", "_law_odd_here"], js := [4, 8, 9], Od := NoD, O := O1 (kIS CI) (.int (sp : Nat)), W := fun ws S => ∃ v1 v2 v3, ws = [some v1, some v2, some v3] ∧ (SchP K C z ps) v1 S ∧ (Dt K (bentS (e0 :: et) sp wr)) v2 S ∧ (Dt K od) v3 S, lam := ⟨_, _, _, _, rfl⟩, lok := fun f' c' dT h0 _ => by obtain rfl := h0 rfl; exact la10 L T0, free := lamB_free (by decide +kernel), sub := lamB_sub (by decide +kernel), hfr := by decide +kernel, hjs := rfl, ok := ok_one L.okS, hW := fun S' s' => ⟨v4, v8, v9, rfl, Mn.up s' e4, Mn.up s' e8, Mn.up s' e9⟩ }
  let i12 : AskC X0 lamQ tup 10 σ capN (S2) := { e := lamOf (stAt turnBody 10) 1, b := true, fr := ["_law_schema_z", "_law_exps_z", "_law_odd_here"], js := [4, 5, 9], Od := NoD, O := O1 (kIS CI) (.int 1), W := fun ws S => ∃ v1 v2 v3, ws = [some v1, some v2, some v3] ∧ (SchP K C z ps) v1 S ∧ (Dt K (.list ((e0 :: et).map tI))) v2 S ∧ (Dt K od) v3 S, lam := ⟨_, _, _, _, rfl⟩, lok := fun f' c' dT _ h0 => by obtain ⟨T, rfl⟩ := h0 rfl; exact la11 L T0, free := lamB_free (by decide +kernel), sub := lamB_sub (by decide +kernel), hfr := by decide +kernel, hjs := rfl, ok := ok_one L.okS, hW := fun S' s' => ⟨v4, v5, v9, rfl, Mn.up s' e4, Mn.up s' e5, Mn.up s' e9⟩ }
  let i13 : AskC X0 lamQ tup 10 σ capN (S2) := { e := lamOf (stAt turnBody 10) 2, b := true, fr := ["_law_schema_z", "_law_exps_z", "_law_box"], js := [4, 5, 1], Od := NoD, O := O1 (kIS CI) (.int (-1)), W := fun ws S => ∃ v1 v2 v3, ws = [some v1, some v2, some v3] ∧ (SchP K C z ps) v1 S ∧ (Dt K (.list ((e0 :: et).map tI))) v2 S ∧ BX v3 S, lam := ⟨_, _, _, _, rfl⟩, lok := fun f' c' dT _ h0 => by obtain ⟨T, rfl⟩ := h0 rfl; exact la12 L T0, free := lamB_free (by decide +kernel), sub := lamB_sub (by decide +kernel), hfr := by decide +kernel, hjs := rfl, ok := ok_one L.okS, hW := fun S' s' => ⟨v4, v5, vb, rfl, Mn.up s' e4, Mn.up s' e5, Mn.up s' e1⟩ }
  let i14 : AskC X0 lamQ tup 10 σ capN (S2) := { e := lamOf (stAt turnBody 10) 3, b := true, fr := ["_law_schema_z", "_law_none", "_law_odd_here"], js := [4, 12, 9], Od := NoD, O := O1 (kIS CI) (.int (-1)), W := fun ws S => ∃ v1 v2 v3, ws = [some v1, some v2, some v3] ∧ (SchP K C z ps) v1 S ∧ (Dt K no) v2 S ∧ (Dt K od) v3 S, lam := ⟨_, _, _, _, rfl⟩, lok := fun f' c' dT _ h0 => by obtain ⟨T, rfl⟩ := h0 rfl; exact la13 L T0, free := lamB_free (by decide +kernel), sub := lamB_sub (by decide +kernel), hfr := by decide +kernel, hjs := rfl, ok := ok_one L.okS, hW := fun S' s' => ⟨v4, v12, v9, rfl, Mn.up s' e4, Mn.up s' e12, Mn.up s' e9⟩ }
  have hbd : Bd 3 (.list told) := bd_list fun d hd => by
    simp only [told, List.mem_cons, List.not_mem_nil, or_false] at hd
    have bo := odd_bd T0.ho
    rcases hd with rfl | rfl | rfl | rfl | rfl | rfl | rfl | rfl | rfl | rfl | rfl | rfl | rfl | rfl <;> first | exact pair_bd trivial | exact pair_bd bo
  have htr : EE X0 σ S2 (match stAt turnBody 13 with | .If (.UnaryOp _ (.Call _ [e, _] _ _) _) _ _ _ => e | _ => .Constant .none 0 ⟨0, 0, 0, 0⟩) (Dt K (.list told)) := by
    refine EE.imp (ee_tries (X := X0) (σ := σ) (S := S2) (xs := capN) (by decide) cap_cells L.tries (hr.mono (by decide)) [i1, i2, i3, i4, i5, i6, i7, i8, i9, i10, i11, i12, i13, i14] (by show 14 ≤ 1000; decide) (i := 13) rfl hl4 al4) fun v S' ⟨d, ⟨rs, e, hp⟩, pv⟩ => ?_
    have ers := all_err (kg := [(kIS CI, .int (sp : Nat)), (kIS CI, .int (et.length + 1 : Nat)), (kIS CI, .int (-1)), (kIS CI, .int (sp : Nat)), (kIS CI, .int (et.length + 1 : Nat)), (kIE CE, od), (kIE CE, od), (kIE CE, od), (kIS CI, .int (-1)), (kIS CI, .int (-1)), (kIS CI, .int (sp : Nat)), (kIS CI, .int 1), (kIS CI, .int (-1)), (kIS CI, .int (-1))]) rfl hp
    subst e
    rw [ers] at pv
    exact pv
  refine hs_ifN (ET.is (et_not (et_val (ee_callD (L.same 3) (hr.mono (by decide)) ⟨.list told, rfl, hbd, rfl⟩ (ea_2 htr (ee_var 15 rfl pd))))) (by rfl)) g2.sub fun S3 H3 g3 => ?_
  exact nx _ _ _ H3 (sg.trans (g3.st.trans g3.sub)) (((hTh.ext g1.hh).ext g2.hh).ext g3.hh)
end
end
end K42
namespace K42
open PySem PySem.Spec PyProof.Rows L2 Z Y LamX NdefX
section
variable {P : Program} {w : World} {K : PySem.W.Frag} {mg : Str → Option Value} {base : Heap} {f : Addr} {fd : FuncData}
def spLaw (K : PySem.W.Frag) (Pt : Addr) : Sp := fun vs H Q _ => ∃ (a : Addr) (ns : List Int), vs = [.ref a] ∧ SqL K H a (ns.map V.int) ∧ ns.length ≤ 63 ∧ H Pt = some (.tbl #[]) ∧ ∀ H', Q (.bl true) H'
def OSt (vs vb : V) (σ : L2.St) : Prop := ∃ a2 a3 a4 a5 a6 a7 a8 a9 a10 a11 a12 a13 a14 a15, σ = [some vs, some vb, a2, a3, a4, a5, a6, a7, a8, a9, a10, a11, a12, a13, a14, a15]
theorem ok_law {C CK CI CE : Addr} {tup : List Value} {c Pt : Addr} (F : FnT K "law" slaw f fd) (hcode : fd.code = .ref c) (L : LE P w K mg base C CK CI CE tup c Pt) : FnOk P w K mg base CX0 15 f fd ["_law_script"] (spLaw K Pt) := by
  refine fn_hsC F sc_law hcode (fun vs H Q E h => by obtain ⟨a, ns, rfl, _⟩ := h; rfl) (fun A outer sh H vs Q E hr h => ?_)
  obtain ⟨a, ns, rfl, hS, hl, hP, q⟩ := h
  obtain ⟨fo, fdo, pso, G, hm, hk, hb⟩ := L.openD.ex
  refine hs_cons (ps_set (i := 1) sc_law.nd rfl (by first | exact Or.inl rfl | exact Or.inr rfl) (pe_call G (hr.mono (by decide)) rfl hm hk hb .nil pass0 (pa_cons (pv 0) pa_nil)) rfl (by first | exact .inl rfl | exact .inr rfl)) ?_
  refine ⟨_, rfl, ?_⟩
  refine ⟨a, ns, rfl, hS, hl, fun vb H1 sm hbx => ?_⟩
  have hT : TabsN (TabQ Pt lamQ) H1 := fun p hp => by rw [List.mem_singleton.mp hp]; exact TabN.nil (sm _ _ hP)
  refine hs_forR (S := H1) (n := 3) (fun i σ H' => BX vb H' ∧ TabsN (TabQ Pt lamQ) H' ∧ OSt (.ref a) vb σ) PassesOwn.never rfl L.frange (by decide) ee_int (Same.refl H1) (fun S' H' g => ⟨Mn.up (g.st.trans g.sub) hbx, hT.ext g.hh, _, _, _, _, _, _, _, _, _, _, _, _, _, _, rfl⟩) ?_ ?_
  · rintro i σ1 H2 _ ⟨hb2, hT2, a2, a3, a4, a5, a6, a7, a8, a9, a10, a11, a12, a13, a14, a15, rfl⟩
    refine (eg_name (S := Y.noTab H2) (i := 2) sc_law.nd rfl (by first | exact Or.inl rfl | exact Or.inr rfl)) H2 noTab_sub _ ?_
    have hb2 := bx_noTab hb2
    refine turn_a L hr noTab_sub hb2 fun n z ps e0 et sp wr od no v3 v4 v5 v6 v7 v8 v9 v10 v12 S3 H3 g3 hz T0 q4 q5 q6 q8 q9 q10 q12 => ?_
    subst hz
    have hb3 : BX vb S3 := Mn.up g3.st hb2
    refine turn_b L hr (noTab_sub.trans g3.sub) (fun _ _ => noTab_no) (hT2.ext g3.hh) (bx_noTab hb3) T0 (sch_noTab q4) (dt_noTab q8) (dt_noTab q9) (dt_noTab q10) (dt_noTab q12) (dt_noTab q5) (dt_noTab q6) fun b13 b14 b15 H4 s4 hT4 => hs_nil ?_
    exact ⟨Mn.up s4 (bx_noTab hb3), hT4, _, _, _, _, _, _, _, _, _, _, _, _, _, _, rfl⟩
  · rintro σ1 H2 ⟨hb2, hT2, a2, a3, a4, a5, a6, a7, a8, a9, a10, a11, a12, a13, a14, a15, rfl⟩
    exact hs_ret ee_bl (Same.refl H2) fun v S' H' g pv => by
      cases pv
      exact q H'
end
end K42
namespace K42
open PySem PySem.Spec PyProof.Rows L2 Z Y LamX NdefX
section
variable {P : Program} {w : World} {K : PySem.W.Frag} {mg : Str → Option Value} {base : Heap} {f : Addr} {fd : FuncData}
/-! ## the errors of k42 -/
theorem sc_iInvalidSums : FnScope ["self", "at"] ["self", "at"] (defScope sInvalidSums____init__) := ⟨rfl, rfl, rfl, by decide +kernel, rfl, by decide +kernel, by decide +kernel⟩
theorem ok_init_InvalidSums {C : Addr} (F : FunD K "__init__" "InvalidSums.__init__" (defArgs sInvalidSums____init__) (defBody sInvalidSums____init__) (defScope sInvalidSums____init__) [] [] f fd) (T : OexC K C) (n1 : PySem.W.findIn K (.ref C) "at" = some none) (n2 : PySem.W.findIn K (.ref C) "code" = some none) : FnOk P w K mg base CX0 1 f fd ["self", "at"] (spXI C "at" "InvalidSums") := by
  refine fn_hs F sc_iInvalidSums (fun vs H Q E h => ?_) (fun cdv A outer sh H vs Q E hr h => ?_)
  · obtain ⟨a, v, rfl, _⟩ := h
    rfl
  · obtain ⟨a, v, rfl, ha, q⟩ := h
    refine hs_cons (ps_ost (pv 0) (pv 1)) ⟨_, rfl, _, rfl, a, C, rfl, T, n1, .inl ⟨ha, fun dx h1 h2 => ?_⟩⟩
    refine hs_cons (ps_ost (pv 0) pe_str) ⟨_, rfl, a, C, rfl, T, n2, .inr ⟨dx, [("at", v)], upd_same, by rw [upd_ne h2, upd_same], (show 1 ≤ 900 by decide), ?_⟩⟩
    exact hs_nil (q dx h1 h2)
theorem sc_iInvalidExponent : FnScope ["self", "given"] ["self", "given"] (defScope sInvalidExponent____init__) := ⟨rfl, rfl, rfl, by decide +kernel, rfl, by decide +kernel, by decide +kernel⟩
theorem ok_init_InvalidExponent {C : Addr} (F : FunD K "__init__" "InvalidExponent.__init__" (defArgs sInvalidExponent____init__) (defBody sInvalidExponent____init__) (defScope sInvalidExponent____init__) [] [] f fd) (T : OexC K C) (n1 : PySem.W.findIn K (.ref C) "given" = some none) (n2 : PySem.W.findIn K (.ref C) "code" = some none) : FnOk P w K mg base CX0 1 f fd ["self", "given"] (spXI C "given" "InvalidExponent") := by
  refine fn_hs F sc_iInvalidExponent (fun vs H Q E h => ?_) (fun cdv A outer sh H vs Q E hr h => ?_)
  · obtain ⟨a, v, rfl, _⟩ := h
    rfl
  · obtain ⟨a, v, rfl, ha, q⟩ := h
    refine hs_cons (ps_ost (pv 0) (pv 1)) ⟨_, rfl, _, rfl, a, C, rfl, T, n1, .inl ⟨ha, fun dx h1 h2 => ?_⟩⟩
    refine hs_cons (ps_ost (pv 0) pe_str) ⟨_, rfl, a, C, rfl, T, n2, .inr ⟨dx, [("given", v)], upd_same, by rw [upd_ne h2, upd_same], (show 1 ≤ 900 by decide), ?_⟩⟩
    exact hs_nil (q dx h1 h2)
def gK {α : Type} : List α → List α → List α → List α
  | us, _, [a, b] => us ++ [b, a]
  | us, _, ws => us ++ ws
theorem gK_rel {vs ds zs : List V} {us its ws : List Value} (r1 : Vals vs us) (_ : Vals ds its) (r3 : Vals zs ws) : Vals (gK vs ds zs) (gK us its ws) := by
  cases r3 with
  | nil => exact r1.append .nil
  | cons a t =>
    cases t with
    | nil => exact r1.append (.cons a .nil)
    | cons b t =>
      cases t with
      | nil => exact r1.append (.cons b (.cons a .nil))
      | cons c t => exact r1.append (.cons a (.cons b (.cons c t)))
theorem facts {P : Program} {w : World} {K : PySem.W.Frag} {h : Heap} {mg : Str → Option Value} {f : Addr} (X : K.In h) (G : h.Ns mainGlobals mg) (hfa : mg ("law" : Str) = some (.ref f)) (c0 : SaysG fa fn pn sn tf ex h K) :
    ∃ fd : FuncData, (∀ (s : Shared) (v : Value), BindsTo s fd ⟨[v], []⟩ [("_law_script", v)]) ∧ ∀ base : Heap, K.In base → base.Ns mainGlobals mg → TabB base mg (He.cT K ("law", none)).1 (He.cT K ("law", none)).2 → FnOk P w K mg base CX0 15 f fd ["_law_script"] (spLaw K (He.cT K ("law", none)).2) := by
  have d := c0.d
  have more := c0.more
  unfold ex at more
  rw [Bool.and_eq_true] at more
  obtain ⟨x_dflS, more⟩ := more
  rw [Bool.and_eq_true] at more
  obtain ⟨x_alias, more⟩ := more
  rw [Bool.and_eq_true] at more
  obtain ⟨x_Schema_rd, more⟩ := more
  rw [Bool.and_eq_true] at more
  obtain ⟨x_Schema_sg, more⟩ := more
  rw [Bool.and_eq_true] at more
  obtain ⟨x_Schema_cv, more⟩ := more
  rw [Bool.and_eq_true] at more
  obtain ⟨x_err_InvalidSums, more⟩ := more
  rw [Bool.and_eq_true] at more
  obtain ⟨x_exm_InvalidSums, more⟩ := more
  rw [Bool.and_eq_true] at more
  obtain ⟨x_stp_InvalidSums, more⟩ := more
  rw [Bool.and_eq_true] at more
  obtain ⟨x_err_InvalidExponent, more⟩ := more
  rw [Bool.and_eq_true] at more
  obtain ⟨x_exm_InvalidExponent, more⟩ := more
  have x_stp_InvalidExponent := more
  have x_alias := of_decide_eq_true x_alias
  have x_Schema_sg := He.eqO_ok x_Schema_sg
  have x_exm_InvalidSums := of_decide_eq_true x_exm_InvalidSums
  have x_stp_InvalidSums := of_decide_eq_true x_stp_InvalidSums
  have x_exm_InvalidExponent := of_decide_eq_true x_exm_InvalidExponent
  have x_stp_InvalidExponent := of_decide_eq_true x_stp_InvalidExponent
  obtain ⟨T_InvalidSums, X_InvalidSums, n1_InvalidSums, n2_InvalidSums, hI_InvalidSums, tI_InvalidSums⟩ := errB_ok x_err_InvalidSums
  obtain ⟨T_InvalidExponent, X_InvalidExponent, n1_InvalidExponent, n2_InvalidExponent, hI_InvalidExponent, tI_InvalidExponent⟩ := errB_ok x_err_InvalidExponent
  have h_isinstance : mg "isinstance" = none := He.free_ok X G (d.fact 32 (f := .free "isinstance") rfl)
  have h_bool : mg "bool" = none := He.free_ok X G (d.fact 33 (f := .free "bool") rfl)
  have h_int : mg "int" = none := He.free_ok X G (d.fact 34 (f := .free "int") rfl)
  have h_str : mg "str" = none := He.free_ok X G (d.fact 35 (f := .free "str") rfl)
  have h_list : mg "list" = none := He.free_ok X G (d.fact 36 (f := .free "list") rfl)
  have h_tuple : mg "tuple" = none := He.free_ok X G (d.fact 37 (f := .free "tuple") rfl)
  have h_len : mg "len" = none := He.free_ok X G (d.fact 38 (f := .free "len") rfl)
  have h_all : mg "all" = none := He.free_ok X G (d.fact 39 (f := .free "all") rfl)
  have h_range : mg "range" = none := He.free_ok X G (d.fact 40 (f := .free "range") rfl)
  have h_set : mg "set" = none := He.free_ok X G (d.fact 41 (f := .free "set") rfl)
  have h_enumerate : mg "enumerate" = none := He.free_ok X G (d.fact 42 (f := .free "enumerate") rfl)
  have h_zip : mg "zip" = none := He.free_ok X G (d.fact 43 (f := .free "zip") rfl)
  have h_MOST_EXPONENT : ∃ t, mg "MOST_EXPONENT" = some (.int 6 t) := He.int_ok X G (d.fact 44 (f := .int "MOST_EXPONENT" 6) rfl)
  have h_MOST_SUMS : ∃ t, mg "MOST_SUMS" = some (.int 5 t) := He.int_ok X G (d.fact 45 (f := .int "MOST_SUMS" 5) rfl)
  have gS : mg "Schema" = some (.ref (He.ga K "Schema")) := He.glo_ok X G (d.fact 4 (f := .glo "Schema") rfl)
  have cS : Cls K (He.ga K "Schema") := He.cls_ok (d.fact 46 (f := .cls "Schema") rfl)
  have mkr_Schema : Mk K (He.ga K "Schema") (He.ma K (He.ga K "Schema") "__init__") := He.mkr_ok (d.fact 47 (f := .mkr "Schema") rfl)
  have n_Schema_columns : NoAttr K (He.ga K "Schema") "columns" := He.noat_ok (d.fact 48 (f := .noat "Schema" "columns") rfl)
  have n_Schema_width : NoAttr K (He.ga K "Schema") "width" := He.noat_ok (d.fact 49 (f := .noat "Schema" "width") rfl)
  have n_Schema__facts : NoAttr K (He.ga K "Schema") "_facts" := He.noat_ok (d.fact 50 (f := .noat "Schema" "_facts") rfl)
  have m_Schema_is_exponent : Meth K (He.ga K "Schema") "is_exponent" (He.ma K (He.ga K "Schema") "is_exponent") := He.meth_ok (d.fact 51 (f := .meth "Schema" "is_exponent") rfl)
  obtain ⟨t_Schema, cv_Schema⟩ : ∃ t, ClX.CVal K (He.ga K "Schema") (.type "type") "MOST" (.int 4) (.int 4 t) := by
    split at x_Schema_cv
    · rename_i t heq
      exact ⟨t, ⟨heq, ⟨t, rfl⟩⟩⟩
    · cases x_Schema_cv
  have cr_Schema : ClX.CRead K (He.ga K "Schema") (.type "type") := ⟨x_Schema_rd, x_Schema_sg⟩
  have gKe : mg "Keeper" = some (.ref (He.ga K "Keeper")) := He.glo_ok X G (d.fact 11 (f := .glo "Keeper") rfl)
  have cKe : Cls K (He.ga K "Keeper") := He.cls_ok (d.fact 52 (f := .cls "Keeper") rfl)
  have mkr_Keeper : Mk K (He.ga K "Keeper") (He.ma K (He.ga K "Keeper") "__init__") := He.mkr_ok (d.fact 53 (f := .mkr "Keeper") rfl)
  have n_Keeper_schema : NoAttr K (He.ga K "Keeper") "schema" := He.noat_ok (d.fact 54 (f := .noat "Keeper" "schema") rfl)
  obtain ⟨fd_law, F_law⟩ := d.def_ 28 (d := dlaw) rfl
  have e := hfa.symm.trans (He.glo_ok X G (d.fact 26 (f := .glo "law") rfl))
  cases e
  have b := FunD.bindsA (ps := ["_law_script"]) F_law fun _ _ _ _ _ _ us hl => match us, hl with | [_], _ => rfl
  have hcode : fd_law.code = .ref (He.cT K ("law", none)).1 := by
    obtain ⟨oc, od, dV, kV, doc, pm, an, cdv, ct, osl, e, lk, hcd, _, _⟩ := F_law.ex
    obtain ⟨cc, hc⟩ := He.codeIn_ref hcd
    have e2 : fd_law.code = .ref cc := by rw [e]; exact hc
    rw [e2]
    exact congrArg Value.ref (He.codeOf_eq (p := ("law", none)) lk e2).symm
  refine ⟨fd_law, fun s v => b s [v] rfl, fun base _ _ TB => ?_⟩
  obtain ⟨fd_iInvalidSums, F_iInvalidSums⟩ := d.def_ 1 (d := dInvalidSums____init__) rfl
  have R_InvalidSums : Err P w K mg base "InvalidSums" (He.ga K "InvalidSums") "at" "InvalidSums" := ⟨T_InvalidSums, He.glo_ok X G (d.fact 30 (f := .glo "InvalidSums") rfl), _, fd_iInvalidSums, ["self", "at"], hI_InvalidSums, tI_InvalidSums, ok_init_InvalidSums F_iInvalidSums T_InvalidSums n1_InvalidSums n2_InvalidSums, F_iInvalidSums.bindsN (fun _ _ _ _ _ _ us hl => match us, hl with | [_, _], _ => rfl)⟩
  have ok_InvalidSums : KOk K [.ref (He.ga K "DealError"), .ref (He.ga K "Missing"), .ref (He.ga K "NothingLeft")] (kIS (He.ga K "InvalidSums")) := ⟨X_InvalidSums, n2_InvalidSums, fun y hy => (by cases hy; exact n1_InvalidSums), x_exm_InvalidSums, (show some ("at" : Str) = fieldOf "InvalidSums" by decide +kernel), (show decide (("InvalidSums" : Str) = "Tight") = false by decide +kernel), (show decide (("InvalidSums" : Str) = "BrokenClaim") = false by decide +kernel)⟩
  obtain ⟨fd_iInvalidExponent, F_iInvalidExponent⟩ := d.def_ 0 (d := dInvalidExponent____init__) rfl
  have R_InvalidExponent : Err P w K mg base "InvalidExponent" (He.ga K "InvalidExponent") "given" "InvalidExponent" := ⟨T_InvalidExponent, He.glo_ok X G (d.fact 31 (f := .glo "InvalidExponent") rfl), _, fd_iInvalidExponent, ["self", "given"], hI_InvalidExponent, tI_InvalidExponent, ok_init_InvalidExponent F_iInvalidExponent T_InvalidExponent n1_InvalidExponent n2_InvalidExponent, F_iInvalidExponent.bindsN (fun _ _ _ _ _ _ us hl => match us, hl with | [_, _], _ => rfl)⟩
  have ok_InvalidExponent : KOk K [.ref (He.ga K "DealError"), .ref (He.ga K "Missing"), .ref (He.ga K "NothingLeft")] (kIE (He.ga K "InvalidExponent")) := ⟨X_InvalidExponent, n2_InvalidExponent, fun y hy => (by cases hy; exact n1_InvalidExponent), x_exm_InvalidExponent, (show some ("given" : Str) = fieldOf "InvalidExponent" by decide +kernel), (show decide (("InvalidExponent" : Str) = "Tight") = false by decide +kernel), (show decide (("InvalidExponent" : Str) = "BrokenClaim") = false by decide +kernel)⟩
  obtain ⟨fd_is_number, F_is_number⟩ := d.def_ 2 (d := dis_number) rfl
  have D_is_number : KD P w K mg base "is_number" 1 (spD K FisNumber) := kd_mk F_is_number (ok_is_number F_is_number h_isinstance h_int h_bool) (He.glo_ok X G (d.fact 0 (f := .glo "is_number") rfl)) (F_is_number.bindsN (fun _ _ _ _ _ _ us hl => match us, hl with | [_, _], _ => rfl))
  obtain ⟨fd_is_exponent, F_is_exponent⟩ := d.def_ 4 (d := dis_exponent) rfl
  have OKX : FnOk P w K mg base CX0 2 _ fd_is_exponent ["value", "width"] (spD K FisExp) := ok_is_exponent F_is_exponent D_is_number h_isinstance h_tuple h_len h_all h_MOST_EXPONENT
  have D_ies : KD P w K mg base "is_exponent_schemas" 2 (spD K FisExp) := ⟨_, _, _, OKX, (He.glo_ok X G (d.fact 3 (f := .glo "is_exponent_schemas") rfl)).trans (by rw [x_alias]; rfl), F_is_exponent.kp, F_is_exponent.bindsN (fun _ _ _ _ _ _ us hl => match us, hl with | [_, _], _ => rfl)⟩
  have D_is_exponent : KD P w K mg base ("is_exponent") 2 (spD K FisExp) := ⟨_, _, _, OKX, He.glo_ok X G (d.fact 2 (f := .glo "is_exponent") rfl), F_is_exponent.kp, F_is_exponent.bindsN (fun _ _ _ _ _ _ us hl => match us, hl with | [_, _], _ => rfl)⟩
  obtain ⟨fd_check_columns, F_check_columns⟩ := d.def_ 3 (d := dcheck_columns) rfl
  have D_check_columns : KD P w K mg base "check_columns" 1 (spD K FchkC) := kd_mk F_check_columns (ok_check_columns F_check_columns h_isinstance h_str h_len h_set) (He.glo_ok X G (d.fact 1 (f := .glo "check_columns") rfl)) (F_check_columns.bindsN (fun _ _ _ _ _ _ us hl => match us, hl with | [_], _ => rfl))
  obtain ⟨fd_L_open, F_L_open⟩ := d.def_ 15 (d := dL_open) rfl
  have D_L_open : KD P w K mg base "_law_open" 1 (spOpen K) := kd_mk F_L_open (ok_L_open F_L_open h_list h_len) (He.glo_ok X G (d.fact 13 (f := .glo "_law_open") rfl)) (F_L_open.bindsN (fun _ _ _ _ _ _ us hl => match us, hl with | [_], _ => rfl))
  obtain ⟨fd_L_take, F_L_take⟩ := d.def_ 16 (d := dL_take) rfl
  have D_L_take : KD P w K mg base "_law_take" 1 (spB K Ftake) := kd_mk F_L_take (ok_L_take F_L_take h_len h_int) (He.glo_ok X G (d.fact 14 (f := .glo "_law_take") rfl)) (F_L_take.bindsN (fun _ _ _ _ _ _ us hl => match us, hl with | [_, _], _ => rfl))
  obtain ⟨fd_L_one, F_L_one⟩ := d.def_ 17 (d := dL_one) rfl
  have D_L_one : KD P w K mg base "_law_one" 2 (spB K Fone) := kd_mk F_L_one (ok_L_one F_L_one D_L_take h_len) (He.glo_ok X G (d.fact 15 (f := .glo "_law_one") rfl)) (F_L_one.bindsN (fun _ _ _ _ _ _ us hl => match us, hl with | [_, _], _ => rfl))
  obtain ⟨fd_L_odd, F_L_odd⟩ := d.def_ 23 (d := dL_odd) rfl
  have D_L_odd : KD P w K mg base "_law_odd" 3 (spB K Fodd) := kd_mk F_L_odd (ok_L_odd F_L_odd D_L_one) (He.glo_ok X G (d.fact 21 (f := .glo "_law_odd") rfl)) (F_L_odd.bindsN (fun _ _ _ _ _ _ us hl => match us, hl with | [_, _], _ => rfl))
  obtain ⟨fd_L_kind, F_L_kind⟩ := d.def_ 18 (d := dL_kind) rfl
  have D_L_kind : KD P w K mg base "_law_kind" 1 (spD K Fkind) := kd_mk F_L_kind (ok_L_kind F_L_kind h_isinstance h_bool h_int h_str h_list h_tuple) (He.glo_ok X G (d.fact 16 (f := .glo "_law_kind") rfl)) (F_L_kind.bindsN (fun _ _ _ _ _ _ us hl => match us, hl with | [_], _ => rfl))
  obtain ⟨fd_L_same, F_L_same⟩ := d.def_ 19 (d := dL_same) rfl
  have b_same := F_L_same.bindsN (ps := ["_law_found", "_law_due"]) (fun _ _ _ _ _ _ us hl => match us, hl with | [_, _], _ => rfl)
  have g_same := He.glo_ok X G (d.fact 17 (f := .glo "_law_same") rfl)
  have D_L_same : ∀ n, KD P w K mg base "_law_same" (n + 2) (spD K (Fsame n)) := fun n => kd_mk F_L_same (ok_L_same F_L_same g_same b_same D_L_kind h_len h_all h_zip n) g_same b_same
  have D_L_same := D_L_same
  obtain ⟨fd_L_field, F_L_field⟩ := d.def_ 20 (d := dL_field) rfl
  have FP : ∃ f fd, FnP P w K mg base 1 f fd ["_law_e"] (spFieldG K [.ref (He.ga K "DealError"), .ref (He.ga K "Missing"), .ref (He.ga K "NothingLeft")]) ∧ mg "_law_field" = some (.ref f) ∧ PySem.W.keepIn K (.ref f) = true ∧ Binds K fd ["_law_e"] [] := ⟨_, _, ok_law_fieldG F_L_field, He.glo_ok X G (d.fact 18 (f := .glo "_law_field") rfl), F_L_field.kp, F_L_field.bindsN (fun _ _ _ _ _ _ us hl => match us, hl with | [_], _ => rfl)⟩
  obtain ⟨fd_L_try, F_L_try⟩ := d.def_ 21 (d := dL_try) rfl
  have D_L_try : KD P w K mg base "_law_try" 11 (spTry P w K mg base [.ref (He.ga K "DealError"), .ref (He.ga K "Missing"), .ref (He.ga K "NothingLeft")] 10) := kd_mk F_L_try (ok_law_try (k := 10) F_L_try FP (He.glo_ok X G (d.fact 27 (f := .glo "DealError") rfl)) (He.glo_ok X G (d.fact 28 (f := .glo "Missing") rfl)) (He.glo_ok X G (d.fact 29 (f := .glo "NothingLeft") rfl)) (by decide)) (He.glo_ok X G (d.fact 19 (f := .glo "_law_try") rfl)) (F_L_try.bindsN (fun _ _ _ _ _ _ us hl => match us, hl with | [_], _ => rfl))
  obtain ⟨fd_L_tries, F_L_tries⟩ := d.def_ 22 (d := dL_tries) rfl
  have D_L_tries : KD P w K mg base "_law_tries" 13 (spTries P w K mg base [.ref (He.ga K "DealError"), .ref (He.ga K "Missing"), .ref (He.ga K "NothingLeft")] 10) := kd_mk F_L_tries (ok_law_tries F_L_tries D_L_try) (He.glo_ok X G (d.fact 20 (f := .glo "_law_tries") rfl)) (F_L_tries.bindsN (fun _ _ _ _ _ _ us hl => match us, hl with | [_], _ => rfl))
  obtain ⟨fd_L_letters, F_L_letters⟩ := d.def_ 24 (d := dL_letters) rfl
  have D_L_letters : KD P w K mg base "_law_letters" 3 (spB K Fletters) := kd_mk F_L_letters (ok_L_letters F_L_letters D_L_take D_L_one h_range h_int) (He.glo_ok X G (d.fact 22 (f := .glo "_law_letters") rfl)) (F_L_letters.bindsN (fun _ _ _ _ _ _ us hl => match us, hl with | [_, _], _ => rfl))
  obtain ⟨fd_L_exp, F_L_exp⟩ := d.def_ 25 (d := dL_exp) rfl
  have D_L_exp : KD P w K mg base "_law_exp" 2 (spB K Fexp) := kd_mk F_L_exp (ok_L_exp F_L_exp D_L_take h_tuple h_range) (He.glo_ok X G (d.fact 23 (f := .glo "_law_exp") rfl)) (F_L_exp.bindsN (fun _ _ _ _ _ _ us hl => match us, hl with | [_, _, _], _ => rfl))
  obtain ⟨fd_L_exps, F_L_exps⟩ := d.def_ 26 (d := dL_exps) rfl
  have D_L_exps : KD P w K mg base "_law_exps" 3 (spB K Fexps) := kd_mk F_L_exps (ok_L_exps F_L_exps D_L_exp h_range) (He.glo_ok X G (d.fact 24 (f := .glo "_law_exps") rfl)) (F_L_exps.bindsN (fun _ _ _ _ _ _ us hl => match us, hl with | [_, _, _, _], _ => rfl))
  obtain ⟨fd_L_some_facts, F_L_some_facts⟩ := d.def_ 27 (d := dL_some_facts) rfl
  have D_L_some_facts : KD P w K mg base "_law_some_facts" 3 (spB K Fsome) := kd_mk F_L_some_facts (ok_L_some_facts F_L_some_facts D_L_take D_L_exp h_range) (He.glo_ok X G (d.fact 25 (f := .glo "_law_some_facts") rfl)) (F_L_some_facts.bindsN (fun _ _ _ _ _ _ us hl => match us, hl with | [_, _, _, _], _ => rfl))
  obtain ⟨fd_S_isx, F_S_isx⟩ := d.def_ 6 (d := dSchema__is_exponent) rfl
  have D_S_isx : KM P w K mg base (He.ga K "Schema") "is_exponent" 3 (spO K (Fsch_isExp (He.ga K "Schema"))) := ⟨_, _, _, ok_Sis_exponent F_S_isx D_ies cS n_Schema_width, m_Schema_is_exponent.at_, m_Schema_is_exponent.fn, m_Schema_is_exponent.kp, F_S_isx.bindsN (fun _ _ _ _ _ _ us hl => match us, hl with | [_, _], _ => rfl)⟩
  obtain ⟨fd_Sinit, F_Sinit⟩ := d.def_ 5 (d := dSchema____init__) rfl
  have F_Sinit : FunD K "__init__" "Schema.__init__" (defArgs sSchema____init__) (defBody sSchema____init__) (defScope sSchema____init__) [.ref (He.dflAt ("Schema", some "__init__") 0 K)] [] (He.ma K (He.ga K "Schema") "__init__") fd_Sinit := F_Sinit
  have hdvS : ∀ S, Dt K (.tuple []) (.ref (He.dflAt ("Schema", some "__init__") 0 K)) S := fun S => by
    split at x_dflS
    · rename_i o1 its n sl heq
      have he : its = #[] := by simpa using x_dflS
      subst he
      exact Dt.tup_mk (.inr ⟨rfl, .inr ⟨_, #[], n, heq, rfl, rfl, Nat.zero_le _, .nil⟩⟩) .nil (Nat.zero_le _)
    · cases x_dflS
  have G_Sinit := ok_Sinit (P := P) (w := w) (mg := mg) (base := base) F_Sinit D_check_columns D_S_isx cS n_Schema_columns n_Schema_width n_Schema__facts gS cr_Schema cv_Schema h_len h_isinstance h_list h_tuple h_enumerate
  obtain ⟨u3, hu3, b3⟩ := F_Sinit.binds1 (ps := ["self", "columns", "facts"]) 3 1 (fun z => nomatch z) rfl (fun T kV doc pm an cdv ct us its l1 l2 => match us, l1, its, l2 with | [_, _, _], _, [_], _ => ⟨_, rfl, rfl⟩)
  obtain ⟨u2, hu2, b2⟩ := F_Sinit.binds1 (ps := ["self", "columns", "facts"]) 2 0 (fun z => nomatch z) rfl (fun T kV doc pm an cdv ct us its l1 l2 => match us, l1, its, l2 with | [_, _], _, [_], _ => ⟨_, rfl, rfl⟩)
  obtain ⟨its, kb⟩ := F_Sinit.kbindsD (ps := ["self", "columns", "facts"]) 1 ["facts", "columns"] gK (fun z => nomatch z) gK_rel (fun T kV doc pm an cdv ct us its ws l1 l2 l3 => match us, l1, its, l2, ws, l3 with | [_], _, [_], _, [_, _], _ => ⟨_, rfl, rfl⟩)
  cases hu3
  have MS : MkS P w K mg base (He.ga K "Schema") := ⟨_, fd_Sinit, ["self", "columns", "facts"], _, mkr_Schema, G_Sinit, b3, ⟨u2, hu2, b2⟩, hdvS, _, _, kb, fun s v w => rfl⟩
  have hMS : ∃ t, mg "MOST_SUMS" = some (.int 5 t) := h_MOST_SUMS
  obtain ⟨fd_check_sums, F_check_sums⟩ := d.def_ 7 (d := dcheck_sums) rfl
  have X_check_sums : KDX P w K mg base "check_sums" 5 (spSm K (He.ga K "Schema") (kIS (He.ga K "InvalidSums"))) := ⟨_, _, _, ok_check_sums F_check_sums R_InvalidSums rfl D_S_isx cS h_isinstance h_list h_tuple h_len h_enumerate hMS, He.glo_ok X G (d.fact 5 (f := .glo "check_sums") rfl), F_check_sums.kp, F_check_sums.bindsN (fun _ _ _ _ _ _ us hl => match us, hl with | [_, _], _ => rfl)⟩
  obtain ⟨fd_check_goal, F_check_goal⟩ := d.def_ 8 (d := dcheck_goal) rfl
  have X_check_goal : KDX P w K mg base "check_goal" 6 (spX K (GGo (He.ga K "Schema") (kIS (He.ga K "InvalidSums")) (kIE (He.ga K "InvalidExponent")) K)) := ⟨_, _, _, ok_check_goal F_check_goal X_check_sums R_InvalidExponent rfl D_S_isx cS, He.glo_ok X G (d.fact 6 (f := .glo "check_goal") rfl), F_check_goal.kp, F_check_goal.bindsN (fun _ _ _ _ _ _ us hl => match us, hl with | [_, _, _], _ => rfl)⟩
  obtain ⟨fd_upper_bounds, F_upper_bounds⟩ := d.def_ 10 (d := dupper_bounds) rfl
  have X_upper_bounds : KDX P w K mg base "upper_bounds" 7 (spX K (GGo (He.ga K "Schema") (kIS (He.ga K "InvalidSums")) (kIE (He.ga K "InvalidExponent")) K)) := ⟨_, _, _, ok_upper F_upper_bounds X_check_goal, He.glo_ok X G (d.fact 8 (f := .glo "upper_bounds") rfl), F_upper_bounds.kp, F_upper_bounds.bindsN (fun _ _ _ _ _ _ us hl => match us, hl with | [_, _, _], _ => rfl)⟩
  obtain ⟨fd_lower_bounds, F_lower_bounds⟩ := d.def_ 11 (d := dlower_bounds) rfl
  have X_lower_bounds : KDX P w K mg base "lower_bounds" 7 (spX K (GGo (He.ga K "Schema") (kIS (He.ga K "InvalidSums")) (kIE (He.ga K "InvalidExponent")) K)) := ⟨_, _, _, ok_lower F_lower_bounds X_check_goal, He.glo_ok X G (d.fact 9 (f := .glo "lower_bounds") rfl), F_lower_bounds.kp, F_lower_bounds.bindsN (fun _ _ _ _ _ _ us hl => match us, hl with | [_, _, _], _ => rfl)⟩
  obtain ⟨fd_base, F_base⟩ := d.def_ 12 (d := dbase) rfl
  have X_base : KDX P w K mg base "base" 6 (spX K (GSm (He.ga K "Schema") (kIS (He.ga K "InvalidSums")) K)) := ⟨_, _, _, ok_base F_base X_check_sums, He.glo_ok X G (d.fact 10 (f := .glo "base") rfl), F_base.kp, F_base.bindsN (fun _ _ _ _ _ _ us hl => match us, hl with | [_, _], _ => rfl)⟩
  obtain ⟨fd_least_lots, F_least_lots⟩ := d.def_ 14 (d := dleast_lots) rfl
  have X_least_lots : KDX P w K mg base "least_lots" 6 (spX K (GLo (He.ga K "Schema") (kIS (He.ga K "InvalidSums")) K)) := ⟨_, _, _, ok_lots F_least_lots X_check_sums R_InvalidSums rfl D_S_isx cS h_isinstance h_list h_tuple h_len h_enumerate hMS, He.glo_ok X G (d.fact 12 (f := .glo "least_lots") rfl), F_least_lots.kp, F_least_lots.bindsN (fun _ _ _ _ _ _ us hl => match us, hl with | [_, _, _], _ => rfl)⟩
  obtain ⟨fd_corners, F_corners⟩ := d.def_ 9 (d := dcorners) rfl
  have X_corners : KGR P w K mg base "corners" 7 (spX K (GGo (He.ga K "Schema") (kIS (He.ga K "InvalidSums")) (kIE (He.ga K "InvalidExponent")) K)) := ⟨_, _, _, ok_corners F_corners X_check_goal, He.glo_ok X G (d.fact 7 (f := .glo "corners") rfl), F_corners.kp, F_corners.bindsN (fun _ _ _ _ _ _ us hl => match us, hl with | [_, _, _], _ => rfl)⟩
  obtain ⟨fd_Kinit, F_Kinit⟩ := d.def_ 13 (d := dKeeper____init__) rfl
  have F_Kinit : FunD K "__init__" "Keeper.__init__" (defArgs sKeeper____init__) (defBody sKeeper____init__) (defScope sKeeper____init__) [] [] (He.ma K (He.ga K "Keeper") "__init__") fd_Kinit := F_Kinit
  have MKX : MkKX P w K mg base (He.ga K "Keeper") (He.ga K "Schema") (kIS (He.ga K "InvalidSums")) := ⟨_, fd_Kinit, ["self", "schema", "sums"], mkr_Keeper, ok_Kinit F_Kinit X_check_sums, F_Kinit.bindsN (fun _ _ _ _ _ _ us hl => match us, hl with | [_, _, _], _ => rfl)⟩
  have L : LE P w K mg base (He.ga K "Schema") (He.ga K "Keeper") (He.ga K "InvalidSums") (He.ga K "InvalidExponent") [.ref (He.ga K "DealError"), .ref (He.ga K "Missing"), .ref (He.ga K "NothingLeft")] (He.cT K ("law", none)).1 (He.cT K ("law", none)).2 := ⟨D_L_open, D_L_take, D_L_one, D_L_exps, D_L_odd, D_L_letters, D_L_some_facts, D_L_same, D_L_tries, MS, gS, gKe, X_corners, X_upper_bounds, X_lower_bounds, X_base, MKX, X_least_lots, ok_InvalidSums, ok_InvalidExponent, x_stp_InvalidSums, x_stp_InvalidExponent, TB, h_list, h_range, h_len⟩
  exact ok_law F_law hcode L
end
end K42
open PySem PySem.W PySem.Calls PyProof.Rows
theorem PySem.Challenge.cw_dealtpowers_k42_sums_and_goals_refused_holds : PySem.Challenge.rw_dealtpowers_k42_sums_and_goals_refused.Holds := by
  w_on; o_law
  refine HandSHeadRun.head_any (r := OpenLaw.row PySem.Challenge.rw_dealtpowers_k42_sums_and_goals_refused) (q := view (OpenLaw.row PySem.Challenge.rw_dealtpowers_k42_sums_and_goals_refused).prog [90]) (H := K42.hk) (ob := K42.ob) (M := 20000) (loose := K42.nms) (d := HandSHeadRun.topDef (OpenLaw.row PySem.Challenge.rw_dealtpowers_k42_sums_and_goals_refused).prog 90) (kwd := []) K42.ob_eq
    (by kernel_rfl) (fun s => by kernel_rfl) K42.run (by kernel_rfl) (by kernel_rfl) (by kernel_rfl) (by rfl) (by first | assumption | decide +kernel) (by decide +kernel) ⟨rfl, rfl, rfl, rfl, rfl, by decide +kernel⟩ ?hw ?hc
  case hw => w_witness2
  case hc =>
    refine LamX.walk_ofTsE (l := PySem.Challenge.rw_dealtpowers_k42_sums_and_goals_refused) (n := 63) (k := 15) (x := "_law_script") (CX := fun _ => L2.CX0) rfl (by decide) (by kernel_rfl) ⟨rfl, by decide, by decide⟩ ?F (fun _ _ _ _ _ z => z)
    intro w mg fa h Y G hmg0
    obtain ⟨K, KX, c⟩ := Y
    have hmg : mg ("law" : PySem.Str) = some (.ref fa) := by
      have e : (HandSHeadRun.topDef (OpenLaw.row PySem.Challenge.rw_dealtpowers_k42_sums_and_goals_refused).prog 90).name = ("law" : PySem.Str) := by kernel_rfl
      rw [← e]
      exact hmg0
    obtain ⟨fd, hb, hF⟩ := K42.facts (P := (PySem.Challenge.rw_dealtpowers_k42_sums_and_goals_refused).prog) (w := w) KX G hmg c
    have ht := c.tab ("law", none) (List.mem_singleton.mpr rfl)
    refine ⟨K, KX, fd, [He.cT K ("law", none)], K42.spLaw K (He.cT K ("law", none)).2, fun p hp => ?_, fun p hp => ?_, fun p hp => ?_, hb, fun H a ns hl _ hT hS => ⟨a, ns, rfl, hS, hl, hT _ (List.mem_singleton.mpr rfl), fun _ => rfl⟩, fun base KB NB TB => hF base KB NB (TB _ (List.mem_singleton.mpr rfl))⟩
    · rw [List.mem_singleton.mp hp]; exact ht.2.2
    · rw [List.mem_singleton.mp hp]; exact ht.2.1
    · rw [List.mem_singleton.mp hp]; exact codeHd_of_K KX ht.1
