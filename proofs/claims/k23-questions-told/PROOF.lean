import PyProof.Rows.All
import Wide.All
import OpenK.AllK
import HandS.HeadHook4
import HandS.ExcField
import HandS.Head0
import HandS.Head1
import HandS.Head2
import HandS.HeadEnd
import HandS.HeadHook1
import HandS.HeadHook2
import HandS.HeadHook3
import HandS.HeadWalk
import HandS.Property
import PySem.Challenge.RW_dealtpowers_k23_questions_told
import Wide.FinOn
import KE.KStateDown
import HandS.ForMost
import HandS.ForExc
import HandS.IsInst
import HandS.Zip
import HandS.Defaults
import HandS.MakeKw
import HandS.MakeKwOnly
import HandS.Star
import HandS.ClsMeth
import HandS.OwnEq
import HandS.FStr
import HandS.Flow
import HandS.TupMul
import HandS.TupAny
import HandS.Strs
import HandS.WideBits
import HandS.Wide
import HandS.Walk
import HandS.Style
import HandS.SetTxt0
import KE.GoesEnum
import OpenK.KMeth
import OpenK.KOps
import KE.KFmtOwn
import PyProof.Rows.StrStep
import HandS.Exc
import HandS.ExcInit
import HandS.WordsExc
import HandS.TryMany
import KE.KTryMore
import KE.KExcHand
import HandS.Nested
import HandS.HotCalls
import HandS.DictTup
import HandS.TupLen
import HandS.TupSets
import HandS.Conv
import KE.SortData
import HandS.More
import HandS.Dict
import HandS.Deep
import KE.SortKeyHeap
import HandS.SortKw
import HandS.DictComp
import KE.KDictItemsList
import KE.KEqDict
import HandS.Replace
import KE.GoesMore
import KE.KxIndex
import KE.KStrOpen
import KE.KCallOwn
import KE.KExcInit
import KE.KExcIs
import HandS.ExcIs
import PyProof.ExcBaseAll.IndexError
import PyProof.ExcBaseAll.LookupError
import PyProof.ExcBaseAll.ValueError
import HandS.SetBool
import KE.IntTextLaws
import KE.KSuper
import KE.KUnpackStar
import HandS.TryOnly
import KE.KDictPairs
import HandS.Records
import KE.GoesZip
set_option Elab.async false
set_option linter.all false
set_option maxRecDepth 100000
set_option maxHeartbeats 0
set_option exponentiation.threshold 256
namespace Y
open PySem PySem.Spec PyProof.Rows L2
def oexB (K : PySem.W.Frag) (C : Addr) : Bool := (match K.lookup C with
  | some ⟨.type t, _, .cls cd, sl⟩ => t == "type" && (match cd.mro, sl.toList with
    | .ref C' :: bm, [_, _, _, _, some (.builtin n), _] => C' == C && (PySem.HandSPX.refsVE bm && (n == "ValueError.__new__" && (cd.hasDict && !cd.hasDel)))
    | _, _ => false)
  | _ => false) && (decide (PySem.W.findIn K (.ref C) "__setattr__" = some (some (.builtin "object.__setattr__"))) && (decide (PySem.W.subIn K (.ref C) (.type "BaseException") = some true) && (decide (PySem.W.typeIn K (.ref C) = some (.type "type")) && PySem.W.keepIn K (.ref C))))
def errB (K : PySem.W.Frag) (C fI : Addr) (f : Str) : Bool := oexB K C && (xfB K C && (He.eqO (PySem.W.findIn K (.ref C) f) (some none) && (He.eqO (PySem.W.findIn K (.ref C) "code") (some none) && (He.eqO (PySem.W.findIn K (.ref C) "__init__") (some (some (.ref fI))) && decide (PySem.W.typeIn K (.ref fI) = some (.type "function"))))))
end Y
namespace K23
open PySem PySem.Spec PyProof.Rows L2
/-! ## the head's facts: K with the statics, without the empty tables; getters of properties -/
/-- what an object names, as far as the facts want it (not behind a code object) -/
def refsS (o : Obj) : List Addr := match o.data with
  | .seq its _ => its.toList.flatMap He.refV
  | .dict es _ => es.toList.flatMap fun e => He.refV e.val
  | .func fd => He.refV fd.code ++ (He.refV fd.defaults ++ He.refV fd.kwdefaults)
  | .cls cd => cd.ns :: cd.mro.flatMap He.refV
  | .fields vs => (match Nat.ble vs.size 8 with
    | true => vs.toList.flatMap He.refV
    | false => [])
  | _ => []
/-- what the module's names reach in n steps, each once (m: those met, as bits), and the statics -/
def addN : List Addr → Nat → List Addr → List Addr × Nat
  | [], m, acc => (acc, m)
  | r :: rs, m, acc => match Nat.beq (Nat.mod (Nat.shiftRight m r) 2) 1 with
    | true => addN rs m acc
    | false => HandSHeadRun.frNat (Nat.lor m (Nat.shiftLeft 1 r)) fun m2 => addN rs m2 (r :: acc)
def growN (g : Addr → Option Obj) : List Addr → Nat → List Addr → List Addr × Nat
  | [], m, acc => (acc, m)
  | a :: fr, m, acc => match addN (match g a with
      | some o => refsS o
      | none => []) m acc with
    | (acc2, m2) => growN g fr m2 acc2
def asN (g : Addr → Option Obj) : Nat → List Addr → Nat → List Addr
  | 0, fr, _ => fr
  | n + 1, fr, m => match growN g fr m [] with
    | (new, m2) => fr ++ asN g n new m2
def asE (g : Addr → Option Obj) (n : Nat) : List Addr := asN g n [mainGlobals] (Nat.shiftLeft 1 mainGlobals) ++ [cStatics]
def gtA (K : PySem.W.Frag) (p : He.Defn) : Addr := match PySem.W.recIn K (He.fAd K p) "property" with
  | some (.ref g :: _) => g
  | _ => 0
def gtW (K : PySem.W.Frag) (p : He.Defn) : He.FnW := match K.lookup (gtA K p) with
  | some ⟨_, _, .func fd, _⟩ => some (fd.name, fd.qualname, fd.params, fd.body, fd.scope, fd.globals, fd.closure, fd.builtins)
  | _ => none
def gtB (K : PySem.W.Frag) (d : He.DefD) : Bool :=
  (He.eqO (PySem.W.findIn K (.ref (He.ga K d.at_.1)) d.name) (some (some (.ref (He.fAd K d.at_)))) && (He.eqO (PySem.W.specialIn K (.ref (He.fAd K d.at_)) "__get__") (some (some (.builtin "property.__get__"))) && (decide (PySem.W.takesIn K (.ref (He.fAd K d.at_)) = some true) && (match PySem.W.recIn K (He.fAd K d.at_) "property" with
  | some (.ref _ :: _) => true
  | _ => false)))) && (PySem.W.keepIn K (.ref (gtA K d.at_)) && match K.lookup (gtA K d.at_) with
  | some ⟨_, _, .func fd, _⟩ => PySem.W.codeIn K fd.code d.qual && (He.dflB K fd.defaults [] && He.kwdB K fd.kwdefaults [])
  | _ => false)
/-- a staticmethod's def -/
def stA (K : PySem.W.Frag) (p : He.Defn) : Addr := match PySem.W.recIn K (He.fAd K p) "staticmethod" with
  | some (.ref g :: _) => g
  | _ => 0
def stW (K : PySem.W.Frag) (p : He.Defn) : He.FnW := match K.lookup (stA K p) with
  | some ⟨_, _, .func fd, _⟩ => some (fd.name, fd.qualname, fd.params, fd.body, fd.scope, fd.globals, fd.closure, fd.builtins)
  | _ => none
def stB (K : PySem.W.Frag) (d : He.DefD) : Bool :=
  ((match PySem.W.findCls K (.ref (He.ga K d.at_.1)) (.type "type") d.name with
    | some (.get (.builtin g) (.ref p) .none (.ref D)) => decide (g = "staticmethod.__get__") && (decide (p = He.fAd K d.at_) && decide (D = He.ga K d.at_.1))
    | _ => false) && (match PySem.W.recIn K (He.fAd K d.at_) "staticmethod" with
    | some (.ref _ :: _) => true
    | _ => false)) && (PySem.W.keepIn K (.ref (stA K d.at_)) && match K.lookup (stA K d.at_) with
  | some ⟨_, _, .func fd, _⟩ => PySem.W.codeIn K fd.code d.qual && (He.dflB K fd.defaults (d.dvs K) && He.kwdB K fd.kwdefaults (d.kws K))
  | _ => false)
abbrev AlP := ((He.AlD × Bool) × List He.FnW) × List He.FnW
structure SaysG (fa : List He.Fa) (fn pn sn : List He.DefD) (tf : List He.Defn) (ex : PySem.W.Frag → Bool) (h : Heap) (K : PySem.W.Frag) : Prop where
  d : He.SaysD fa fn K
  more : ex K = true
  tab : ∀ p ∈ tf, PySem.W.codeHdIn K (He.cT K p).1 (He.cT K p).2 = true ∧ K.lookup (He.cT K p).2 = none ∧ h.get? (He.cT K p).2 = some { cls := .none, data := .fields #[] }
  gets : ∀ d ∈ pn, gtB K d = true ∧ gtW K d.at_ = He.DefD.val d
  stats : ∀ d ∈ sn, stB K d = true ∧ stW K d.at_ = He.DefD.val d
def obsG (n : Nat) (fa : List He.Fa) (fn pn sn : List He.DefD) (tf : List He.Defn) (ex : PySem.W.Frag → Bool) (g : Addr → Option Obj) : AlP :=
  (((He.obsD fa fn (He.frT g (asE g n)), ((ex (He.frT g (asE g n)) && pn.all fun d => gtB (He.frT g (asE g n)) d) && sn.all fun d => stB (He.frT g (asE g n)) d) && He.tabsB g tf (He.frT g (asE g n))), pn.map fun d => gtW (He.frT g (asE g n)) d.at_), sn.map fun d => stW (He.frT g (asE g n)) d.at_)
theorem saysG_of {n : Nat} {fa : List He.Fa} {fn pn sn : List He.DefD} {tf : List He.Defn} {ex : PySem.W.Frag → Bool} {h : Heap} (e : obsG n fa fn pn sn tf ex h.get? = (((He.valD fn, true), pn.map He.DefD.val), sn.map He.DefD.val)) : SaysG fa fn pn sn tf ex h (He.frT h.get? (asE h.get? n)) := by
  have e2 : (((ex (He.frT h.get? (asE h.get? n)) && pn.all fun d => gtB (He.frT h.get? (asE h.get? n)) d) && sn.all fun d => stB (He.frT h.get? (asE h.get? n)) d) && He.tabsB h.get? tf (He.frT h.get? (asE h.get? n))) = true := congrArg (fun z : AlP => z.1.1.2) e
  have e4 : pn.map (fun d => gtW (He.frT h.get? (asE h.get? n)) d.at_) = pn.map He.DefD.val := congrArg (fun z : AlP => z.1.2) e
  have e5 : sn.map (fun d => stW (He.frT h.get? (asE h.get? n)) d.at_) = sn.map He.DefD.val := congrArg (fun z : AlP => z.2) e
  rw [Bool.and_eq_true, Bool.and_eq_true, Bool.and_eq_true] at e2
  refine ⟨congrArg (fun z : AlP => z.1.1.1) e, e2.1.1.1, fun p hp => ?_, fun d hd => ⟨List.all_eq_true.mp e2.1.1.2 d hd, List.map_inj_left.mp e4 d hd⟩, fun d hd => ⟨List.all_eq_true.mp e2.1.2 d hd, List.map_inj_left.mp e5 d hd⟩⟩
  have e3 := List.all_eq_true.mp e2.2 p hp
  rw [Bool.and_eq_true] at e3
  cases q : h.get? (He.cT (He.frT h.get? (asE h.get? n)) p).2 with
  | none => rw [q] at e3; exact absurd e3.2 Bool.false_ne_true
  | some o =>
    rw [q] at e3
    exact ⟨e3.1, He.frT_none q e3.2, by rw [He.emptyTab_eq e3.2]⟩
def hookG (n : Nat) (fa : List He.Fa) (fn pn sn : List He.DefD) (tf : List He.Defn) (ex : PySem.W.Frag → Bool) : PySem.W.Hook where
  α := AlP
  obs := fun s => obsG n fa fn pn sn tf ex s.heap.get?
  val := fun _ => (((He.valD fn, true), pn.map He.DefD.val), sn.map He.DefD.val)
  says := fun _ h => ∃ K : PySem.W.Frag, K.In h ∧ SaysG fa fn pn sn tf ex h K
  of := fun _ _ e => ⟨_, He.frT_in, saysG_of e⟩
  keeps := fun _ _ _ ⟨K, hK, c⟩ k => ⟨K, PySem.W.Frag.In.keeps hK k, ⟨c.d, c.more, fun p hp => ⟨(c.tab p hp).1, (c.tab p hp).2.1, k _ _ (c.tab p hp).2.2⟩, c.gets, c.stats⟩⟩
theorem obsG_eq {n : Nat} {fa : List He.Fa} {fn pn sn : List He.DefD} {tf : List He.Defn} {ex : PySem.W.Frag → Bool} {g : Addr → Option Obj} {s : Shared} (h : ∀ a, g a = s.heap.get? a) : obsG n fa fn pn sn tf ex g = (hookG n fa fn pn sn tf ex).obs s := by
  have e : g = s.heap.get? := funext h
  rw [e] <;> rfl
def top (i : Nat) : Stmt := PySem.Challenge.pw_dealtpowers_k23_questions_told.main.body.getD i (.Pass ⟨0, 0, 0, 0⟩)
abbrev sInvalidClaim____init__ : Stmt := inClass (top 8) 0
def dInvalidClaim____init__ : He.DefD := ⟨("InvalidClaim", some "__init__"), "__init__", "InvalidClaim.__init__", defArgs sInvalidClaim____init__, defBody sInvalidClaim____init__, defScope sInvalidClaim____init__, [], []⟩
abbrev sWrongSchema____init__ : Stmt := inClass (top 10) 0
def dWrongSchema____init__ : He.DefD := ⟨("WrongSchema", some "__init__"), "__init__", "WrongSchema.__init__", defArgs sWrongSchema____init__, defBody sWrongSchema____init__, defScope sWrongSchema____init__, [], []⟩
abbrev sis_number : Stmt := top 14
def dis_number : He.DefD := ⟨("is_number", none), "is_number", "is_number", defArgs sis_number, defBody sis_number, defScope sis_number, [], []⟩
abbrev scheck_columns : Stmt := top 18
def dcheck_columns : He.DefD := ⟨("check_columns", none), "check_columns", "check_columns", defArgs scheck_columns, defBody scheck_columns, defScope scheck_columns, [], []⟩
abbrev sis_exponent : Stmt := top 19
def dis_exponent : He.DefD := ⟨("is_exponent", none), "is_exponent", "is_exponent", defArgs sis_exponent, defBody sis_exponent, defScope sis_exponent, [], []⟩
abbrev sSchema____init__ : Stmt := inClass (top 23) 1
def dSchema____init__ : He.DefD := ⟨("Schema", some "__init__"), "__init__", "Schema.__init__", defArgs sSchema____init__, defBody sSchema____init__, defScope sSchema____init__, [.adr (He.dflAt ("Schema", some "__init__") 0)], []⟩
abbrev sSchema__is_exponent : Stmt := inClass (top 23) 5
def dSchema__is_exponent : He.DefD := ⟨("Schema", some "is_exponent"), "is_exponent", "Schema.is_exponent", defArgs sSchema__is_exponent, defBody sSchema__is_exponent, defScope sSchema__is_exponent, [], []⟩
abbrev sSchema____eq__ : Stmt := inClass (top 23) 15
def dSchema____eq__ : He.DefD := ⟨("Schema", some "__eq__"), "__eq__", "Schema.__eq__", defArgs sSchema____eq__, defBody sSchema____eq__, defScope sSchema____eq__, [], []⟩
abbrev scheck_width : Stmt := top 25
def dcheck_width : He.DefD := ⟨("check_width", none), "check_width", "check_width", defArgs scheck_width, defBody scheck_width, defScope scheck_width, [], []⟩
abbrev sProduct____init__ : Stmt := inClass (top 26) 1
def dProduct____init__ : He.DefD := ⟨("Product", some "__init__"), "__init__", "Product.__init__", defArgs sProduct____init__, defBody sProduct____init__, defScope sProduct____init__, [.adr (He.dflAt ("Product", some "__init__") 0)], []⟩
abbrev sProduct__factors : Stmt := inClass (top 26) 3
def dProduct__factors : He.DefD := ⟨("Product", some "factors"), "factors", "Product.factors", defArgs sProduct__factors, defBody sProduct__factors, defScope sProduct__factors, [], []⟩
abbrev sClaim____init__ : Stmt := inClass (top 28) 0
def dClaim____init__ : He.DefD := ⟨("Claim", some "__init__"), "__init__", "Claim.__init__", defArgs sClaim____init__, defBody sClaim____init__, defScope sClaim____init__, [], []⟩
abbrev scheck_claims : Stmt := top 31
def dcheck_claims : He.DefD := ⟨("check_claims", none), "check_claims", "check_claims", defArgs scheck_claims, defBody scheck_claims, defScope scheck_claims, [], []⟩
abbrev ssums_of : Stmt := top 32
def dsums_of : He.DefD := ⟨("sums_of", none), "sums_of", "sums_of", defArgs ssums_of, defBody ssums_of, defScope ssums_of, [], []⟩
abbrev sVerdict____init__ : Stmt := inClass (top 33) 0
def dVerdict____init__ : He.DefD := ⟨("Verdict", some "__init__"), "__init__", "Verdict.__init__", defArgs sVerdict____init__, defBody sVerdict____init__, defScope sVerdict____init__, [.adr (He.dflAt ("Verdict", some "__init__") 0)], []⟩
abbrev sVerdict__claims : Stmt := inClass (top 33) 1
def dVerdict__claims : He.DefD := ⟨("Verdict", some "claims"), "claims", "Verdict.claims", defArgs sVerdict__claims, defBody sVerdict__claims, defScope sVerdict__claims, [], []⟩
abbrev sVerdict__premises : Stmt := inClass (top 33) 2
def dVerdict__premises : He.DefD := ⟨("Verdict", some "premises"), "premises", "Verdict.premises", defArgs sVerdict__premises, defBody sVerdict__premises, defScope sVerdict__premises, [], []⟩
abbrev sVerdict__small_sums : Stmt := inClass (top 33) 3
def dVerdict__small_sums : He.DefD := ⟨("Verdict", some "small_sums"), "small_sums", "Verdict.small_sums", defArgs sVerdict__small_sums, defBody sVerdict__small_sums, defScope sVerdict__small_sums, [], []⟩
abbrev sVerdict__great_sums : Stmt := inClass (top 33) 4
def dVerdict__great_sums : He.DefD := ⟨("Verdict", some "great_sums"), "great_sums", "Verdict.great_sums", defArgs sVerdict__great_sums, defBody sVerdict__great_sums, defScope sVerdict__great_sums, [], []⟩
abbrev sVerdict__told : Stmt := inClass (top 33) 5
def dVerdict__told : He.DefD := ⟨("Verdict", some "told"), "told", "Verdict.told", defArgs sVerdict__told, defBody sVerdict__told, defScope sVerdict__told, [], []⟩
abbrev sVerdict__holds : Stmt := inClass (top 33) 6
def dVerdict__holds : He.DefD := ⟨("Verdict", some "holds"), "holds", "Verdict.holds", defArgs sVerdict__holds, defBody sVerdict__holds, defScope sVerdict__holds, [], []⟩
abbrev sVerdict____bool__ : Stmt := inClass (top 33) 7
def dVerdict____bool__ : He.DefD := ⟨("Verdict", some "__bool__"), "__bool__", "Verdict.__bool__", defArgs sVerdict____bool__, defBody sVerdict____bool__, defScope sVerdict____bool__, [], []⟩
abbrev sVerdict____repr__ : Stmt := inClass (top 33) 8
def dVerdict____repr__ : He.DefD := ⟨("Verdict", some "__repr__"), "__repr__", "Verdict.__repr__", defArgs sVerdict____repr__, defBody sVerdict____repr__, defScope sVerdict____repr__, [], []⟩
abbrev sL_open : Stmt := top 35
def dL_open : He.DefD := ⟨("_law_open", none), "_law_open", "_law_open", defArgs sL_open, defBody sL_open, defScope sL_open, [], []⟩
abbrev sL_take : Stmt := top 36
def dL_take : He.DefD := ⟨("_law_take", none), "_law_take", "_law_take", defArgs sL_take, defBody sL_take, defScope sL_take, [], []⟩
abbrev sL_one : Stmt := top 37
def dL_one : He.DefD := ⟨("_law_one", none), "_law_one", "_law_one", defArgs sL_one, defBody sL_one, defScope sL_one, [], []⟩
abbrev sL_kind : Stmt := top 38
def dL_kind : He.DefD := ⟨("_law_kind", none), "_law_kind", "_law_kind", defArgs sL_kind, defBody sL_kind, defScope sL_kind, [], []⟩
abbrev sL_same : Stmt := top 39
def dL_same : He.DefD := ⟨("_law_same", none), "_law_same", "_law_same", defArgs sL_same, defBody sL_same, defScope sL_same, [], []⟩
abbrev sL_field : Stmt := top 40
def dL_field : He.DefD := ⟨("_law_field", none), "_law_field", "_law_field", defArgs sL_field, defBody sL_field, defScope sL_field, [], []⟩
abbrev sL_try : Stmt := top 41
def dL_try : He.DefD := ⟨("_law_try", none), "_law_try", "_law_try", defArgs sL_try, defBody sL_try, defScope sL_try, [], []⟩
abbrev sL_tries : Stmt := top 42
def dL_tries : He.DefD := ⟨("_law_tries", none), "_law_tries", "_law_tries", defArgs sL_tries, defBody sL_tries, defScope sL_tries, [], []⟩
abbrev sL_letters : Stmt := top 43
def dL_letters : He.DefD := ⟨("_law_letters", none), "_law_letters", "_law_letters", defArgs sL_letters, defBody sL_letters, defScope sL_letters, [], []⟩
abbrev sL_exp : Stmt := top 44
def dL_exp : He.DefD := ⟨("_law_exp", none), "_law_exp", "_law_exp", defArgs sL_exp, defBody sL_exp, defScope sL_exp, [], []⟩
abbrev sL_exps : Stmt := top 45
def dL_exps : He.DefD := ⟨("_law_exps", none), "_law_exps", "_law_exps", defArgs sL_exps, defBody sL_exps, defScope sL_exps, [], []⟩
abbrev sL_some_facts : Stmt := top 46
def dL_some_facts : He.DefD := ⟨("_law_some_facts", none), "_law_some_facts", "_law_some_facts", defArgs sL_some_facts, defBody sL_some_facts, defScope sL_some_facts, [], []⟩
abbrev sL_parts : Stmt := top 47
def dL_parts : He.DefD := ⟨("_law_parts", none), "_law_parts", "_law_parts", defArgs sL_parts, defBody sL_parts, defScope sL_parts, [], []⟩
abbrev sL_some_parts : Stmt := top 48
def dL_some_parts : He.DefD := ⟨("_law_some_parts", none), "_law_some_parts", "_law_some_parts", defArgs sL_some_parts, defBody sL_some_parts, defScope sL_some_parts, [], []⟩
abbrev sL_claim : Stmt := top 49
def dL_claim : He.DefD := ⟨("_law_claim", none), "_law_claim", "_law_claim", defArgs sL_claim, defBody sL_claim, defScope sL_claim, [], []⟩
abbrev sL_exps_of : Stmt := top 50
def dL_exps_of : He.DefD := ⟨("_law_exps_of", none), "_law_exps_of", "_law_exps_of", defArgs sL_exps_of, defBody sL_exps_of, defScope sL_exps_of, [], []⟩
abbrev sL_small : Stmt := top 51
def dL_small : He.DefD := ⟨("_law_small", none), "_law_small", "_law_small", defArgs sL_small, defBody sL_small, defScope sL_small, [], []⟩
abbrev sL_great : Stmt := top 52
def dL_great : He.DefD := ⟨("_law_great", none), "_law_great", "_law_great", defArgs sL_great, defBody sL_great, defScope sL_great, [], []⟩
abbrev sL_made : Stmt := top 53
def dL_made : He.DefD := ⟨("_law_made", none), "_law_made", "_law_made", defArgs sL_made, defBody sL_made, defScope sL_made, [], []⟩
abbrev sL_some_pairs : Stmt := top 54
def dL_some_pairs : He.DefD := ⟨("_law_some_pairs", none), "_law_some_pairs", "_law_some_pairs", defArgs sL_some_pairs, defBody sL_some_pairs, defScope sL_some_pairs, [], []⟩
abbrev slaw : Stmt := top 55
def dlaw : He.DefD := ⟨("law", none), "law", "law", defArgs slaw, defBody slaw, defScope slaw, [], []⟩
def fn : List He.DefD := [dInvalidClaim____init__, dWrongSchema____init__, dis_number, dcheck_columns, dis_exponent, dSchema____init__, dSchema__is_exponent, dSchema____eq__, dcheck_width, dProduct____init__, dProduct__factors, dClaim____init__, dcheck_claims, dsums_of, dVerdict____init__, dVerdict__claims, dVerdict__premises, dVerdict__small_sums, dVerdict__great_sums, dVerdict__told, dVerdict__holds, dVerdict____bool__, dVerdict____repr__, dL_open, dL_take, dL_one, dL_kind, dL_same, dL_field, dL_try, dL_tries, dL_letters, dL_exp, dL_exps, dL_some_facts, dL_parts, dL_some_parts, dL_claim, dL_exps_of, dL_small, dL_great, dL_made, dL_some_pairs, dlaw]
def pn : List He.DefD := []
def sn : List He.DefD := []
def fa : List He.Fa := [.glo "is_number", .glo "check_columns", .glo "is_exponent", .glo "is_exponent_schemas", .glo "check_width", .glo "check_claims", .glo "sums_of", .glo "Schema", .glo "Product", .glo "Claim", .glo "Verdict", .glo "_law_open", .glo "_law_take", .glo "_law_one", .glo "_law_kind", .glo "_law_same", .glo "_law_field", .glo "_law_try", .glo "_law_tries", .glo "_law_letters", .glo "_law_exp", .glo "_law_exps", .glo "_law_some_facts", .glo "_law_parts", .glo "_law_some_parts", .glo "_law_claim", .glo "_law_exps_of", .glo "_law_small", .glo "_law_great", .glo "_law_made", .glo "_law_some_pairs", .glo "law", .glo "DealError", .glo "Missing", .glo "NothingLeft", .glo "InvalidClaim", .glo "WrongSchema", .free "isinstance", .free "bool", .free "int", .free "str", .free "list", .free "tuple", .free "len", .free "all", .free "range", .free "set", .free "enumerate", .free "sorted", .free "dict", .free "repr", .free "zip", .int "MOST_EXPONENT" 6, .int "MOST_CLAIMS" 4, .cls "Schema", .mkr "Schema", .noat "Schema" "columns", .noat "Schema" "width", .noat "Schema" "_facts", .meth "Schema" "is_exponent", .meth "Schema" "__eq__", .cls "Product", .mkr "Product", .noat "Product" "width", .noat "Product" "_powers", .meth "Product" "factors", .cls "Claim", .mkr "Claim", .noat "Claim" "schema", .noat "Claim" "low", .noat "Claim" "high", .cls "Verdict", .mkr "Verdict", .noat "Verdict" "_claims", .noat "Verdict" "_premises", .meth "Verdict" "claims", .meth "Verdict" "premises", .meth "Verdict" "small_sums", .meth "Verdict" "great_sums", .meth "Verdict" "told", .meth "Verdict" "holds", .meth "Verdict" "__bool__", .meth "Verdict" "__repr__"]
def nm0 : List PySem.Str := ["_wall", "__name__", "DealError", "Missing", "InvalidNumber", "InvalidColumns", "InvalidFact", "InvalidFactor", "InvalidClaim", "WrongWidth", "WrongSchema", "TooMany", "NothingLeft", "is_number", "power_of", "MOST_EXPONENT", "check_columns", "is_exponent", "is_exponent_schemas", "monomial", "monomial_text", "Schema", "check_width", "Product", "Claim", "MOST_CLAIMS", "check_claims", "sums_of", "Verdict", "_law_open"]
def nm1 : List PySem.Str := ["_law_take", "_law_one", "_law_kind", "_law_same", "_law_field", "_law_try", "_law_tries", "_law_letters", "_law_exp", "_law_exps", "_law_some_facts", "_law_parts", "_law_some_parts", "_law_claim", "_law_exps_of", "_law_small", "_law_great", "_law_made", "_law_some_pairs"]
def nms : List PySem.Str := nm0 ++ nm1
def ex : PySem.W.Frag → Bool := fun K => (match K.lookup (He.dflAt ("Schema", some "__init__") 0 K) with
  | some ⟨.type "tuple", _, .seq its _, _⟩ => its.isEmpty
  | _ => false) && ((match K.lookup (He.dflAt ("Product", some "__init__") 0 K) with
  | some ⟨.type "tuple", _, .seq its _, _⟩ => its.isEmpty
  | _ => false) && ((match K.lookup (He.dflAt ("Verdict", some "__init__") 0 K) with
  | some ⟨.type "tuple", _, .seq its _, _⟩ => its.isEmpty
  | _ => false) && (decide (He.ga K "is_exponent_schemas" = He.ga K "is_exponent") && (He.eqO (PySem.W.findIn K (.ref (He.ga K "Schema")) "__ne__") (some (some (.builtin "object.__ne__"))) && (decide (PySem.W.mroIn K (He.ga K "Schema") (.type "object") = some true) && (He.eqO (PySem.W.findIn K (.ref (He.ga K "Schema")) "__class__") (some (some (.builtin "object.__class__"))) && (decide (PySem.W.kitOne K (.type "str") (.ref (He.ga K "Schema")) = some false) && (He.eqO (PySem.W.specialIn K (.builtin "object.__class__") "__get__") (some (some (.builtin "getset_descriptor.__get__"))) && (decide (PySem.W.takesIn K (.builtin "object.__class__") = some true) && (decide (PySem.W.kitOne K (.type "list") (.ref (He.ga K "Schema")) = some false) && (decide (PySem.W.subIn K (.type "list") (.ref (He.ga K "Schema")) = some false) && (PySem.W.readsIn K (He.ga K "Schema") (.type "type") && (He.eqO (PySem.W.specialIn K (.ref (He.ga K "Schema")) "__getattribute__") (some (some (.builtin "type.__getattribute__"))) && ((match PySem.W.findCls K (.ref (He.ga K "Schema")) (.type "type") "MOST" with
  | some (.val (.int 4 _)) => true
  | _ => false) && (decide (PySem.W.mroIn K (He.ga K "Product") (.type "object") = some true) && (He.eqO (PySem.W.findIn K (.ref (He.ga K "Product")) "__class__") (some (some (.builtin "object.__class__"))) && (decide (PySem.W.kitOne K (.type "str") (.ref (He.ga K "Product")) = some false) && (He.eqO (PySem.W.specialIn K (.builtin "object.__class__") "__get__") (some (some (.builtin "getset_descriptor.__get__"))) && (decide (PySem.W.takesIn K (.builtin "object.__class__") = some true) && (PySem.W.readsIn K (He.ga K "Product") (.type "type") && (He.eqO (PySem.W.specialIn K (.ref (He.ga K "Product")) "__getattribute__") (some (some (.builtin "type.__getattribute__"))) && ((match PySem.W.findCls K (.ref (He.ga K "Product")) (.type "type") "MOST" with
  | some (.val (.int 12 _)) => true
  | _ => false) && (decide (PySem.W.mroIn K (He.ga K "Claim") (.type "object") = some true) && (He.eqO (PySem.W.findIn K (.ref (He.ga K "Claim")) "__class__") (some (some (.builtin "object.__class__"))) && (decide (PySem.W.kitOne K (.type "str") (.ref (He.ga K "Claim")) = some false) && (He.eqO (PySem.W.specialIn K (.builtin "object.__class__") "__get__") (some (some (.builtin "getset_descriptor.__get__"))) && (decide (PySem.W.takesIn K (.builtin "object.__class__") = some true) && (decide (PySem.W.mroIn K (He.ga K "Verdict") (.type "object") = some true) && (He.eqO (PySem.W.findIn K (.ref (He.ga K "Verdict")) "__class__") (some (some (.builtin "object.__class__"))) && (decide (PySem.W.kitOne K (.type "str") (.ref (He.ga K "Verdict")) = some false) && (He.eqO (PySem.W.specialIn K (.builtin "object.__class__") "__get__") (some (some (.builtin "getset_descriptor.__get__"))) && (decide (PySem.W.takesIn K (.builtin "object.__class__") = some true) && (Y.errB K (He.ga K "InvalidClaim") (He.fAd K ("InvalidClaim", some "__init__")) "at" && (decide (PySem.W.exmAny K (.ref (He.ga K "InvalidClaim")) [.ref (He.ga K "DealError"), .ref (He.ga K "Missing"), .ref (He.ga K "NothingLeft")] = some true) && (Y.errB K (He.ga K "WrongSchema") (He.fAd K ("WrongSchema", some "__init__")) "at" && (decide (PySem.W.exmAny K (.ref (He.ga K "WrongSchema")) [.ref (He.ga K "DealError"), .ref (He.ga K "Missing"), .ref (He.ga K "NothingLeft")] = some true) && (decide (PySem.W.kitOne K (.type "NoneType") (.ref (He.ga K "Claim")) = some false) && (decide (PySem.W.kitOne K (.type "int") (.ref (He.ga K "Claim")) = some false) && (decide (PySem.W.kitOne K (.type "str") (.ref (He.ga K "Claim")) = some false) && (decide (PySem.W.kitOne K (.type "list") (.ref (He.ga K "Claim")) = some false) && (decide (PySem.W.kitOne K (.type "tuple") (.ref (He.ga K "Claim")) = some false) && (decide (PySem.W.kitOne K (.ref (He.ga K "Schema")) (.ref (He.ga K "Claim")) = some false) && (decide (PySem.W.kitOne K (.ref (He.ga K "Product")) (.ref (He.ga K "Claim")) = some false))))))))))))))))))))))))))))))))))))))))))))
abbrev R : PySem.W.OpenRow := PySem.W.OpenLaw.row PySem.Challenge.rw_dealtpowers_k23_questions_told
def tf : List He.Defn := [("law", none)]
abbrev hk : PySem.W.Hook := hookG 5 fa fn pn sn tf ex
def ob (s : PySem.W.SharedT) : AlP := obsG 5 fa fn pn sn tf ex (HandSHeadRun.getT s)
theorem ob_eq (s : PySem.W.SharedT) : ob s = hk.obs s.abs := obsG_eq (HandSHeadRun.getT_eq s)
theorem run (w : World) : HandSHeadRun.RunEq R (PySem.W.view R.prog [55]) hk ob 20000 nms w := by
  intro os
  kernel_rfl
end K23
namespace Z
open PySem PySem.Spec PyProof.Rows L2
/-! ## 1. judgements by the best reading -/
def HE (X : Cx) (e : Expr) (σ : L2.St) (H : Hp) (Q : VK) : Prop := ∀ (pins : List (Addr × Obj)) (s : Shared), Inv X pins σ H s → wpAny (model X.prog X.w) X.A (eval e X.env) (EP X pins σ Q) X.xe s
def HT (X : Cx) (e : Expr) (σ : L2.St) (H : Hp) (Q : Bool → Hp → Prop) : Prop := ∀ (pins : List (Addr × Obj)) (s : Shared), Inv X pins σ H s → wpAny (model X.prog X.w) X.A (isTrue e X.env (eval e X.env)) (TP X pins σ Q) X.xe s
def HW (X : Cx) (e : Expr) (σ : L2.St) (H : Hp) (Q : Bool → Hp → Prop) : Prop := ∀ (whole : Sem Value) (pins : List (Addr × Obj)) (s : Shared), Inv X pins σ H s → wpAny (model X.prog X.w) X.A (isTrue e X.env whole) (TP X pins σ Q) X.xe s
def HA (X : Cx) (es : List Expr) (σ : L2.St) (H : Hp) (Q : List V → Hp → Prop) : Prop := ∀ (pos : Pos) (pins : List (Addr × Obj)) (s : Shared), Inv X pins σ H s → wpAny (model X.prog X.w) X.A (spliced (backTo pos (starEach es X.env))) (AP X pins σ Q) X.xe s
def HS (X : Cx) (D : Ends) (st : List Stmt) (σ : L2.St) (H : Hp) : Prop := ∀ (pins : List (Addr × Obj)) (s : Shared), Inv X pins σ H s → wpAny (model X.prog X.w) X.A (execs st X.env) (SP X pins D) X.xe s
def HG (X : Cx) (tg : Expr) (v : V) (σ : L2.St) (H : Hp) (Q : L2.St → Hp → Prop) : Prop := ∀ (pins : List (Addr × Obj)) (s : Shared) (u : Value), Inv X pins σ H s → RelV v u →
    wpAny (model X.prog X.w) X.A (assign tg X.env u) (fun _ s' => ∃ σ' H', Inv X pins σ' H' s' ∧ Q σ' H') X.xe s
def HI (X : Cx) (tg iter : Expr) (σ : L2.St) (H : Hp) (R : It → Hp → Prop) : Prop := ∀ (pins : List (Addr × Obj)) (s : Shared), Inv X pins σ H s →
    wpAny (model X.prog X.w) X.A (eval iter X.env) (fun v s1 => wpAny (model X.prog X.w) X.A (pyIter v) (PIE X pins σ tg R) X.xe s1) X.xe s
def bE (X : Cx) (e : Expr) : TE := fun σ H Q => HE X e σ H Q
def bT (X : Cx) (e : Expr) : TT := fun σ H Q => HT X e σ H Q
def bW (X : Cx) (e : Expr) : TT := fun σ H Q => HW X e σ H Q
def bA (X : Cx) (es : List Expr) : TA := fun σ H Q => HA X es σ H Q
def bS (X : Cx) (st : List Stmt) : TS := fun D σ H => HS X D st σ H
def bG (X : Cx) (tg : Expr) : TG := fun v σ H Q => HG X tg v σ H Q
def bI (X : Cx) (tg iter : Expr) : TI := fun σ H R => HI X tg iter σ H R
section
variable {X : Cx} {e : Expr} {σ : L2.St} {H : Hp}
theorem peb : PE X e (bE X e) := ⟨fun pins s _ _ _ I h => h pins s I⟩
theorem ptb : PT X e (bT X e) := ⟨fun pins s _ _ _ I h => h pins s I⟩
theorem pwb : PW X e (bW X e) := ⟨fun whole pins s _ _ _ I h => h whole pins s I⟩
theorem pab {es : List Expr} : PA X es (bA X es) := ⟨fun pos pins s _ _ _ I h => h pos pins s I⟩
theorem psb {st : List Stmt} : PSs X st (bS X st) := ⟨fun pins s _ _ _ I h => h pins s I⟩
theorem pgb {tg : Expr} : PG X tg (bG X tg) := ⟨fun pins s _ _ _ u _ I r h => h pins s u I r⟩
theorem pib {tg iter : Expr} : PI X tg iter (bI X tg iter) := ⟨fun pins s _ _ _ I h => h pins s I⟩
theorem he_of {t : TE} {Q : VK} (h : PE X e t) (q : t σ H Q) : HE X e σ H Q := fun pins s I => h.run pins s σ H Q I q
theorem ht_of {t : TT} {Q : Bool → Hp → Prop} (h : PT X e t) (q : t σ H Q) : HT X e σ H Q := fun pins s I => h.run pins s σ H Q I q
theorem hw_of {t : TT} {Q : Bool → Hp → Prop} (h : PW X e t) (q : t σ H Q) : HW X e σ H Q := fun whole pins s I => h.run whole pins s σ H Q I q
theorem ha_of {es : List Expr} {t : TA} {Q : List V → Hp → Prop} (h : PA X es t) (q : t σ H Q) : HA X es σ H Q := fun pos pins s I => h.run pos pins s σ H Q I q
theorem hs_of {st : List Stmt} {t : TS} {D : Ends} (h : PSs X st t) (q : t D σ H) : HS X D st σ H := fun pins s I => h.run pins s σ H D I q
theorem hg_of {tg : Expr} {t : TG} {v : V} {Q : L2.St → Hp → Prop} (h : PG X tg t) (q : t v σ H Q) : HG X tg v σ H Q := fun pins s u I r => h.run pins s σ H v u Q I r q
theorem hi_of {tg iter : Expr} {t : TI} {R : It → Hp → Prop} (h : PI X tg iter t) (q : t σ H R) : HI X tg iter σ H R := fun pins s I => h.run pins s σ H R I q
end
/-! ## 2. what stays under growth -/
class Mn (P : V → Hp → Prop) : Prop where
  up : ∀ {v : V} {H H' : Hp}, Same H H' → P v H → P v H'
theorem Same.new {H : Hp} {p : Addr} {o : HO} (h : H p = none) : Same H (upd H p o) := fun a u e => by
  rw [upd_ne (ne_of_none e h)]
  exact e
/-- an object that H does not know may change -/
theorem Same.mut {H H' : Hp} {p : Addr} {o : HO} (e : Same H H') (h : H p = none) : Same H (upd H' p o) := fun a u ha => by
  rw [upd_ne (ne_of_none ha h)]
  exact e a u ha
theorem same_rd {H H' : Hp} {a : Addr} {u : HO} (e : Same H H') (h : Rd H a u) : Rd H' a u := by
  rcases h with h | ⟨o, h⟩
  · exact Or.inl (e a _ h)
  · exact Or.inr ⟨o, e a _ h⟩
theorem sql_up {K : PySem.W.Frag} {H H' : Hp} {a : Addr} {xs : List V} (e : Same H H') (h : SqL K H a xs) : SqL K H' a xs := by
  rcases h with h | h
  · exact Or.inl (same_rd e h)
  · exact Or.inr h
theorem sqt_up {K : PySem.W.Frag} {H H' : Hp} {a : Addr} {xs : List V} (e : Same H H') (h : SqT K H a xs) : SqT K H' a xs := by
  rcases h with h | h
  · exact Or.inl (same_rd e h)
  · exact Or.inr h
theorem sql_of {K : PySem.W.Frag} {H : Hp} {a : Addr} {xs : List V} (h : H a = some (.lst xs)) : SqL K H a xs := Or.inl (Or.inl h)
theorem sqt_of {K : PySem.W.Frag} {H : Hp} {a : Addr} {xs : List V} (h : H a = some (.tup xs)) : SqT K H a xs := Or.inl (Or.inl h)
/-! ## 3. data -/
/-- a tuple of the heap; the empty one may stand in K -/
def TuS (K : PySem.W.Frag) (H : Hp) (a : Addr) (xs : List V) : Prop := H a = some (.tup xs) ∨ (xs = [] ∧ SqT K H a xs)
theorem TuS.sq {K : PySem.W.Frag} {H : Hp} {a : Addr} {xs : List V} (h : TuS K H a xs) : SqT K H a xs := h.elim sqt_of fun z => z.2
theorem TuS.up {K : PySem.W.Frag} {H H' : Hp} {a : Addr} {xs : List V} (e : Same H H') (h : TuS K H a xs) : TuS K H' a xs := h.elim (fun z => .inl (e _ _ z)) fun z => .inr ⟨z.1, sqt_up e z.2⟩
theorem tus_of {K : PySem.W.Frag} {H : Hp} {a : Addr} {xs : List V} (h : H a = some (.tup xs)) : TuS K H a xs := .inl h
/-- a value that is data: None, bools, ints, texts, lists that are tracked, tuples -/
inductive Dt (K : PySem.W.Frag) : PyData → V → Hp → Prop
  | non {H : Hp} : Dt K .none .non H
  | bl {H : Hp} (b : Bool) : Dt K (.bool b) (.bl b) H
  | int {H : Hp} (i : Int) : Dt K (.int i) (.int i) H
  | str {H : Hp} (x : Str) : Dt K (.str x) (.str x) H
  | lst {H : Hp} {a : Addr} {xs : List V} {ds : List PyData} : H a = some (.lst xs) → xs.length = ds.length → xs.length ≤ sizeLine → (∀ (i : Nat) (x : V) (d : PyData), xs[i]? = some x → ds[i]? = some d → Dt K d x H) → Dt K (.list ds) (.ref a) H
  | tup {H : Hp} {a : Addr} {xs : List V} {ds : List PyData} : TuS K H a xs → xs.length = ds.length → xs.length ≤ sizeLine → (∀ (i : Nat) (x : V) (d : PyData), xs[i]? = some x → ds[i]? = some d → Dt K d x H) → Dt K (.tuple ds) (.ref a) H
theorem Dt.up {K : PySem.W.Frag} {d : PyData} {v : V} {H H' : Hp} (e : Same H H') (h : Dt K d v H) : Dt K d v H' := by
  induction h with
  | non => exact .non
  | bl b => exact .bl b
  | int i => exact .int i
  | str x => exact .str x
  | lst h l z _ ih => exact .lst (e _ _ h) l z fun i x d hx hd => ih i x d hx hd e
  | tup h l z _ ih => exact .tup (h.up e) l z fun i x d hx hd => ih i x d hx hd e
instance {K : PySem.W.Frag} {d : PyData} : Mn (Dt K d) := ⟨fun e h => h.up e⟩
/-- the values of a sequence's items -/
def Dts (K : PySem.W.Frag) (ds : List PyData) (xs : List V) (H : Hp) : Prop := xs.length = ds.length ∧ ∀ (i : Nat) (x : V) (d : PyData), xs[i]? = some x → ds[i]? = some d → Dt K d x H
theorem Dts.up {K : PySem.W.Frag} {ds : List PyData} {xs : List V} {H H' : Hp} (e : Same H H') (h : Dts K ds xs H) : Dts K ds xs H' := ⟨h.1, fun i x d hx hd => (h.2 i x d hx hd).up e⟩
theorem Dts.nil {K : PySem.W.Frag} {H : Hp} : Dts K [] [] H := ⟨rfl, fun i x d hx _ => by simp at hx⟩
theorem Dts.cons {K : PySem.W.Frag} {d : PyData} {ds : List PyData} {x : V} {xs : List V} {H : Hp} (h : Dt K d x H) (r : Dts K ds xs H) : Dts K (d :: ds) (x :: xs) H := by
  refine ⟨by simp [r.1], fun i y e hy he => ?_⟩
  cases i with
  | zero => simp at hy he; subst hy; subst he; exact h
  | succ i => exact r.2 i y e (by simpa using hy) (by simpa using he)
theorem Dts.get {K : PySem.W.Frag} {ds : List PyData} {xs : List V} {H : Hp} (h : Dts K ds xs H) {i : Nat} {d : PyData} (e : ds[i]? = some d) : ∃ x, xs[i]? = some x ∧ Dt K d x H := by
  have hi : i < xs.length := by rw [h.1]; exact (List.getElem?_eq_some_iff.mp e).1
  exact ⟨xs[i], List.getElem?_eq_getElem hi, h.2 i _ d (List.getElem?_eq_getElem hi) e⟩
theorem Dts.append {K : PySem.W.Frag} {ds es : List PyData} {xs ys : List V} {H : Hp} (h : Dts K ds xs H) (g : Dts K es ys H) : Dts K (ds ++ es) (xs ++ ys) H := by
  refine ⟨by simp [h.1, g.1], fun i y e hy he => ?_⟩
  by_cases hi : i < xs.length
  · rw [List.getElem?_append_left hi] at hy
    rw [List.getElem?_append_left (by rw [← h.1]; exact hi)] at he
    exact h.2 i y e hy he
  · rw [List.getElem?_append_right (by omega)] at hy
    rw [List.getElem?_append_right (by rw [← h.1]; omega), ← h.1] at he
    exact g.2 _ y e hy he
theorem Dts.snoc {K : PySem.W.Frag} {ds : List PyData} {xs : List V} {H : Hp} {d : PyData} {x : V} (h : Dts K ds xs H) (g : Dt K d x H) : Dts K (ds ++ [d]) (xs ++ [x]) H := h.append (Dts.cons g .nil)
theorem Dts.dp {K : PySem.W.Frag} {H : Hp} : ∀ {ds : List PyData} {xs : List V}, xs.length = ds.length → (∀ (i : Nat) (x : V) (d : PyData), xs[i]? = some x → ds[i]? = some d → Dp K H x d) → DpAll K H xs ds
  | [], [], _, _ => .nil
  | [], _ :: _, h, _ => by simp at h
  | _ :: _, [], h, _ => by simp at h
  | d :: ds, x :: xs, h, f => .cons (f 0 x d rfl rfl) (Dts.dp (by simpa using h) fun i y e hy he => f (i + 1) y e (by simpa using hy) (by simpa using he))
theorem Dt.dp {K : PySem.W.Frag} {d : PyData} {v : V} {H : Hp} (h : Dt K d v H) : Dp K H v d := by
  induction h with
  | non => exact .non
  | bl b => exact .bl b
  | int i => exact .int i
  | str x => exact .str x
  | lst h l z _ ih => exact .lst (sql_of h) (Dts.dp l fun i x d hx hd => ih i x d hx hd)
  | tup h l z _ ih => exact .tup h.sq (Dts.dp l fun i x d hx hd => ih i x d hx hd)
theorem Dt.int_inv {K : PySem.W.Frag} {i : Int} {v : V} {H : Hp} (h : Dt K (.int i) v H) : v = .int i := by cases h; rfl
theorem Dt.bl_inv {K : PySem.W.Frag} {b : Bool} {v : V} {H : Hp} (h : Dt K (.bool b) v H) : v = .bl b := by cases h; rfl
theorem Dt.str_inv {K : PySem.W.Frag} {x : Str} {v : V} {H : Hp} (h : Dt K (.str x) v H) : v = .str x := by cases h; rfl
theorem Dt.lst_inv {K : PySem.W.Frag} {ds : List PyData} {v : V} {H : Hp} (h : Dt K (.list ds) v H) : ∃ a xs, v = .ref a ∧ H a = some (.lst xs) ∧ Dts K ds xs H ∧ xs.length ≤ sizeLine := by
  cases h with
  | lst h l z f => exact ⟨_, _, rfl, h, ⟨l, f⟩, z⟩
theorem Dt.tup_inv {K : PySem.W.Frag} {ds : List PyData} {v : V} {H : Hp} (h : Dt K (.tuple ds) v H) : ∃ a xs, v = .ref a ∧ SqT K H a xs ∧ Dts K ds xs H ∧ xs.length ≤ sizeLine := by
  cases h with
  | tup h l z f => exact ⟨_, _, rfl, h.sq, ⟨l, f⟩, z⟩
theorem Dt.tup_invS {K : PySem.W.Frag} {ds : List PyData} {v : V} {H : Hp} (h : Dt K (.tuple ds) v H) : ∃ a xs, v = .ref a ∧ TuS K H a xs ∧ Dts K ds xs H ∧ xs.length ≤ sizeLine := by
  cases h with
  | tup h l z f => exact ⟨_, _, rfl, h, ⟨l, f⟩, z⟩
theorem Dt.lst_mk {K : PySem.W.Frag} {ds : List PyData} {a : Addr} {xs : List V} {H : Hp} (h : H a = some (.lst xs)) (g : Dts K ds xs H) (z : xs.length ≤ sizeLine) : Dt K (.list ds) (.ref a) H := .lst h g.1 z g.2
theorem Dt.tup_mk {K : PySem.W.Frag} {ds : List PyData} {a : Addr} {xs : List V} {H : Hp} (h : TuS K H a xs) (g : Dts K ds xs H) (z : xs.length ≤ sizeLine) : Dt K (.tuple ds) (.ref a) H := .tup h g.1 z g.2
/-! ## 4. growth: S what is known to stay, H the whole -/
def NT (o : HO) : Prop := ∀ xs, o ≠ .tup xs
structure Gr (S H S' H' : Hp) : Prop where
  st : Same S S'
  sub : Same S' H'
  hh : Same H H'
  old : ∀ a o, H a = some o → NT o → S' a = S a
theorem Gr.refl {S H : Hp} (s : Same S H) : Gr S H S H := ⟨Same.refl S, s, Same.refl H, fun _ _ _ _ => rfl⟩
theorem Gr.trans {S H S1 H1 S2 H2 : Hp} (a : Gr S H S1 H1) (b : Gr S1 H1 S2 H2) : Gr S H S2 H2 :=
  ⟨a.st.trans b.st, b.sub, a.hh.trans b.hh, fun x o h n => (b.old x o (a.hh x o h) n).trans (a.old x o h n)⟩
theorem Gr.new {S H : Hp} {p : Addr} {o : HO} (s : Same S H) (h : H p = none) : Gr S H (upd S p o) (upd H p o) := by
  refine ⟨Same.new (s.free h), fun a u e => ?_, Same.new h, fun a u e _ => upd_ne (ne_of_none e h)⟩
  by_cases ha : a = p
  · subst ha; rw [upd_same] at e ⊢; exact e
  · rw [upd_ne ha] at e ⊢; exact s a u e
/-- S grown by T -/
def uniS (S T : Hp) : Hp := fun a => match S a with
  | some o => some o
  | none => T a
theorem uni_l {S T : Hp} : Same S (uniS S T) := fun a o h => by unfold uniS; rw [h]
/-- from a smaller S to a greater one -/
theorem Gr.uni {S T H S' H' : Hp} (st : Same S T) (th : Same T H) (g : Gr S H S' H') : Gr T H (uniS S' T) H' := by
  have key : ∀ a o, H a = some o → NT o → uniS S' T a = T a := fun a o h n => by
    have e := g.old a o h n
    unfold uniS
    rw [e]
    cases q : S a with
    | none => rfl
    | some u => rw [st a u q]
  have key2 : ∀ a o, T a = some o → uniS S' T a = some o := fun a o h => by
    unfold uniS
    cases q : S' a with
    | none => exact h
    | some u =>
      have e1 := g.sub a u q
      rw [g.hh a o (th a o h)] at e1
      exact e1.symm
  refine ⟨key2, fun a o h => ?_, g.hh, key⟩
  unfold uniS at h
  cases q : S' a with
  | some u => rw [q] at h; cases h; exact g.sub a _ q
  | none => rw [q] at h; exact g.hh a o (th a o h)
/-! ## 5. pure evaluation: e gives a P, and all that stood stands -/
def EE (X : Cx) (σ : L2.St) (S : Hp) (e : Expr) (P : V → Hp → Prop) : Prop := ∀ H, Same S H → ∀ Q : VK, (∀ v S' H', Gr S H S' H' → P v S' → Q v H') → HE X e σ H Q
def ET (X : Cx) (σ : L2.St) (S : Hp) (e : Expr) (b : Bool) : Prop := ∀ H, Same S H → ∀ Q : Bool → Hp → Prop, (∀ S' H', Gr S H S' H' → Q b H') → HT X e σ H Q
def EW (X : Cx) (σ : L2.St) (S : Hp) (e : Expr) (b : Bool) : Prop := ∀ H, Same S H → ∀ Q : Bool → Hp → Prop, (∀ S' H', Gr S H S' H' → Q b H') → HW X e σ H Q
/-- the values vs have the Ps, one by one -/
inductive Al : List (V → Hp → Prop) → List V → Hp → Prop
  | nil {H : Hp} : Al [] [] H
  | cons {P : V → Hp → Prop} {Ps : List (V → Hp → Prop)} {v : V} {vs : List V} {H : Hp} : P v H → Al Ps vs H → Al (P :: Ps) (v :: vs) H
inductive Mns : List (V → Hp → Prop) → Prop
  | nil : Mns []
  | cons {P : V → Hp → Prop} {Ps : List (V → Hp → Prop)} : Mn P → Mns Ps → Mns (P :: Ps)
theorem Al.up {Ps : List (V → Hp → Prop)} {vs : List V} {H H' : Hp} (m : Mns Ps) (s : Same H H') (h : Al Ps vs H) : Al Ps vs H' := by
  induction h with
  | nil => exact .nil
  | cons p _ ih => cases m with
    | cons m1 m2 => exact .cons (m1.up s p) (ih m2 s)
def EA (X : Cx) (σ : L2.St) (S : Hp) (es : List Expr) (Ps : List (V → Hp → Prop)) : Prop := Mns Ps ∧ ∀ H, Same S H → ∀ Q : List V → Hp → Prop, (∀ vs S' H', Gr S H S' H' → Al Ps vs S' → Q vs H') → HA X es σ H Q
section
variable {X : Cx} {σ : L2.St} {S S' : Hp} {e a b c : Expr} {P P' : V → Hp → Prop} {pos : Pos}
theorem EE.up [Mn P] (s : Same S S') (h : EE X σ S e P) : EE X σ S' e P := fun H a Q q => h H (s.trans a) Q fun v S2 H2 g p => q v (uniS S2 S') H2 (g.uni s a) (Mn.up uni_l p)
theorem ET.up {k : Bool} (s : Same S S') (h : ET X σ S e k) : ET X σ S' e k := fun H a Q q => h H (s.trans a) Q fun S2 H2 g => q (uniS S2 S') H2 (g.uni s a)
theorem EW.up {k : Bool} (s : Same S S') (h : EW X σ S e k) : EW X σ S' e k := fun H a Q q => h H (s.trans a) Q fun S2 H2 g => q (uniS S2 S') H2 (g.uni s a)
theorem EA.up {es : List Expr} {Ps : List (V → Hp → Prop)} (s : Same S S') (h : EA X σ S es Ps) : EA X σ S' es Ps := ⟨h.1, fun H a Q q => h.2 H (s.trans a) Q fun v S2 H2 g p => q v (uniS S2 S') H2 (g.uni s a) (p.up h.1 uni_l)⟩
theorem EE.imp (h : EE X σ S e P) (f : ∀ v H', P v H' → P' v H') : EE X σ S e P' := fun H1 s Q q => h H1 s Q fun v S2 H2 s2 p => q v S2 H2 s2 (f v S2 p)
theorem EE.is (h : EE X σ S e P) (f : P = P') : EE X σ S e P' := f ▸ h
theorem ET.is {k k' : Bool} (h : ET X σ S e k) (f : k = k') : ET X σ S e k' := f ▸ h
theorem ea_nil : EA X σ S [] [] := ⟨.nil, fun H1 s Q q => ha_of pa_nil (q [] S H1 (Gr.refl s) .nil)⟩
theorem ea_cons [m : Mn P] {es : List Expr} {Ps : List (V → Hp → Prop)} (h : EE X σ S e P) (r : EA X σ S es Ps) (hs : starEach (e :: es) X.env = (false, eval e X.env) :: starEach es X.env := by rfl) : EA X σ S (e :: es) (P :: Ps) := ⟨.cons m r.1, fun H1 s Q q => by
  refine ha_of (pa_cons (te := bE X e) (t := bA X es) peb pab hs) ?_
  refine h H1 s _ fun v S2 H2 g2 p => ?_
  exact (r.up g2.st).2 H2 g2.sub _ fun vs S3 H3 g3 al => q (v :: vs) S3 H3 (g2.trans g3) (.cons (Mn.up g3.st p) al)⟩
end
end Z
namespace Z
open PySem PySem.Spec PyProof.Rows L2
/-! ## 6. expressions -/
section
variable {X : Cx} {σ : L2.St} {S S' : Hp} {e a b c : Expr} {P Pa Pb R : V → Hp → Prop} {pos p : Pos} {i j : Int} {d d1 d2 : PyData} {k k1 k2 : Bool}
theorem EE.isd {d' : PyData} (h : EE X σ S e (Dt X.K d)) (f : d = d') : EE X σ S e (Dt X.K d') := f ▸ h
theorem ee_var (i : Nat) {x : Str} {v : V} (hv : σ[i]? = some (some v)) (h : P v S) (hN : X.N[i]? = some x := by rfl) (hvis : Vis X.env.scope x := by first | exact Or.inl rfl | exact Or.inr (Or.inl rfl) | exact Or.inr (Or.inr rfl)) (hd : (x == ("__debug__" : Str)) = false := by decide)
    (hcd : (x == ("__classdict__" : Str)) = false := by decide) : EE X σ S (.Name x pos) P := fun H s Q q => he_of (pv i hN hvis hd hcd) ⟨v, hv, q v S H (Gr.refl s) h⟩
theorem ee_cst {v : V} (he : PE X e (tC v)) (h : P v S) : EE X σ S e P := fun H s Q q => he_of he (q v S H (Gr.refl s) h)
theorem ee_int {n} : EE X σ S (.Constant (.int i) n pos) (Dt X.K (.int i)) := ee_cst pe_int (.int i)
theorem ee_bl {n} : EE X σ S (.Constant (.bool k) n pos) (Dt X.K (.bool k)) := ee_cst pe_bl (.bl k)
theorem ee_non {n} : EE X σ S (.Constant .none n pos) (Dt X.K .none) := ee_cst pe_non .non
theorem ee_str {x n} : EE X σ S (.Constant (.str x) n pos) (Dt X.K (.str x)) := ee_cst pe_str (.str x)
theorem ee_glob {x : Str} {v : V} {u : Value} (hm : X.mg x = some u) (r : RelV v u) (h : P v S) (hg : Gl X x := by rfl) (hd : (x == ("__debug__" : Str)) = false := by decide) : EE X σ S (.Name x pos) P := ee_cst (pe_glob hg hm r hd) h
theorem ee_bltn {x : Str} {v : V} {u : Value} (hm : X.mg x = none) (hv : bootBuiltins x = some u) (r : RelV v u) (h : P v S) (hg : Gl X x := by rfl) (hn : x ≠ "__name__" := by decide) (hd : (x == ("__debug__" : Str)) = false := by decide) : EE X σ S (.Name x pos) P := ee_cst (pe_bltn hg hm hv r hn hd) h
theorem ee_globI {x : Str} {t : Tok} (hm : X.mg x = some (.int i t)) (hg : Gl X x := by rfl) (hd : (x == ("__debug__" : Str)) = false := by decide) : EE X σ S (.Name x pos) (Dt X.K (.int i)) := ee_glob (v := .int i) hm ⟨t, rfl⟩ (.int i) hg hd
/-- what a two-place operation gives -/
def OpE (r : R2) (S : Hp) (Pa Pb R : V → Hp → Prop) : Prop := ∀ x y S1 H1, Same S S1 → Same S1 H1 → Pa x S1 → Pb y S1 → ∀ Q : VK, (∀ v S2 H2, Gr S1 H1 S2 H2 → R v S2 → Q v H2) → r x y H1 Q
theorem ee_2 {t : R2} [Mn Pa] [Mn Pb] (hp : PE X e (tOp t (bE X a) (bE X b))) (ha : EE X σ S a Pa) (hb : EE X σ S b Pb) (hr : OpE t S Pa Pb R) : EE X σ S e R := fun H s Q q =>
  he_of hp (ha H s _ fun x S1 H1 g1 px => (hb.up g1.st) H1 g1.sub _ fun y S2 H2 g2 py => hr x y S2 H2 (g1.st.trans g2.st) g2.sub (Mn.up g2.st px) py Q fun v S3 H3 g3 rv => q v S3 H3 ((g1.trans g2).trans g3) rv)
theorem ee_op {op : Operator} {t : R2} [Mn Pa] [Mn Pb] (ho : OpR X (binaryOp op) t) (ha : EE X σ S a Pa) (hb : EE X σ S b Pb) (hr : OpE t S Pa Pb R) : EE X σ S (.BinOp a op b pos) R := ee_2 (pe_op ho peb peb) ha hb hr
theorem ee_cmp {op : CmpOp} {t : R2} [Mn Pa] [Mn Pb] (ho : OpR X (compareOp op) t) (ha : EE X σ S a Pa) (hb : EE X σ S b Pb) (hr : OpE t S Pa Pb R) (hm : behindInMarks op b = false) : EE X σ S (.Compare a [op] [b] pos) R := ee_2 (pe_cmpR ho peb peb hm) ha hb hr
theorem opE_I0 {K : PySem.W.Frag} {g : Int → Int → V} {d : PyData} (h : ∀ S, Dt K d (g i j) S) : OpE (rI0 g) S (Dt K (.int i)) (Dt K (.int j)) (Dt K d) := fun x y S1 H1 _ s px py Q q => by
  cases px; cases py
  exact ⟨i, j, rfl, rfl, q _ S1 H1 (Gr.refl s) (h S1)⟩
theorem opE_I {K : PySem.W.Frag} {C : Int → Int → Prop} {g : Int → Int → V} {d : PyData} (hc : C i j) (h : ∀ S, Dt K d (g i j) S) : OpE (rI C g) S (Dt K (.int i)) (Dt K (.int j)) (Dt K d) := fun x y S1 H1 _ s px py Q q => by
  cases px; cases py
  exact ⟨i, j, rfl, rfl, hc, q _ S1 H1 (Gr.refl s) (h S1)⟩
theorem ee_add (ha : EE X σ S a (Dt X.K (.int i))) (hb : EE X σ S b (Dt X.K (.int j))) : EE X σ S (.BinOp a .Add b pos) (Dt X.K (.int (i + j))) := ee_op op_add ha hb (opE_I0 fun _ => .int _)
theorem ee_fdiv (hc : CDivW i j) (ha : EE X σ S a (Dt X.K (.int i))) (hb : EE X σ S b (Dt X.K (.int j))) : EE X σ S (.BinOp a .FloorDiv b pos) (Dt X.K (.int (i / j))) := ee_op op_fdivW ha hb (opE_I hc fun _ => .int _)
theorem ee_mod (hc : 0 < j) (ha : EE X σ S a (Dt X.K (.int i))) (hb : EE X σ S b (Dt X.K (.int j))) : EE X σ S (.BinOp a .Mod b pos) (Dt X.K (.int (i % j))) := ee_op op_mod ha hb (opE_I hc fun _ => .int _)
theorem ee_pow (hc : CPow i j) (ha : EE X σ S a (Dt X.K (.int i))) (hb : EE X σ S b (Dt X.K (.int j))) : EE X σ S (.BinOp a .Pow b pos) (Dt X.K (.int (i ^ j.toNat))) := ee_op op_pow ha hb (opE_I hc fun _ => .int _)
theorem ee_le (ha : EE X σ S a (Dt X.K (.int i))) (hb : EE X σ S b (Dt X.K (.int j))) : EE X σ S (.Compare a [.LtE] [b] pos) (Dt X.K (.bool (decide (i ≤ j)))) := ee_cmp op_le ha hb (opE_I0 fun _ => .bl _) (nomark _)
theorem ee_ge (ha : EE X σ S a (Dt X.K (.int i))) (hb : EE X σ S b (Dt X.K (.int j))) : EE X σ S (.Compare a [.GtE] [b] pos) (Dt X.K (.bool (decide (j ≤ i)))) := ee_cmp op_ge ha hb (opE_I0 fun _ => .bl _) (nomark _)
/-- == and != of data -/
theorem ee_eq {u : Nat} (hr : Room u X.A) (h1 : SeqAt.shaped d1 = true) (h2 : SeqAt.shaped d2 = true) (ha : EE X σ S a (Dt X.K d1)) (hb : EE X σ S b (Dt X.K d2)) : EE X σ S (.Compare a [.Eq] [b] pos) (Dt X.K (.bool (PyData.eqv d1 d2))) :=
  ee_cmp (op_eqD hr.units) ha hb (fun x y S1 H1 _ s px py Q q => ⟨d1, d2, (px.up s).dp, (py.up s).dp, h1, h2, q _ S1 H1 (Gr.refl s) (.bl _)⟩) (nomark _)
/-- == of two ints, of two texts -/
theorem ee_eqI (ha : EE X σ S a (Dt X.K (.int i))) (hb : EE X σ S b (Dt X.K (.int j))) : EE X σ S (.Compare a [.Eq] [b] pos) (Dt X.K (.bool (decide (i = j)))) :=
  ee_cmp op_eq ha hb (fun x y S1 H1 _ s px py Q q => by
    cases px; cases py
    refine ⟨rfl, ?_⟩
    have e : decide (V.int i = V.int j) = decide (i = j) := by simp
    rw [e]
    exact q _ S1 H1 (Gr.refl s) (.bl _)) (nomark _)
theorem ee_eqS {x y : Str} (ha : EE X σ S a (Dt X.K (.str x))) (hb : EE X σ S b (Dt X.K (.str y))) : EE X σ S (.Compare a [.Eq] [b] pos) (Dt X.K (.bool (decide (x = y)))) :=
  ee_cmp op_eq ha hb (fun v w S1 H1 _ s px py Q q => by
    cases px; cases py
    refine ⟨rfl, ?_⟩
    have e : decide (V.str x = V.str y) = decide (x = y) := by simp
    rw [e]
    exact q _ S1 H1 (Gr.refl s) (.bl _)) (nomark _)
/-- x is None -/
theorem ee_isN {v : V} (ha : EE X σ S a (fun w _ => w = v)) {n p2} : EE X σ S (.Compare a [.Is] [.Constant .none n p2] pos) (Dt X.K (.bool (decide (v = .non)))) := by
  haveI : Mn (fun (w : V) (_ : Hp) => w = v) := ⟨fun _ h => h⟩
  exact ee_cmp op_isN ha (ee_non (n := n) (pos := p2)) (fun x y S1 H1 _ s px py Q q => by
    cases py
    subst px
    exact ⟨rfl, q _ S1 H1 (Gr.refl s) (.bl _)⟩) (nomark _)
theorem ee_neg (ha : EE X σ S a (Dt X.K (.int i))) : EE X σ S (.UnaryOp .USub a pos) (Dt X.K (.int (-i))) := fun H s Q q =>
  he_of (pe_un un_neg peb) (ha H s _ fun x S1 H1 g1 px => by cases px; exact ⟨i, rfl, q _ S1 H1 g1 (.int _)⟩)
/-! ### and, or, not, if -/
theorem ee_not (ha : EE X σ S a (Dt X.K (.bool k))) : EE X σ S (.UnaryOp .Not a pos) (Dt X.K (.bool (!k))) := fun H s Q q =>
  he_of (pe_not peb) (ha H s _ fun x S1 H1 g1 px => by cases px; exact ⟨k, rfl, q _ S1 H1 g1 (.bl _)⟩)
theorem ee_one {op} (ha : EE X σ S a P) : EE X σ S (.BoolOp op [a] pos) P := fun H s Q q => he_of (pe_one peb) (ha H s Q q)
theorem ee_and {rest : List Expr} (ha : EE X σ S a (Dt X.K (.bool k1))) (hb : k1 = true → EE X σ S (.BoolOp .And (b :: rest) pos) (Dt X.K (.bool k2))) : EE X σ S (.BoolOp .And (a :: b :: rest) pos) (Dt X.K (.bool (k1 && k2))) := fun H s Q q =>
  he_of (pe_and peb peb) (ha H s _ fun x S1 H1 g1 px => by
    cases px
    refine ⟨k1, rfl, ?_⟩
    cases k1 with
    | false => exact iteF (q _ S1 H1 g1 (.bl _))
    | true => exact iteT (((hb rfl).up g1.st) H1 g1.sub _ fun y S2 H2 g2 py => q y S2 H2 (g1.trans g2) py))
/-- tests -/
theorem et_val (ha : EE X σ S e (Dt X.K (.bool k))) (he : ∀ whole, isTrue e X.env whole = (do let v ← whole; standAt e.pos; holding [v] (truthy v)) := by intro _; rfl) : ET X σ S e k := fun H s Q q =>
  ht_of (pt_val peb he) (ha H s _ fun x S1 H1 g1 px => by cases px; exact ⟨k, rfl, q S1 H1 g1⟩)
theorem et_cmp {op : CmpOp} {t : R2} [Mn Pa] [Mn Pb] (ho : OpR X (compareOp op) t) (ha : EE X σ S a Pa) (hb : EE X σ S b Pb) (hr : OpE t S Pa Pb (Dt X.K (.bool k))) (hm : behindInMarks op b = false) : ET X σ S (.Compare a [op] [b] pos) k := fun H s Q q =>
  ht_of (pt_cmpR ho peb peb hm) (ha H s _ fun x S1 H1 g1 px => (hb.up g1.st) H1 g1.sub _ fun y S2 H2 g2 py => hr x y S2 H2 (g1.st.trans g2.st) g2.sub (Mn.up g2.st px) py _ fun v S3 H3 g3 rv => by
    cases rv; exact ⟨k, rfl, q S3 H3 ((g1.trans g2).trans g3)⟩)
theorem et_lt (ha : EE X σ S a (Dt X.K (.int i))) (hb : EE X σ S b (Dt X.K (.int j))) : ET X σ S (.Compare a [.Lt] [b] pos) (decide (i < j)) := et_cmp op_lt ha hb (opE_I0 fun _ => .bl _) (nomark _)
theorem et_gt (ha : EE X σ S a (Dt X.K (.int i))) (hb : EE X σ S b (Dt X.K (.int j))) : ET X σ S (.Compare a [.Gt] [b] pos) (decide (j < i)) := et_cmp op_gt ha hb (opE_I0 fun _ => .bl _) (nomark _)
theorem et_ge (ha : EE X σ S a (Dt X.K (.int i))) (hb : EE X σ S b (Dt X.K (.int j))) : ET X σ S (.Compare a [.GtE] [b] pos) (decide (j ≤ i)) := et_cmp op_ge ha hb (opE_I0 fun _ => .bl _) (nomark _)
theorem et_eqI (ha : EE X σ S a (Dt X.K (.int i))) (hb : EE X σ S b (Dt X.K (.int j))) : ET X σ S (.Compare a [.Eq] [b] pos) (decide (i = j)) :=
  et_cmp op_eq ha hb (fun x y S1 H1 _ s px py Q q => by
    cases px; cases py
    refine ⟨rfl, ?_⟩
    have e : decide (V.int i = V.int j) = decide (i = j) := by simp
    rw [e]
    exact q _ S1 H1 (Gr.refl s) (.bl _)) (nomark _)
theorem et_neI (ha : EE X σ S a (Dt X.K (.int i))) (hb : EE X σ S b (Dt X.K (.int j))) : ET X σ S (.Compare a [.NotEq] [b] pos) (!decide (i = j)) :=
  et_cmp op_ne ha hb (fun x y S1 H1 _ s px py Q q => by
    cases px; cases py
    refine ⟨rfl, ?_⟩
    have e : decide (V.int i = V.int j) = decide (i = j) := by simp
    rw [e]
    exact q _ S1 H1 (Gr.refl s) (.bl _)) (nomark _)
theorem et_eqS {x y : Str} (ha : EE X σ S a (Dt X.K (.str x))) (hb : EE X σ S b (Dt X.K (.str y))) : ET X σ S (.Compare a [.Eq] [b] pos) (decide (x = y)) :=
  et_cmp op_eq ha hb (fun v w S1 H1 _ s px py Q q => by
    cases px; cases py
    refine ⟨rfl, ?_⟩
    have e : decide (V.str x = V.str y) = decide (x = y) := by simp
    rw [e]
    exact q _ S1 H1 (Gr.refl s) (.bl _)) (nomark _)
theorem et_ne {u : Nat} (hr : Room u X.A) (h1 : SeqAt.shaped d1 = true) (h2 : SeqAt.shaped d2 = true) (ha : EE X σ S a (Dt X.K d1)) (hb : EE X σ S b (Dt X.K d2)) : ET X σ S (.Compare a [.NotEq] [b] pos) (!PyData.eqv d1 d2) :=
  et_cmp (op_neD hr.units) ha hb (fun x y S1 H1 _ s px py Q q => ⟨d1, d2, (px.up s).dp, (py.up s).dp, h1, h2, q _ S1 H1 (Gr.refl s) (.bl _)⟩) (nomark _)
theorem et_not (ha : ET X σ S a k) : ET X σ S (.UnaryOp .Not a pos) (!k) := fun H s Q q => ht_of (pt_not ptb) (ha H s _ fun S1 H1 g1 => q S1 H1 g1)
theorem et_w (ha : EW X σ S a k) : ET X σ S a k := fun H s Q q => ht_of (PW.pt pwb) (ha H s Q q)
theorem ew_and1 (ha : ET X σ S a k) : EW X σ S (.BoolOp .And [a] pos) k := fun H s Q q => hw_of (pw_and1 ptb) (ha H s Q q)
theorem ew_or1 (ha : ET X σ S a k) : EW X σ S (.BoolOp .Or [a] pos) k := fun H s Q q => hw_of (pw_or1 ptb) (ha H s Q q)
theorem ew_and {rest : List Expr} (ha : ET X σ S a k1) (hb : k1 = true → EW X σ S (.BoolOp .And (b :: rest) pos) k2) : EW X σ S (.BoolOp .And (a :: b :: rest) pos) (k1 && k2) := fun H s Q q =>
  hw_of (pw_and ptb pwb) (ha H s _ fun S1 H1 g1 => by
    cases k1 with
    | false => exact iteF (q S1 H1 g1)
    | true => exact iteT (((hb rfl).up g1.st) H1 g1.sub _ fun S2 H2 g2 => q S2 H2 (g1.trans g2)))
theorem ew_or {rest : List Expr} (ha : ET X σ S a k1) (hb : k1 = false → EW X σ S (.BoolOp .Or (b :: rest) pos) k2) : EW X σ S (.BoolOp .Or (a :: b :: rest) pos) (k1 || k2) := fun H s Q q =>
  hw_of (pw_or ptb pwb) (ha H s _ fun S1 H1 g1 => by
    cases k1 with
    | true => exact iteT (q S1 H1 g1)
    | false => exact iteF (((hb rfl).up g1.st) H1 g1.sub _ fun S2 H2 g2 => q S2 H2 (g1.trans g2)))
theorem ee_if {Q' : V → Hp → Prop} [Mn Q'] (hc : ET X σ S c k) (ha : k = true → EE X σ S a Q') (hb : k = false → EE X σ S b Q') : EE X σ S (.IfExp c a b pos) Q' := fun H s Q q =>
  he_of (pe_ifExp ptb peb peb) (hc H s _ fun S1 H1 g1 => by
    cases k with
    | false => exact iteF (((hb rfl).up g1.st) H1 g1.sub _ fun y S2 H2 g2 py => q y S2 H2 (g1.trans g2) py)
    | true => exact iteT (((ha rfl).up g1.st) H1 g1.sub _ fun y S2 H2 g2 py => q y S2 H2 (g1.trans g2) py))
/-! ### displays -/
theorem ee_tupA {es : List Expr} {x1} {vsP : List V → Hp → Prop} (h : ∀ H, Same S H → ∀ Q : List V → Hp → Prop, (∀ vs S' H', Gr S H S' H' → vsP vs S' → Q vs H') → HA X es σ H Q) (hz : ∀ vs S', vsP vs S' → vs.length ≤ sizeLine)
    (hR : ∀ vs S' p, Same S S' → S' p = none → vsP vs S' → R (.ref p) (upd S' p (.tup vs))) : EE X σ S (.Tuple es x1 pos) R := fun H s Q q =>
  he_of (pe_tup pab) (h H s _ fun vs S1 H1 g1 al => ⟨hz vs S1 al, fun p hp => q _ _ _ (g1.trans (Gr.new g1.sub hp)) (hR vs S1 p g1.st (g1.sub.free hp) al)⟩)
theorem ee_lstA {es : List Expr} {vsP : List V → Hp → Prop} (h : ∀ H, Same S H → ∀ Q : List V → Hp → Prop, (∀ vs S' H', Gr S H S' H' → vsP vs S' → Q vs H') → HA X es σ H Q) (hz : ∀ vs S', vsP vs S' → vs.length ≤ sizeLine)
    (hR : ∀ vs S' p, Same S S' → S' p = none → vsP vs S' → R (.ref p) (upd S' p (.lst vs))) : EE X σ S (.List es pos) R := fun H s Q q =>
  he_of (pe_lst pab) (h H s _ fun vs S1 H1 g1 al => ⟨hz vs S1 al, fun p hp => q _ _ _ (g1.trans (Gr.new g1.sub hp)) (hR vs S1 p g1.st (g1.sub.free hp) al)⟩)
def Ds (K : PySem.W.Frag) (ds : List PyData) : List (V → Hp → Prop) := ds.map (Dt K)
theorem al_dts {K : PySem.W.Frag} : ∀ {ds : List PyData} {vs : List V} {H : Hp}, Al (Ds K ds) vs H → Dts K ds vs H
  | [], _, _, h => by cases h; exact .nil
  | d :: ds, _, _, h => by cases h with
    | cons p r => exact .cons p (al_dts r)
theorem dts_al {K : PySem.W.Frag} : ∀ {ds : List PyData} {vs : List V} {H : Hp}, Dts K ds vs H → Al (Ds K ds) vs H
  | [], [], _, h => .nil
  | [], _ :: _, _, h => by have := h.1; simp at this
  | _ :: _, [], _, h => by have := h.1; simp at this
  | d :: ds, v :: vs, _, h => .cons (h.2 0 v d rfl rfl) (dts_al ⟨by have := h.1; simpa using this, fun i x d hx hd => h.2 (i + 1) x d (by simpa using hx) (by simpa using hd)⟩)
theorem ee_tup {es : List Expr} {x1} {ds : List PyData} (h : EA X σ S es (Ds X.K ds)) (hz : ds.length ≤ sizeLine := by show _ ≤ 16777216; exact Nat.le_of_ble_eq_true rfl) : EE X σ S (.Tuple es x1 pos) (Dt X.K (.tuple ds)) :=
  ee_tupA (vsP := Al (Ds X.K ds)) h.2 (fun vs S' al => by rw [(al_dts al).1]; exact hz) fun vs S' p _ hp al => Dt.tup_mk (tus_of upd_same) ((al_dts al).up (Same.new hp)) (by rw [(al_dts al).1]; exact hz)
theorem ee_lst {es : List Expr} {ds : List PyData} (h : EA X σ S es (Ds X.K ds)) (hz : ds.length ≤ sizeLine := by show _ ≤ 16777216; exact Nat.le_of_ble_eq_true rfl) : EE X σ S (.List es pos) (Dt X.K (.list ds)) :=
  ee_lstA (vsP := Al (Ds X.K ds)) h.2 (fun vs S' al => by rw [(al_dts al).1]; exact hz) fun vs S' p _ hp al => Dt.lst_mk upd_same ((al_dts al).up (Same.new hp)) (by rw [(al_dts al).1]; exact hz)
end
end Z
namespace Z
open PySem PySem.Spec PyProof.Rows L2
/-! ## 7. calls of built-ins, sequences -/
theorem dts_int {K : PySem.W.Frag} : ∀ {ns : List Int} {xs : List V} {H : Hp}, Dts K (ns.map PyData.int) xs H → xs = ns.map V.int
  | [], [], _, _ => rfl
  | [], _ :: _, _, h => by have := h.1; simp at this
  | _ :: _, [], _, h => by have := h.1; simp at this
  | n :: ns, x :: xs, _, h => by
    have e1 := (h.2 0 x (.int n) rfl rfl).int_inv
    have e2 := dts_int (ns := ns) (xs := xs) ⟨by have := h.1; simpa using this, fun i y d hy hd => h.2 (i + 1) y d (by simpa using hy) (by simpa using hd)⟩
    rw [e1, e2]; rfl
theorem dts_bl {K : PySem.W.Frag} : ∀ {ns : List Bool} {xs : List V} {H : Hp}, Dts K (ns.map PyData.bool) xs H → xs = ns.map V.bl
  | [], [], _, _ => rfl
  | [], _ :: _, _, h => by have := h.1; simp at this
  | _ :: _, [], _, h => by have := h.1; simp at this
  | n :: ns, x :: xs, _, h => by
    have e1 := (h.2 0 x (.bool n) rfl rfl).bl_inv
    have e2 := dts_bl (ns := ns) (xs := xs) ⟨by have := h.1; simpa using this, fun i y d hy hd => h.2 (i + 1) y d (by simpa using hy) (by simpa using hd)⟩
    rw [e1, e2]; rfl
theorem dts_str {K : PySem.W.Frag} : ∀ {ns : List Str} {xs : List V} {H : Hp}, Dts K (ns.map PyData.str) xs H → xs = ns.map V.str
  | [], [], _, _ => rfl
  | [], _ :: _, _, h => by have := h.1; simp at this
  | _ :: _, [], _, h => by have := h.1; simp at this
  | n :: ns, x :: xs, _, h => by
    have e1 := (h.2 0 x (.str n) rfl rfl).str_inv
    have e2 := dts_str (ns := ns) (xs := xs) ⟨by have := h.1; simpa using this, fun i y d hy hd => h.2 (i + 1) y d (by simpa using hy) (by simpa using hd)⟩
    rw [e1, e2]; rfl
theorem int_dts {K : PySem.W.Frag} (ns : List Int) (H : Hp) : Dts K (ns.map PyData.int) (ns.map V.int) H := by
  refine ⟨by simp, fun i x d hx hd => ?_⟩
  rw [List.getElem?_map] at hx hd
  cases e : ns[i]? with
  | none => rw [e] at hx; cases hx
  | some n => rw [e] at hx hd; cases hx; cases hd; exact .int n
def tyN : PyData → String
  | .none => "NoneType"
  | .bool _ => "bool"
  | .int _ => "int"
  | .str _ => "str"
  | .list _ => "list"
  | .tuple _ => "tuple"
  | .dict _ => "dict"
theorem tyX_of {K : PySem.W.Frag} {d : PyData} {v : V} {S H : Hp} (h : Dt K d v S) (s : Same S H) : TyX K H v (.type (tyN d)) := by
  cases h with
  | non => exact .base .non
  | bl b => exact .base (.bl b)
  | int i => exact .base (.int i)
  | str x => exact .base (.str x)
  | lst h l z f => exact .base (.lst (s _ _ h))
  | tup h l z f =>
    have h := h.sq
    rcases h with (h | ⟨o, h⟩) | ⟨o, its, n, h, c, _⟩
    · exact .base (.tup (s _ _ h))
    · exact .fTuple (s _ _ h)
    · exact .kTuple h c
/-- what isinstance says of data -/
def isN (t T : String) : Bool := t == T || (t == "bool" && T == "int")
theorem kit_tab : (["NoneType", "bool", "int", "str", "list", "tuple", "dict"].all fun t => ["int", "bool", "str", "list", "tuple"].all fun T => decide (kitB t T = some (isN t T))) = true := by decide +kernel
def isD (d : PyData) (T : String) : Bool := isN (tyN d) T
theorem isD_ok (d : PyData) {T : String} (hT : T ∈ ["int", "bool", "str", "list", "tuple"]) : kitB (tyN d) T = some (isD d T) := by
  have h := List.all_eq_true.mp (List.all_eq_true.mp kit_tab (tyN d) (by cases d <;> simp [tyN])) T hT
  exact of_decide_eq_true h
theorem isDi (d : PyData) : isD d "int" = (match d with | .int _ => true | .bool _ => true | _ => false) := by cases d <;> rfl
theorem isDb (d : PyData) : isD d "bool" = (match d with | .bool _ => true | _ => false) := by cases d <;> rfl
theorem isDs (d : PyData) : isD d "str" = (match d with | .str _ => true | _ => false) := by cases d <;> rfl
theorem isDt (d : PyData) : isD d "tuple" = (match d with | .tuple _ => true | _ => false) := by cases d <;> rfl
section
variable {X : Cx} {σ : L2.St} {S S' : Hp} {e a b c : Expr} {es : List Expr} {P Pa Pb R : V → Hp → Prop} {Ps : List (V → Hp → Prop)} {pos p : Pos} {i j : Int} {d d1 d2 : PyData} {ds ds1 ds2 : List PyData} {k : Bool} {x : Str} {id T : String}
def ClE (r : List V → Hp → VK → Prop) (S : Hp) (Ps : List (V → Hp → Prop)) (R : V → Hp → Prop) : Prop := ∀ vs S1 H1, Same S S1 → Same S1 H1 → Al Ps vs S1 → ∀ Q : VK, (∀ v S2 H2, Gr S1 H1 S2 H2 → R v S2 → Q v H2) → r vs H1 Q
theorem ee_callA {t : List V → Hp → VK → Prop} (hp : PE X e (tCB t (bA X es))) (ha : EA X σ S es Ps) (hr : ClE t S Ps R) : EE X σ S e R := fun H s Q q =>
  he_of hp (ha.2 H s _ fun vs S1 H1 g1 al => hr vs S1 H1 g1.st g1.sub al Q fun v S2 H2 g2 rv => q v S2 H2 (g1.trans g2) rv)
theorem ee_callB {t : List V → Hp → VK → Prop} (hc : CallR X (.builtin id) t) (hm : X.mg x = none) (hv : bootBuiltins x = some (.builtin id)) (ha : EA X σ S (e :: es) Ps) (hr : ClE t S Ps R) (hg : Gl X x := by rfl) (hn : x ≠ "__name__" := by decide) (hdb : (x == ("__debug__" : Str)) = false := by decide)
    (he : starEach (e :: es) X.env = (false, eval e X.env) :: starEach es X.env := by rfl) (hpl : (backTo pos (starEach es X.env)).any (·.1) = false := by rfl) : EE X σ S (.Call (.Name x p) (e :: es) [] pos) R :=
  ee_callA (pe_callB hc hg hm hv pab hn hdb he hpl) ha hr
theorem ee_callTy {t : List V → Hp → VK → Prop} (hc : CallR X (.type T) t) (hm : X.mg x = none) (hv : bootBuiltins x = some (.type T)) (ha : EA X σ S (e :: es) Ps) (hr : ClE t S Ps R) (hg : Gl X x := by rfl) (hn : x ≠ "__name__" := by decide) (hdb : (x == ("__debug__" : Str)) = false := by decide)
    (he : starEach (e :: es) X.env = (false, eval e X.env) :: starEach es X.env := by rfl) (hpl : (backTo pos (starEach es X.env)).any (·.1) = false := by rfl) : EE X σ S (.Call (.Name x p) (e :: es) [] pos) R :=
  ee_callA (pe_callTy hc hg hm hv pab hn hdb he hpl) ha hr
theorem ea_1 [Mn P] (h : EE X σ S e P) (hs : starEach [e] X.env = (false, eval e X.env) :: starEach [] X.env := by rfl) : EA X σ S [e] [P] := ea_cons h ea_nil hs
theorem ea_2 [Mn Pa] [Mn Pb] (h : EE X σ S a Pa) (h2 : EE X σ S b Pb) (hs : starEach [a, b] X.env = (false, eval a X.env) :: starEach [b] X.env := by rfl) (hs2 : starEach [b] X.env = (false, eval b X.env) :: starEach [] X.env := by rfl) : EA X σ S [a, b] [Pa, Pb] := ea_cons h (ea_cons h2 ea_nil hs2) hs
theorem Al.one {Pa : V → Hp → Prop} {vs : List V} {H : Hp} (h : Al [Pa] vs H) : ∃ v, vs = [v] ∧ Pa v H := by
  cases h with
  | cons p r => cases r; exact ⟨_, rfl, p⟩
theorem Al.two {Pa Pb : V → Hp → Prop} {vs : List V} {H : Hp} (h : Al [Pa, Pb] vs H) : ∃ v w, vs = [v, w] ∧ Pa v H ∧ Pb w H := by
  cases h with
  | cons p r => cases r with
    | cons p2 r2 => cases r2; exact ⟨_, _, rfl, p, p2⟩
theorem Al.three {Pa Pb Pc : V → Hp → Prop} {vs : List V} {H : Hp} (h : Al [Pa, Pb, Pc] vs H) : ∃ v w u, vs = [v, w, u] ∧ Pa v H ∧ Pb w H ∧ Pc u H := by
  cases h with
  | cons p r => obtain ⟨w, u, rfl, q1, q2⟩ := Al.two r; exact ⟨_, _, _, rfl, p, q1, q2⟩
theorem ee_isi {cn : Str} {T : String} (hk : kitB (tyN d) T = some k) (hm : X.mg "isinstance" = none) (hmT : X.mg cn = none) (hv : bootBuiltins cn = some (.type T)) (ha : EE X σ S a (Dt X.K d)) {p2 : Pos} (hg : Gl X "isinstance" := by rfl) (hgT : Gl X cn := by rfl) (hn : cn ≠ "__name__" := by decide) (hdb : (cn == ("__debug__" : Str)) = false := by decide)
    (hs : starEach [a, .Name cn p2] X.env = (false, eval a X.env) :: starEach [.Name cn p2] X.env := by rfl) : EE X σ S (.Call (.Name "isinstance" p) [a, .Name cn p2] [] pos) (Dt X.K (.bool k)) := by
  haveI : Mn (fun (w : V) (_ : Hp) => w = .ty T) := ⟨fun _ h => h⟩
  refine ee_callB call_isi hm boot_isinstance (ea_2 ha (ee_bltn (P := fun w _ => w = .ty T) (v := .ty T) (u := .type T) hmT hv rfl rfl hgT hn hdb) hs rfl) (fun vs S1 H1 _ s al Q q => ?_) hg (he := hs) (hpl := by rfl)
  obtain ⟨v, w, rfl, pv, pw⟩ := al.two
  subst pw
  exact ⟨v, .ty T, .type (tyN d), .type T, k, rfl, .ty T, tyX_of pv s, kit_ty hk, q _ S1 H1 (Gr.refl s) (.bl k)⟩
/-- len -/
def lenD : PyData → Option Nat
  | .str x => some x.length
  | .list xs => some xs.length
  | .tuple xs => some xs.length
  | _ => none
theorem ee_len {n : Nat} (hm : X.mg "len" = none) (hl : lenD d = some n) (ha : EE X σ S a (Dt X.K d)) (hz : ∀ x, d = .str x → x.length ≤ sizeLine := by intro _ h; cases h) (hg : Gl X "len" := by rfl)
    (hs : starEach [a] X.env = (false, eval a X.env) :: starEach [] X.env := by rfl) : EE X σ S (.Call (.Name "len" p) [a] [] pos) (Dt X.K (.int n)) :=
  ee_callB call_len hm boot_len (ea_1 ha hs) (fun vs S1 H1 _ s al Q q => by
    obtain ⟨v, rfl, pv⟩ := al.one
    refine ⟨v, n, rfl, ?_, q _ S1 H1 (Gr.refl s) (.int _)⟩
    cases pv with
    | non => cases hl
    | bl b => cases hl
    | int i => cases hl
    | str x => cases hl; exact ⟨hz x rfl, rfl⟩
    | lst h l z f => cases hl; exact .inl ⟨_, sql_of (s _ _ h), l.symm⟩
    | tup h l z f => cases hl; exact .inr ⟨_, sqt_up s h.sq, l.symm⟩) hg (he := hs) (hpl := by rfl)
theorem ee_all {bs : List Bool} (hc : X.calm = true) (hm : X.mg "all" = none) (ha : EE X σ S a (Dt X.K (.list (bs.map .bool)))) (hg : Gl X "all" := by rfl)
    (hs : starEach [a] X.env = (false, eval a X.env) :: starEach [] X.env := by rfl) : EE X σ S (.Call (.Name "all" p) [a] [] pos) (Dt X.K (.bool (bs.all fun b => b))) :=
  ee_callB (cr_all hc) hm boot_all (ea_1 ha hs) (fun vs S1 H1 _ s al Q q => by
    obtain ⟨v, rfl, pv⟩ := al.one
    obtain ⟨l, xs, rfl, hl, hx, z⟩ := pv.lst_inv
    rw [dts_bl hx] at hl
    exact ⟨l, bs, rfl, sql_of (s _ _ hl), q _ S1 H1 (Gr.refl s) (.bl _)⟩) hg (he := hs) (hpl := by rfl)
theorem ee_intOf (hm : X.mg "int" = none) (ha : EE X σ S a (Dt X.K (.int i))) (hg : Gl X "int" := by rfl)
    (hs : starEach [a] X.env = (false, eval a X.env) :: starEach [] X.env := by rfl) : EE X σ S (.Call (.Name "int" p) [a] [] pos) (Dt X.K (.int i)) :=
  ee_callTy call_int1 hm boot_int (ea_1 ha hs) (fun vs S1 H1 _ s al Q q => by
    obtain ⟨v, rfl, pv⟩ := al.one
    cases pv
    exact .inl ⟨i, rfl, q _ S1 H1 (Gr.refl s) (.int _)⟩) hg (he := hs) (hpl := by rfl)
/-! ### subscripts -/
theorem atI_dts {K : PySem.W.Frag} {xs : List V} {H : Hp} (h : Dts K ds xs H) (e : atI ds i = some d) : ∃ x, atI xs i = some x ∧ Dt K d x H := by
  unfold atI at e ⊢
  rw [h.1]
  cases q : ixN ds.length i with
  | none => rw [q] at e; cases e
  | some k =>
    rw [q] at e
    exact h.get (i := k) e
theorem ee_ixL (he : atI ds i = some d) (ha : EE X σ S a (Dt X.K (.list ds))) (hb : EE X σ S b (Dt X.K (.int i))) (hs : PlainIx b := by exact fun _ _ => rfl) : EE X σ S (.Subscript a b pos) (Dt X.K d) :=
  ee_2 (pe_ix ix_list peb peb hs) ha hb fun x y S1 H1 _ s px py Q q => by
    cases py
    obtain ⟨l, xs, rfl, hl, hx, z⟩ := px.lst_inv
    obtain ⟨x, h1, h2⟩ := atI_dts hx he
    exact ⟨l, xs, i, x, rfl, rfl, sql_of (s _ _ hl), h1, q _ S1 H1 (Gr.refl s) h2⟩
theorem ee_ixT (he : atI ds i = some d) (ha : EE X σ S a (Dt X.K (.tuple ds))) (hb : EE X σ S b (Dt X.K (.int i))) (hs : PlainIx b := by exact fun _ _ => rfl) : EE X σ S (.Subscript a b pos) (Dt X.K d) :=
  ee_2 (pe_ix ix_tup peb peb hs) ha hb fun x y S1 H1 _ s px py Q q => by
    cases py
    obtain ⟨l, xs, rfl, hl, hx, z⟩ := px.tup_inv
    obtain ⟨x, h1, h2⟩ := atI_dts hx he
    exact ⟨l, xs, i, x, rfl, rfl, sqt_up s hl, h1, q _ S1 H1 (Gr.refl s) h2⟩
theorem ee_ixS {z : Str} {c : Nat} (hz : z.length ≤ sizeLine) (he : atI z.cps.toList i = some c) (ha : EE X σ S a (Dt X.K (.str z))) (hb : EE X σ S b (Dt X.K (.int i))) (hs : PlainIx b := by exact fun _ _ => rfl) : EE X σ S (.Subscript a b pos) (Dt X.K (.str ⟨#[c]⟩)) :=
  ee_2 (pe_ix ix_str peb peb hs) ha hb fun x y S1 H1 _ s px py Q q => by
    cases px; cases py
    exact ⟨z, i, c, rfl, rfl, hz, he, q _ S1 H1 (Gr.refl s) (.str _)⟩
/-- slices -/
def EO (X : Cx) (σ : L2.St) (S : Hp) (e : Option Expr) (o : Option Int) : Prop := ∀ H, Same S H → ∀ Q : Option Int → Hp → Prop, (∀ S' H', Gr S H S' H' → Q o H') → ∃ t, PO X e t ∧ t σ H Q
def tOb (X : Cx) (e : Option Expr) : TO := fun σ H Q => ∃ t, PO X e t ∧ t σ H Q
theorem pob {e : Option Expr} : PO X e (tOb X e) := ⟨fun pins s σ H Q I ⟨t, ht, h⟩ => ht.run pins s σ H Q I h⟩
theorem eo_none : EO X σ S none none := fun H s Q q => ⟨_, po_none, q S H (Gr.refl s)⟩
theorem eo_some (h : EE X σ S e (Dt X.K (.int i))) : EO X σ S (some e) (some i) := fun H s Q q => ⟨_, po_some peb, h H s _ fun v S1 H1 g1 pv => by cases pv; exact ⟨i, rfl, q S1 H1 g1⟩⟩
theorem EO.up {o : Option Int} {oe : Option Expr} (s : Same S S') (h : EO X σ S oe o) : EO X σ S' oe o := fun H a Q q => h H (s.trans a) Q fun S2 H2 g => q (uniS S2 S') H2 (g.uni s a)
/-! ### + and * of sequences -/
theorem ee_catL (hz : ds1.length + ds2.length ≤ sizeLine) (ha : EE X σ S a (Dt X.K (.list ds1))) (hb : EE X σ S b (Dt X.K (.list ds2))) : EE X σ S (.BinOp a .Add b pos) (Dt X.K (.list (ds1 ++ ds2))) :=
  ee_op op_cat ha hb fun x y S1 H1 _ s px py Q q => by
    obtain ⟨l, xs, rfl, hl, hx, _⟩ := px.lst_inv
    obtain ⟨m, ys, rfl, hm, hy, _⟩ := py.lst_inv
    have hz' : xs.length + ys.length ≤ sizeLine := by rw [hx.1, hy.1]; exact hz
    exact ⟨l, m, xs, ys, rfl, rfl, s _ _ hl, s _ _ hm, hz', fun t ht => q _ _ _ (Gr.new s ht) (Dt.lst_mk upd_same ((hx.append hy).up (Same.new (s.free ht))) (by rw [List.length_append]; exact hz'))⟩
theorem flat_dts {K : PySem.W.Frag} {xs : List V} {H : Hp} (f : List.replicate 0 d = []) (h : Dts K ds xs H) : ∀ (n : Nat), Dts K (List.replicate n ds).flatten (List.replicate n xs).flatten H
  | 0 => .nil
  | n + 1 => by
    rw [List.replicate_succ, List.flatten_cons, List.replicate_succ, List.flatten_cons]
    exact h.append (flat_dts f h n)
theorem flatten_len {α : Type} (xs : List α) : ∀ n : Nat, (List.replicate n xs).flatten.length = xs.length * n
  | 0 => by simp
  | n + 1 => by rw [List.replicate_succ, List.flatten_cons, List.length_append, flatten_len xs n, Nat.mul_succ]; omega
end
end Z
namespace Z
open PySem PySem.Spec PyProof.Rows L2
/-! ## 8. what is walked -/
/-- an iterator that gives, one by one, values that have the Ps; while B stands -/
def ItP (J : It) (B : Hp) (Ps : List (V → Hp → Prop)) : Prop := Walk J Ps.length (fun H => Same B H) (fun i H x H' => ∀ S, Same B S → Same S H → ∃ S', Gr S H S' H' ∧ ∃ P, Ps[i]? = some P ∧ P x S')
def EI (X : Cx) (σ : L2.St) (S : Hp) (tg iter : Expr) (Ps : List (V → Hp → Prop)) : Prop := ∀ H, Same S H → ∀ R : It → Hp → Prop, (∀ J S' H', Gr S H S' H' → ItP J S' Ps → R J H') → HI X tg iter σ H R
section
variable {X : Cx} {σ : L2.St} {S S' : Hp} {e a b tg : Expr} {pos p : Pos} {d d1 d2 : PyData} {ds ds1 ds2 : List PyData}
theorem EI.up {Ps : List (V → Hp → Prop)} {it : Expr} (s : Same S S') (h : EI X σ S tg it Ps) : EI X σ S' tg it Ps := fun H a R q => h H (s.trans a) R fun J S2 H2 g w => q J (uniS S2 S') H2 (g.uni s a)
  ⟨fun i H hi hs => w.goes i H hi (uni_l.trans hs), fun H hs => w.stops H (uni_l.trans hs), fun i H x H' hi hs y T st th => w.yields i H x H' hi (uni_l.trans hs) y T (uni_l.trans st) th⟩
theorem ds_get {K : PySem.W.Frag} {i : Nat} (h : ds[i]? = some d) : (Ds K ds)[i]? = some (Dt K d) := by unfold Ds; rw [List.getElem?_map, h]; rfl
theorem ds_len {K : PySem.W.Frag} : (Ds K ds).length = ds.length := by unfold Ds; simp
theorem ei_list (ha : EE X σ S e (Dt X.K (.list ds))) : EI X σ S tg e (Ds X.K ds) := fun H s R q =>
  hi_of (pi_list peb) (ha H s _ fun v S1 H1 g1 pv => by
    obtain ⟨l, xs, rfl, hl, hx, z⟩ := pv.lst_inv
    refine ⟨l, rfl, ⟨xs, sql_of (g1.sub _ _ hl)⟩, q _ S1 H1 g1 ⟨fun i H hi hs => ?_, fun H hs => ?_, fun i H x H' hi hs y T st th => ?_⟩⟩
    · rw [ds_len, ← hx.1] at hi
      exact (walk_list (K := X.K) (a := l) (xs := xs)).goes i H hi (sql_of (hs _ _ hl))
    · rw [ds_len, ← hx.1]
      exact (walk_list (K := X.K) (a := l) (xs := xs)).stops H (sql_of (hs _ _ hl))
    · rw [ds_len, ← hx.1] at hi
      obtain ⟨rfl, hy⟩ := (walk_list (K := X.K) (a := l) (xs := xs)).yields i H x H' hi (sql_of (hs _ _ hl)) y
      have hi2 : i < ds.length := by rw [← hx.1]; exact hi
      exact ⟨T, Gr.refl th, _, ds_get (List.getElem?_eq_getElem hi2), (hx.2 i x _ hy (List.getElem?_eq_getElem hi2)).up st⟩)
theorem ei_tup (ha : EE X σ S e (Dt X.K (.tuple ds))) : EI X σ S tg e (Ds X.K ds) := fun H s R q =>
  hi_of (pi_tup peb) (ha H s _ fun v S1 H1 g1 pv => by
    obtain ⟨l, xs, rfl, hl, hx, z⟩ := pv.tup_inv
    refine ⟨l, rfl, ⟨xs, sqt_up g1.sub hl⟩, q _ S1 H1 g1 ⟨fun i H hi hs => ?_, fun H hs => ?_, fun i H x H' hi hs y T st th => ?_⟩⟩
    · rw [ds_len, ← hx.1] at hi
      exact (walk_tup (K := X.K) (a := l) (xs := xs)).goes i H hi (sqt_up hs hl)
    · rw [ds_len, ← hx.1]
      exact (walk_tup (K := X.K) (a := l) (xs := xs)).stops H (sqt_up hs hl)
    · rw [ds_len, ← hx.1] at hi
      obtain ⟨rfl, hy⟩ := (walk_tup (K := X.K) (a := l) (xs := xs)).yields i H x H' hi (sqt_up hs hl) y
      have hi2 : i < ds.length := by rw [← hx.1]; exact hi
      exact ⟨T, Gr.refl th, _, ds_get (List.getElem?_eq_getElem hi2), (hx.2 i x _ hy (List.getElem?_eq_getElem hi2)).up st⟩)
/-- 0, 1, .. below n -/
def upto (n : Nat) : List PyData := (List.range n).map fun i => .int (i : Nat)
theorem upto_get {n i : Nat} (h : i < n) : (upto n)[i]? = some (.int (i : Nat)) := by unfold upto; rw [List.getElem?_map, List.getElem?_range h]; rfl
theorem upto_len {n : Nat} : (upto n).length = n := by unfold upto; simp
theorem ei_range {n : Nat} (hm : X.mg "range" = none) (hn : (n : Int) < 2 ^ 62) (ha : EE X σ S a (Dt X.K (.int (n : Nat)))) (hg : Gl X "range" := by rfl) (hs : starEach [a] X.env = [(false, eval a X.env)] := by rfl) : EI X σ S tg (.Call (.Name "range" p) [a] [] pos) (Ds X.K (upto n)) := fun H s R q =>
  hi_of (pi_range1 hg hm pab hs) ((ea_1 ha (by rw [hs]; rfl)).2 H s _ fun vs S1 H1 g1 al => by
    obtain ⟨v, rfl, pv⟩ := al.one
    cases pv
    refine ⟨(n : Int), rfl, by omega, hn, q _ S1 H1 g1 ⟨fun i H hi hs => ?_, fun H hs => ?_, fun i H x H' hi hs y T st th => ?_⟩⟩
    · rw [ds_len, upto_len] at hi
      show i < ((n : Int)).toNat
      omega
    · rw [ds_len, upto_len]
      show ((n : Int)).toNat ≤ n
      omega
    · rw [ds_len, upto_len] at hi
      obtain ⟨rfl, rfl⟩ : H' = H ∧ x = .int (0 + (i : Int)) := y
      rw [Int.zero_add]
      exact ⟨T, Gr.refl th, _, ds_get (upto_get hi), .int _⟩)
/-- pairs -/
def zipD (xs ys : List PyData) : List PyData := List.zipWith (fun x y => .tuple [x, y]) xs ys
theorem zipD_get {i : Nat} {x y : PyData} (h1 : ds1[i]? = some x) (h2 : ds2[i]? = some y) : (zipD ds1 ds2)[i]? = some (.tuple [x, y]) := by
  unfold zipD
  rw [List.getElem?_zipWith, h1, h2]
theorem pair_new {K : PySem.W.Frag} {T H : Hp} {x y : V} {t : Addr} (th : Same T H) (ht : H t = none) (h1 : Dt K d1 x T) (h2 : Dt K d2 y T) : Dt K (.tuple [d1, d2]) (.ref t) (upd T t (.tup [x, y])) :=
  Dt.tup_mk (tus_of upd_same) ((Dts.cons h1 (Dts.cons h2 .nil)).up (Same.new (th.free ht))) (by show 2 ≤ 16777216; decide)
theorem ei_zipT {elts : List Expr} {kk : Nat} {tpos : Pos} (hm : X.mg "zip" = none) (ha : EE X σ S a (Dt X.K (.tuple ds1))) (hb : EE X σ S b (Dt X.K (.tuple ds2))) (hg : Gl X "zip" := by rfl)
    (hs : starEach [a, b] X.env = (false, eval a X.env) :: starEach [b] X.env := by rfl) (hs2 : starEach [b] X.env = (false, eval b X.env) :: starEach [] X.env := by rfl) (hpl : (backTo pos (starEach [b] X.env)).any (·.1) = false := by rfl) :
    EI X σ S (.Tuple elts kk tpos) (.Call (.Name "zip" p) [a, b] [] pos) (Ds X.K (zipD ds1 ds2)) := fun H s R q =>
  hi_of (RZ.pi_zipA hg hm pab hs hpl) ((ea_2 ha hb hs hs2).2 H s _ fun vs S1 H1 g1 al => by
    obtain ⟨v, w, rfl, pv, pw⟩ := al.two
    obtain ⟨l, xs, rfl, hl, hx, _⟩ := pv.tup_inv
    obtain ⟨m, ys, rfl, hm, hy, _⟩ := pw.tup_inv
    have hlen : (Ds X.K (zipD ds1 ds2)).length = min xs.length ys.length := by rw [ds_len]; unfold zipD; rw [List.length_zipWith, hx.1, hy.1]
    refine ⟨l, m, xs, ys, rfl, .inr ⟨sqt_up g1.sub hl, sqt_up g1.sub hm, q _ S1 H1 g1 ⟨fun i H hi hs => ?_, fun H hs => ?_, fun i H x H' hi hs y T st th => ?_⟩⟩⟩
    · rw [hlen] at hi
      exact ⟨xs, ys, xs[i]'(by omega), ys[i]'(by omega), sqt_up hs hl, sqt_up hs hm, by simp [show i < xs.length by omega], by simp [show i < ys.length by omega]⟩
    · rw [hlen]
      exact ⟨xs, ys, sqt_up hs hl, sqt_up hs hm, by omega⟩
    · rw [hlen] at hi
      obtain ⟨t, x1, y1, rfl, ht, rfl, k1, k2⟩ := y
      have i1 : i < ds1.length := by rw [← hx.1]; omega
      have i2 : i < ds2.length := by rw [← hy.1]; omega
      exact ⟨_, Gr.new th ht, _, ds_get (zipD_get (List.getElem?_eq_getElem i1) (List.getElem?_eq_getElem i2)), pair_new th ht ((hx.2 i _ _ (k1 xs (sqt_up hs hl)) (List.getElem?_eq_getElem i1)).up st) ((hy.2 i _ _ (k2 ys (sqt_up hs hm)) (List.getElem?_eq_getElem i2)).up st)⟩)
theorem ei_zipL {elts : List Expr} {kk : Nat} {tpos : Pos} (hm : X.mg "zip" = none) (ha : EE X σ S a (Dt X.K (.list ds1))) (hb : EE X σ S b (Dt X.K (.list ds2))) (hg : Gl X "zip" := by rfl)
    (hs : starEach [a, b] X.env = (false, eval a X.env) :: starEach [b] X.env := by rfl) (hs2 : starEach [b] X.env = (false, eval b X.env) :: starEach [] X.env := by rfl) (hpl : (backTo pos (starEach [b] X.env)).any (·.1) = false := by rfl) :
    EI X σ S (.Tuple elts kk tpos) (.Call (.Name "zip" p) [a, b] [] pos) (Ds X.K (zipD ds1 ds2)) := fun H s R q =>
  hi_of (RZ.pi_zipA hg hm pab hs hpl) ((ea_2 ha hb hs hs2).2 H s _ fun vs S1 H1 g1 al => by
    obtain ⟨v, w, rfl, pv, pw⟩ := al.two
    obtain ⟨l, xs, rfl, hl, hx, _⟩ := pv.lst_inv
    obtain ⟨m, ys, rfl, hm, hy, _⟩ := pw.lst_inv
    have hlen : (Ds X.K (zipD ds1 ds2)).length = min xs.length ys.length := by rw [ds_len]; unfold zipD; rw [List.length_zipWith, hx.1, hy.1]
    refine ⟨l, m, xs, ys, rfl, .inl ⟨sql_of (g1.sub _ _ hl), sql_of (g1.sub _ _ hm), q _ S1 H1 g1 ⟨fun i H hi hs => ?_, fun H hs => ?_, fun i H x H' hi hs y T st th => ?_⟩⟩⟩
    · rw [hlen] at hi
      exact ⟨xs, ys, xs[i]'(by omega), ys[i]'(by omega), sql_of (hs _ _ hl), sql_of (hs _ _ hm), by simp [show i < xs.length by omega], by simp [show i < ys.length by omega]⟩
    · rw [hlen]
      exact ⟨xs, ys, sql_of (hs _ _ hl), sql_of (hs _ _ hm), by omega⟩
    · rw [hlen] at hi
      obtain ⟨t, x1, y1, rfl, ht, rfl, k1, k2⟩ := y
      have i1 : i < ds1.length := by rw [← hx.1]; omega
      have i2 : i < ds2.length := by rw [← hy.1]; omega
      exact ⟨_, Gr.new th ht, _, ds_get (zipD_get (List.getElem?_eq_getElem i1) (List.getElem?_eq_getElem i2)), pair_new th ht ((hx.2 i _ _ (k1 xs (sql_of (hs _ _ hl))) (List.getElem?_eq_getElem i1)).up st) ((hy.2 i _ _ (k2 ys (sql_of (hs _ _ hm))) (List.getElem?_eq_getElem i2)).up st)⟩)
def enumD (xs : List PyData) : List PyData := zipD (upto xs.length) xs
theorem ei_enumL {elts : List Expr} {kk : Nat} {tpos : Pos} (hm : X.mg "enumerate" = none) (ha : EE X σ S a (Dt X.K (.list ds))) (hg : Gl X "enumerate" := by rfl) (hs : starEach [a] X.env = [(false, eval a X.env)] := by rfl) :
    EI X σ S (.Tuple elts kk tpos) (.Call (.Name "enumerate" p) [a] [] pos) (Ds X.K (enumD ds)) := fun H s R q =>
  hi_of (pi_enum hg hm pab hs) ((ea_1 ha (by rw [hs]; rfl)).2 H s _ fun vs S1 H1 g1 al => by
    obtain ⟨v, rfl, pv⟩ := al.one
    obtain ⟨l, xs, rfl, hl, hx, _⟩ := pv.lst_inv
    have hlen : (Ds X.K (enumD ds)).length = xs.length := by rw [ds_len]; unfold enumD zipD; rw [List.length_zipWith, upto_len, hx.1]; omega
    refine ⟨l, xs, rfl, sql_of (g1.sub _ _ hl), q _ S1 H1 g1 ⟨fun i H hi hs => ?_, fun H hs => ?_, fun i H x H' hi hs y T st th => ?_⟩⟩
    · rw [hlen] at hi
      exact ⟨xs, xs[i], sql_of (hs _ _ hl), by simp [hi]⟩
    · rw [hlen]
      exact ⟨xs, sql_of (hs _ _ hl), Nat.le_refl _⟩
    · rw [hlen] at hi
      obtain ⟨t, x1, rfl, ht, rfl, k1⟩ := y
      have i1 : i < ds.length := by rw [← hx.1]; omega
      exact ⟨_, Gr.new th ht, _, ds_get (zipD_get (upto_get i1) (List.getElem?_eq_getElem i1)), pair_new th ht (.int _) ((hx.2 i _ _ (k1 xs (sql_of (hs _ _ hl))) (List.getElem?_eq_getElem i1)).up st)⟩)
def strD (z : Str) : List PyData := z.cps.toList.map fun c => .str ⟨#[c]⟩
theorem ei_str {z : Str} (ha : EE X σ S e (Dt X.K (.str z))) (he : PI X tg e (iStr (bE X e)) := by exact pi_str peb) : EI X σ S tg e (Ds X.K (strD z)) := fun H s R q =>
  hi_of he (ha H s _ fun v S1 H1 g1 pv => by
    cases pv
    have hlen : (Ds X.K (strD z)).length = z.cps.size := by rw [ds_len]; unfold strD; simp
    refine ⟨z, rfl, q _ S1 H1 g1 ⟨fun i H hi hs => ?_, fun H hs => ?_, fun i H x H' hi hs y T st th => ?_⟩⟩
    · rw [hlen] at hi; exact hi
    · rw [hlen]; exact Nat.le_refl _
    · rw [hlen] at hi
      obtain ⟨rfl, c, hc, rfl⟩ := y
      refine ⟨T, Gr.refl th, _, ds_get (d := .str ⟨#[c]⟩) ?_, .str _⟩
      unfold strD
      rw [List.getElem?_map, Array.getElem?_toList, hc]
      rfl)
end
/-! ## 9. list comprehensions -/
def Ex (K : PySem.W.Frag) (F : PyData → Prop) : V → Hp → Prop := fun v S => ∃ d, F d ∧ Dt K d v S
instance {K : PySem.W.Frag} {F : PyData → Prop} : Mn (Ex K F) := ⟨fun s ⟨d, f, h⟩ => ⟨d, f, h.up s⟩⟩
def HTs (X : Cx) (ifs : List Expr) (σ : L2.St) (H : Hp) (Q : Bool → Hp → Prop) : Prop := ∀ (pins : List (Addr × Obj)) (s : Shared), Inv X pins σ H s →
    wpAny (model X.prog X.w) X.A (forIn ifs true fun c r => if r = true then do let ok ← isTrue c X.env (eval c X.env); pure (ForInStep.yield ok) else pure (ForInStep.yield r)) (TP X pins σ Q) X.xe s
def ETs (X : Cx) (σ : L2.St) (S : Hp) (ifs : List Expr) (b : Bool) : Prop := ∀ H, Same S H → ∀ Q : Bool → Hp → Prop, (∀ S' H', Gr S H S' H' → Q b H') → HTs X ifs σ H Q
theorem ets_nil {X : Cx} {σ : L2.St} {S : Hp} : ETs X σ S [] true := fun H s Q q pins sh I => pts_nil.run pins sh σ H Q I (q S H (Gr.refl s))
/-- a target that takes the value: the slots behind -/
def EG (X : Cx) (S : Hp) (tg : Expr) (v : V) (σ τ : L2.St) : Prop := ∀ H, Same S H → ∀ Q : L2.St → Hp → Prop, Q τ H → HG X tg v σ H Q
theorem eg_name {X : Cx} {S : Hp} {v : V} {σ : L2.St} {i : Nat} {x : Str} {pos : Pos} (hN : X.N.Nodup) (hi : X.N[i]? = some x) (hx : Loc X.env.scope x) (hf : X.fn x = true ∨ X.env.scope.names.lookup x = some .local := by first | exact .inl rfl | exact .inr rfl | assumption) : EG X S (.Name x pos) v σ (σ.set i (some v)) := fun H _ Q q => hg_of (pg_name hN hi hx hf) q
/-- two names from a pair -/
theorem eg_pair {X : Cx} {S : Hp} {d1 d2 : PyData} {v : V} {σ : L2.St} {i j : Nat} {x y : Str} {px py pos : Pos} {kk : Nat} (hc : X.calm = true) (hN : X.N.Nodup) (hi : X.N[i]? = some x) (hj : X.N[j]? = some y) (hx : Loc X.env.scope x) (hy : Loc X.env.scope y) (h : Dt X.K (.tuple [d1, d2]) v S)
    (hfx : X.fn x = true ∨ X.env.scope.names.lookup x = some .local := by first | exact .inl rfl | exact .inr rfl) (hfy : X.fn y = true ∨ X.env.scope.names.lookup y = some .local := by first | exact .inl rfl | exact .inr rfl)
    (hn : (assignEach [.Name x px, .Name y py] X.env).length = 2 := by rfl) (hst : (assignEach [.Name x px, .Name y py] X.env).findIdx? (·.1) = none := by rfl)
    (h1 : (assignEach [.Name x px, .Name y py] X.env).map (·.2) = assign (.Name x px) X.env :: (assignEach [.Name y py] X.env).map (·.2) := by rfl) (h2 : (assignEach [.Name y py] X.env).map (·.2) = assign (.Name y py) X.env :: (assignEach [] X.env).map (·.2) := by rfl) :
    ∃ v1 v2, Dt X.K d1 v1 S ∧ Dt X.K d2 v2 S ∧ EG X S (.Tuple [.Name x px, .Name y py] kk pos) v σ ((σ.set i (some v1)).set j (some v2)) := by
  obtain ⟨l, xs, rfl, hl, hx', _⟩ := h.tup_inv
  obtain ⟨v1, e1, p1⟩ := hx'.get (i := 0) rfl
  obtain ⟨v2, e2, p2⟩ := hx'.get (i := 1) rfl
  have hxs : xs = [v1, v2] := by
    have hl2 := hx'.1
    match xs, hl2 with
    | [u, w], _ => simp at e1 e2; rw [e1, e2]
  subst hxs
  exact ⟨v1, v2, p1, p2, fun H s Q q => hg_of (pg_tup hc (pgs_cons (pg_name hN hi hx hfx) (pgs_cons (pg_name hN hj hy hfy) pgs_nil h2) h1) hn hst) ⟨l, _, rfl, sqt_up s hl, rfl, _, _, rfl, _, _, rfl, rfl, q⟩⟩
theorem paired_snoc {α β : Type} {G : α → β → Prop} : ∀ {l : List α} {r : List β} {x : α} {y : β}, Paired G l r → G x y → Paired G (l ++ [x]) (r ++ [y])
  | _, _, _, _, .nil, h => .cons h .nil
  | _, _, _, _, .cons g t, h => .cons g (paired_snoc t h)
theorem paired_map {α β : Type} {f : α → β} : ∀ {l : List α} {r : List β}, Paired (fun a b => b = f a) l r → r = l.map f
  | _, _, .nil => rfl
  | _, _, .cons g t => by rw [g, paired_map t]; rfl
theorem take_snoc {α : Type} {l : List α} {i : Nat} {x : α} (h : l[i]? = some x) : l.take (i + 1) = l.take i ++ [x] := by
  rw [List.take_add_one, h]
  rfl
def gBlk (X : Cx) (scope : Scope) (tg : Expr) : TG := fun v σ' H' Q' => ∀ (s : Shared) (H0 : Hp) (C : Addr) (cl : List (Str × Addr)) (fp : List Addr), HG (X.blk s H0 scope (compEnvC scope cl C X.env) fp) tg v σ' H' Q'
def tBlk (X : Cx) (scope : Scope) (ifs : List Expr) : TT := fun σ' H' Q' => ∀ (s : Shared) (H0 : Hp) (C : Addr) (cl : List (Str × Addr)) (fp : List Addr), HTs (X.blk s H0 scope (compEnvC scope cl C X.env) fp) ifs σ' H' Q'
def eBlk (X : Cx) (scope : Scope) (e : Expr) : TE := fun σ' H' Q' => ∀ (s : Shared) (H0 : Hp) (C : Addr) (cl : List (Str × Addr)) (fp : List Addr), HE (X.blk s H0 scope (compEnvC scope cl C X.env) fp) e σ' H' Q'
section
variable {X : Cx} {σ : L2.St} {S : Hp} {elt tg iter : Expr} {ifs : List Expr} {scope : Scope} {own : List (Str × Nat)} {pos : Pos} {ds : List PyData} {p : PyData → Bool} {G : PyData → PyData → Prop}
theorem lc_loopG (hz : ds.length ≤ sizeLine)
    (hel : ∀ d ∈ ds, ∀ v S', Same S S' → Dt X.K d v S' → ∃ τ, wipe τ (own.map (·.2)) = wipe σ (own.map (·.2)) ∧ ∀ (s : Shared) (H0 : Hp) (C : Addr) (cl : List (Str × Addr)) (fp : List Addr),
      EG (X.blk s H0 scope (compEnvC scope cl C X.env) fp) S' tg v (wipe σ (own.map (·.2))) τ ∧ ETs (X.blk s H0 scope (compEnvC scope cl C X.env) fp) τ S' ifs (p d) ∧ (p d = true → EE (X.blk s H0 scope (compEnvC scope cl C X.env) fp) τ S' elt (Ex X.K (G d)))) {H : Hp} (Q : VK) (q : ∀ v S' H', Gr S H S' H' → (∃ rs, Paired G (ds.filter p) rs ∧ Dt X.K (.list rs) v S') → Q v H') {J : It} {S1 H1 : Hp} (g1 : Gr S H S1 H1) (it : ItP J S1 (Ds X.K ds)) :
    ∀ D, H1 D = none → ∃ W : Nat → Nat → Hp → Prop, (∃ m, W 0 m (upd H1 D (.lst []))) ∧ ∀ i m H, W i m H →
      (J.stop i H ∧ Q (.ref D) H) ∨ (J.go i H ∧ ∃ Nx : Hp → Prop, (∀ H', Nx H' → ∃ m', m' < m ∧ W (i + 1) m' H') ∧ ∀ x H', J.yld i H x H' → gBlk X scope tg x (wipe σ (own.map (·.2))) H' fun σ2 H2 => wipe σ2 (own.map (·.2)) = wipe σ (own.map (·.2)) ∧ tBlk X scope ifs σ2 H2 fun b H3 =>
        if b = true then eBlk X scope elt σ2 H3 fun y H4 => ∃ acc, H4 D = some (.lst acc) ∧ acc.length < sizeLine ∧ Nx (upd H4 D (.lst (acc ++ [y]))) else Nx H3) := by
  intro D hD
  have hD1 : S1 D = none := g1.sub.free hD
  have hlen : (Ds X.K ds).length = ds.length := ds_len
  refine lc_it (g := gBlk X scope tg) (tt := tBlk X scope ifs) (te := eBlk X scope elt) (vs := own.map (·.2)) (σ := σ) (Qd := Q (.ref D)) it (fun i H' => ∃ S' xs rs, Same S1 S' ∧ Same S' H' ∧ Same H1 H' ∧ (∀ a o, H1 a = some o → NT o → S' a = S1 a) ∧ S' D = none ∧ H' D = some (.lst xs) ∧ Paired G ((ds.take i).filter p) rs ∧ Dts X.K rs xs S' ∧ xs.length ≤ i)
    ⟨S1, [], [], Same.refl _, Same.mut g1.sub hD1, Same.new hD, fun _ _ _ _ => rfl, hD1, upd_same, .nil, .nil, Nat.le_refl _⟩ (fun i H' _ ⟨S', _, _, a, b, _⟩ => a.trans b) ?_ ?_
  · intro i x H2 H3 hi2 ⟨S2, xs, rs, k1, k2, k3, k4, k5, k6, k7, k8, k9⟩ y
    rw [hlen] at hi2
    obtain ⟨S3, g3, P, hP, px⟩ := y S2 k1 k2
    obtain ⟨d, hd⟩ : ∃ d, ds[i]? = some d := ⟨ds[i], List.getElem?_eq_getElem hi2⟩
    rw [ds_get hd] at hP
    obtain rfl := Option.some.inj hP
    have sS3 : Same S S3 := g1.st.trans (k1.trans g3.st)
    obtain ⟨τ, hw, hb⟩ := hel d (List.mem_of_getElem? hd) x S3 sS3 px
    have hf : ∀ q, p d = q → (ds.take (i + 1)).filter p = (ds.take i).filter p ++ (if q = true then [d] else []) := fun q hq => by
      rw [take_snoc hd, List.filter_append]
      cases q with
      | true => simp [hq]
      | false => simp [hq]
    intro sh H0 C cl fp
    refine (hb sh H0 C cl fp).1 H3 g3.sub _ ⟨hw, ?_⟩
    intro sh' H0' C' cl' fp'
    refine (hb sh' H0' C' cl' fp').2.1 H3 g3.sub _ fun S4 H4 g4 => ?_
    have g34 := g3.trans g4
    cases hpd : p d with
    | false =>
      refine iteF ⟨S4, xs, rs, k1.trans g34.st, g34.sub, k3.trans g34.hh, fun a o h n => (g34.old a o (k3 a o h) n).trans (k4 a o h n), (g34.old D _ k6 (fun _ z => nomatch z)).trans k5, g34.hh _ _ k6, ?_, k8.up g34.st, by omega⟩
      rw [hf false hpd]
      simpa using k7
    | true =>
      refine iteT ?_
      intro sh'' H0'' C'' cl'' fp''
      refine ((hb sh'' H0'' C'' cl'' fp'').2.2 hpd).up g4.st H4 g4.sub _ fun w S5 H5 g5 ⟨r, hr, hrw⟩ => ?_
      have g := g34.trans g5
      have hD5 : S5 D = none := (g.old D _ k6 (fun _ z => nomatch z)).trans k5
      refine ⟨xs, g.hh _ _ k6, Nat.lt_of_le_of_lt k9 (Nat.lt_of_lt_of_le hi2 hz), S5, xs ++ [w], rs ++ [r], k1.trans g.st, Same.mut g.sub hD5, fun a o h => ?_, fun a o h n => (g.old a o (k3 a o h) n).trans (k4 a o h n), hD5, upd_same, ?_, (k8.up g.st).snoc hrw, by rw [List.length_append]; show xs.length + 1 ≤ i + 1; omega⟩
      · rw [upd_ne (ne_of_none h hD)]; exact g.hh _ _ (k3 a o h)
      · rw [hf true hpd]
        exact paired_snoc k7 hr
  · intro H2 ⟨S2, xs, rs, k1, k2, k3, k4, k5, k6, k7, k8, k9⟩
    rw [hlen] at k7 k9
    rw [List.take_length] at k7
    refine q _ (upd S2 D (.lst xs)) H2 (g1.trans ⟨k1.trans (Same.new k5), fun a o h => ?_, k3, fun a o h n => by rw [upd_ne (ne_of_none h hD)]; exact k4 a o h n⟩) ⟨rs, k7, Dt.lst_mk upd_same (k8.up (Same.new k5)) (Nat.le_trans k9 hz)⟩
    by_cases ha : a = D
    · subst ha; rw [upd_same] at h; rw [k6]; exact h
    · rw [upd_ne ha] at h; exact k2 a o h
theorem lc_readG (hi : EI X σ S tg iter (Ds X.K ds)) (hz : ds.length ≤ sizeLine)
    (hel : ∀ d ∈ ds, ∀ v S', Same S S' → Dt X.K d v S' → ∃ τ, wipe τ (own.map (·.2)) = wipe σ (own.map (·.2)) ∧ ∀ (s : Shared) (H0 : Hp) (C : Addr) (cl : List (Str × Addr)) (fp : List Addr),
      EG (X.blk s H0 scope (compEnvC scope cl C X.env) fp) S' tg v (wipe σ (own.map (·.2))) τ ∧ ETs (X.blk s H0 scope (compEnvC scope cl C X.env) fp) τ S' ifs (p d) ∧ (p d = true → EE (X.blk s H0 scope (compEnvC scope cl C X.env) fp) τ S' elt (Ex X.K (G d)))) {H : Hp} (s : Same S H) (Q : VK) (q : ∀ v S' H', Gr S H S' H' → (∃ rs, Paired G (ds.filter p) rs ∧ Dt X.K (.list rs) v S') → Q v H') :
    tLc (bI X tg iter) (gBlk X scope tg) (tBlk X scope ifs) (eBlk X scope elt) (own.map (·.2)) σ H Q := hi H s _ fun J S1 H1 g1 it => lc_loopG hz hel Q q g1 it
theorem ee_lcG (hc : X.calm = true) (hN : X.N.Nodup) (ok : BlkOk X.N X.env.scope scope own) (hi : EI X σ S tg iter (Ds X.K ds)) (hz : ds.length ≤ sizeLine)
    (hel : ∀ d ∈ ds, ∀ v S', Same S S' → Dt X.K d v S' → ∃ τ, wipe τ (own.map (·.2)) = wipe σ (own.map (·.2)) ∧ ∀ (s : Shared) (H0 : Hp) (C : Addr) (cl : List (Str × Addr)) (fp : List Addr),
      EG (X.blk s H0 scope (compEnvC scope cl C X.env) fp) S' tg v (wipe σ (own.map (·.2))) τ ∧ ETs (X.blk s H0 scope (compEnvC scope cl C X.env) fp) τ S' ifs (p d) ∧ (p d = true → EE (X.blk s H0 scope (compEnvC scope cl C X.env) fp) τ S' elt (Ex X.K (G d))))
    (hs : ∀ x, foldedSetIterable iter X.env x = pure x := by intro _; rfl) :
    EE X σ S (.ListComp elt [⟨tg, iter, ifs, 0⟩] scope pos) (fun v S' => ∃ rs, Paired G (ds.filter p) rs ∧ Dt X.K (.list rs) v S') := fun H s Q q =>
  he_of (pe_lc (own := own) (wi := bI X tg iter) (g := gBlk X scope tg) (tt := tBlk X scope ifs) (te := eBlk X scope elt) hc hN pib ok
    (fun s H0 C cl fp => ⟨fun pins sh σ' H' v u Q' I r h => h s H0 C cl fp pins sh u I r⟩) (fun s H0 C cl fp => ⟨fun pins sh σ' H' Q' I h => h s H0 C cl fp pins sh I⟩) (fun s H0 C cl fp => ⟨fun pins sh σ' H' Q' I h => h s H0 C cl fp pins sh I⟩) hs) (lc_readG hi hz hel s Q q)
/-- each item by a function, under a test -/
theorem fun_of_G {f : PyData → PyData} {v : V} {S' : Hp} {K : PySem.W.Frag} (h : ∃ rs, Paired (fun d r => r = f d) (ds.filter p) rs ∧ Dt K (.list rs) v S') : Dt K (.list ((ds.filter p).map f)) v S' := by
  obtain ⟨rs, h1, h2⟩ := h
  rw [paired_map h1] at h2
  exact h2
end
end Z
namespace Z
open PySem PySem.Spec PyProof.Rows L2
/-! ## 10. statements -/
section
variable {X : Cx} {σ : L2.St} {S H : Hp} {e a b c : Expr} {P : V → Hp → Prop} {pos p : Pos} {D : Ends} {rest body orelse : List Stmt} {k : Bool} {st : Stmt} {d d1 d2 : PyData} {ds : List PyData}
theorem hs_cons {t : TS} (h : PS X st t) (q : t { D with nx := fun σ' H' => HS X D rest σ' H' } σ H) : HS X D (st :: rest) σ H := hs_of (pss_cons h psb) q
theorem hs_nil (q : D.nx σ H) : HS X D [] σ H := hs_of pss_nil q
theorem hs_set {i : Nat} {x : Str} {pos' : Pos} (h : EE X σ S e P) (s : Same S H) (hN : X.N.Nodup) (q : ∀ v S' H', Gr S H S' H' → P v S' → HS X D rest (σ.set i (some v)) H') (hi : X.N[i]? = some x := by rfl) (hx : Loc X.env.scope x := by first | exact Or.inl rfl | exact Or.inr rfl)
    (hs : swapsWith e (some (.Name x pos')) pos.line X.env = pure false := by rfl) (hf : X.fn x = true ∨ X.env.scope.names.lookup x = some .local := by first | exact .inl rfl | exact .inr rfl | assumption) : HS X D (.Assign [.Name x pos'] e pos :: rest) σ H :=
  hs_cons (ps_set hN hi hx peb hs hf) (h H s _ fun v S' H' g pv => q v S' H' g pv)
theorem hs_ret (h : EE X σ S e P) (s : Same S H) (q : ∀ v S' H', Gr S H S' H' → P v S' → D.rt v H') : HS X D (.Return (some e) pos :: rest) σ H := hs_cons (ps_ret peb) (h H s _ q)
theorem hs_expr (h : EE X σ S e P) (s : Same S H) (q : ∀ v S' H', Gr S H S' H' → P v S' → HS X D rest σ H') (hs : swapsWith e none pos.line X.env = pure false := by rfl) : HS X D (.Expr e pos :: rest) σ H := hs_cons (ps_expr peb hs) (h H s _ q)
/-- the ends of a block that stands ahead of rest -/
def Dn (X : Cx) (D : Ends) (rest : List Stmt) : Ends := { D with nx := fun σ' H' => HS X D rest σ' H' }
theorem hs_if (h : ET X σ S c k) (s : Same S H) (qt : k = true → ∀ S' H', Gr S H S' H' → HS X (Dn X D rest) body σ H') (qf : k = false → ∀ S' H', Gr S H S' H' → HS X (Dn X D rest) orelse σ H') : HS X D (.If c body orelse pos :: rest) σ H :=
  hs_cons (ps_if ptb psb psb) (h H s _ fun S' H' g => by
    cases k with
    | true => exact iteT (qt rfl S' H' g)
    | false => exact iteF (qf rfl S' H' g))
theorem hs_ifT (h : ET X σ S c true) (s : Same S H) (q : ∀ S' H', Gr S H S' H' → HS X (Dn X D rest) body σ H') : HS X D (.If c body orelse pos :: rest) σ H := hs_if h s (fun _ => q) (fun z => nomatch z)
/-- not taken, and there is no else -/
theorem hs_ifN (h : ET X σ S c false) (s : Same S H) (q : ∀ S' H', Gr S H S' H' → HS X D rest σ H') : HS X D (.If c body [] pos :: rest) σ H := hs_if h s (fun z => nomatch z) (fun _ S' H' g => hs_nil (q S' H' g))
theorem mn_eq {v : V} : Mn (fun (w : V) (_ : Hp) => w = v) := ⟨fun _ h => h⟩
/-- a, b = x, y with plain names -/
theorem hs_par {i j : Nat} {x y : Str} {Pa Pb : V → Hp → Prop} [Mn Pa] [Mn Pb] {px py pt : Pos} {kt k2 pt2} (hc : X.calm = true) (hN : X.N.Nodup) (ha : EE X σ S a Pa) (hb : EE X σ S b Pb) (s : Same S H)
    (hw : swappedStores [.Tuple [.Name x px, .Name y py] kt pt] (.Tuple [a, b] k2 pt2) X.env = pure (some [x, y]))
    (q : ∀ v w S' H', Gr S H S' H' → Pa v S' → Pb w S' → HS X D rest ((σ.set i (some v)).set j (some w)) H')
    (hi : X.N[i]? = some x := by rfl) (hj : X.N[j]? = some y := by rfl) (hij : i ≠ j := by decide) (hx : X.env.scope.names.lookup x = some .local := by rfl) (hy : X.env.scope.names.lookup y = some .local := by rfl)
    (hs : starEach [a, b] X.env = (false, eval a X.env) :: starEach [b] X.env := by rfl) (hs2 : starEach [b] X.env = (false, eval b X.env) :: starEach [] X.env := by rfl)
    (hss : swapsWithSole [.Tuple [.Name x px, .Name y py] kt pt] (.Tuple [a, b] k2 pt2) pos.line X.env = pure false := by rfl) : HS X D (.Assign [.Tuple [.Name x px, .Name y py] kt pt] (.Tuple [a, b] k2 pt2) pos :: rest) σ H :=
  hs_cons (ps_par hc hN hi hj hij hx hy pab hw hss) ((ea_2 ha hb hs hs2).2 H s _ fun vs S' H' g al => by
    obtain ⟨v, w, rfl, p1, p2⟩ := al.two
    exact ⟨v, w, rfl, q v w S' H' g p1 p2⟩)
/-- a, b = e, e a pair -/
theorem hs_unpack {i j : Nat} {x y : Str} {px py pt : Pos} {kt : Nat} (hc : X.calm = true) (hN : X.N.Nodup) (ha : EE X σ S e (Dt X.K (.tuple [d1, d2]))) (s : Same S H)
    (q : ∀ v w S' H', Gr S H S' H' → Dt X.K d1 v S' → Dt X.K d2 w S' → HS X D rest ((σ.set i (some v)).set j (some w)) H')
    (hi : X.N[i]? = some x := by rfl) (hj : X.N[j]? = some y := by rfl) (hx : Loc X.env.scope x := by first | exact Or.inl rfl | exact Or.inr rfl) (hy : Loc X.env.scope y := by first | exact Or.inl rfl | exact Or.inr rfl)
    (hfx : X.fn x = true ∨ X.env.scope.names.lookup x = some .local := by first | exact .inl rfl | exact .inr rfl) (hfy : X.fn y = true ∨ X.env.scope.names.lookup y = some .local := by first | exact .inl rfl | exact .inr rfl)
    (hn : (assignEach [.Name x px, .Name y py] X.env).length = 2 := by rfl) (hst : (assignEach [.Name x px, .Name y py] X.env).findIdx? (·.1) = none := by rfl)
    (h1 : (assignEach [.Name x px, .Name y py] X.env).map (·.2) = assign (.Name x px) X.env :: (assignEach [.Name y py] X.env).map (·.2) := by rfl) (h2 : (assignEach [.Name y py] X.env).map (·.2) = assign (.Name y py) X.env :: (assignEach [] X.env).map (·.2) := by rfl)
    (hss : swapsWithSole [.Tuple [.Name x px, .Name y py] kt pt] e pos.line X.env = pure false := by rfl) (hw : swappedStores [.Tuple [.Name x px, .Name y py] kt pt] e X.env = pure none := by rfl)
    (h3 : (assignEach [.Tuple [.Name x px, .Name y py] kt pt] X.env).map (·.2) = [assign (.Tuple [.Name x px, .Name y py] kt pt) X.env] := by rfl) : HS X D (.Assign [.Tuple [.Name x px, .Name y py] kt pt] e pos :: rest) σ H :=
  hs_cons (ps_asg peb pgb hss hw h3) (ha H s _ fun v S' H' g pv => by
    obtain ⟨v1, v2, p1, p2, hg⟩ := eg_pair (σ := σ) (px := px) (py := py) (pos := pt) (kk := kt) hc hN hi hj hx hy pv hfx hfy hn hst h1 h2
    exact hg H' g.sub _ (q v1 v2 S' H' g p1 p2))
theorem hs_mono {D' : Ends} {st : List Stmt} (h : HS X D st σ H) (h1 : ∀ σ H, D.nx σ H → D'.nx σ H) (h2 : ∀ v H, D.rt v H → D'.rt v H) (h3 : ∀ σ H, D.bk σ H → D'.bk σ H) (h4 : ∀ σ H, D.ct σ H → D'.ct σ H) : HS X D' st σ H := fun pins s I => thn (h pins s I) fun f s' q => by
  cases f with
  | next => obtain ⟨σ', H', I', z⟩ := q; exact ⟨σ', H', I', h1 _ _ z⟩
  | brk => obtain ⟨σ', H', I', z⟩ := q; exact ⟨σ', H', I', h3 _ _ z⟩
  | cont => obtain ⟨σ', H', I', z⟩ := q; exact ⟨σ', H', I', h4 _ _ z⟩
  | ret u => obtain ⟨v, σ', H', I', r, z⟩ := q; exact ⟨v, σ', H', I', r, h2 _ _ z⟩
/-- the ends of a turn: Iv again behind it -/
def Dl (X : Cx) (D : Ends) (rest : List Stmt) (S H : Hp) (Iv : L2.St → Hp → Prop) : Ends :=
  { D with nx := fun σ' H' => ∃ S', Gr S H S' H' ∧ Iv σ' S', ct := fun σ' H' => ∃ S', Gr S H S' H' ∧ Iv σ' S', bk := fun σ' H' => HS X D rest σ' H' }
/-- for, nothing that stands is changed -/
theorem hs_for {tg iter : Expr} {Ps : List (V → Hp → Prop)} (Iv : Nat → L2.St → Hp → Prop) (hp : PassesOwn (model X.prog X.w) X.A X.env X.xe) (hc : X.calm = true) (hi : EI X σ S tg iter Ps) (s : Same S H) (h0 : ∀ S' H', Gr S H S' H' → Iv 0 σ S')
    (step : ∀ i P σ1 S1 H1 x S2 H2, Ps[i]? = some P → Gr S H S1 H1 → Iv i σ1 S1 → Gr S1 H1 S2 H2 → P x S2 → HG X tg x σ1 H2 fun σ3 H3 => HS X (Dl X D rest S2 H2 (Iv (i + 1))) body σ3 H3)
    (done : ∀ σ1 S1 H1, Gr S H S1 H1 → Iv Ps.length σ1 S1 → HS X D rest σ1 H1)
    (hs : ∀ x, foldedSetIterable iter X.env x = pure x := by intro _; rfl) : HS X D (.For tg iter body [] pos :: rest) σ H :=
  hs_cons (ps_for hp hc pib pgb psb hs) (hi H s _ fun J S1 H1 g1 it => for_it (g := bG X tg) (tb := bS X body) it (fun i σ' H' => ∃ S', Gr S1 H1 S' H' ∧ Iv i σ' S') ⟨S1, Gr.refl g1.sub, h0 S1 H1 g1⟩ (fun i σ' H' _ ⟨S', g, _⟩ => g.st.trans g.sub)
    (fun i x σ' H2 H3 hlt ⟨S2, g2, iv⟩ y => by
      obtain ⟨S3, g3, P, hP, px⟩ := y S2 g2.st g2.sub
      intro pins sh u I r
      refine thn ((step i P σ' S2 H2 x S3 H3 hP (g1.trans g2) iv g3 px) pins sh u I r) fun _ s' ⟨σ4, H4, I4, q4⟩ => ⟨σ4, H4, I4, ?_⟩
      exact hs_mono q4 (fun σ5 H5 ⟨S5, g5, iv5⟩ => ⟨S5, g2.trans (g3.trans g5), iv5⟩) (fun _ _ z => z) (fun _ _ z => z) (fun σ5 H5 ⟨S5, g5, iv5⟩ => ⟨S5, g2.trans (g3.trans g5), iv5⟩)) (fun σ' H' ⟨S', g, iv⟩ => done σ' S' H' (g1.trans g) iv))
end
/-! ## 11. defs -/
/-- a def that is known: where it stands, what it promises (no exception leaves it) -/
structure KD (P : Program) (w : World) (K : PySem.W.Frag) (mg : Str → Option Value) (base : Heap) (x : Str) (k : Nat) (sp : Sp) : Prop where
  ex : ∃ f fd ps, FnOk P w K mg base CX0 k f fd ps sp ∧ mg x = some (.ref f) ∧ PySem.W.keepIn K (.ref f) = true ∧ Binds K fd ps []
theorem KD.mono {P : Program} {w : World} {K : PySem.W.Frag} {mg : Str → Option Value} {base : Heap} {x : Str} {j k : Nat} {sp : Sp} (h : KD P w K mg base x j sp) (hk : j ≤ k) : KD P w K mg base x k sp := by
  obtain ⟨f, fd, ps, F, r⟩ := h.ex
  exact ⟨f, fd, ps, F.mono hk, r⟩
section
variable {X : Cx} {σ : L2.St} {S S' : Hp} {e a b c : Expr} {es : List Expr} {P R : V → Hp → Prop} {Ps : List (V → Hp → Prop)} {pos p : Pos} {k : Nat} {x : Str} {sp : Sp} {d : PyData} {ds : List PyData}
def SpE (sp : Sp) (S : Hp) (Ps : List (V → Hp → Prop)) (R : V → Hp → Prop) : Prop := ∀ vs S1 H1, Same S S1 → Same S1 H1 → Al Ps vs S1 → ∀ Q : VK, (∀ v S2 H2, Gr S1 H1 S2 H2 → R v S2 → Q v H2) → sp vs H1 Q E0
theorem ee_call (D : KD X.prog X.w X.K X.mg X.base x k sp) (hr : Room k X.A) (ha : EA X σ S (e :: es) Ps) (hsp : SpE sp S Ps R) (hg : Gl X x := by rfl) (hdb : (x == ("__debug__" : Str)) = false := by decide)
    (he : starEach (e :: es) X.env = (false, eval e X.env) :: starEach es X.env := by rfl) (hpl : (backTo pos (starEach es X.env)).any (·.1) = false := by rfl) : EE X σ S (.Call (.Name x p) (e :: es) [] pos) R := fun H s Q q => by
  obtain ⟨f, fd, ps, F, hm, hk, hb⟩ := D.ex
  refine he_of (pe_call F hr hg hm hk hb .nil pass0 pab hdb he hpl) (ha.2 H s _ fun vs S1 H1 g1 al => ?_)
  rw [List.append_nil]
  exact hsp vs S1 H1 g1.st g1.sub al Q fun v S2 H2 g2 rv => q v S2 H2 (g1.trans g2) rv
/-- a def of data: F tells what it gives -/
def spD (K : PySem.W.Frag) (F : List PyData → PyData → Prop) : Sp := fun vs H Q _ => ∃ S ds d, Same S H ∧ Dts K ds vs S ∧ F ds d ∧ ∀ v S' H', Gr S H S' H' → Dt K d v S' → Q v H'
theorem spD_E {F : List PyData → PyData → Prop} (hF : F ds d) : SpE (spD X.K F) S (Ds X.K ds) (Dt X.K d) := fun vs S1 H1 _ s al Q q => ⟨S1, ds, d, s, al_dts al, hF, q⟩
theorem ee_callD {F : List PyData → PyData → Prop} (D : KD X.prog X.w X.K X.mg X.base x k (spD X.K F)) (hr : Room k X.A) (hF : F ds d) (ha : EA X σ S (e :: es) (Ds X.K ds)) (hg : Gl X x := by rfl) (hdb : (x == ("__debug__" : Str)) = false := by decide)
    (he : starEach (e :: es) X.env = (false, eval e X.env) :: starEach es X.env := by rfl) (hpl : (backTo pos (starEach es X.env)).any (·.1) = false := by rfl) : EE X σ S (.Call (.Name x p) (e :: es) [] pos) (Dt X.K d) :=
  ee_call D hr ha (spD_E hF) hg hdb he hpl
end
section
variable {P : Program} {w : World} {K : PySem.W.Frag} {mg : Str → Option Value} {base : Heap} {x qual : Str} {params : Arguments} {body : List Stmt} {scope : Scope} {dvs : List V} {kws : List (Str × V)} {f : Addr} {fd : FuncData} {N ps : List Str} {k : Nat} {sp : Sp}
/-- a def by its body -/
theorem fn_hs (F : FunD K x qual params body scope dvs kws f fd) (Sc : FnScope N ps scope) (len : ∀ vs H Q E, sp vs H Q E → vs.length = ps.length)
    (hb : ∀ (cdv : Value) (A : Around) (outer : List Env) (s : Shared) (H : Hp) (vs : List V) (Q : VK) (E : XK), Room k (A.deeper (envOfC qual scope s.heap.objs.size f cdv)) → sp vs H Q E →
      HS (cxOf CX0 P w K mg base N qual scope f cdv A outer s H E).nox { nx := fun _ H' => Q .non H', rt := Q } body (start N vs) H) : FnOk P w K mg base CX0 (k + 1) f fd ps sp :=
  F.ok Sc len fun cdv A outer s H vs Q E hr h => ⟨_, PSs.nox psb, hb cdv A outer s H vs Q E hr h⟩
theorem kd_mk (F : FunD K x qual params body scope [] kws f fd) (G : FnOk P w K mg base CX0 k f fd ps sp) (hm : mg x = some (.ref f)) (hb : Binds K fd ps []) : KD P w K mg base x k sp := ⟨f, fd, ps, G, hm, F.kp, hb⟩
end
end Z
namespace Z
open PySem PySem.Spec PyProof.Rows L2
theorem Dts.one {K : PySem.W.Frag} {d : PyData} {vs : List V} {S : Hp} (h : Dts K [d] vs S) : ∃ v, vs = [v] ∧ Dt K d v S := (dts_al h).one
theorem Dts.two {K : PySem.W.Frag} {d e : PyData} {vs : List V} {S : Hp} (h : Dts K [d, e] vs S) : ∃ v w, vs = [v, w] ∧ Dt K d v S ∧ Dt K e w S := (dts_al h).two
theorem Dts.three {K : PySem.W.Frag} {d e g : PyData} {vs : List V} {S : Hp} (h : Dts K [d, e, g] vs S) : ∃ v w u, vs = [v, w, u] ∧ Dt K d v S ∧ Dt K e w S ∧ Dt K g u S := (dts_al h).three
end Z
namespace Z
open PySem PySem.Spec PyProof.Rows L2
/-! ## 12. comprehensions in short -/
def tupP (q : PyData × PyData) : PyData := .tuple [q.1, q.2]
theorem zipD_eq (xs ys : List PyData) : zipD xs ys = (xs.zip ys).map tupP := by
  unfold zipD
  rw [List.zip_eq_zipWith, List.map_zipWith]
  rfl
section
variable {X : Cx} {σ : L2.St} {S : Hp} {elt iter : Expr} {ifs : List Expr} {scope : Scope} {pos px py tp : Pos} {ds : List PyData} {ps : List (PyData × PyData)} {α : Type} {enc : α → PyData} {i j kk : Nat} {x y : Str}
theorem wipe1 {σ : L2.St} {i : Nat} {v : Option V} : wipe ((wipe σ [i]).set i v) [i] = wipe σ [i] := by
  show (((σ.set i none).set i v).set i none) = σ.set i none
  rw [List.set_set, List.set_set]
theorem filter_true {α : Type} (l : List α) : l.filter (fun _ => true) = l := by
  induction l with
  | nil => rfl
  | cons a l ih => rw [List.filter_cons]; simp
/-- [elt for x in iter if t] -/
theorem ee_lcf {p : PyData → Bool} {f : PyData → α} (hc : X.calm = true) (hN : X.N.Nodup) (ok : BlkOk X.N X.env.scope scope [(x, i)]) (hi : EI X σ S (.Name x px) iter (Ds X.K ds)) (hz : ds.length ≤ sizeLine)
    (hel : ∀ d ∈ ds, ∀ v S', Same S S' → Dt X.K d v S' → ∀ (s : Shared) (H0 : Hp) (C : Addr) (cl : List (Str × Addr)) (fp : List Addr),
      ETs (X.blk s H0 scope (compEnvC scope cl C X.env) fp) ((wipe σ [i]).set i (some v)) S' ifs (p d) ∧ (p d = true → EE (X.blk s H0 scope (compEnvC scope cl C X.env) fp) ((wipe σ [i]).set i (some v)) S' elt (Dt X.K (enc (f d)))))
    (hix : X.N[i]? = some x := by rfl) (hx : ∀ (s : Shared) (H0 : Hp) (C : Addr) (cl : List (Str × Addr)) (fp : List Addr), Loc (X.blk s H0 scope (compEnvC scope cl C X.env) fp).env.scope x ∧ ((X.blk s H0 scope (compEnvC scope cl C X.env) fp).fn x = true ∨ (X.blk s H0 scope (compEnvC scope cl C X.env) fp).env.scope.names.lookup x = some .local) := by
      intros; exact ⟨by first | exact Or.inl rfl | exact Or.inr rfl, by first | exact .inl rfl | exact .inr rfl⟩)
    (hs : ∀ x, foldedSetIterable iter X.env x = pure x := by intro _; rfl) :
    EE X σ S (.ListComp elt [⟨.Name x px, iter, ifs, 0⟩] scope pos) (Dt X.K (.list (((ds.filter p).map f).map enc))) := by
  refine (ee_lcG (own := [(x, i)]) (p := p) (G := fun d r => r = enc (f d)) hc hN ok hi hz (fun d hd v S' s hv => ⟨(wipe σ [i]).set i (some v), wipe1, fun sh H0 C cl fp => ?_⟩) hs).imp fun v S' h => ?_
  · obtain ⟨h1, h2⟩ := hel d hd v S' s hv sh H0 C cl fp
    obtain ⟨k1, k2⟩ := hx sh H0 C cl fp
    exact ⟨eg_name hN hix k1 k2, h1, fun hp => (h2 hp).imp fun w S2 hw => ⟨_, rfl, hw⟩⟩
  · have e : (ds.filter p).map (fun d => enc (f d)) = ((ds.filter p).map f).map enc := by rw [List.map_map]; rfl
    rw [← e]
    exact fun_of_G h
/-- [elt for x in iter] -/
theorem ee_lc {f : PyData → α} (hc : X.calm = true) (hN : X.N.Nodup) (ok : BlkOk X.N X.env.scope scope [(x, i)]) (hi : EI X σ S (.Name x px) iter (Ds X.K ds)) (hz : ds.length ≤ sizeLine)
    (hel : ∀ d ∈ ds, ∀ v S', Same S S' → Dt X.K d v S' → ∀ (s : Shared) (H0 : Hp) (C : Addr) (cl : List (Str × Addr)) (fp : List Addr), EE (X.blk s H0 scope (compEnvC scope cl C X.env) fp) ((wipe σ [i]).set i (some v)) S' elt (Dt X.K (enc (f d))))
    (hix : X.N[i]? = some x := by rfl) (hx : ∀ (s : Shared) (H0 : Hp) (C : Addr) (cl : List (Str × Addr)) (fp : List Addr), Loc (X.blk s H0 scope (compEnvC scope cl C X.env) fp).env.scope x ∧ ((X.blk s H0 scope (compEnvC scope cl C X.env) fp).fn x = true ∨ (X.blk s H0 scope (compEnvC scope cl C X.env) fp).env.scope.names.lookup x = some .local) := by
      intros; exact ⟨by first | exact Or.inl rfl | exact Or.inr rfl, by first | exact .inl rfl | exact .inr rfl⟩)
    (hs : ∀ x, foldedSetIterable iter X.env x = pure x := by intro _; rfl) :
    EE X σ S (.ListComp elt [⟨.Name x px, iter, [], 0⟩] scope pos) (Dt X.K (.list ((ds.map f).map enc))) :=
  (ee_lcf (p := fun _ => true) hc hN ok hi hz (fun d hd v S' s hv sh H0 C cl fp => ⟨ets_nil, fun _ => hel d hd v S' s hv sh H0 C cl fp⟩) hix hx hs).is (by rw [filter_true])
/-- [elt for x in iter], elements that are not fixed -/
theorem ee_lcN {F : PyData → PyData → Prop} (hc : X.calm = true) (hN : X.N.Nodup) (ok : BlkOk X.N X.env.scope scope [(x, i)]) (hi : EI X σ S (.Name x px) iter (Ds X.K ds)) (hz : ds.length ≤ sizeLine)
    (hel : ∀ d ∈ ds, ∀ v S', Same S S' → Dt X.K d v S' → ∀ (s : Shared) (H0 : Hp) (C : Addr) (cl : List (Str × Addr)) (fp : List Addr), EE (X.blk s H0 scope (compEnvC scope cl C X.env) fp) ((wipe σ [i]).set i (some v)) S' elt (Ex X.K (F d)))
    (hix : X.N[i]? = some x := by rfl) (hx : ∀ (s : Shared) (H0 : Hp) (C : Addr) (cl : List (Str × Addr)) (fp : List Addr), Loc (X.blk s H0 scope (compEnvC scope cl C X.env) fp).env.scope x ∧ ((X.blk s H0 scope (compEnvC scope cl C X.env) fp).fn x = true ∨ (X.blk s H0 scope (compEnvC scope cl C X.env) fp).env.scope.names.lookup x = some .local) := by
      intros; exact ⟨by first | exact Or.inl rfl | exact Or.inr rfl, by first | exact .inl rfl | exact .inr rfl⟩)
    (hs : ∀ x, foldedSetIterable iter X.env x = pure x := by intro _; rfl) :
    EE X σ S (.ListComp elt [⟨.Name x px, iter, [], 0⟩] scope pos) (Ex X.K fun d => ∃ rs, d = .list rs ∧ Paired F ds rs) := by
  refine (ee_lcG (own := [(x, i)]) (p := fun _ => true) (G := F) hc hN ok hi hz (fun d hd v S' s hv => ⟨(wipe σ [i]).set i (some v), wipe1, fun sh H0 C cl fp => ?_⟩) hs).imp fun v S' h => ?_
  · obtain ⟨k1, k2⟩ := hx sh H0 C cl fp
    exact ⟨eg_name hN hix k1 k2, ets_nil, fun _ => hel d hd v S' s hv sh H0 C cl fp⟩
  · obtain ⟨rs, h1, h2⟩ := h
    rw [filter_true] at h1
    exact ⟨_, ⟨rs, rfl, h1⟩, h2⟩
theorem wipe2 {σ : L2.St} {i j : Nat} {v w : Option V} (hij : i ≠ j) : wipe (((wipe σ [i, j]).set i v).set j w) [i, j] = wipe σ [i, j] := by
  show ((((((σ.set j none).set i none).set i v).set j w).set j none).set i none) = ((σ.set j none).set i none)
  rw [List.set_set, List.set_set, List.set_comm _ _ hij, List.set_set, List.set_set]
/-- [elt for x, y in iter if t] -/
theorem ee_lc2f {p : PyData × PyData → Bool} {f : PyData × PyData → α} (hc : X.calm = true) (hN : X.N.Nodup) (ok : BlkOk X.N X.env.scope scope [(x, i), (y, j)]) (hi : EI X σ S (.Tuple [.Name x px, .Name y py] kk tp) iter (Ds X.K (ps.map tupP))) (hz : ps.length ≤ sizeLine)
    (hel : ∀ q ∈ ps, ∀ v w S', Same S S' → Dt X.K q.1 v S' → Dt X.K q.2 w S' → ∀ (s : Shared) (H0 : Hp) (C : Addr) (cl : List (Str × Addr)) (fp : List Addr),
      ETs (X.blk s H0 scope (compEnvC scope cl C X.env) fp) (((wipe σ [i, j]).set i (some v)).set j (some w)) S' ifs (p q) ∧ (p q = true → EE (X.blk s H0 scope (compEnvC scope cl C X.env) fp) (((wipe σ [i, j]).set i (some v)).set j (some w)) S' elt (Dt X.K (enc (f q)))))
    (hij : i ≠ j := by decide) (hix : X.N[i]? = some x := by rfl) (hjy : X.N[j]? = some y := by rfl) (hx : ∀ (s : Shared) (H0 : Hp) (C : Addr) (cl : List (Str × Addr)) (fp : List Addr), (Loc (X.blk s H0 scope (compEnvC scope cl C X.env) fp).env.scope x ∧ ((X.blk s H0 scope (compEnvC scope cl C X.env) fp).fn x = true ∨ (X.blk s H0 scope (compEnvC scope cl C X.env) fp).env.scope.names.lookup x = some .local)) ∧
      (Loc (X.blk s H0 scope (compEnvC scope cl C X.env) fp).env.scope y ∧ ((X.blk s H0 scope (compEnvC scope cl C X.env) fp).fn y = true ∨ (X.blk s H0 scope (compEnvC scope cl C X.env) fp).env.scope.names.lookup y = some .local)) := by
      intros; exact ⟨⟨by first | exact Or.inl rfl | exact Or.inr rfl, by first | exact .inl rfl | exact .inr rfl⟩, ⟨by first | exact Or.inl rfl | exact Or.inr rfl, by first | exact .inl rfl | exact .inr rfl⟩⟩)
    (ha : ∀ (s : Shared) (H0 : Hp) (C : Addr) (cl : List (Str × Addr)) (fp : List Addr), (assignEach [.Name x px, .Name y py] (X.blk s H0 scope (compEnvC scope cl C X.env) fp).env).length = 2 ∧ (assignEach [.Name x px, .Name y py] (X.blk s H0 scope (compEnvC scope cl C X.env) fp).env).findIdx? (·.1) = none ∧
      (assignEach [.Name x px, .Name y py] (X.blk s H0 scope (compEnvC scope cl C X.env) fp).env).map (·.2) = assign (.Name x px) (X.blk s H0 scope (compEnvC scope cl C X.env) fp).env :: (assignEach [.Name y py] (X.blk s H0 scope (compEnvC scope cl C X.env) fp).env).map (·.2) ∧ (assignEach [.Name y py] (X.blk s H0 scope (compEnvC scope cl C X.env) fp).env).map (·.2) = assign (.Name y py) (X.blk s H0 scope (compEnvC scope cl C X.env) fp).env :: (assignEach [] (X.blk s H0 scope (compEnvC scope cl C X.env) fp).env).map (·.2) := by intros; exact ⟨rfl, rfl, rfl, rfl⟩)
    (hs : ∀ x, foldedSetIterable iter X.env x = pure x := by intro _; rfl) :
    EE X σ S (.ListComp elt [⟨.Tuple [.Name x px, .Name y py] kk tp, iter, ifs, 0⟩] scope pos) (Dt X.K (.list (((ps.filter p).map f).map enc))) := by
  have e0 : ∀ q ∈ ps.map tupP, ∃ r ∈ ps, q = tupP r := fun q hq => by
    obtain ⟨r, h1, h2⟩ := List.mem_map.mp hq
    exact ⟨r, h1, h2.symm⟩
  let un : PyData → PyData × PyData := fun d => match d with
    | .tuple [a, b] => (a, b)
    | _ => (.none, .none)
  have un_t : ∀ q, un (tupP q) = q := fun q => rfl
  refine (ee_lcG (own := [(x, i), (y, j)]) (p := fun d => p (un d)) (G := fun d r => r = enc (f (un d))) hc hN ok hi (by rw [List.length_map]; exact hz) (fun d hd v S' s hv => ?_) hs).imp fun v S' h => ?_
  · obtain ⟨q, hq, rfl⟩ := e0 d hd
    obtain ⟨l, xs, rfl, hl, hx', _⟩ := hv.tup_inv
    obtain ⟨v1, e1, p1⟩ := hx'.get (i := 0) (d := q.1) rfl
    obtain ⟨v2, e2, p2⟩ := hx'.get (i := 1) (d := q.2) rfl
    have hxs : xs = [v1, v2] := by
      have hl2 := hx'.1
      match xs, hl2 with
      | [u, w], _ => simp at e1 e2; rw [e1, e2]
    subst hxs
    refine ⟨((wipe σ [i, j]).set i (some v1)).set j (some v2), wipe2 hij, fun sh H0 C cl fp => ?_⟩
    obtain ⟨h1, h2⟩ := hel q hq v1 v2 S' s p1 p2 sh H0 C cl fp
    obtain ⟨⟨k1, k2⟩, ⟨k3, k4⟩⟩ := hx sh H0 C cl fp
    obtain ⟨a1, a2, a3, a4⟩ := ha sh H0 C cl fp
    refine ⟨fun H s2 Q qq => ?_, h1, fun hp => (h2 hp).imp fun w S2 hw => ⟨_, rfl, hw⟩⟩
    exact hg_of (pg_tup hc (pgs_cons (pg_name hN hix k1 k2) (pgs_cons (pg_name hN hjy k3 k4) pgs_nil a4) a3) a1 a2) ⟨l, _, rfl, sqt_up s2 hl, rfl, _, _, rfl, _, _, rfl, rfl, qq⟩
  · have h3 := fun_of_G (f := fun d => enc (f (un d))) (p := fun d => p (un d)) h
    have e : ((ps.map tupP).filter fun d => p (un d)).map (fun d => enc (f (un d))) = ((ps.filter p).map f).map enc := by
      rw [List.filter_map, List.map_map, List.map_map]
      rfl
    rw [← e]
    exact h3
/-- [elt for x, y in iter] -/
theorem ee_lc2 {f : PyData × PyData → α} (hc : X.calm = true) (hN : X.N.Nodup) (ok : BlkOk X.N X.env.scope scope [(x, i), (y, j)]) (hi : EI X σ S (.Tuple [.Name x px, .Name y py] kk tp) iter (Ds X.K (ps.map tupP))) (hz : ps.length ≤ sizeLine)
    (hel : ∀ q ∈ ps, ∀ v w S', Same S S' → Dt X.K q.1 v S' → Dt X.K q.2 w S' → ∀ (s : Shared) (H0 : Hp) (C : Addr) (cl : List (Str × Addr)) (fp : List Addr), EE (X.blk s H0 scope (compEnvC scope cl C X.env) fp) (((wipe σ [i, j]).set i (some v)).set j (some w)) S' elt (Dt X.K (enc (f q))))
    (hij : i ≠ j := by decide) (hix : X.N[i]? = some x := by rfl) (hjy : X.N[j]? = some y := by rfl) (hx : ∀ (s : Shared) (H0 : Hp) (C : Addr) (cl : List (Str × Addr)) (fp : List Addr), (Loc (X.blk s H0 scope (compEnvC scope cl C X.env) fp).env.scope x ∧ ((X.blk s H0 scope (compEnvC scope cl C X.env) fp).fn x = true ∨ (X.blk s H0 scope (compEnvC scope cl C X.env) fp).env.scope.names.lookup x = some .local)) ∧
      (Loc (X.blk s H0 scope (compEnvC scope cl C X.env) fp).env.scope y ∧ ((X.blk s H0 scope (compEnvC scope cl C X.env) fp).fn y = true ∨ (X.blk s H0 scope (compEnvC scope cl C X.env) fp).env.scope.names.lookup y = some .local)) := by
      intros; exact ⟨⟨by first | exact Or.inl rfl | exact Or.inr rfl, by first | exact .inl rfl | exact .inr rfl⟩, ⟨by first | exact Or.inl rfl | exact Or.inr rfl, by first | exact .inl rfl | exact .inr rfl⟩⟩)
    (ha : ∀ (s : Shared) (H0 : Hp) (C : Addr) (cl : List (Str × Addr)) (fp : List Addr), (assignEach [.Name x px, .Name y py] (X.blk s H0 scope (compEnvC scope cl C X.env) fp).env).length = 2 ∧ (assignEach [.Name x px, .Name y py] (X.blk s H0 scope (compEnvC scope cl C X.env) fp).env).findIdx? (·.1) = none ∧
      (assignEach [.Name x px, .Name y py] (X.blk s H0 scope (compEnvC scope cl C X.env) fp).env).map (·.2) = assign (.Name x px) (X.blk s H0 scope (compEnvC scope cl C X.env) fp).env :: (assignEach [.Name y py] (X.blk s H0 scope (compEnvC scope cl C X.env) fp).env).map (·.2) ∧ (assignEach [.Name y py] (X.blk s H0 scope (compEnvC scope cl C X.env) fp).env).map (·.2) = assign (.Name y py) (X.blk s H0 scope (compEnvC scope cl C X.env) fp).env :: (assignEach [] (X.blk s H0 scope (compEnvC scope cl C X.env) fp).env).map (·.2) := by intros; exact ⟨rfl, rfl, rfl, rfl⟩)
    (hs : ∀ x, foldedSetIterable iter X.env x = pure x := by intro _; rfl) :
    EE X σ S (.ListComp elt [⟨.Tuple [.Name x px, .Name y py] kk tp, iter, [], 0⟩] scope pos) (Dt X.K (.list ((ps.map f).map enc))) :=
  (ee_lc2f (p := fun _ => true) hc hN ok hi hz (fun q hq v w S' s hv hw sh H0 C cl fp => ⟨ets_nil, fun _ => hel q hq v w S' s hv hw sh H0 C cl fp⟩) hij hix hjy hx ha hs).is (by rw [filter_true])
end
end Z
namespace Z
open PySem PySem.Spec PyProof.Rows L2
/-! ## 13. the law's box: an object known by what holds of it alone -/
def Stab (b : Addr) (φ : Heap → Prop) : Prop := ∀ h1 h2 : Heap, φ h1 → (∀ o, h1.get? b = some o → h2.get? b = some o) → φ h2
section
variable {P : Program} {w : World} {H : Hp} {h : Heap} {b : Addr} {φ : Heap → Prop} {xs : List V}
theorem hok_swap {o o' : HO} (x : HOk P w H h) (hb : H b = some o) (no : ∀ a, o ≠ .own a) (nt : ∀ xs, o ≠ .tup xs) (new : ObjOk P w (upd H b o') h b o') : HOk P w (upd H b o') h := fun a u e => by
  by_cases ha : a = b
  · subst ha; rw [upd_same] at e; cases e; exact new
  · rw [upd_ne ha] at e
    refine (x a u e).stay (fun _ _ _ q => q) (fun c q => ?_) fun c ys q => ?_
    · rw [upd_ne (fun z => by subst z; rw [hb] at q; exact no a (Option.some.inj q))]; exact q
    · rw [upd_ne (fun z => by subst z; rw [hb] at q; exact nt ys (Option.some.inj q))]; exact q
end
theorem un_swap {fs ex : List Addr} {H H1 H2 H3 : Hp} {h h' : Heap} (u : Un fs ex H1 H2 h h') (k1 : ∀ a, H a = none → H1 a = none) (k2 : ∀ a, H a = none → H2 a = none → H3 a = none)
    (kt : ∀ a xs, H a = some (.tup xs) → H3 a = some (.tup xs)) (kf : ∀ a o x, H a = some (.frz o x) → H3 a = some (.frz o x)) (kb : ∀ a ps, H a = some (.tbl ps) → ∃ more, H3 a = some (.tbl (ps ++ more))) : Un fs ex H H3 h h' where
  keep := fun a o q n => u.keep a o q (k1 a n)
  slot := fun a o q n => u.slot a o q (k1 a n)
  free := fun a o q n x => k2 a n (u.free a o q (k1 a n) x)
  there := u.there
  tups := kt
  frzs := kf
  tbls := kb
section
variable {P : Program} {w : World} {K : PySem.W.Frag} {mg : Str → Option Value} {base : Heap} {k : Nat} {f : Addr} {fd : FuncData} {ps : List Str} {sp0 sp : Sp}
/-- a def over the list at b, for callers that know b by φ -/
theorem FnOk.box (F : FnOk P w K mg base CX0 k f fd ps sp0) (len : ∀ vs H Q E, sp vs H Q E → vs.length = ps.length)
    (hc : ∀ vs H Q E, sp vs H Q E → ∃ (b : Addr) (φ : Heap → Prop), H b = some (.ext φ) ∧ ∀ h, φ h → ∃ xs, ObjOk P w H h b (.lst xs) ∧
      sp0 vs (upd H b (.lst xs)) (fun v H' => ∃ ys, H' b = some (.lst ys) ∧ (∀ h', ObjOk P w H' h' b (.lst ys) → φ h') ∧ (∀ a o, H a = some o → a ≠ b → H' a = some o) ∧ Q v (upd H' b (.ext φ))) E0) : FnOk P w K mg base CX0 k f fd ps sp := by
  refine ⟨len, fun A outer s H args us vs Q E hr e0 hb rv hsp => ?_⟩
  obtain ⟨b, φ, hbo, hc⟩ := hc vs H Q E hsp
  obtain ⟨p, ⟨ob, hob⟩, st⟩ := e0.hok b _ hbo
  obtain ⟨xs, hx, hs0⟩ := hc s.heap p
  have ne : ∀ a, H a = none → a ≠ b := fun a n z => by rw [z, hbo] at n; cases n
  have e1 : Env0 P w K mg base A outer s (upd H b (.lst xs)) := ⟨e0.frames, e0.mod, fun a o q => ⟨(e0.bs a o q).1, by rw [upd_ne (ne a (e0.bs a o q).2)]; exact (e0.bs a o q).2⟩, e0.bsz, e0.funs, fun a ha => by rw [upd_ne (ne a (e0.frf a ha))]; exact e0.frf a ha,
    hok_swap e0.hok hbo (fun _ z => nomatch z) (fun _ z => nomatch z) hx, e0.bare⟩
  refine codeAny_mono (F.run A outer s _ args us vs _ E0 hr e1 hb rv hs0) fun r s' hq => ?_
  cases r with
  | error e => exact hq
  | ok fl =>
    cases fl with
    | ret u =>
      obtain ⟨v, H', os, bare, un, hok, r, ys, hy, hφ, hsm, q⟩ := hq
      refine ⟨v, upd H' b (.ext φ), os, bare, ?_, ?_, r, q⟩
      · refine un_swap un (fun a n => by rw [upd_ne (ne a n)]; exact n) (fun a n n2 => by rw [upd_ne (ne a n)]; exact n2) (fun a ys e => ?_) (fun a o x e => ?_) fun a ps e => ?_
        · have hne : a ≠ b := fun z => by rw [z, hbo] at e; cases e
          rw [upd_ne hne]; exact hsm a _ e hne
        · have hne : a ≠ b := fun z => by rw [z, hbo] at e; cases e
          rw [upd_ne hne]; exact hsm a _ e hne
        · have hne : a ≠ b := fun z => by rw [z, hbo] at e; cases e
          refine ⟨#[], ?_⟩
          rw [upd_ne hne, Array.append_empty]; exact hsm a _ e hne
      · have ox := hok b _ hy
        refine hok_swap hok hy (fun _ z => nomatch z) (fun _ z => nomatch z) ⟨hφ _ ox, ?_, st⟩
        obtain ⟨_, its, n, _, e⟩ := ox
        exact ⟨_, e⟩
    | next => exact hq
    | brk => exact hq
    | cont => exact hq
/-- a def that hands back a new list, for callers that know it by φ -/
theorem FnOk.close (F : FnOk P w K mg base CX0 k f fd ps sp0) (len : ∀ vs H Q E, sp vs H Q E → vs.length = ps.length)
    (hc : ∀ vs H Q E, sp vs H Q E → sp0 vs H (fun v H' => ∃ b ys φ, H b = none ∧ H' b = some (.lst ys) ∧ Same H H' ∧ (∀ h', ObjOk P w H' h' b (.lst ys) → φ h') ∧ Stab b φ ∧ Q v (upd H' b (.ext φ))) E0) : FnOk P w K mg base CX0 k f fd ps sp := by
  refine ⟨len, fun A outer s H args us vs Q E hr e0 hb rv hsp => ?_⟩
  refine codeAny_mono (F.run A outer s _ args us vs _ E0 hr e0 hb rv (hc vs H Q E hsp)) fun r s' hq => ?_
  cases r with
  | error e => exact hq
  | ok fl =>
    cases fl with
    | ret u =>
      obtain ⟨v, H', os, bare, un, hok, r, b, ys, φ, hn, hy, hs, hφ, st, q⟩ := hq
      refine ⟨v, upd H' b (.ext φ), os, bare, ?_, ?_, r, q⟩
      · refine un_swap un (fun _ n => n) (fun a n n2 => by rw [upd_ne (fun z => by rw [z, hy] at n2; cases n2)]; exact n2) (fun a ys e => ?_) (fun a o x e => ?_) fun a ps e => ?_
        · rw [upd_ne (ne_of_none e hn)]; exact hs _ _ e
        · rw [upd_ne (ne_of_none e hn)]; exact hs _ _ e
        · refine ⟨#[], ?_⟩
          rw [upd_ne (ne_of_none e hn), Array.append_empty]; exact hs _ _ e
      · have ox := hok b _ hy
        refine hok_swap hok hy (fun _ z => nomatch z) (fun _ z => nomatch z) ⟨hφ _ ox, ?_, st⟩
        obtain ⟨_, its, n, _, e⟩ := ox
        exact ⟨_, e⟩
    | next => exact hq
    | brk => exact hq
    | cont => exact hq
end
/-- what the box holds: the cells, the place, a great rest, a mixed number, a count -/
structure BoxV (c : Addr) (xs : List V) : Prop where
  ex : ∃ i g m k : Int, xs = [.ref c, .int i, .int g, .int m, .int k] ∧ 0 ≤ i ∧ 0 ≤ g ∧ 0 ≤ m ∧ m < 2147483648 ∧ 0 ≤ k
def boxPhi (b c : Addr) : Heap → Prop := fun h => ∃ (xs : List V) (its : List Value) (n : Nat), BoxV c xs ∧ Vals xs its ∧ h.get? b = some { cls := .type "list", data := .seq its.toArray n }
theorem box_stab {b c : Addr} : Stab b (boxPhi b c) := fun h1 h2 ⟨xs, its, n, hx, r, e⟩ k => ⟨xs, its, n, hx, r, k _ e⟩
theorem box_of {P : Program} {w : World} {H : Hp} {h : Heap} {b c : Addr} {xs : List V} (hx : BoxV c xs) (o : ObjOk P w H h b (.lst xs)) : boxPhi b c h := by
  obtain ⟨_, its, n, r, e⟩ := o
  exact ⟨xs, its, n, hx, r, e⟩
theorem of_box {P : Program} {w : World} {H : Hp} {h : Heap} {b c : Addr} (p : boxPhi b c h) : ∃ xs, BoxV c xs ∧ ObjOk P w H h b (.lst xs) := by
  obtain ⟨xs, its, n, hx, r, e⟩ := p
  refine ⟨xs, hx, ?_, its, n, r, e⟩
  obtain ⟨i, g, m, k, rfl, _⟩ := hx.ex
  show 5 ≤ 16777216
  decide
/-- v is a box -/
def BX : V → Hp → Prop := fun v S => ∃ (b c : Addr) (ns : List Int), v = .ref b ∧ b ≠ c ∧ S b = some (.ext (boxPhi b c)) ∧ S c = some (.lst (ns.map V.int)) ∧ ns.length ≤ 63
instance : Mn BX := ⟨fun s ⟨b, c, ns, e, n, h1, h2, l⟩ => ⟨b, c, ns, e, n, s _ _ h1, s _ _ h2, l⟩⟩
/-- a def over the box and data: any of what G tells may come back -/
def spB (K : PySem.W.Frag) (F : List PyData → (PyData → Prop) → Prop) : Sp := fun vs H Q _ => ∃ S v ws ds G, vs = v :: ws ∧ Same S H ∧ BX v S ∧ Dts K ds ws S ∧ F ds G ∧ ∀ d, G d → ∀ u S' H', Gr S H S' H' → Dt K d u S' → Q u H'
section
variable {X : Cx} {σ : L2.St} {S S' : Hp} {e a b c : Expr} {es : List Expr} {P R : V → Hp → Prop} {Ps : List (V → Hp → Prop)} {pos p : Pos} {k : Nat} {x : Str} {sp : Sp} {d : PyData} {ds : List PyData}
theorem spB_E {F : List PyData → (PyData → Prop) → Prop} {G : PyData → Prop} (hF : F ds G) : SpE (spB X.K F) S (BX :: Ds X.K ds) (Ex X.K G) := fun vs S1 H1 _ s al Q q => by
  cases al with
  | cons p r => exact ⟨S1, _, _, ds, G, rfl, s, p, al_dts r, hF, fun d hd u S' H' g pd => q u S' H' g ⟨d, hd, pd⟩⟩
theorem ee_callBx {F : List PyData → (PyData → Prop) → Prop} {G : PyData → Prop} (D : KD X.prog X.w X.K X.mg X.base x k (spB X.K F)) (hr : Room k X.A) (hF : F ds G) (ha : EA X σ S (e :: es) (BX :: Ds X.K ds)) (hg : Gl X x := by rfl) (hdb : (x == ("__debug__" : Str)) = false := by decide)
    (he : starEach (e :: es) X.env = (false, eval e X.env) :: starEach es X.env := by rfl) (hpl : (backTo pos (starEach es X.env)).any (·.1) = false := by rfl) : EE X σ S (.Call (.Name x p) (e :: es) [] pos) (Ex X.K G) :=
  ee_call D hr ha (spB_E hF) hg hdb he hpl
/-! ### what is not fixed, taken on -/
theorem ex_imp {K : PySem.W.Frag} {F G : PyData → Prop} {v : V} {S : Hp} (h : Ex K F v S) (f : ∀ d, F d → G d) : Ex K G v S := by
  obtain ⟨d, hd, p⟩ := h
  exact ⟨d, f d hd, p⟩
theorem EE.ex {F : PyData → Prop} (h : EE X σ S e (Dt X.K d)) (f : F d) : EE X σ S e (Ex X.K F) := h.imp fun v S' p => ⟨d, f, p⟩
theorem EE.exi {F G : PyData → Prop} (h : EE X σ S e (Ex X.K F)) (f : ∀ d, F d → G d) : EE X σ S e (Ex X.K G) := h.imp fun v S' p => ex_imp p f
/-- + of numbers that are not fixed -/
theorem ee_addE {F G : Int → Prop} (ha : EE X σ S a (Ex X.K fun d => ∃ i, d = .int i ∧ F i)) (hb : EE X σ S b (Ex X.K fun d => ∃ i, d = .int i ∧ G i)) : EE X σ S (.BinOp a .Add b pos) (Ex X.K fun d => ∃ i, d = .int i ∧ ∃ x y, F x ∧ G y ∧ i = x + y) :=
  ee_op op_add ha hb fun v w S1 H1 _ s ⟨d, ⟨i, e, fi⟩, pv⟩ ⟨d', ⟨j, e', gj⟩, pw⟩ Q q => by
    subst e; subst e'
    cases pv; cases pw
    exact ⟨i, j, rfl, rfl, q _ S1 H1 (Gr.refl s) ⟨_, ⟨_, rfl, i, j, fi, gj, rfl⟩, .int _⟩⟩
theorem ee_tupleE {F : List PyData → Prop} (hm : X.mg "tuple" = none) (ha : EE X σ S a (Ex X.K fun d => ∃ rs, d = .list rs ∧ F rs)) (hg : Gl X "tuple" := by rfl)
    (hs : starEach [a] X.env = (false, eval a X.env) :: starEach [] X.env := by rfl) : EE X σ S (.Call (.Name "tuple" p) [a] [] pos) (Ex X.K fun d => ∃ rs, d = .tuple rs ∧ F rs) :=
  ee_callTy call_tuple_of hm boot_tuple (ea_1 ha hs) (fun vs S1 H1 _ s al Q q => by
    obtain ⟨v, rfl, d, ⟨rs, rfl, hf⟩, pv⟩ := al.one
    obtain ⟨l, xs, rfl, hl, hx, z⟩ := pv.lst_inv
    exact ⟨l, xs, rfl, .inl ⟨sql_of (s _ _ hl), fun t ht => q _ _ _ (Gr.new s ht) ⟨_, ⟨rs, rfl, hf⟩, Dt.tup_mk (tus_of upd_same) (hx.up (Same.new (s.free ht))) z⟩⟩⟩) hg (he := hs) (hpl := by rfl)
/-- displays of data that is not fixed -/
def Exs (K : PySem.W.Frag) (Fs : List (PyData → Prop)) : List (V → Hp → Prop) := Fs.map (Ex K)
inductive AllF : List (PyData → Prop) → List PyData → Prop
  | nil : AllF [] []
  | cons {F : PyData → Prop} {Fs : List (PyData → Prop)} {d : PyData} {ds : List PyData} : F d → AllF Fs ds → AllF (F :: Fs) (d :: ds)
theorem AllF.len {Fs : List (PyData → Prop)} {ds : List PyData} (h : AllF Fs ds) : ds.length = Fs.length := by
  induction h with
  | nil => rfl
  | cons _ _ ih => simp [ih]
theorem al_exs {K : PySem.W.Frag} : ∀ {Fs : List (PyData → Prop)} {vs : List V} {H : Hp}, Al (Exs K Fs) vs H → ∃ ds, AllF Fs ds ∧ Dts K ds vs H
  | [], _, _, h => by cases h; exact ⟨[], .nil, .nil⟩
  | F :: Fs, _, _, h => by cases h with
    | cons p r =>
      obtain ⟨ds, h1, h2⟩ := al_exs r
      obtain ⟨d, hd, pd⟩ := p
      exact ⟨d :: ds, .cons hd h1, .cons pd h2⟩
theorem ee_tupE {es : List Expr} {x1} {Fs : List (PyData → Prop)} (h : EA X σ S es (Exs X.K Fs)) (hz : Fs.length ≤ sizeLine := by show _ ≤ 16777216; exact Nat.le_of_ble_eq_true rfl) : EE X σ S (.Tuple es x1 pos) (Ex X.K fun d => ∃ ds, d = .tuple ds ∧ AllF Fs ds) :=
  ee_tupA (vsP := fun vs S' => ∃ ds, AllF Fs ds ∧ Dts X.K ds vs S') (fun H s Q q => h.2 H s Q fun vs S' H' g al => q vs S' H' g (al_exs al)) (fun vs S' ⟨ds, h1, h2⟩ => by rw [h2.1, h1.len]; exact hz)
    fun vs S' p _ hp ⟨ds, h1, h2⟩ => ⟨_, ⟨ds, rfl, h1⟩, Dt.tup_mk (tus_of upd_same) (h2.up (Same.new hp)) (by rw [h2.1, h1.len]; exact hz)⟩
end
end Z
namespace Z
open PySem PySem.Spec PyProof.Rows L2
/-! ### lists that change -/
section
variable {X : Cx} {σ : L2.St} {S H : Hp} {e o i : Expr} {P : V → Hp → Prop} {pos pos' : Pos} {D : Ends} {rest : List Stmt} {b : Addr} {xs : List V} {k : Int} {j : Nat} {v : V}
/-- o[i] = e -/
theorem hs_setL [Mn P] (he : EE X σ H e P) (ho : EE X σ H o (fun w _ => w = .ref b)) (hi : EE X σ H i (Dt X.K (.int k))) (hb : H b = some (.lst xs)) (hk : ixN xs.length k = some j)
    (q : ∀ v H', Same H H' → P v H' → HS X D rest σ (upd H' b (.lst (xs.set j v))))
    (ha : ∀ v, assign (.Subscript o i pos') X.env v = (do
      let ov ← holding [v] (eval o X.env)
      let iv ← holding [v, ov] (eval i X.env)
      standAt pos'
      holding [v, ov, iv] (setItem ov iv v)
      release [v, ov, iv] []) := by intro _; rfl)
    (hs : swapsWithSole [.Subscript o i pos'] e pos.line X.env = pure false := by rfl) (hw : swappedStores [.Subscript o i pos'] e X.env = pure none := by rfl)
    (h1 : (assignEach [.Subscript o i pos'] X.env).map (·.2) = [assign (.Subscript o i pos') X.env] := by rfl) : HS X D (.Assign [.Subscript o i pos'] e pos :: rest) σ H :=
  hs_cons (ps_asg peb (pg_sub peb peb set_list ha) hs hw h1) (he H (Same.refl H) _ fun v S1 H1 g1 pv => ho H1 g1.hh _ fun w S2 H2 g2 pw => hi H2 (g1.hh.trans g2.hh) _ fun u S3 H3 g3 pu => by
    subst pw
    cases pu
    have s3 := (g1.hh.trans g2.hh).trans g3.hh
    exact ⟨b, xs, k, j, rfl, rfl, s3 _ _ hb, hk, q v H3 s3 (Mn.up (g1.sub.trans (g2.hh.trans g3.hh)) pv)⟩)
/-- an item of such a list -/
theorem ee_ixB (hb : S b = some (.lst xs)) (ho : EE X σ S o (fun w _ => w = .ref b)) (hi : EE X σ S i (Dt X.K (.int k))) (hx : atI xs k = some v) (hp : ∀ S', Same S S' → P v S') (hs : PlainIx i := by exact fun _ _ => rfl) : EE X σ S (.Subscript o i pos) P := by
  haveI := mn_eq (v := .ref b)
  exact ee_2 (pe_ix ix_list peb peb hs) ho hi fun x y S1 H1 s0 s px py Q q => by
    subst px
    cases py
    exact ⟨b, xs, k, v, rfl, rfl, sql_of (s _ _ (s0 _ _ hb)), hx, q _ S1 H1 (Gr.refl s) (hp S1 s0)⟩
end
end Z
namespace Z
open PySem PySem.Spec PyProof.Rows L2
/-- an if whose ways meet in M, told of the whole heap -/
theorem hs_ifR {X : Cx} {σ : L2.St} {S H : Hp} {c : Expr} {pos : Pos} {D : Ends} {rest body orelse : List Stmt} {k : Bool} (M : L2.St → Hp → Prop) (h : ET X σ S c k) (s : Same S H) (qt : k = true → ∀ S' H', Gr S H S' H' → HS X { D with nx := M } body σ H') (qf : k = false → ∀ S' H', Gr S H S' H' → HS X { D with nx := M } orelse σ H')
    (h2 : ∀ σ' H', M σ' H' → HS X D rest σ' H') : HS X D (.If c body orelse pos :: rest) σ H :=
  hs_cons (ps_if ptb psb psb) (h H s _ fun S' H' g => by
    have key : ∀ st, HS X { D with nx := M } st σ H' → HS X (Dn X D rest) st σ H' := fun st z => hs_mono z (fun σ' H2 m => h2 σ' H2 m) (fun _ _ z => z) (fun _ _ z => z) (fun _ _ z => z)
    cases k with
    | true => exact iteT (key _ (qt rfl S' H' g))
    | false => exact iteF (key _ (qf rfl S' H' g)))
theorem ee_mulS {X : Cx} {σ : L2.St} {S : Hp} {a b : Expr} {pos : Pos} {i j : Int} (hc : CMul i j) (ha : EE X σ S a (Dt X.K (.int i))) (hb : EE X σ S b (Dt X.K (.int j))) : EE X σ S (.BinOp a .Mult b pos) (Dt X.K (.int (i * j))) := ee_op op_mul ha hb (opE_I hc fun _ => .int _)
end Z
namespace Z
open PySem PySem.Spec PyProof.Rows L2
/-! ## 14. more rules -/
/-- walked things that are not fixed: W tells which lists they may be -/
def EIW (X : Cx) (σ : L2.St) (S : Hp) (tg iter : Expr) (W : List PyData → Prop) : Prop := ∀ H, Same S H → ∀ R : It → Hp → Prop, (∀ ds J S' H', W ds → Gr S H S' H' → ItP J S' (Ds X.K ds) → R J H') → HI X tg iter σ H R
section
variable {X : Cx} {σ : L2.St} {S S' : Hp} {e a b c o elt tg iter : Expr} {es : List Expr} {P R : V → Hp → Prop} {Ps : List (V → Hp → Prop)} {pos p px : Pos} {k : Bool} {x y : Str} {d d1 d2 : PyData} {ds ds1 ds2 : List PyData} {i j : Nat} {n : Int} {scope : Scope} {own : List (Str × Nat)} {D : Ends} {rest : List Stmt}
theorem eiw_range {F : Nat → Prop} (hm : X.mg "range" = none) (hn : ∀ n, F n → (n : Int) < 2 ^ 62) (ha : EE X σ S a (Ex X.K fun d => ∃ n : Nat, d = .int n ∧ F n)) (hg : Gl X "range" := by rfl) (hs : starEach [a] X.env = [(false, eval a X.env)] := by rfl) :
    EIW X σ S tg (.Call (.Name "range" p) [a] [] pos) (fun ds => ∃ n, F n ∧ ds = upto n) := fun H s R q =>
  hi_of (pi_range1 hg hm pab hs) ((ea_1 ha (by rw [hs]; rfl)).2 H s _ fun vs S1 H1 g1 al => by
    obtain ⟨v, rfl, d, ⟨n, rfl, fn⟩, pv⟩ := al.one
    cases pv
    refine ⟨(n : Int), rfl, by omega, hn n fn, q _ _ S1 H1 ⟨n, fn, rfl⟩ g1 ⟨fun i H hi hs => ?_, fun H hs => ?_, fun i H x H' hi hs y T st th => ?_⟩⟩
    · rw [ds_len, upto_len] at hi
      show i < ((n : Int)).toNat
      omega
    · rw [ds_len, upto_len]
      show ((n : Int)).toNat ≤ n
      omega
    · rw [ds_len, upto_len] at hi
      obtain ⟨rfl, rfl⟩ : H' = H ∧ x = .int (0 + (i : Int)) := y
      rw [Int.zero_add]
      exact ⟨T, Gr.refl th, _, ds_get (upto_get hi), .int _⟩)
theorem eiw_list {F : List PyData → Prop} (ha : EE X σ S e (Ex X.K fun d => ∃ ds, d = .list ds ∧ F ds)) : EIW X σ S tg e F := fun H s R q =>
  hi_of (pi_list peb) (ha H s _ fun v S1 H1 g1 ⟨d, ⟨ds, e, fd⟩, pv⟩ => by
    subst e
    obtain ⟨l, xs, rfl, hl, hx, z⟩ := pv.lst_inv
    refine ⟨l, rfl, ⟨xs, sql_of (g1.sub _ _ hl)⟩, q ds _ S1 H1 fd g1 ⟨fun i H hi hs => ?_, fun H hs => ?_, fun i H x H' hi hs y T st th => ?_⟩⟩
    · rw [ds_len, ← hx.1] at hi
      exact (walk_list (K := X.K) (a := l) (xs := xs)).goes i H hi (sql_of (hs _ _ hl))
    · rw [ds_len, ← hx.1]
      exact (walk_list (K := X.K) (a := l) (xs := xs)).stops H (sql_of (hs _ _ hl))
    · rw [ds_len, ← hx.1] at hi
      obtain ⟨rfl, hy⟩ := (walk_list (K := X.K) (a := l) (xs := xs)).yields i H x H' hi (sql_of (hs _ _ hl)) y
      have hi2 : i < ds.length := by rw [← hx.1]; exact hi
      exact ⟨T, Gr.refl th, _, ds_get (List.getElem?_eq_getElem hi2), (hx.2 i x _ hy (List.getElem?_eq_getElem hi2)).up st⟩)
/-- [elt for x in iter], the walked and the elements not fixed -/
theorem ee_lcW {F : PyData → PyData → Prop} {W : List PyData → Prop} (hc : X.calm = true) (hN : X.N.Nodup) (ok : BlkOk X.N X.env.scope scope [(x, i)]) (hi : EIW X σ S (.Name x px) iter W) (hz : ∀ ds, W ds → ds.length ≤ sizeLine)
    (hel : ∀ ds, W ds → ∀ d ∈ ds, ∀ v S', Same S S' → Dt X.K d v S' → ∀ (s : Shared) (H0 : Hp) (C : Addr) (cl : List (Str × Addr)) (fp : List Addr), EE (X.blk s H0 scope (compEnvC scope cl C X.env) fp) ((wipe σ [i]).set i (some v)) S' elt (Ex X.K (F d)))
    (hix : X.N[i]? = some x := by rfl) (hx : ∀ (s : Shared) (H0 : Hp) (C : Addr) (cl : List (Str × Addr)) (fp : List Addr), Loc (X.blk s H0 scope (compEnvC scope cl C X.env) fp).env.scope x ∧ ((X.blk s H0 scope (compEnvC scope cl C X.env) fp).fn x = true ∨ (X.blk s H0 scope (compEnvC scope cl C X.env) fp).env.scope.names.lookup x = some .local) := by
      intros; exact ⟨by first | exact Or.inl rfl | exact Or.inr rfl, by first | exact .inl rfl | exact .inr rfl⟩)
    (hs : ∀ x, foldedSetIterable iter X.env x = pure x := by intro _; rfl) :
    EE X σ S (.ListComp elt [⟨.Name x px, iter, [], 0⟩] scope pos) (Ex X.K fun d => ∃ rs, d = .list rs ∧ ∃ ds, W ds ∧ Paired F ds rs) := fun H s Q q =>
  he_of (pe_lc (own := [(x, i)]) (wi := bI X (.Name x px) iter) (g := gBlk X scope (.Name x px)) (tt := tBlk X scope []) (te := eBlk X scope elt) hc hN pib ok
    (fun s H0 C cl fp => ⟨fun pins sh σ' H' v u Q' I r h => h s H0 C cl fp pins sh u I r⟩) (fun s H0 C cl fp => ⟨fun pins sh σ' H' Q' I h => h s H0 C cl fp pins sh I⟩) (fun s H0 C cl fp => ⟨fun pins sh σ' H' Q' I h => h s H0 C cl fp pins sh I⟩) hs)
    (hi H s _ fun ds J S1 H1 hw g1 it => lc_loopG (own := [(x, i)]) (p := fun _ => true) (G := F) (hz ds hw) (fun d hd v S' s hv => ⟨(wipe σ [i]).set i (some v), wipe1, fun sh H0 C cl fp => by
        obtain ⟨k1, k2⟩ := hx sh H0 C cl fp
        exact ⟨eg_name hN hix k1 k2, ets_nil, fun _ => hel ds hw d hd v S' s hv sh H0 C cl fp⟩⟩) Q (fun v S' H' g ⟨rs, h1, h2⟩ => by
        rw [filter_true] at h1
        exact q v S' H' g ⟨_, ⟨rs, rfl, ds, hw, h1⟩, h2⟩) g1 it)
/-- xs[i], i any place of the list -/
theorem atI_nat {xs : List PyData} {n : Int} (h0 : 0 ≤ n) (h1 : n < (xs.length : Int)) : ∃ d, d ∈ xs ∧ atI xs n = some d := by
  refine ⟨xs[n.toNat]'(by omega), List.getElem_mem _, ?_⟩
  unfold atI ixN
  rw [if_pos h0, if_pos h1]
  exact List.getElem?_eq_getElem _
theorem ee_ixE (ha : EE X σ S a (Dt X.K (.list ds))) (hb : EE X σ S b (Ex X.K fun d => ∃ n, d = .int n ∧ 0 ≤ n ∧ n < (ds.length : Int))) (hs : PlainIx b := by exact fun _ _ => rfl) : EE X σ S (.Subscript a b pos) (Ex X.K fun d => d ∈ ds) :=
  ee_2 (pe_ix ix_list peb peb hs) ha hb fun x y S1 H1 _ s px ⟨d, ⟨n, e, n0, n1⟩, py⟩ Q q => by
    subst e
    cases py
    obtain ⟨l, xs, rfl, hl, hx, z⟩ := px.lst_inv
    obtain ⟨d, hd, he⟩ := atI_nat n0 n1
    obtain ⟨x, h1, h2⟩ := atI_dts hx he
    exact ⟨l, xs, n, x, rfl, rfl, sql_of (s _ _ hl), h1, q _ S1 H1 (Gr.refl s) ⟨d, hd, h2⟩⟩
/-- n in (a, b, ..) -/
theorem inV_int (n : Int) : ∀ ns : List Int, inV (.int n) (ns.map V.int) = ns.contains n
  | [] => rfl
  | m :: ns => by
    unfold inV
    rw [List.map_cons, List.any_cons]
    have h := inV_int n ns
    unfold inV at h
    rw [h, List.contains_cons]
    show (m == n || _) = _
    rw [show (m == n) = (n == m) by
      by_cases e : m = n
      · rw [e]
      · rw [beq_false_of_ne e, beq_false_of_ne (Ne.symm e)]]
theorem flat_ints (ns : List Int) : (ns.map V.int).all flatV = true := by
  induction ns with
  | nil => rfl
  | cons n ns ih => rw [List.map_cons, List.all_cons, ih]; rfl
theorem opE_inT {K : PySem.W.Frag} {ns : List Int} : OpE (rIn K false) S (Dt K (.int n)) (Dt K (.tuple (ns.map .int))) (Dt K (.bool (ns.contains n))) := fun v w S1 H1 _ s pv pw Q q => by
  cases pv
  obtain ⟨l, xs, rfl, hl, hx, z⟩ := pw.tup_inv
  rw [dts_int hx] at hl
  refine ⟨l, ns.map V.int, rfl, .inr (sqt_up s hl), rfl, flat_ints ns, ?_⟩
  rw [if_neg Bool.false_ne_true, inV_int]
  exact q _ S1 H1 (Gr.refl s) (.bl _)
theorem et_inT {ns : List Int} (ha : EE X σ S a (Dt X.K (.int n))) (hb : EE X σ S b (Dt X.K (.tuple (ns.map .int)))) (hm : behindInMarks .In b = false := by rfl) : ET X σ S (.Compare a [.In] [b] pos) (ns.contains n) := et_cmp op_in_seq ha hb opE_inT hm
/-- e.index(True) of a list of bools -/
theorem ee_indexT {bs : List Bool} {j : Nat} {apos : Pos} (hj : bs[j]? = some true) (hno : ∀ m, m < j → bs[m]? = some false) (ha : EE X σ S a (Dt X.K (.list (bs.map .bool)))) (hb : EE X σ S b (Dt X.K (.bool true)))
    (hbase : attributeBase a "index" X.env (eval a X.env) = eval a X.env := by rfl)
    (hfew : ((backTo pos (starEach [b] X.env)).all (fun x => !x.1) && (backToKw pos (keywordEach [] X.env)).all (fun x => x.1.isSome) && decide (([b] : List Expr).length + ([] : List Keyword).length + (if ([] : List Keyword).isEmpty then 0 else 1) < 30)) = true := by rfl)
    (hline : (apos.endLine == pos.line) = true := by rfl) (hs : starEach [b] X.env = (false, eval b X.env) :: starEach [] X.env := by rfl) (hplain : (backTo pos (starEach [] X.env)).any (·.1) = false := by rfl) :
    EE X σ S (.Call (.Attribute a "index" apos) [b] [] pos) (Dt X.K (.int (j : Nat))) := fun H s Q q =>
  he_of (pe_bm PySem.F.plainAttrs_list PySem.F.slot_list_index PySem.F.type_list_index mt_index peb pab hbase hfew hline hs hplain) (ha H s _ fun v S1 H1 g1 pv => by
    obtain ⟨l, xs, rfl, hl, hx, z⟩ := pv.lst_inv
    have e := dts_bl hx
    subst e
    refine ⟨.inl ⟨rfl, _, sql_of (g1.sub _ _ hl)⟩, ((ea_1 hb hs).up g1.st).2 H1 g1.sub _ fun vs S2 H2 g2 al => ?_⟩
    obtain ⟨w, rfl, pw⟩ := al.one
    cases pw
    refine ⟨l, bs.map V.bl, .bl true, j, .bl true, rfl, rfl, sql_of (g2.hh _ _ (g1.sub _ _ hl)), rfl, ?_, ?_, rfl, fun m z' hm hz => ?_, q _ S2 H2 (g1.trans g2) (.int _)⟩
    · rw [List.all_map]; exact List.all_eq_true.mpr fun b _ => rfl
    · rw [List.getElem?_map, hj]; rfl
    · rw [List.getElem?_map, hno m hm] at hz
      cases hz
      rfl)
/-- a, b = e, e a pair that is not fixed -/
theorem hs_unpackE {H : Hp} {F G : PyData → Prop} {px py pt : Pos} {kt : Nat} (hc : X.calm = true) (hN : X.N.Nodup) (ha : EE X σ S e (Ex X.K fun d => ∃ d1 d2, d = .tuple [d1, d2] ∧ F d1 ∧ G d2)) (s : Same S H)
    (q : ∀ d1 d2 v w S' H', F d1 → G d2 → Gr S H S' H' → Dt X.K d1 v S' → Dt X.K d2 w S' → HS X D rest ((σ.set i (some v)).set j (some w)) H')
    (hi : X.N[i]? = some x := by rfl) (hj : X.N[j]? = some y := by rfl) (hx : Loc X.env.scope x := by first | exact Or.inl rfl | exact Or.inr rfl) (hy : Loc X.env.scope y := by first | exact Or.inl rfl | exact Or.inr rfl)
    (hfx : X.fn x = true ∨ X.env.scope.names.lookup x = some .local := by first | exact .inl rfl | exact .inr rfl) (hfy : X.fn y = true ∨ X.env.scope.names.lookup y = some .local := by first | exact .inl rfl | exact .inr rfl)
    (hn : (assignEach [.Name x px, .Name y py] X.env).length = 2 := by rfl) (hst : (assignEach [.Name x px, .Name y py] X.env).findIdx? (·.1) = none := by rfl)
    (h1 : (assignEach [.Name x px, .Name y py] X.env).map (·.2) = assign (.Name x px) X.env :: (assignEach [.Name y py] X.env).map (·.2) := by rfl) (h2 : (assignEach [.Name y py] X.env).map (·.2) = assign (.Name y py) X.env :: (assignEach [] X.env).map (·.2) := by rfl)
    (hss : swapsWithSole [.Tuple [.Name x px, .Name y py] kt pt] e pos.line X.env = pure false := by rfl) (hw : swappedStores [.Tuple [.Name x px, .Name y py] kt pt] e X.env = pure none := by rfl)
    (h3 : (assignEach [.Tuple [.Name x px, .Name y py] kt pt] X.env).map (·.2) = [assign (.Tuple [.Name x px, .Name y py] kt pt) X.env] := by rfl) : HS X D (.Assign [.Tuple [.Name x px, .Name y py] kt pt] e pos :: rest) σ H :=
  hs_cons (ps_asg peb pgb hss hw h3) (ha H s _ fun v S' H' g ⟨d, ⟨d1, d2, e, f1, f2⟩, pv⟩ => by
    subst e
    obtain ⟨v1, v2, p1, p2, hg⟩ := eg_pair (σ := σ) (px := px) (py := py) (pos := pt) (kk := kt) hc hN hi hj hx hy pv hfx hfy hn hst h1 h2
    exact hg H' g.sub _ (q d1 d2 v1 v2 S' H' f1 f2 g p1 p2))
theorem AllF.one {F : PyData → Prop} {ds : List PyData} (h : AllF [F] ds) : ∃ d, ds = [d] ∧ F d := by
  cases h with
  | cons f r => cases r; exact ⟨_, rfl, f⟩
theorem AllF.two {F G : PyData → Prop} {ds : List PyData} (h : AllF [F, G] ds) : ∃ d e, ds = [d, e] ∧ F d ∧ G e := by
  cases h with
  | cons f r => obtain ⟨e, rfl, g⟩ := r.one; exact ⟨_, _, rfl, f, g⟩
theorem ee_pairE {F G : PyData → Prop} {x1} (ha : EE X σ S a (Ex X.K F)) (hb : EE X σ S b (Ex X.K G)) (hs : starEach [a, b] X.env = (false, eval a X.env) :: starEach [b] X.env := by rfl) (hs2 : starEach [b] X.env = (false, eval b X.env) :: starEach [] X.env := by rfl) : EE X σ S (.Tuple [a, b] x1 pos) (Ex X.K fun d => ∃ d1 d2, d = .tuple [d1, d2] ∧ F d1 ∧ G d2) :=
  (ee_tupE (Fs := [F, G]) (ea_2 ha hb hs hs2)).exi fun d ⟨ds, e, h⟩ => by
    obtain ⟨d1, d2, rfl, f, g⟩ := h.two
    exact ⟨d1, d2, e, f, g⟩
/-- sep.join(list of texts) -/
theorem ee_join {z : Str} {ys : List Str} {apos : Pos} (hz : (ys.map (·.length)).sum + ys.length * z.length ≤ 16777216) (ha : EE X σ S a (Dt X.K (.str z))) (hb : EE X σ S b (Dt X.K (.list (ys.map .str))))
    (hbase : attributeBase a "join" X.env (eval a X.env) = eval a X.env := by rfl)
    (hfew : ((backTo pos (starEach [b] X.env)).all (fun x => !x.1) && (backToKw pos (keywordEach [] X.env)).all (fun x => x.1.isSome) && decide (([b] : List Expr).length + ([] : List Keyword).length + (if ([] : List Keyword).isEmpty then 0 else 1) < 30)) = true := by rfl)
    (hline : (apos.endLine == pos.line) = true := by rfl) (hs : starEach [b] X.env = (false, eval b X.env) :: starEach [] X.env := by rfl) (hplain : (backTo pos (starEach [] X.env)).any (·.1) = false := by rfl) :
    EE X σ S (.Call (.Attribute a "join" apos) [b] [] pos) (Dt X.K (.str (Txt.join z ys))) := fun H s Q q =>
  he_of (pe_bm PySem.F.plainAttrs_str PySem.F.slot_str_join PySem.F.type_str_join mt_join peb pab hbase hfew hline hs hplain) (ha H s _ fun v S1 H1 g1 pv => by
    cases pv
    refine ⟨rfl, ((ea_1 hb hs).up g1.st).2 H1 g1.sub _ fun vs S2 H2 g2 al => ?_⟩
    obtain ⟨w, rfl, pw⟩ := al.one
    obtain ⟨l, xs, rfl, hl, hx, _⟩ := pw.lst_inv
    rw [dts_str hx] at hl
    exact ⟨z, l, ys, rfl, rfl, .inl (sql_of (g2.sub _ _ hl)), hz, q _ S2 H2 (g1.trans g2) (.str _)⟩)
end
end Z
namespace Z
open PySem PySem.Spec PyProof.Rows L2 PySem.Froz
/-! ## 15. set(text), a text of different ascii signs -/
section
variable {prog : Program} {w : World} {A : Around} {E : Value → Shared → Prop} {s : Shared}
theorem fresh_fits (led : Bool) : (SetTable.fresh 0 0 led).fits 0 = true := by cases led <;> decide +kernel
theorem run_ok {P : Program} : ∀ (cs : List Nat) (tk : Tok) (D : SD) (l : List Str), TxOk P w D l → ∃ l', TxOk P w (runD w cs tk D) l' ∧ l'.length = cs.length + l.length
  | [], _, D, l, F => ⟨l, F, by simp⟩
  | c :: r, tk, D, l, F => by
    obtain ⟨l', h1, h2⟩ := run_ok r (tk + 2) _ (sing c :: l) (add_ok tk F)
    exact ⟨l', h1, by rw [h2]; simp; omega⟩
theorem finU_get {s : Shared} {a it : Addr} {T : String} {X : SD} {n m : Nat} {o : Obj} (hne : a ≠ it) (h : s.heap.get? a = some o) : (finU s a T it X n m).heap.get? a = some (sObj T X) :=
  Heap.get?_push_of_some _ (Heap.get?_push_of_some _ (PySem.Heap.get?_update_of_ne _ (Ne.symm hne) (get_upd _ h rfl)))
theorem finU_old {s : Shared} {a it b : Addr} {T : String} {X : SD} {n m : Nat} {o : Obj} (h1 : b ≠ a) (h2 : b ≠ it) (h : s.heap.get? b = some o) : (finU s a T it X n m).heap.get? b = some o :=
  Heap.get?_push_of_some _ (Heap.get?_push_of_some _ (PySem.Heap.get?_update_of_ne _ (Ne.symm h2) (PySem.Heap.get?_update_of_ne _ (Ne.symm h1) h)))
theorem call_set_text {x : Str} {u : Tok} {Q : Value → Shared → Prop} (hh : A.handled = none) (ha : x.cps.all (· < 128) = true) (hnd : x.cps.toList.Nodup) (hlen : x.cps.size ≤ 1000)
    (h : ∀ (h' : Heap) (tk : Nat) (o : Obj) (es : Array (Int × Value)) (ep : Nat) (t : SetTable), h'.get? s.heap.objs.size = some o → o = sObj "set" (es, ep, t) → t.fits es.size = true → es.size = x.cps.size →
      (∀ b o, b < s.heap.objs.size → s.heap.get? b = some o → h'.get? b = some o) → Q (.ref s.heap.objs.size) { s with heap := h', toks := tk }) :
    wpAny (model prog w) A (call (.type "set") [.str x u]) Q E s := by
  obtain ⟨c, tl, hmro⟩ := PySem.F.called_set.mro
  have hmade := PySem.F.called_set.made
  have hsub := PySem.F.called_set.sub
  refine wpAny_call (codeAny_of_tree ?_)
  show wpAny _ _ (callAny (.type "set") _) _ _ _
  refine wpAny_pure ⟨Code.quiet_builtin _ (by decide +kernel), codeAny_builtin PySem.F.entry_type_call ?_⟩
  rw [Around.under_plain (weight_type_call_type "set" [.str x u] []) rfl]
  have h1 := PySem.F.called_set.notType
  have h2 := PySem.F.called_set.canCreate
  have hct := PySem.F.typeCall_set_1 (.str x u)
  repeat (any_goals (first | assumption | wp_step))
  refine codeAny_mono (code_set_new_1 (.str x u) (E := E) (Q₁ := fun obj s₁ => ∃ led : Bool, obj = .ref s.heap.objs.size ∧ s₁ = { s with heap := s.heap.push { cls := .type "set", dict := none, data := .set #[] 0 (.fresh 0 0 led) } }) fun led => ⟨led, rfl, rfl⟩) fun r s₁ hr => ?_
  cases r with
  | error e => exact hr
  | ok fl =>
    cases fl with
    | ret obj =>
      obtain ⟨led, rfl, rfl⟩ := hr
      have hS : (s.heap.push { cls := .type "set", dict := none, data := .set #[] 0 (.fresh 0 0 led) }).get? s.heap.objs.size = some { cls := .type "set", dict := none, data := .set #[] 0 (.fresh 0 0 led) } := Heap.get?_push_size _ rfl
      have hT : Shared.TypeIs { s with heap := s.heap.push { cls := .type "set", dict := none, data := .set #[] 0 (.fresh 0 0 led) } } (.ref s.heap.objs.size) "set" := ⟨_, hS, rfl⟩
      have hli := PySem.F.called_set.init.lookup
      have hbi := PySem.F.called_set.init.bind (.ref s.heap.objs.size)
      repeat (any_goals (first | assumption | wp_step))
      refine codeAny_mono (codeAny_call_builtin (R := wants (fun r s₂ => r = .none ∧ ∃ h' tk es ep t, s₂ = { s with heap := h', toks := tk } ∧
          h'.get? s.heap.objs.size = some (sObj "set" (es, ep, t)) ∧ t.fits es.size = true ∧ es.size = x.cps.size ∧
          (∀ b o, b < s.heap.objs.size → s.heap.get? b = some o → h'.get? b = some o)) E) PySem.F.called_set.init.plain PySem.F.entry_set_init (check_set_init_1 hT ?_)) fun r₂ s₂ hr₂ => ?_
      · have hsls := PySem.F.sub_str_set
        have hslf := PySem.F.sub_str_frozenset
        have hne : (Value.type "str" == Value.type "dict") = false := by decide
        unfold Builtin.«set.__init__» noKeywords Builtin.Frozenset.updateFrom
        generalize hPI : pyIter = PI
        wp_walk
        subst hPI
        refine wpAny_pyIter_ascii ha ?_
        refine wpAny_bind (wpAny_runValue ?_)
        have e1 : (s.heap.push { cls := .type "set", dict := none, data := .set #[] 0 (.fresh 0 0 led) }).objs.size = s.heap.objs.size + 1 := Heap.size_push _ _
        have hSz : (s.heap.push { cls := .type "set", dict := none, data := .set #[] 0 (.fresh 0 0 led) }).get? s.heap.objs.size = some (sObj "set" (#[], 0, .fresh 0 0 led)) := hS
        have hS2 : ((s.heap.push { cls := .type "set", dict := none, data := .set #[] 0 (.fresh 0 0 led) }).push { cls := .type "str_ascii_iterator", data := .fields #[.str x u, .int 0 0] }).get? s.heap.objs.size = some (sObj "set" (#[], 0, .fresh 0 0 led)) := Heap.get?_push_of_some _ hSz
        have hI2 : ((s.heap.push { cls := .type "set", dict := none, data := .set #[] 0 (.fresh 0 0 led) }).push { cls := .type "str_ascii_iterator", data := .fields #[.str x u, .int 0 0] }).get? (s.heap.objs.size + 1) = some (itObj x u 0) := by
          rw [← e1]; exact Heap.get?_push_size _ rfl
        have hne2 : s.heap.objs.size ≠ s.heap.objs.size + 1 := by omega
        rw [e1]
        refine code_update (P := prog) (w := w) (x := x) (u := u) (T := "set") hne2 (by simp [hh]) x.cps.toList 0 (#[], 0, .fresh 0 0 led) [] _ (by simp) hS2 hI2 (TxOk.nil (fresh_fits led)) (by simp) hnd (by rw [Array.length_toList]; unfold scanBound; simp; omega) ?_
        obtain ⟨l', F', hl'⟩ := run_ok (w := w) (P := prog) x.cps.toList s.toks (#[], 0, .fresh 0 0 led) [] (TxOk.nil (fresh_fits led))
        refine wpAny_pure (wpAny_pure ⟨rfl, _, _, _, _, _, rfl, finU_get (m := x.cps.toList.length) hne2 hS2, F'.fit, by rw [F'.sz, hl']; simp, fun b o hb e => ?_⟩)
        exact finU_old (m := x.cps.toList.length) (Nat.ne_of_lt hb) (Nat.ne_of_lt (Nat.lt_succ_of_lt hb)) (Heap.get?_push_of_some _ (Heap.get?_push_of_some _ e))
      · cases r₂ with
        | error e => exact hr₂
        | ok fl₂ =>
          cases fl₂ with
          | ret r =>
            obtain ⟨rfl, h', tk, es, ep, t, rfl, hS', hf, hsz, hk'⟩ := hr₂
            repeat (any_goals (first | assumption | wp_step))
            exact h _ _ _ es ep t hS' rfl hf hsz hk'
          | _ => exact hr₂.elim
    | _ => exact hr.elim
end
def tLenSetS (ta : TE) : TE := fun σ H Q => ta σ H fun x H1 => ∃ z : Str, x = .str z ∧ z.cps.all (· < 128) = true ∧ z.cps.toList.Nodup ∧ z.cps.size ≤ 1000 ∧ Q (.int (z.cps.size : Nat)) H1
theorem pe_lenSetS {X : Cx} {a : Expr} {ta : TE} {p p2 q pos : Pos} (hg : Gl X "len") (hm : X.mg "len" = none) (hg2 : Gl X "set") (hm2 : X.mg "set" = none) (ha : PE X a ta) (hc : X.calm = true := by rfl)
    (na : starEach [a] X.env = (false, eval a X.env) :: starEach [] X.env := by rfl) : PE X (.Call (.Name "len" p) [.Call (.Name "set" p2) [a] [] q] [] pos) (tLenSetS ta) := by
  refine ⟨fun pins s σ H Q I h => ?_⟩
  refine Call_ (ld_blt I hg hm boot_len ?_)
  refine PyProof.Rows.callWith_builtin1 (PyProof.Rows.args_cons ?_ rfl) rfl rfl
  refine Call_ (ld_blt I hg2 hm2 boot_set ?_)
  refine PyProof.Rows.callWith_type1 (PyProof.Rows.args_cons (thn (ha.run pins s σ H _ I h) fun v s1 ⟨x, H1, I1, r1, q1⟩ => PyProof.Rows.args_nil ?_) na) na rfl
  obtain ⟨z, rfl, ha1, hnd, hl, q1⟩ := q1
  obtain ⟨u, rfl⟩ := r1
  refine call_set_text (I1.ok.hd hc) ha1 hnd hl fun h' tk o es ep t ho he hf hn hk => ?_
  refine PyProof.Rows.args_nil ?_
  subst he
  have I2 : Inv X pins σ H1 { s1 with heap := h', toks := tk } := I1.kept fun b o e => hk b o (Heap.lt_size e) e
  exact call_len_set ho ⟨rfl, rfl, rfl⟩ rfl hf (by rw [hn] <;> omega) ⟨.int z.cps.size, H1, I2.tok _, ⟨_, by rw [hn]⟩, q1⟩
theorem ee_lenSetS {X : Cx} {σ : L2.St} {S : Hp} {a : Expr} {z : Str} {p p2 q pos : Pos} (hm : X.mg "len" = none) (hm2 : X.mg "set" = none) (ha : EE X σ S a (Dt X.K (.str z))) (h1 : z.cps.all (· < 128) = true) (h2 : z.cps.toList.Nodup) (h3 : z.cps.size ≤ 1000) (hc : X.calm = true := by rfl) (hg : Gl X "len" := by rfl) (hg2 : Gl X "set" := by rfl)
    (na : starEach [a] X.env = (false, eval a X.env) :: starEach [] X.env := by rfl) : EE X σ S (.Call (.Name "len" p) [.Call (.Name "set" p2) [a] [] q] [] pos) (Dt X.K (.int (z.cps.size : Nat))) := fun H s Q qq =>
  he_of (pe_lenSetS hg hm hg2 hm2 peb hc na) (ha H s _ fun v S1 H1 g1 pv => by
    cases pv
    exact ⟨z, rfl, h1, h2, h3, qq _ S1 H1 g1 (.int _)⟩)
end Z
namespace Y
open PySem PySem.Spec PyProof.Rows L2 Z
/-! ## enumerate over a tuple -/
theorem meets_enumT {v : Value} {o : Obj} {H : Heap → Prop} (B : Begins v o H) :
    Meets (Builtin.«enumerate.__new__» ⟨[.type "enumerate", v], []⟩) (fun _ R s => H s.heap ∧
      R (.ok (.ret (.ref (s.heap.push o).objs.size))) { s with heap := (s.heap.push o).push { cls := .type "enumerate", data := .fields #[.none, .bool false, .ref s.heap.objs.size, rawInt 0, .none, .none] } }) :=
  .of_wp fun prog w A R s h => by
    obtain ⟨hp, g, d, tk, os⟩ := s; obtain ⟨h1, h⟩ := h
    have hsub := sub_enumerate
    have q1 : ∀ {A' : Around} {E : Value → Shared → Prop} {Q : Value → Shared → Prop}, Q (.ref hp.objs.size) ⟨hp.push o, g, d, tk, os⟩ → wpAny (model prog w) A' (pyIter v) Q E ⟨hp, g, d, tk, os⟩ :=
      fun q => B.iter prog w _ _ ⟨hp, g, d, tk, os⟩ _ h1 q
    wp_walk using q1
    refine wpAny_stack_any fun st => wpAny_pure ?_
    split
    · rename_i c _ _ _ _ _
      cases (c == Value.type "enumerate")
      · wp_walk using q1
        exact ⟨_, rfl, h⟩
      · wp_walk using q1
        exact ⟨_, rfl, h⟩
    · wp_walk using q1
      exact ⟨_, rfl, h⟩
theorem call_enumT {prog : Program} {w : World} {A : Around} {E : Value → Shared → Prop} {s : Shared} {v : Value} {o : Obj} {H : Heap → Prop} {Q : Value → Shared → Prop} (B : Begins v o H) (h1 : H s.heap)
    (h : ∀ h', IsEnum h' (s.heap.objs.size + 1) s.heap.objs.size 0 .none → h'.get? s.heap.objs.size = some o → h'.objs.size = s.heap.objs.size + 2 →
      (∀ b o, s.heap.get? b = some o → h'.get? b = some o) → Q (.ref (s.heap.objs.size + 1)) { s with heap := h' }) :
    wpAny (model prog w) A (call (.type "enumerate") [v]) Q E s := by
  refine callType_new F.called_enumerate (by decide) (F.typeCall_enumerate_1 _) (F.newCall_enumerate_1 _) (fun obj => F.args_object_init_2 obj _) F.entry_enumerate_new
    (meets_enumT B) ⟨h1, ?_⟩
  have hz : (s.heap.push o).objs.size = s.heap.objs.size + 1 := Heap.size_push ..
  show _ ∧ _
  rw [hz]
  have he : IsEnum ((s.heap.push o).push { cls := .type "enumerate", data := .fields #[.none, .bool false, .ref s.heap.objs.size, rawInt 0, .none, .none] }) (s.heap.objs.size + 1) s.heap.objs.size 0 .none := by
    have := Heap.get?_push_size (s.heap.push o) (o := { cls := .type "enumerate", data := .fields #[.none, .bool false, .ref s.heap.objs.size, rawInt 0, .none, .none] }) rfl
    rw [hz] at this; exact this
  refine ⟨⟨_, he, rfl⟩, h _ he (Heap.get?_push_of_some _ (Heap.get?_push_size _ B.free)) (by rw [Heap.size_push, hz]) fun b o x => Heap.get?_push_of_some _ (Heap.get?_push_of_some _ x)⟩
/-- the tuple at a, each item in a new pair -/
def IteT (K : PySem.W.Frag) (a : Addr) : It :=
  ⟨fun i H => ∃ (xs : List V) (x : V), SqT K H a xs ∧ xs[i]? = some x, fun i H v H' => ∃ T x, v = .ref T ∧ H T = none ∧ H' = upd H T (.tup [.int (i : Nat), x]) ∧ ∀ xs, SqT K H a xs → xs[i]? = some x, fun i H => ∃ xs : List V, SqT K H a xs ∧ xs.length ≤ i⟩
theorem isTup_tuple {h : Heap} {a : Addr} {its : Array Value} (p : IsTup h a its) : h.IsTuple a its := by
  obtain ⟨o, e, c, n, d⟩ := p
  exact ⟨o, e, c, n, d⟩
theorem apart_tup {h : Heap} {a it : Addr} {its : Array Value} {i : Nat} (p : h.IsTuple a its) (q : h.IsTupleIter it a i) : a ≠ it := by
  rintro rfl
  obtain ⟨o, e, c, _⟩ := p
  obtain ⟨o', e', c', _⟩ := q
  rw [e] at e'; cases e'
  rw [c] at c'
  exact absurd c' (by decide)
theorem apart_en {h : Heap} {a e it : Addr} {its : Array Value} {k : Int} {old : Value} (p : h.IsTuple a its) (q : IsEnum h e it k old) : e ≠ a := by
  rintro rfl
  obtain ⟨o, e, c, _⟩ := p
  have e' := q
  unfold IsEnum at e'
  rw [e] at e'; cases e'
  exact absurd (Value.type.inj c) (by decide)
theorem turn_enumT {P : Program} {w : World} {K : PySem.W.Frag} {elts : List Expr} {kk : Nat} {tpos : Pos} (a e it : Addr) :
    Turn P w K (.Tuple elts kk tpos) (IteT K a) [e, it] e (fun i h => (∃ old, IsEnum h e it ((i : Nat) : Int) old) ∧ h.IsTupleIter it a i ∧ e ≠ it) where
  mem := by simp
  obj := fun i h st b hb => by
    obtain ⟨⟨old, he⟩, ⟨o, ho, hc, hd⟩, _⟩ := st
    have e' : b = e ∨ b = it := by simpa using hb
    rcases e' with z | z
    · rw [z]; exact ⟨_, he, fun v q => nomatch q⟩
    · rw [z]; exact ⟨o, ho, fun v q => by rw [hd] at q; cases q⟩
  keep := fun i h h' st k => let ⟨⟨old, he⟩, hi, hne⟩ := st; ⟨⟨old, k e (by simp) _ he⟩, hi.at fun o q => k it (by simp) o q, hne⟩
  item := by
    intro X hP hw hK hc i pins s σ H E I hf st hg
    subst hP hw hK
    obtain ⟨⟨old, he⟩, hit, hne⟩ := st
    obtain ⟨xs, x, hq, hx⟩ := hg
    obtain ⟨its, rv, p, hz⟩ := I.tuple hq
    have p := isTup_tuple p
    obtain ⟨u, hu, ru⟩ := rv.get hx
    have hel : e < s.heap.objs.size := Heap.lt_size he
    have hil : it < s.heap.objs.size := by obtain ⟨_, q, _⟩ := hit; exact Heap.lt_size q
    have D : Draws X.prog X.w X.A.in1 it [it, a] its.toArray.size (fun i v => its.toArray[i]? = some v) (fun i h => h.IsTupleIter it a i ∧ h.IsTuple a its.toArray) := Draws.tuple (show X.A.in1.handled = none from I.ok.hd hc) it a (apart_tup p hit) its.toArray
    refine wpAny_pyNext_enum_itemD D he ⟨hit, p⟩ (by
        have := (List.getElem?_eq_some_iff.mp hu).1
        simpa using this) hne (by
        intro z
        rcases List.mem_cons.mp z with z | z
        · exact hne z
        · exact apart_en p he (List.mem_singleton.mp z)) fun x' h' tk hx' ho hit' hT hsz hk => ?_
    have hx'' : its.toArray[i]? = some x' := hx'
    obtain rfl : x' = u := by
      have h2 : its[i]? = some x' := by simpa using hx''
      rw [hu] at h2; exact (Option.some.inj h2).symm
    refine ⟨_, rfl, wpAny_letOwnedTupleGo_enum (s := { s with heap := h', toks := tk + 1 }) ho fun h'' he' sb => ?_⟩
    have hT2 : h''.get? s.heap.objs.size = some { cls := .type "tuple", data := .seq #[.int i tk, x'] } := (sb.2 _ (Nat.ne_of_gt hel)).trans hT
    have new : ObjOk X.prog X.w (upd H s.heap.objs.size (.tup [.int (i : Nat), x])) h'' s.heap.objs.size (.tup [.int (i : Nat), x]) :=
      ⟨by show 2 ≤ sizeLine; decide, [.int i tk, x'], .cons ⟨_, rfl⟩ (.cons ru .nil), ⟨_, hT2, rfl, _, rfl⟩⟩
    have I1 : Inv X pins σ (upd H s.heap.objs.size (.tup [.int (i : Nat), x])) { s with heap := h'', toks := tk + 1 } :=
      I.turnedNew (ch := [e, it]) (fun b ob hb q => (sb.2 b (fun z => hb (by simp [z]))).trans (hk b ob (fun z => hb (by simp [z])) (fun z => hb (by simp [z])) q)) hf (Nat.le_refl _) new
    refine ⟨.ref s.heap.objs.size, _, I1, rfl, ⟨_, x, rfl, I.hok.fresh (Nat.le_refl _), rfl, fun ys hy => by rw [I.tuple_inj hy hq]; exact hx⟩, ⟨⟨x', ?_⟩, hit'.1.at fun o q => (sb.2 it (Ne.symm hne)).trans q, hne⟩, fun b hb => ?_⟩
    · have e1 : ((i + 1 : Nat) : Int) = (i : Int) + 1 := by omega
      rw [e1]; exact he'
    · have hb' : b < s.heap.objs.size := by
        have e' : b = e ∨ b = it := by simpa using hb
        rcases e' with z | z
        · rw [z]; exact hel
        · rw [z]; exact hil
      rw [upd_ne (Nat.ne_of_lt hb')]
      exact (hf b hb).1
  done := by
    intro X hP hw hK hc i pins s σ H E I hf st hg
    subst hP hw hK
    obtain ⟨⟨old, he⟩, hit, hne⟩ := st
    obtain ⟨xs, hq, hx⟩ := hg
    obtain ⟨its, rv, p, hz⟩ := I.tuple hq
    have p := isTup_tuple p
    obtain ⟨f0, f1, f2, f3, f4, f5⟩ := hf it (by simp)
    have hl := rv.length
    have hT : s.TypeIs (.ref e) "enumerate" := ⟨_, he, rfl⟩
    unfold pyNext
    refine wpAny_bind (wpAny_attempt (wpAny_callSpecial?_slot (name := Str.ofString "__next__") hT F.slot_enumerate_next
      (wpAny_call_entry F.slot_enumerate_next hT F.entry_enumerate_next ?_ (F.args_enumerate_next_1 _))))
    show wpAny _ _ (PySem.field (.ref e) 2 >>= _) _ _ _
    refine wpAny_bind (wpAny_field he rfl (x := .ref it) rfl ?_)
    refine wpAny_bind (wpAny_nextOf_tuple_end (I.ok.hd hc) hit p (by simp; omega) fun h' x he' hx' => ?_)
    obtain ⟨o, ho, hc'⟩ := hx'
    refine wpAny_bind (wpAny_isInstance (T := "StopIteration") (b := true) ⟨o, ho, hc'⟩ isSubtype_stop ?_)
    exact wpAny_pure ⟨rfl, I.turned (t' := s.toks) (fun b o hb q => he' b o hb q) f0 f1 f3 f4 f5⟩
  self := fun A i s Q E st h => let ⟨⟨_, he⟩, _⟩ := st; wpAny_pyIter_enum he h
def iEnumT (K : PySem.W.Frag) (ta : TA) : TI := fun σ H R => ta σ H fun vs H1 => ∃ a xs, vs = [.ref a] ∧ SqT K H1 a xs ∧ R (IteT K a) H1
theorem pi_enumT {X : Cx} {tg e : Expr} {ta : TA} {p pos tpos : Pos} {elts : List Expr} {kk : Nat} (hg : Gl X "enumerate") (hm : X.mg "enumerate" = none) (ha : PA X [e] ta) (hs : starEach [e] X.env = [(false, eval e X.env)] := by rfl) :
    PI X (.Tuple elts kk tpos) (.Call (.Name "enumerate" p) [e] [] pos) (iEnumT X.K ta) := by
  refine ⟨fun pins s σ H R I h => ?_⟩
  refine Call_ (ld_blt I hg hm boot_enumerate (PyProof.Rows.callWith_type1 (thn (ha.run pos pins s σ H _ I h) fun us s1 ⟨vs, H1, I1, r1, q1⟩ => ?_) hs rfl))
  obtain ⟨a, xs, ex, hq, q⟩ := q1
  subst ex
  cases r1 with
  | cons r rr =>
    cases rr
    cases r
    obtain ⟨its, rv, p', hz⟩ := I1.tuple hq
    refine call_enumT (begins_tuple a its.toArray) (isTup_tuple p') fun h' he hit hsz hk => wpAny_pyIter_enum he ?_
    have I2 : Inv X pins σ H1 { s1 with heap := h' } := I1.kept (t' := s1.toks) hk
    refine ⟨s1.heap.objs.size + 1, [s1.heap.objs.size + 1, s1.heap.objs.size], _, _, H1, rfl, I2, turn_enumT a (s1.heap.objs.size + 1) s1.heap.objs.size, ⟨⟨.none, he⟩, ⟨_, hit, rfl, rfl⟩, Nat.succ_ne_self _⟩, fun b hb => ?_, q⟩
    have e' : b = s1.heap.objs.size + 1 ∨ b = s1.heap.objs.size := by simpa using hb
    have hle : s1.heap.objs.size ≤ b := by
      rcases e' with z | z
      · rw [z]; exact Nat.le_add_right _ _
      · rw [z]; exact Nat.le_refl _
    exact I1.fpOk hle (I1.hok.fresh hle)
section
variable {X : Cx} {σ : L2.St} {S S' : Hp} {e a b c o : Expr} {es : List Expr} {P R : V → Hp → Prop} {pos p : Pos} {ds : List PyData}
theorem ei_enumT {elts : List Expr} {kk : Nat} {tpos : Pos} (hm : X.mg "enumerate" = none) (ha : EE X σ S a (Dt X.K (.tuple ds))) (hg : Gl X "enumerate" := by rfl) (hs : starEach [a] X.env = [(false, eval a X.env)] := by rfl) :
    EI X σ S (.Tuple elts kk tpos) (.Call (.Name "enumerate" p) [a] [] pos) (Ds X.K (enumD ds)) := fun H s R q =>
  hi_of (pi_enumT (tg := a) hg hm pab hs) ((ea_1 ha (by rw [hs]; rfl)).2 H s _ fun vs S1 H1 g1 al => by
    obtain ⟨v, rfl, pv⟩ := al.one
    obtain ⟨l, xs, rfl, hl, hx, _⟩ := pv.tup_inv
    have hlen : (Ds X.K (enumD ds)).length = xs.length := by rw [ds_len]; unfold enumD zipD; rw [List.length_zipWith, upto_len, hx.1]; omega
    refine ⟨l, xs, rfl, sqt_up g1.sub hl, q _ S1 H1 g1 ⟨fun i H hi hs => ?_, fun H hs => ?_, fun i H x H' hi hs y T st th => ?_⟩⟩
    · rw [hlen] at hi
      exact ⟨xs, xs[i], sqt_up hs hl, by simp [hi]⟩
    · rw [hlen]
      exact ⟨xs, sqt_up hs hl, Nat.le_refl _⟩
    · rw [hlen] at hi
      obtain ⟨t, x1, rfl, ht, rfl, k1⟩ := y
      have i1 : i < ds.length := by rw [← hx.1]; omega
      exact ⟨_, Gr.new th ht, _, ds_get (zipD_get (upto_get i1) (List.getElem?_eq_getElem i1)), pair_new th ht (.int _) ((hx.2 i _ _ (k1 xs (sqt_up hs hl)) (List.getElem?_eq_getElem i1)).up st)⟩)
end
end Y
namespace Y
open PySem PySem.Spec PyProof.Rows L2 Z
/-! ## own classes -/
/-- a known method -/
structure KM (P : Program) (w : World) (K : PySem.W.Frag) (mg : Str → Option Value) (base : Heap) (C : Addr) (m : Str) (k : Nat) (sp : Sp) : Prop where
  ex : ∃ f fd ps, FnOk P w K mg base CX0 k f fd ps sp ∧ PySem.W.findIn K (.ref C) m = some (some (.ref f)) ∧ PySem.W.isFn K (.ref f) = true ∧ PySem.W.keepIn K (.ref f) = true ∧ Binds K fd ps []
theorem KM.mono {P : Program} {w : World} {K : PySem.W.Frag} {mg : Str → Option Value} {base : Heap} {C : Addr} {m : Str} {j k : Nat} {sp : Sp} (h : KM P w K mg base C m j sp) (hk : j ≤ k) : KM P w K mg base C m k sp := by
  obtain ⟨f, fd, ps, F, r⟩ := h.ex
  exact ⟨f, fd, ps, F.mono hk, r⟩
/-- an instance of the class at C without the attribute m of its own -/
def InsP (C : Addr) (m : Str) (P : V → Hp → Prop) : Prop := ∀ v S, P v S → ∃ a dx fs, v = .ref a ∧ S a = some (.ins C dx fs) ∧ fs.lookup m = none
section
variable {X : Cx} {σ : L2.St} {S S' H : Hp} {e a b c o : Expr} {es : List Expr} {P P0 R : V → Hp → Prop} {Ps : List (V → Hp → Prop)} {pos p apos : Pos} {k : Nat} {x m f : Str} {sp : Sp} {C dx r : Addr} {fs : List (Str × V)} {v : V} {D : Ends} {rest : List Stmt}
/-- o.f, an attribute -/
theorem ee_fld (ho : EE X σ S o P0) (hP : ∀ w S1, P0 w S1 → ∃ a dx fs v, w = .ref a ∧ S1 a = some (.ins C dx fs) ∧ fs.lookup f = some v ∧ P v S1) (c : Cls X.K C) (n : NoAttr X.K C f) (hb : attributeBase o f X.env (eval o X.env) = eval o X.env := by rfl) : EE X σ S (.Attribute o f pos) P := fun H s Q q =>
  he_of (pe_fld peb hb) (ho H s _ fun w S1 H1 g1 pw => by
    obtain ⟨a, dx, fs, v, rfl, h1, h2, pv⟩ := hP w S1 pw
    exact ⟨a, C, dx, fs, v, rfl, g1.sub _ _ h1, c, n, h2, q v S1 H1 g1 pv⟩)
/-- self.f = e where self is not yet told in S -/
theorem hs_fld (hv : EE X σ S e P) (s : Same S H) (ho : ∀ S1, Same S S1 → EE X σ S1 o (fun w _ => w = .ref r)) (hH : H r = some (.ins C dx fs)) (c : Cls X.K C) (n : NoAttr X.K C f) (hl : fs.length < 1000)
    (q : ∀ v S' H', Gr S H S' H' → P v S' → H' r = some (.ins C dx fs) → HS X D rest σ (upd H' r (.ins C dx (putF f v fs)))) (hs : swapsWith e (some (.Attribute o f apos)) pos.line X.env = pure false := by rfl) : HS X D (.Assign [.Attribute o f apos] e pos :: rest) σ H :=
  hs_cons (ps_fld peb peb hs) (hv H s _ fun v S1 H1 g1 pv => by
    refine (ho S1 g1.st) H1 g1.sub _ fun w S2 H2 g2 pw => ?_
    subst pw
    have e1 := g1.hh _ _ hH
    have e2 := g2.hh _ _ e1
    refine ⟨r, C, dx, fs, rfl, e2, c, n, hl, ?_⟩
    have hS : S2 = S2 := rfl
    exact q v S1 H2 ⟨g1.st, g2.st.trans g2.sub, g1.hh.trans g2.hh, g1.old⟩ pv e2)
theorem ee_meth {pl : Sem Bool} (D : KM X.prog X.w X.K X.mg X.base C m k sp) (c : Cls X.K C) (hr : Room k X.A) (ho : EE X σ S o P0) [Mn P0] (hP : InsP C m P0) (ha : EA X σ S (e :: es) Ps) (hsp : SpE sp S (P0 :: Ps) R)
    (hst : starEach (e :: es) X.env = (false, eval e X.env) :: starEach es X.env := by rfl) (hpl : (backTo pos (starEach es X.env)).any (·.1) = false := by rfl)
    (ht : eval (.Call (.Attribute o m apos) (e :: es) [] pos) X.env = (do
      let ov ← eval o X.env
      standAt apos.atName
      let (f, first) ← holding [ov] (getMethod ov m pl)
      callWith pos f first (backTo pos (starEach (e :: es) X.env)) (backToKw pos (keywordEach [] X.env))) := by rfl) : EE X σ S (.Call (.Attribute o m apos) (e :: es) [] pos) R := fun H s Q q => by
  obtain ⟨f, fd, ps, F, hm, hf, hk, hb⟩ := D.ex
  refine he_of (pe_meth peb c ⟨hm, hf, hk⟩ F hr hb .nil pass0 pab hst hpl ht) (ho H s _ fun w S1 H1 g1 pw => ?_)
  obtain ⟨a, dx, fs, rfl, h1, h2⟩ := hP w S1 pw
  refine ⟨a, dx, fs, rfl, g1.sub _ _ h1, h2, (ha.up g1.st).2 H1 g1.sub _ fun vs S2 H2 g2 al => ?_⟩
  rw [List.append_nil]
  exact hsp _ S2 H2 (g1.st.trans g2.st) g2.sub (.cons (Mn.up g2.st pw) al) Q fun v S3 H3 g3 rv => q v S3 H3 ((g1.trans g2).trans g3) rv
theorem ee_meth0 {pl : Sem Bool} (D : KM X.prog X.w X.K X.mg X.base C m k sp) (c : Cls X.K C) (hr : Room k X.A) (ho : EE X σ S o P0) (hP : InsP C m P0) (hsp : SpE sp S [P0] R)
    (ht : eval (.Call (.Attribute o m apos) [] [] pos) X.env = (do
      let ov ← eval o X.env
      standAt apos.atName
      let (f, first) ← holding [ov] (getMethod ov m pl)
      callWith pos f first (backTo pos (starEach [] X.env)) (backToKw pos (keywordEach [] X.env))) := by rfl) : EE X σ S (.Call (.Attribute o m apos) [] [] pos) R := fun H s Q q => by
  obtain ⟨f, fd, ps, F, hm, hf, hk, hb⟩ := D.ex
  refine he_of (pe_meth0 peb c ⟨hm, hf, hk⟩ F hr hb .nil pass0 ht) (ho H s _ fun w S1 H1 g1 pw => ?_)
  obtain ⟨a, dx, fs, rfl, h1, h2⟩ := hP w S1 pw
  refine ⟨a, dx, fs, rfl, g1.sub _ _ h1, h2, ?_⟩
  exact hsp _ S1 H1 g1.st g1.sub (.cons pw .nil) Q fun v S3 H3 g3 rv => q v S3 H3 (g1.trans g3) rv
/-- a call anywhere below the body -/
theorem run_fnA {CX : CXT} {k : Nat} {f : Addr} {fd : FuncData} {ps : List Str} {E : XK} {A : Around} {pins : List (Addr × Obj)} {s : Shared} {Q : VK} {us : List Value} {vs : List V} (F : FnOk X.prog X.w X.K X.mg X.base CX k f fd ps sp) (hr : Room k A) (hA : A.frames = X.A.frames) (hb : Binds X.K fd ps []) (hx : Passes CX X E)
    (I : Inv X pins σ H s) (r : Vals vs us) (h : sp vs H Q E) : wpAny (model X.prog X.w) A (call (.ref f) us) (EP X pins σ Q) X.xe s := by
  have hl : (us ++ []).length = ps.length := by rw [List.append_nil, ← r.length]; exact F.len _ _ _ _ h
  have e0 : Env0 X.prog X.w X.K X.mg X.base A X.stack s H := by
    have e := I.env0
    exact ⟨by rw [hA]; exact e.frames, e.mod, e.bs, e.bsz, e.funs, e.frf, e.hok, e.bare⟩
  refine wpAny_call (codeAny_mono (F.run A X.stack s H ⟨us, []⟩ us vs Q E hr e0 (by have := hb s us I.kIn hl; simpa using this) r h) fun r s' hq => ?_)
  cases r with
  | error e => exact hx pins σ H s e s' I hq
  | ok fl =>
    cases fl with
    | ret u => exact I.after hq
    | next => exact False.elim hq
    | brk => exact False.elim hq
    | cont => exact False.elim hq
theorem insAt {pins : List (Addr × Obj)} {s : Shared} {r : Addr} (I : Inv X pins σ H s) (e : H r = some (.ins C dx fs)) : ∃ ox od, PySem.W.InstAt s.heap r ox C (some od) := by
  obtain ⟨mA, J, _⟩ := ins_get I.hok e
  obtain ⟨od, J, _⟩ := J.look
  exact ⟨_, od, J⟩
/-- what v's type is, told apart from C -/
structure NotC (K : PySem.W.Frag) (C : Addr) (v : V) (H : Hp) : Prop where
  ty : (∃ r dx fs, v = .ref r ∧ H r = some (.ins C dx fs)) ∨ (∃ z, v = .str z) ∧ PySem.W.subIn K (.type "str") (.ref C) = some false
def rEqO (K : PySem.W.Frag) (C : Addr) (sp : Sp) : R2 := fun x y H Q => ∃ r dx fs, x = .ref r ∧ H r = some (.ins C dx fs) ∧ NotC K C y H ∧ sp [x, y] H (fun v H' => ∃ b, v = .bl b ∧ Q (.bl b) H') E0
theorem notC_ok {pins : List (Addr × Obj)} {s : Shared} {y : V} {u : Value} (I : Inv X pins σ H s) (ry : RelV y u) (h : NotC X.K C y H) : ∃ tb, PySem.W.Looks (model X.prog X.w) s.heap (typeOf u) tb ∧ PySem.W.notFirst X.K C tb = true := by
  rcases h.ty with ⟨r, dx, fs, rfl, e⟩ | ⟨⟨z, rfl⟩, e⟩
  · cases ry
    obtain ⟨ox, od, J⟩ := insAt I e
    exact ⟨_, J.type, by simp [PySem.W.notFirst]⟩
  · obtain ⟨t, rfl⟩ := ry
    exact ⟨.type "str", PySem.W.Looks.of_pure rfl, by simp [PySem.W.notFirst, e]⟩
end
section
open PySem.W
variable {prog : Program} {w : World} {A : Around} {E : Value → Shared → Prop} {s : Shared} {K : Frag} {x C L f : Addr} {h₀ : Heap} {m : Str → Option Value} {ox : Obj} {od : Option Obj} {b tb : Value}
theorem ifBound_B {M : Model} {name : Str} {id : String} {args : List Value} {Q : Option Value → Shared → Prop} (X : K.In s.heap) (I : InstAt s.heap x ox C od) (hs : findIn K (.ref C) name = some (some (.builtin id)))
    (hb : ∀ self, bindSpecial (.builtin id) self = pure (.builtin id, [self])) (h : wpAny M A (call (.builtin id) (.ref x :: args)) (fun v => Q (some v)) E s) : wpAny M A (callSpecialIfBound? (.ref x) name args) Q E s := by
  simp only [callSpecialIfBound?, bindSpecialIfBound?]
  refine wpAny_holding (wpAny_bind (wpAny_bind (wpAny_bind (I.type.here ((looks_findIn X hs).here ?_)))))
  refine wpAny_bind (wpAny_askSetting (wpAny_ite ?_))
  have fin : wpAny M A (call (.builtin id) ([.ref x] ++ args) >>= fun v => pure (some v)) Q E s := wpAny_bind (wpAny_mono h (fun v s' h' => wpAny_pure h') fun _ _ h' => h')
  split
  · exact wpAny_bind ((Looks.of_pure (hb _)).here (wpAny_pure (by exact fin)))
  · exact wpAny_tryCatch (wpAny_bind ((Looks.of_pure (hb _)).here (wpAny_pure (by exact fin))))
theorem ne_K {Q : Value → Shared → Prop} (hu : A.units + 1 < cLine) (F : Fr h₀ L s.heap m) (X₀ : K.In h₀) (I : InstAt s.heap x ox C od) (hb : Looks (model prog w) s.heap (typeOf b) tb) (hn : notFirst K C tb = true)
    (hne : findIn K (.ref C) "__ne__" = some (some (.builtin "object.__ne__"))) (hm : mroIn K C (.type "object") = some true) (hs : findIn K (.ref C) "__eq__" = some (some (.ref f))) (hf : isFn K (.ref f) = true)
    (h : wpAny (model prog w) A.in1 (call (.ref f) [.ref x, b]) (fun v s' => ∃ k, v = .bool k ∧ Q (.bool (!k)) s') E s) : wpAny (model prog w) A (richCompare .NotEq (.ref x) b) Q E s := by
  have X := X₀.keeps F.keep
  have inner : wpAny (model prog w) A.in1 (Builtin.«object.__ne__» ⟨[.ref x, b], []⟩) (fun fin s' => ∃ v, fin = .done (.ret v) ∧ (∃ k, v = .bool k ∧ Q (.bool k) s')) E s := by
    unfold Builtin.«object.__ne__»
    refine wpAny_bind (m := slotArgs "__ne__" 1 _) (wpAny_pure ?_)
    refine wpAny_bind (m := cRoomFor _ _) (wpAny_cRoomFor hu ?_)
    refine wpAny_bind (m := callSpecialIfBound? (.ref x) (Str.ofString "__eq__") [b]) (ifBound_K X I hs hf (wpAny_mono h (fun r s' hr => ?_) fun _ _ y => y))
    obtain ⟨k, rfl, hq⟩ := hr
    refine wpAny_bind (m := truthy (.bool k)) (wpAny_truthy_bool (wpAny_pure ⟨_, rfl, _, rfl, hq⟩))
  have one : wpAny (model prog w) A (tryCompare (.ref x) (cmpInfo .NotEq).2.1 b) (fun r s' => ∃ v, r = some v ∧ Q v s') E s := by
    unfold tryCompare
    refine wpAny_bind (ifBound_B X I hne PySem.F.slot_enumerate_ne.bind (wpAny_call (codeAny_call_builtin PySem.F.slot_enumerate_ne.plain PySem.F.cmpEntry_ne (check_slot (i := "object.__ne__") (owner := "object") (n := "__ne__") (by decide +kernel) (by decide +kernel) (I.type.andThen (looks_mroIn X hm)) (PySem.F.cmpArgs_ne _ _) ?_))))
    refine wpAny_mono inner (fun fin s' hq => ?_) fun _ _ e => e
    obtain ⟨v, rfl, k, rfl, q⟩ := hq
    exact wpAny_pure ⟨_, rfl, q⟩
  unfold richCompare
  simp only [oneThing_ref]
  refine wpAny_holding (wpAny_bind (wpAny_cRoomFor (Nat.lt_of_succ_lt hu) ?_))
  refine wpAny_bind (I.type.here (wpAny_bind (hb.here ?_)))
  split
  · rename_i q
    have e : subIn K tb (.ref C) = some false := by
      rcases Bool.or_eq_true_iff.mp hn with e | e
      · rw [beq_iff_eq.mp e] at q; simp at q
      · exact beq_iff_eq.mp e
    refine wpAny_bind ((looks_subIn X e).here ?_)
    simp only [Bool.false_eq_true, if_false]
    refine wpAny_bind (wpAny_mono one (fun r s' z => ?_) fun _ _ e => e)
    obtain ⟨v, rfl, hq⟩ := z
    exact wpAny_pure hq
  · refine wpAny_bind (wpAny_pure ?_)
    simp only [Bool.false_eq_true, if_false]
    refine wpAny_bind (wpAny_mono one (fun r s' z => ?_) fun _ _ e => e)
    obtain ⟨v, rfl, hq⟩ := z
    exact wpAny_pure hq
end
end Y
namespace Y
open PySem PySem.Spec PyProof.Rows L2 Z
section
variable {X : Cx} {σ : L2.St} {S S' H : Hp} {e a b c o : Expr} {es : List Expr} {P Pa Pb P0 R : V → Hp → Prop} {Ps : List (V → Hp → Prop)} {pos p apos : Pos} {k : Nat} {x m f : Str} {sp : Sp} {C dx r : Addr} {fs : List (Str × V)} {v : V} {D : Ends} {rest : List Stmt} {bo : Bool}
/-- the facts that an own class without __ne__ has -/
structure NeC (K : PySem.W.Frag) (C : Addr) : Prop where
  ne : PySem.W.findIn K (.ref C) "__ne__" = some (some (.builtin "object.__ne__"))
  ob : PySem.W.mroIn K C (.type "object") = some true
theorem op_neO (D : KM X.prog X.w X.K X.mg X.base C "__eq__" k sp) (N : NeC X.K C) (hr : Room (k + 1) X.A) : OpR X (compareOp .NotEq) (fun x y H Q => rEqO X.K C sp x y H (fun v H' => ∀ b, v = .bl b → Q (.bl (!b)) H')) := by
  intro pins s σ H x y v u Q I rx ry hq
  obtain ⟨r, dx, fs, rfl, hx, hy, q⟩ := hq
  cases rx
  obtain ⟨f, fd, ps, F, hm, hf, hk, hb⟩ := D.ex
  obtain ⟨ox, od, J⟩ := insAt I hx
  obtain ⟨m, hF⟩ := I.fr
  obtain ⟨tb, L, nf⟩ := notC_ok I ry hy
  show wpAny (model X.prog X.w) X.A (richCompare .NotEq (.ref r) u) _ _ _
  refine ne_K (by have := hr.in1.units0; simpa [Around.in1] using this) hF I.ok.mod.kin J L nf N.ne N.ob hm hf (wpAny_mono (run_fnA (vs := [.ref r, y]) F hr.in1 rfl hb pass0 I (.cons rfl (.cons ry .nil)) q) (fun rv s' hq' => ?_) fun _ _ z => z)
  obtain ⟨w, H', I', rw', b, rfl, q'⟩ := hq'
  cases rw'
  exact ⟨b, rfl, .bl (!b), H', I', rfl, q' b rfl⟩
/-- what the promise of an own == (or `in`) is to be: a bool -/
def CmpP (sp : Sp) (S : Hp) (Pa Pb : V → Hp → Prop) (b : Bool) : Prop := ∀ v w S1 H1, Same S S1 → Same S1 H1 → Pa v S1 → Pb w S1 → ∀ Q : VK, (∀ S2 H2, Gr S1 H1 S2 H2 → Q (.bl b) H2) → sp [v, w] H1 Q E0
theorem opE_neO [Mn Pa] [Mn Pb] (hC : ∀ w S1, Pa w S1 → ∃ r dx fs, w = .ref r ∧ S1 r = some (.ins C dx fs)) (hN : ∀ w S1, Pb w S1 → NotC X.K C w S1) (h : CmpP sp S Pa Pb bo) : OpE (fun x y H Q => rEqO X.K C sp x y H (fun v H' => ∀ b, v = .bl b → Q (.bl (!b)) H')) S Pa Pb (Dt X.K (.bool (!bo))) := fun x y S1 H1 st s px py Q q => by
  obtain ⟨r, dx, fs, rfl, e⟩ := hC x S1 px
  refine ⟨r, dx, fs, rfl, s _ _ e, ⟨?_⟩, h _ _ S1 H1 st s px py _ fun S2 H2 g => ⟨bo, rfl, fun b' eb => ?_⟩⟩
  · rcases (hN y S1 py).ty with ⟨r', dx', fs', rfl, e'⟩ | e'
    · exact Or.inl ⟨r', dx', fs', rfl, s _ _ e'⟩
    · exact Or.inr e'
  · cases eb
    exact q _ S2 H2 g (.bl _)
theorem et_neO [Mn Pa] [Mn Pb] (D : KM X.prog X.w X.K X.mg X.base C "__eq__" k sp) (N : NeC X.K C) (hr : Room (k + 1) X.A) (ha : EE X σ S a Pa) (hb : EE X σ S b Pb) (hC : ∀ w S1, Pa w S1 → ∃ r dx fs, w = .ref r ∧ S1 r = some (.ins C dx fs)) (hN : ∀ w S1, Pb w S1 → NotC X.K C w S1) (h : CmpP sp S Pa Pb bo) (hm : behindInMarks .NotEq b = false := by exact nomark _) : ET X σ S (.Compare a [.NotEq] [b] pos) (!bo) :=
  et_cmp (op_neO D N hr) ha hb (opE_neO hC hN h) hm
/-- repr(o), an own __repr__ that gives a text -/
theorem ee_repr (D : KM X.prog X.w X.K X.mg X.base C "__repr__" k sp) (hr : Room (k + 1) X.A) (hm : X.mg "repr" = none) (ha : EE X σ S a P0) [Mn P0] (hC : ∀ w S1, P0 w S1 → ∃ r dx fs, w = .ref r ∧ S1 r = some (.ins C dx fs)) {z : Str} (hsp : SpE sp S [P0] (Dt X.K (.str z))) (hg : Gl X "repr" := by rfl)
    (he : starEach [a] X.env = (false, eval a X.env) :: starEach [] X.env := by rfl) (hpl : (backTo pos (starEach [] X.env)).any (·.1) = false := by rfl) : EE X σ S (.Call (.Name "repr" p) [a] [] pos) (Dt X.K (.str z)) := by
  have hc : CallR X (.builtin "repr") (fun vs H Q => ∃ r dx fs, vs = [.ref r] ∧ H r = some (.ins C dx fs) ∧ sp vs H (fun v H' => ∃ z, v = .str z ∧ Q (.str z) H') E0) := by
    intro pins s σ H vs us Q I rv hq
    obtain ⟨r, dx, fs, rfl, hx, q⟩ := hq
    obtain ⟨f, fd, ps, F, hm, hf, hk, hb⟩ := D.ex
    obtain ⟨u, rfl, rx⟩ : ∃ u, us = [u] ∧ RelV (.ref r) u := by
      cases rv with
      | cons h t => cases t; exact ⟨_, rfl, h⟩
    cases rx
    obtain ⟨ox, od, J⟩ := insAt I hx
    obtain ⟨m, hF⟩ := I.fr
    refine PySem.W.repr_K (by have := hr.in1.units0; simpa [Around.in1] using this) hF I.ok.mod.kin J hm hf (wpAny_mono (run_fnA (vs := [.ref r]) F hr.in1 rfl hb pass0 I (.cons rfl .nil) q) (fun rv s' hq' => ?_) fun _ _ z => z)
    obtain ⟨w, H', I', rw', b, rfl, q'⟩ := hq'
    obtain ⟨t, rfl⟩ := rw'
    exact ⟨.str b, H', I', ⟨t, rfl⟩, q'⟩
  refine ee_callB hc hm (by first | rfl | decide +kernel) (ea_1 ha he) (fun vs S1 H1 st s al Q q => ?_) hg (by decide) (by decide) he hpl
  obtain ⟨v, rfl, pv⟩ := al.one
  obtain ⟨r, dx, fs, rfl, e⟩ := hC v S1 pv
  exact ⟨r, dx, fs, rfl, s _ _ e, hsp _ S1 H1 st s (.cons pv .nil) _ fun v S2 H2 g pv => by
    cases pv
    exact ⟨z, rfl, q _ S2 H2 g (.str _)⟩⟩
end
/-! ## a new instance -/
structure GrI (a : Addr) (S H S' H' : Hp) : Prop where
  st : Same S S'
  sub : Same S' H'
  hh : ∀ z o, z ≠ a → H z = some o → H' z = some o
  old : ∀ z o, z ≠ a → H z = some o → NT o → S' z = S z
/-- what __init__ promises -/
def spI (C : Addr) (K : PySem.W.Frag) (F : List PyData → (Addr → V → Hp → Prop) → Prop) : Sp := fun vs H Q _ => ∃ S a dx ws ds R, vs = .ref a :: ws ∧ Same S H ∧ S a = none ∧ H a = some (.ins C dx []) ∧ Dts K ds ws S ∧ F ds R ∧ ∀ l S' H', GrI a S H S' H' → S l = none → R l (.ref a) S' → Q .non H'
/-- a thing whose part at l is new -/
def NewR (R : Addr → V → Hp → Prop) (S : Hp) : V → Hp → Prop := fun v S' => ∃ l, S l = none ∧ R l v S'
theorem NewR.dn {R : Addr → V → Hp → Prop} {S S0 S' : Hp} {v : V} (s : Same S0 S) (h : NewR R S v S') : NewR R S0 v S' := let ⟨l, a, b⟩ := h; ⟨l, s.free a, b⟩
instance {R : Addr → V → Hp → Prop} {S : Hp} [h : ∀ l, Mn (R l)] : Mn (NewR R S) := ⟨fun s ⟨l, a, b⟩ => ⟨l, a, (h l).up s b⟩⟩
theorem GrI.step {a : Addr} {S H S1 H1 S2 H2 : Hp} (i : GrI a S H S1 H1) (g : Gr S1 H1 S2 H2) : GrI a S H S2 H2 :=
  ⟨i.st.trans g.st, g.sub, fun z o n h => g.hh _ _ (i.hh z o n h), fun z o n h m => (g.old z o (i.hh z o n h) m).trans (i.old z o n h m)⟩
theorem GrI.put {a : Addr} {S H S1 H1 : Hp} {o : HO} (i : GrI a S H S1 H1) (h : S a = none) : GrI a S H (upd S1 a o) (upd H1 a o) :=
  ⟨fun z u e => by
    have ne : z ≠ a := fun q => by subst q; rw [h] at e; cases e
    rw [upd_ne ne]; exact i.st z u e, fun z u e => by
    by_cases ne : z = a
    · subst ne; rw [upd_same] at e ⊢; exact e
    · rw [upd_ne ne] at e ⊢; exact i.sub z u e, fun z u n e => by rw [upd_ne n]; exact i.hh z u n e, fun z u n e m => by rw [upd_ne n]; exact i.old z u n e m⟩
theorem GrI.start {a : Addr} {S H : Hp} {o : HO} (s : Same S H) (h : S a = none) (e : H a = some o) : GrI a S H (upd S a o) H :=
  ⟨Same.new h, fun z u q => by
    by_cases ne : z = a
    · subst ne; rw [upd_same] at q; rw [e]; exact q
    · rw [upd_ne ne] at q; exact s z u q, fun z u n q => q, fun z u n q _ => upd_ne n⟩
section
variable {X : Cx} {σ : L2.St} {S S' H : Hp} {e a b c o : Expr} {es : List Expr} {P P0 : V → Hp → Prop} {Ps : List (V → Hp → Prop)} {pos p apos : Pos} {k : Nat} {x m : Str} {sp : Sp} {C f : Addr} {fd : FuncData} {ps : List Str} {ds dd : List PyData} {dvs : List V} {us : List Value} {R : Addr → V → Hp → Prop}
theorem make_init {F : List PyData → (Addr → V → Hp → Prop) → Prop} {vs : List V} {S1 H1 : Hp} {a dx : Addr} {Q : Hp → Prop} (s : Same S1 H1) (hd : Dts X.K ds vs S1) (hF : F ds R) (ha : H1 a = none) (hdx : H1 dx = none) (hne : dx ≠ a) (q : ∀ S2 H2, Gr S1 H1 S2 H2 → NewR R S1 (.ref a) S2 → Q H2) :
    spI C X.K F (.ref a :: vs) (upd (upd H1 dx (.own a)) a (.ins C dx [])) (fun v H2 => v = .non ∧ Q H2) E0 := by
  have hst : Same H1 (upd (upd H1 dx (.own a)) a (.ins C dx [])) := (Same.new hdx).trans (Same.new (by rw [upd_ne hne.symm]; exact ha))
  refine ⟨S1, a, dx, vs, ds, R, rfl, s.trans hst, s.free ha, upd_same, hd, hF, fun l S' H' g hl r => ⟨rfl, q S' H' ⟨g.st, g.sub, fun z o hz => ?_, fun z o hz m => ?_⟩ ⟨l, hl, r⟩⟩⟩
  · exact g.hh z o (ne_of_none hz ha) (hst z o hz)
  · exact g.old z o (ne_of_none hz ha) (hst z o hz) m
theorem ee_make {F : List PyData → (Addr → V → Hp → Prop) → Prop} (M : Mk X.K C f) (G : FnOk X.prog X.w X.K X.mg X.base CX0 k f fd ps (spI C X.K F)) (hr : Room (k + 1) X.A) (hm : X.mg x = some (.ref C)) (hb : Binds X.K fd ps us) (hd : Vals dvs us) (hdd : ∀ S, Dts X.K dd dvs S) (ha : EA X σ S (e :: es) (Ds X.K ds)) (hF : F (ds ++ dd) R)
    (hg : Gl X x := by rfl) (hdb : (x == ("__debug__" : Str)) = false := by decide) (he : starEach (e :: es) X.env = (false, eval e X.env) :: starEach es X.env := by rfl) (hpl : (backTo pos (starEach es X.env)).any (·.1) = false := by rfl) : EE X σ S (.Call (.Name x p) (e :: es) [] pos) (NewR R S) := fun H s Q q =>
  he_of (pe_make M G hr hg hm hb hd pass0 pab hdb he hpl) (ha.2 H s _ fun vs S1 H1 g1 al a dx h1 h2 h3 =>
    make_init g1.sub ((al_dts al).append (hdd S1)) hF h1 h2 h3 fun S2 H2 g2 r => q _ S2 H2 (g1.trans g2) (r.dn g1.st))
end
end Y
namespace Y
open PySem PySem.Spec PyProof.Rows L2 Z
section
variable {X : Cx} {σ : L2.St} {S S' H : Hp} {e a b c o : Expr} {es : List Expr} {P Pa Pb P0 R : V → Hp → Prop} {Ps : List (V → Hp → Prop)} {pos p apos : Pos} {i j l : Int} {d : PyData} {ds : List PyData} {k : Bool}
/-- a <= b <= c -/
theorem et_chainLE (ha : EE X σ S a (Dt X.K (.int i))) (hb : EE X σ S b (Dt X.K (.int j))) (hc : EE X σ S c (Dt X.K (.int l))) (hm : lastMarks [.LtE, .LtE] [b, c] = false := by with_unfolding_all rfl) : ET X σ S (.Compare a [.LtE, .LtE] [b, c] pos) (decide (i ≤ j) && decide (j ≤ l)) := fun H s Q q =>
  ht_of (pt_chain op_le op_le peb peb peb hm) (ha H s _ fun x S1 H1 g1 px => (hb.up g1.st) H1 g1.sub _ fun y S2 H2 g2 py => by
    cases px; cases py
    refine ⟨i, j, rfl, rfl, decide (i ≤ j), rfl, ?_⟩
    by_cases h : i ≤ j
    · rw [if_pos (decide_eq_true h)]
      exact (hc.up (g1.st.trans g2.st)) H2 g2.sub _ fun z S3 H3 g3 pz => by
        cases pz
        refine ⟨j, l, rfl, rfl, decide (j ≤ l), rfl, ?_⟩
        have := q S3 H3 ((g1.trans g2).trans g3)
        rw [decide_eq_true h, Bool.true_and] at this
        exact this
    · rw [if_neg (by rw [decide_eq_false h]; exact Bool.false_ne_true)]
      refine ⟨false, rfl, ?_⟩
      have := q S2 H2 (g1.trans g2)
      rw [decide_eq_false h, Bool.false_and] at this
      exact this)
/-- a sign not in a text -/
theorem et_notInC {n : Nat} {z : Str} (ha : EE X σ S a (Dt X.K (.str ⟨#[n]⟩))) (hb : EE X σ S b (Dt X.K (.str z))) (hm : behindInMarks .NotIn b = false := by with_unfolding_all rfl) : ET X σ S (.Compare a [.NotIn] [b] pos) (!decide (n ∈ z.cps.toList)) :=
  et_cmp op_notIn_sign ha hb (fun v w S1 H1 _ s px py Q q => by cases px; cases py; exact ⟨n, z, rfl, rfl, q _ S1 H1 (Gr.refl s) (.bl _)⟩) hm
/-- isinstance(a, (list, tuple)) -/
theorem ee_isiLT (hk : k = (isD d "list" || isD d "tuple")) (hm : X.mg "isinstance" = none) (h1 : X.mg "list" = none) (h2 : X.mg "tuple" = none) (ha : EE X σ S a (Dt X.K d)) {p1 p2 p3 : Pos} {x1} (hg : Gl X "isinstance" := by rfl) (hg1 : Gl X "list" := by rfl) (hg2 : Gl X "tuple" := by rfl)
    (hs : starEach [a, .Tuple [.Name "list" p1, .Name "tuple" p2] x1 p3] X.env = (false, eval a X.env) :: starEach [.Tuple [.Name "list" p1, .Name "tuple" p2] x1 p3] X.env := by rfl) : EE X σ S (.Call (.Name "isinstance" p) [a, .Tuple [.Name "list" p1, .Name "tuple" p2] x1 p3] [] pos) (Dt X.K (.bool k)) := by
  haveI m1 : Mn (fun (w : V) (_ : Hp) => w = .ty "list") := ⟨fun _ h => h⟩
  haveI m2 : Mn (fun (w : V) (_ : Hp) => w = .ty "tuple") := ⟨fun _ h => h⟩
  haveI m3 : Mn (fun (w : V) (S : Hp) => ∃ t, w = .ref t ∧ S t = some (.tup [.ty "list", .ty "tuple"])) := ⟨fun s ⟨t, e, h⟩ => ⟨t, e, s _ _ h⟩⟩
  have ht : EE X σ S (.Tuple [.Name "list" p1, .Name "tuple" p2] x1 p3) (fun (w : V) (S : Hp) => ∃ t, w = .ref t ∧ S t = some (.tup [.ty "list", .ty "tuple"])) :=
    ee_tupA (vsP := fun vs _ => vs = [.ty "list", .ty "tuple"]) (fun H s Q q => (ea_2 (ee_bltn (P := fun w _ => w = .ty "list") (v := .ty "list") (u := .type "list") h1 (by first | rfl | decide +kernel | exact boot_list) rfl rfl hg1 (by decide) (by decide)) (ee_bltn (P := fun w _ => w = .ty "tuple") (v := .ty "tuple") (u := .type "tuple") h2 (by first | rfl | decide +kernel | exact boot_tuple) rfl rfl hg2 (by decide) (by decide)) rfl rfl).2 H s Q fun vs S' H' g al => q vs S' H' g (by
        obtain ⟨v, w, rfl, rfl, rfl⟩ := al.two
        rfl)) (fun vs _ e => by subst e; show 2 ≤ 16777216; decide) (fun vs S' t st ht e => by subst e; exact ⟨t, rfl, upd_same⟩)
  refine ee_callB call_isiT hm boot_isinstance (ea_2 ha ht hs rfl) (fun vs S1 H1 _ s al Q q => ?_) hg (he := hs) (hpl := by rfl)
  obtain ⟨v, w, rfl, pv, t, rfl, pw⟩ := al.two
  refine ⟨v, t, [.ty "list", .ty "tuple"], .type (tyN d), [.type "list", .type "tuple"], k, rfl, s _ _ pw, .cons (.ty "list") (.cons (.ty "tuple") .nil), tyX_of pv s, ?_, q _ S1 H1 (Gr.refl s) (.bl k)⟩
  subst hk
  refine kitAny_cons (kit_ty (isD_ok d (by simp))) (fun e => kitAny_cons (kit_ty (isD_ok d (by simp))) (fun e2 => ?_) (fun e2 => ?_)) (fun e => ?_)
  · rw [e, e2]; exact kitAny_nil
  · rw [e2]; simp
  · rw [e]; simp
/-- list(a): a new list -/
def NewL (K : PySem.W.Frag) (S : Hp) (ds : List PyData) : V → Hp → Prop := fun v S' => ∃ l xs, v = .ref l ∧ S l = none ∧ S' l = some (.lst xs) ∧ Dts K ds xs S' ∧ xs.length ≤ sizeLine
instance {K : PySem.W.Frag} {S : Hp} {ds : List PyData} : Mn (NewL K S ds) := ⟨fun s ⟨l, xs, e, h, h1, h2, z⟩ => ⟨l, xs, e, h, s _ _ h1, h2.up s, z⟩⟩
theorem NewL.dt {K : PySem.W.Frag} {S S' : Hp} {ds : List PyData} {v : V} (h : NewL K S ds v S') : Dt K (.list ds) v S' := by
  obtain ⟨l, xs, rfl, _, h1, h2, z⟩ := h
  exact Dt.lst_mk h1 h2 z
theorem NewL.dn {K : PySem.W.Frag} {S S0 S' : Hp} {ds : List PyData} {v : V} (s : Same S0 S) (h : NewL K S ds v S') : NewL K S0 ds v S' := by
  obtain ⟨l, xs, rfl, h0, h1, h2, z⟩ := h
  exact ⟨l, xs, rfl, s.free h0, h1, h2, z⟩
theorem ee_listN (hm : X.mg "list" = none) (hd : d = .list ds ∨ d = .tuple ds) (ha : EE X σ S a (Dt X.K d)) (hg : Gl X "list" := by rfl)
    (hs : starEach [a] X.env = (false, eval a X.env) :: starEach [] X.env := by rfl) : EE X σ S (.Call (.Name "list" p) [a] [] pos) (NewL X.K S ds) :=
  ee_callTy call_list_of hm boot_list (ea_1 ha hs) (fun vs S1 H1 st s al Q q => by
    obtain ⟨v, rfl, pv⟩ := al.one
    rcases hd with rfl | rfl
    · obtain ⟨l, xs, rfl, hl, hx, z⟩ := pv.lst_inv
      exact ⟨l, xs, rfl, .inl (sql_of (s _ _ hl)), fun t ht => q _ _ _ (Gr.new s ht) ⟨t, xs, rfl, st.free (s.free ht), upd_same, hx.up (Same.new (s.free ht)), z⟩⟩
    · obtain ⟨l, xs, rfl, hl, hx, z⟩ := pv.tup_inv
      exact ⟨l, xs, rfl, .inr (sqt_up s hl), fun t ht => q _ _ _ (Gr.new s ht) ⟨t, xs, rfl, st.free (s.free ht), upd_same, hx.up (Same.new (s.free ht)), z⟩⟩) hg (he := hs) (hpl := by rfl)
/-- (x,) * n -/
theorem tuple_mul1 (l : Addr) (items : Array Value) (n : Nat) (dd : Option Addr) (sl : Array (Option Value)) (u : Tok) :
    Meets (Builtin.«tuple.__mul__» ⟨[.ref l, .int 1 u], []⟩) (fun _ R s => s.heap.get? l = some { cls := .type "tuple", dict := dd, data := .seq items n, slots := sl } ∧ R (.ok (.ret (Value.ref l))) s) :=
  .of_wp fun prog w A R s h => by
    obtain ⟨hp, g, d, tk, os⟩ := s
    obtain ⟨hl, h⟩ := h
    have f1 := AutoSeq1.idx_int
    have c0 : (decide ((1 : Int) < -(2 ^ 63)) || decide ((1 : Int) ≥ 2 ^ 63)) = false := by decide
    have c1 : (items.isEmpty || (1 : Int) == 1) = true := by simp
    wp_walk using wpAny_loadPart' hl
    repeat (first
      | (refine wpAny_ite_false (decide_eq_false (by rw [c0]; exact Bool.false_ne_true)) ?_; wp_walk using wpAny_loadPart' hl)
      | (refine wpAny_ite_true (decide_eq_true c1) ?_; wp_walk using wpAny_loadPart' hl))
    exact ⟨_, rfl, h⟩
def rRep1 (K : PySem.W.Frag) : R2 := fun x y H Q => ∃ l xs, x = .ref l ∧ y = .int 1 ∧ SqT K H l xs ∧ Q (.ref l) H
theorem op_rep1 : OpR X (binaryOp .Mult) (rRep1 X.K) := by
  intro pins s σ H x y v u Q I rx ry h
  obtain ⟨l, xs, rfl, rfl, hT, q⟩ := h
  cases rx
  obtain ⟨t, rfl⟩ := ry
  obtain ⟨its, r, ⟨⟨cls, dd, data, sl⟩, ho, hc, n, hd⟩, hs⟩ := I.tuple hT
  simp only at hc hd
  subst hc hd
  refine wpAny_binaryOp_repeat_ref (T := "tuple") (U := "int") (by decide) ⟨_, ho, rfl⟩ (fun s' => typeIs_int s' 1 t) noFill_tuple_mul F.fills_int_mul F.slot_int_rmul repeat_tuple F.slot_int_index.lookup
    (call_meets F.slot_int_rmul (typeIs_int s 1 t) F.entry_int_rmul (F.args_int_rmul_2 _ _) (int_rmul_tuple 1 t l its.toArray n dd sl)
      ⟨ho, rfl, ⟨_, ho, rfl⟩, call_meets F.slot_tuple_mul ⟨_, ho, rfl⟩ F.entry_tuple_mul (F.args_tuple_mul_2 _ _) (tuple_mul1 l its.toArray n dd sl t) ⟨ho, ?_⟩⟩)
  exact ⟨.ref l, H, I, rfl, q⟩
theorem ee_repT {n : Nat} (hn : 1 ≤ n) (hz : n ≤ 1000) (hc : ds.length ≤ 1000) (hne : ds ≠ []) (ha : EE X σ S a (Dt X.K (.tuple ds))) (hb : EE X σ S b (Dt X.K (.int n))) : EE X σ S (.BinOp a .Mult b pos) (Dt X.K (.tuple (List.replicate n ds).flatten)) := by
  by_cases h1 : n = 1
  · subst h1
    refine (ee_op op_rep1 ha hb (R := Dt X.K (.tuple ds)) fun x y S1 H1 _ s px py Q q => ?_).isd (by simp)
    cases py
    obtain ⟨l, xs, rfl, hl, hx, z⟩ := px.tup_invS
    exact ⟨l, xs, rfl, rfl, sqt_up s hl.sq, q _ S1 H1 (Gr.refl s) (Dt.tup_mk hl hx z)⟩
  · refine ee_op op_repT ha hb fun x y S1 H1 _ s px py Q q => ?_
    cases py
    obtain ⟨l, xs, rfl, hl, hx, z⟩ := px.tup_inv
    refine ⟨l, n, xs, rfl, rfl, sqt_up s hl, fun e => hne ?_, by omega, by omega, by rw [hx.1]; exact hc, fun t ht => q _ _ _ (Gr.new s ht) ?_⟩
    · have := hx.1; rw [e] at this; exact List.eq_nil_of_length_eq_zero this.symm
    · have e : ((n : Int)).toNat = n := by omega
      rw [e]
      refine Dt.tup_mk (tus_of upd_same) ((flat_dts (d := .none) rfl hx _).up (Same.new (s.free ht))) ?_
      rw [flatten_len, hx.1]
      have : ds.length * n ≤ 1000 * 1000 := Nat.mul_le_mul hc hz
      show _ ≤ 16777216
      omega
end
end Y
namespace Y
open PySem PySem.Spec PyProof.Rows L2 Z
section
variable {X : Cx} {σ : L2.St} {S S' H : Hp} {e a b c o : Expr} {es : List Expr} {P Pa Pb P0 P1 R : V → Hp → Prop} {Ps : List (V → Hp → Prop)} {pos p apos kpos : Pos} {i j l : Int} {d : PyData} {ds ds1 ds2 : List PyData} {k : Nat} {x m f kn : Str} {sp : Sp} {C dx r : Addr} {D : Ends} {rest : List Stmt}
/-! ### o.m(k = e) -/
/-! ### a def with a star parameter -/
/-! ### f-strings -/
inductive EJ (X : Cx) (σ : L2.St) (S : Hp) : List Expr → List Str → Prop
  | nil : EJ X σ S [] []
  | cons {e : Expr} {es : List Expr} {y : Str} {ys : List Str} : EE X σ S e (Dt X.K (.str y)) → EJ X σ S es ys → EJ X σ S (e :: es) (y :: ys)
theorem EJ.pj {es : List Expr} {ys : List Str} (h : EJ X σ S es ys) : PJ X es (es.map (bE X)) := by
  induction h with
  | nil => exact .nil
  | cons _ _ ih => exact .cons peb ih
theorem EJ.run {es : List Expr} {ys : List Str} (h : EJ X σ S es ys) : ∀ (acc : Str) (S1 H1 : Hp) (Q : Str → Hp → Prop), Same S S1 → Same S1 H1 → acc.length + (ys.map (·.length)).sum ≤ sizeLine → (∀ S2 H2, Gr S1 H1 S2 H2 → Q (ys.foldl (· ++ ·) acc) H2) → tJs (es.map (bE X)) acc σ H1 Q := by
  induction h with
  | nil => intro acc S1 H1 Q _ s _ q; exact q S1 H1 (Gr.refl s)
  | @cons e es y ys he _ ih =>
    intro acc S1 H1 Q st s hz q
    rw [List.map_cons, List.sum_cons] at hz
    have el : (acc ++ y).length = acc.length + y.length := by
      show (acc.cps ++ y.cps).size = _
      rw [Array.size_append]; rfl
    refine (he.up st) H1 s _ fun v S2 H2 g2 pv => ?_
    cases pv
    exact ⟨y, rfl, by rw [el]; omega, ih (acc ++ y) S2 H2 Q (st.trans g2.st) g2.sub (by rw [el]; omega) fun S3 H3 g3 => q S3 H3 (g2.trans g3)⟩
theorem ee_joined {v1 v2 : Expr} {rest : List Expr} {ys : List Str} (h : EJ X σ S (v1 :: v2 :: rest) ys) (hz : (ys.map (·.length)).sum ≤ sizeLine) : EE X σ S (.JoinedStr (v1 :: v2 :: rest) pos) (Dt X.K (.str (ys.foldl (· ++ ·) Str.empty))) := fun H s Q q =>
  he_of (pe_joined h.pj) (h.run Str.empty S H _ (Same.refl S) s (by show 0 + _ ≤ _; omega) fun S2 H2 g => q _ S2 H2 g (.str _))
theorem ee_fmtS {y : Str} (hz : y.length ≤ sizeLine) (h : EE X σ S e (Dt X.K (.str y))) : EE X σ S (.FormattedValue e (-1) none pos) (Dt X.K (.str y)) := fun H s Q q =>
  he_of (pe_fmt peb) (h H s _ fun v S1 H1 g pv => by cases pv; exact .inl ⟨y, rfl, hz, q _ S1 H1 g (.str _)⟩)
/-! ### [*a, *b] -/
/-! ### a new list is changed -/
def del (S : Hp) (l : Addr) : Hp := fun a => if a = l then none else S a
theorem del_self {S : Hp} {l : Addr} : del S l l = none := by unfold del; rw [if_pos rfl]
theorem del_ne {S : Hp} {l a : Addr} (h : a ≠ l) : del S l a = S a := by unfold del; rw [if_neg h]
theorem Gr.cut {Sb Hb S H : Hp} {l : Addr} {o : HO} (g : Gr Sb Hb S H) (sb : Same Sb Hb) (h : Hb l = none) : Gr Sb Hb (del S l) (upd H l o) := by
  have hs : Sb l = none := sb.free h
  exact ⟨fun a u e => by
    have ne : a ≠ l := fun z => by subst z; rw [hs] at e; cases e
    rw [del_ne ne]; exact g.st a u e, fun a u e => by
    by_cases ne : a = l
    · subst ne; rw [del_self] at e; cases e
    · rw [del_ne ne] at e; rw [upd_ne ne]; exact g.sub a u e, fun a u e => by
    have ne : a ≠ l := fun z => by subst z; rw [h] at e; cases e
    rw [upd_ne ne]; exact g.hh a u e, fun a u e m => by
    have ne : a ≠ l := fun z => by subst z; rw [h] at e; cases e
    rw [del_ne ne]; exact g.old a u e m⟩
end
end Y
namespace Y
open PySem PySem.Spec PyProof.Rows L2 Z
section
variable {X : Cx} {σ : L2.St} {S S' H : Hp} {a b e : Expr} {Pa Pb : V → Hp → Prop} {pos p px py pt : Pos} {D : Ends} {rest : List Stmt} {x y : Str} {i j kt : Nat}
/-- x, y = a, b by a pair -/
theorem hs_unp2 [Mn Pa] [Mn Pb] {x1} (hc : X.calm = true) (hN : X.N.Nodup) (ha : EE X σ S a Pa) (hb : EE X σ S b Pb) (s : Same S H)
    (q : ∀ v w S' H', Pa v S' → Pb w S' → Gr S H S' H' → HS X D rest ((σ.set i (some v)).set j (some w)) H')
    (hi : X.N[i]? = some x := by rfl) (hj : X.N[j]? = some y := by rfl) (hx : Loc X.env.scope x := by first | exact Or.inl rfl | exact Or.inr rfl) (hy : Loc X.env.scope y := by first | exact Or.inl rfl | exact Or.inr rfl)
    (hfx : X.fn x = true ∨ X.env.scope.names.lookup x = some .local := by first | exact .inl rfl | exact .inr rfl) (hfy : X.fn y = true ∨ X.env.scope.names.lookup y = some .local := by first | exact .inl rfl | exact .inr rfl)
    (hn : (assignEach [.Name x px, .Name y py] X.env).length = 2 := by rfl) (hst : (assignEach [.Name x px, .Name y py] X.env).findIdx? (·.1) = none := by rfl)
    (h1 : (assignEach [.Name x px, .Name y py] X.env).map (·.2) = assign (.Name x px) X.env :: (assignEach [.Name y py] X.env).map (·.2) := by rfl) (h2 : (assignEach [.Name y py] X.env).map (·.2) = assign (.Name y py) X.env :: (assignEach [] X.env).map (·.2) := by rfl)
    (hss : swapsWithSole [.Tuple [.Name x px, .Name y py] kt pt] (.Tuple [a, b] x1 p) pos.line X.env = pure false := by rfl) (hw : swappedStores [.Tuple [.Name x px, .Name y py] kt pt] (.Tuple [a, b] x1 p) X.env = pure none := by rfl)
    (h3 : (assignEach [.Tuple [.Name x px, .Name y py] kt pt] X.env).map (·.2) = [assign (.Tuple [.Name x px, .Name y py] kt pt) X.env] := by rfl)
    (hs1 : starEach [a, b] X.env = (false, eval a X.env) :: starEach [b] X.env := by rfl) (hs2 : starEach [b] X.env = (false, eval b X.env) :: starEach [] X.env := by rfl) : HS X D (.Assign [.Tuple [.Name x px, .Name y py] kt pt] (.Tuple [a, b] x1 p) pos :: rest) σ H := by
  have ht : EE X σ S (.Tuple [a, b] x1 p) (fun v S' => ∃ l v1 v2, v = .ref l ∧ S' l = some (.tup [v1, v2]) ∧ Pa v1 S' ∧ Pb v2 S') :=
    ee_tupA (vsP := fun vs S' => ∃ v1 v2, vs = [v1, v2] ∧ Pa v1 S' ∧ Pb v2 S') (fun H s Q q => (ea_2 ha hb hs1 hs2).2 H s Q fun vs S' H' g al => q vs S' H' g (by
      obtain ⟨v, w, rfl, p1, p2⟩ := al.two
      exact ⟨v, w, rfl, p1, p2⟩)) (fun vs _ ⟨_, _, e, _⟩ => by subst e; show 2 ≤ 16777216; decide) (fun vs S' t st ht ⟨v1, v2, e, p1, p2⟩ => by subst e; exact ⟨t, v1, v2, rfl, upd_same, Mn.up (Same.new ht) p1, Mn.up (Same.new ht) p2⟩)
  exact hs_cons (ps_asg peb pgb hss hw h3) (ht H s _ fun v S' H' g ⟨l, v1, v2, e, hl, p1, p2⟩ => by
    subst e
    exact hg_of (pg_tup hc (pgs_cons (pg_name hN hi hx hfx) (pgs_cons (pg_name hN hj hy hfy) pgs_nil h2) h1) hn hst) ⟨l, _, rfl, .inl (.inl (g.sub _ _ hl)), rfl, _, _, rfl, _, _, rfl, rfl, q v1 v2 S' H' p1 p2 g⟩)
end
end Y
namespace Y
open PySem PySem.Spec PyProof.Rows L2 Z
end Y
namespace Y
open PySem PySem.Spec PyProof.Rows L2 Z
/-! ## own errors -/
/-- what the __init__ of an own error promises: its field, its code -/
def spXI (C : Addr) (fname code : Str) : Sp := fun vs H Q _ => ∃ a v, vs = [.ref a, v] ∧ H a = some (exo a C none) ∧ ∀ dx, H dx = none → dx ≠ a → Q .non (upd (upd (upd H dx (exd dx [(fname, v)])) a (exo a C (some dx))) dx (exd dx [("code", .str code), (fname, v)]))
/-- an own error, ready to be raised -/
structure Err (P : Program) (w : World) (K : PySem.W.Frag) (mg : Str → Option Value) (base : Heap) (x : Str) (C : Addr) (fname code : Str) : Prop where
  T : OexC K C
  gl : mg x = some (.ref C)
  ex : ∃ fI fd ps, PySem.W.findIn K (.ref C) "__init__" = some (some (.ref fI)) ∧ PySem.W.typeIn K (.ref fI) = some (.type "function") ∧ FnOk P w K mg base CX0 1 fI fd ps (spXI C fname code) ∧ Binds K fd ps []
section
variable {X : Cx} {σ : L2.St} {S S' H : Hp} {e : Expr} {Pv : V → Hp → Prop} {pos p pos2 : Pos} {D : Ends} {rest : List Stmt} {x fname code : Str} {C : Addr} {E : XK} {W : WX}
/-- raise C(e) -/
theorem hs_raiseO (hc : X.calm = true) (tk : Takes X (fun cls d _ H => E cls d H)) (R : Err X.prog X.w X.K X.mg X.base x C fname code) (hr : Room 2 X.A) (ha : EE X σ S e Pv) (s : Same S H)
    (q : ∀ v S1 H1 d H3, Gr S H S1 H1 → Pv v S1 → H1 d = none → Same (upd S1 d (.xd [("code", .str code), (fname, v)])) H3 → Same H1 H3 → E (.ref C) (some d) H3) (hg : Gl X x := by rfl)
    (hdb : (x == ("__debug__" : Str)) = false := by decide) (he : starEach [e] X.env = (false, eval e X.env) :: starEach [] X.env := by rfl) (hpl : (backTo pos (starEach [] X.env)).any (·.1) = false := by rfl) : HS X D (.Raise (some (.Call (.Name x p) [e] [] pos)) none pos2 :: rest) σ H := by
  obtain ⟨fI, fd, ps, iC, tI, F1, hb⟩ := R.ex
  refine hs_cons (ps_raise hc tk (pmk_oex R.T iC tI F1 hr hb .nil pass0 hg R.gl (pa_cons (te := bE X e) (t := tNil) peb pa_nil he) hdb he hpl)) (ha H s _ fun v S1 H1 g1 pv => ?_)
  refine ⟨by show 1 ≤ 1000; decide, fun a ha0 => ⟨a, v, rfl, upd_same, fun dx hdx hne => ⟨rfl, dx, [("code", .str code), (fname, v)], ?_, upd_same, ?_, ?_⟩⟩⟩
  · rw [upd_ne (Ne.symm hne), upd_same]
  · rw [upd_ne hne] at hdx; exact hdx
  · rw [upd_ne hne] at hdx
    have key : ∀ z o, H1 z = some o → upd (L2.del (upd (upd (upd (upd H1 a (exo a C none)) dx (exd dx [(fname, v)])) a (exo a C (some dx))) dx (exd dx [("code", .str code), (fname, v)])) a) dx (.xd [("code", .str code), (fname, v)]) z = some o := fun z o hz => by
      have n1 : z ≠ a := ne_of_none hz ha0
      have n2 : z ≠ dx := ne_of_none hz hdx
      rw [upd_ne n2, L2.del_ne n1, upd_ne n2, upd_ne n1, upd_ne n2, upd_ne n1]; exact hz
    refine q v S1 H1 dx _ g1 pv hdx (fun z o hz => ?_) key
    by_cases hzd : z = dx
    · subst hzd; rw [upd_same] at hz ⊢; exact hz
    · rw [upd_ne hzd] at hz; exact key z o (g1.sub _ _ hz)
end
/-- a def that may raise, by its body -/
theorem fn_hsX {P : Program} {w : World} {K : PySem.W.Frag} {mg : Str → Option Value} {base : Heap} {x qual : Str} {params : Arguments} {body : List Stmt} {scope : Scope} {dvs : List V} {kws : List (Str × V)} {f : Addr} {fd : FuncData} {N ps : List Str} {k : Nat} {sp : Sp}
    (F : FunD K x qual params body scope dvs kws f fd) (Sc : FnScope N ps scope) (len : ∀ vs H Q E, sp vs H Q E → vs.length = ps.length)
    (hb : ∀ (cdv : Value) (A : Around) (outer : List Env) (s : Shared) (H : Hp) (vs : List V) (Q : VK) (E : XK), Room k (A.deeper (envOfC qual scope s.heap.objs.size f cdv)) → sp vs H Q E →
      Takes (cxOf (L2.CX P w) P w K mg base N qual scope f cdv A outer s H E) (fun cls d _ H' => E cls d H') →
      HS (cxOf (L2.CX P w) P w K mg base N qual scope f cdv A outer s H E) { nx := fun _ H' => Q .non H', rt := Q } body (start N vs) H) : FnOk P w K mg base (L2.CX P w) (k + 1) f fd ps sp :=
  F.ok Sc len fun cdv A outer s H vs Q E hr h => ⟨_, psb, hb cdv A outer s H vs Q E hr h (takes_of rfl rfl rfl rfl)⟩
end Y
namespace Y
open PySem PySem.Spec PyProof.Rows L2 Z
/-! ## try: .. except (A, B, C) as e: .. (the outline of the catch follows HandS.Exc's ps_try_as) -/
theorem flying_kept {B h h' : Heap} {l : List Env} {e : Addr} {Z : Obj → Prop} (x : HandSPX.FlyingZ B l e Z h) (k : ∀ b o, h.get? b = some o → h'.get? b = some o) : HandSPX.FlyingZ B l e Z h' := by
  obtain ⟨x1, x2, x3, oe, vs, T, oT, ts, he, hz, hd, h1, hn, hTe, hT, hdT, h3⟩ := x
  exact ⟨fun b o e => k b o (x1 b o e), x2, x3.of_keeps fun b o hb _ => ⟨o, k b o hb, rfl⟩, oe, vs, T, oT, ts, k _ _ he, hz, hd, h1, hn, hTe, k _ _ hT, hdT, h3⟩
theorem up_kept {h h' : Heap} (k : ∀ b o, h.get? b = some o → h'.get? b = some o) : h.UpToSlots h' := fun b o hb _ => ⟨o.slots, k b o hb⟩
/-- the test of a clause: it lays new objects at most, and answers b for exceptions of the class cls -/
def Tst (X : Cx) (t : Expr) (cls : Value) (b : Bool) : Prop := ∀ (a : Addr) (pn : List (Addr × Obj)) (σ : L2.St) (H : Hp) (s : Shared) (E : Value → Shared → Prop) (Q : Value → Shared → Prop), Inv (X.suite a pn) [] σ H s →
  PySem.W.Looks (model X.prog X.w) s.heap (typeOf (.ref a)) cls → (∀ c h', (∀ b o, s.heap.get? b = some o → h'.get? b = some o) → PySem.W.Looks (model X.prog X.w) h' (excMatches (.ref a) c) b → Q c { s with heap := h' }) →
  wpAny (model X.prog X.w) (X.A.mark (some (.ref a))) (eval t X.env) Q E s
theorem tst_name {X : Cx} {x1 : Str} {c1 cls : Value} {p1 : Pos} {b : Bool} {H : Hp} {a : Addr} {pn : List (Addr × Obj)} {σ : L2.St} {s : Shared} {E Q : Value → Shared → Prop} (n1 : Names X x1 c1) (I : Inv (X.suite a pn) [] σ H s) (q : Q c1 s) :
    wpAny (model X.prog X.w) (X.A.mark (some (.ref a))) (eval (.Name x1 p1) X.env) Q E s := by
  obtain ⟨hg, hdbg, hm | ⟨hm, hv, hnn⟩⟩ := n1
  · exact ld_glob (X := X.suite a pn) I hg hm q hdbg
  · exact ld_blt (X := X.suite a pn) I hg hm hv q hnn hdbg
theorem tst3 {X : Cx} {x1 x2 x3 : Str} {c1 c2 c3 cls : Value} {p1 p2 p3 p : Pos} {k : Nat} {b : Bool} (n1 : Names X x1 c1) (n2 : Names X x2 c2) (n3 : Names X x3 c3) (he : PySem.W.exmAny X.K cls [c1, c2, c3] = some b) : Tst X (.Tuple [.Name x1 p1, .Name x2 p2, .Name x3 p3] k p) cls b := by
  intro a pn σ H s E Q I LT q
  refine wpAny_Tuple ?_
  refine wpAny_items_cons (tst_name (cls := cls) (b := b) n1 I ?_)
  refine wpAny_items_cons (tst_name (cls := cls) (b := b) n2 I ?_)
  refine wpAny_items_cons (tst_name (cls := cls) (b := b) n3 I ?_)
  refine wpAny_items_nil ⟨by size_fits, ?_⟩
  have kp : ∀ q o, s.heap.get? q = some o → (s.heap.push { cls := .type "tuple", data := .seq [c1, c2, c3].toArray }).get? q = some o := fun _ _ z => Heap.get?_push_of_some _ z
  exact q _ _ kp (PySem.W.exm_tup3 (I.kIn.keeps kp) (LT.keeps kp) (Heap.get?_push_size s.heap rfl) he)
def bS (X : Cx) (st : Stmt) : TS := fun D σ H => ∀ (pins : List (Addr × Obj)) (s : Shared), Inv X pins σ H s → wpAny (model X.prog X.w) X.A (exec st X.env) (SP X pins D) X.xe s
/-- the ends of a suite whose name goes -/
def Dgo (i : Nat) (D : Ends) : Ends := { nx := fun σ H => D.nx (σ.set i none) H, rt := D.rt, bk := fun σ H => D.bk (σ.set i none) H, ct := fun σ H => D.ct (σ.set i none) H }
/-- what the clause wishes of an exception of the body -/
def WAs (X : Cx) (t : Expr) (i : Nat) (suite : List Stmt) (Wout : WX) (D : Ends) : WX := fun cls d σ H => σ.length = X.N.length → ∃ b, Tst X t cls b ∧
  (b = true → ∀ a oe pn, H a = none → X.base.get? a = none → Zc cls d oe → (∃ vs, oe.data = .fields vs) → HS (X.suite a ((a, oe) :: pn)) (Dgo i D) suite (σ.set i (some (.ref a))) H) ∧ (b = false → Wout cls d σ H)
theorem hs_tryAs {X : Cx} {D : Ends} {t : Expr} {n : Str} {i : Nat} {body suite rest : List Stmt} {b₀ : Stmt} {pos pos' : Pos} {Wout : WX} {σ : L2.St} {H : Hp} (hs : X.stack = X.env :: X.outer) (hf : X.env.frame = some X.env.locals) (hN : X.N.Nodup) (hi : X.N[i]? = some n) (hln : X.env.kindOf n = some .local) (tk : Takes X Wout)
    (hb : ∀ (pn : List (Addr × Obj)) (xe : Value → Shared → Prop), Takes (X.tr pn xe) (WAs X t i (b₀ :: suite) Wout (Dn X D rest)) → PassesOwn (model X.prog X.w) X.A X.env xe → HS (X.tr pn xe) (Dn X D rest) body σ H) :
    HS X D (.Try body [.ExceptHandler (some t) (some n) (b₀ :: suite) pos'] [] [] pos :: rest) σ H := by
  refine hs_cons (t := bS X _) ⟨fun pins s σ H D I h => h pins s I⟩ fun pins s I => ?_
  have ok := I.ok
  have hfr : X.A.frames = some (X.env :: X.outer) := by rw [ok.frames, hs]
  refine wpAny_Try_except ?_
  refine wpAny_mono (hb (X.pn ++ pins) (fun e s₁ => wpAny (model X.prog X.w) X.A (noteFrame e X.env) (fun _ s₂ => wpAny (model X.prog X.w) X.A (setFlight e none) (fun _ s₃ =>
    wpAny (model X.prog X.w) X.A (handleBy e X.env [.ExceptHandler (some t) (some n) (b₀ :: suite) pos']) (SP X pins (Dn X D rest)) X.xe s₃) X.xe s₂) X.xe s₁) (fun u s' xx => ?_) PassesOwn.looking [] s (I.toTry _)) (fun f s1 hsp => ?_) (fun e s1 he => he)
  · obtain ⟨a, B, sI, pins', σ', H', cls, d, rfl, J', nb, up, sky, na, os, ag, hw⟩ := xx
    have J : Inv X pins σ' H' sI := J'.ofTry ok
    obtain ⟨b, hT, hyes, hno⟩ := hw J.len
    refine Sky.land Zc.steady hfr hf (by rw [← hs]; exact sky) fun h3 fl3 up3 => ?_
    have J3 : Inv X pins σ' H' { s' with heap := h3 } := J.landed nb fl3.1 (up.trans up3) os ag
    have away : ∀ {h : Heap} {o : Obj} {vs : Array Value}, h.FunFrames B (X.env :: X.outer) → h.get? a = some o → o.data = .fields vs → a ≠ X.env.locals ∧ a ∉ X.fs := fun {h o vs} ff e dd => by
      have nfr : a ∉ frs (X.env :: X.outer) := fun hm => by
        obtain ⟨_, o', e', hnf⟩ := ff.mem hm
        rw [e] at e'; cases e'
        exact hnf _ dd
      refine ⟨fun z => nfr (List.mem_filterMap.mpr ⟨X.env, List.mem_cons_self, by rw [hf, z]⟩), fun hm => ?_⟩
      obtain ⟨e, he, q⟩ := List.mem_filterMap.mp hm
      exact nfr (List.mem_filterMap.mpr ⟨e, List.mem_cons_of_mem _ he, q⟩)
    obtain ⟨oe3, vs3, he3, hz3, hd3⟩ := fl3.there
    obtain ⟨nL, nF⟩ := away fl3.2.2.1 he3 hd3
    have nB : X.base.get? a = none := by
      cases e : X.base.get? a with
      | none => rfl
      | some o =>
        have z := nb a o (J.bs a o e).1 fun hm => by
          have z := (J.stack.mem hm).1
          rw [e] at z; cases z
        rw [fl3.2.1] at z; cases z
    have LT : PySem.W.Looks (model X.prog X.w) h3 (typeOf (.ref a)) cls := fun A Q E s k q => wpAny_typeOf_ref (k _ _ he3) (by rw [hz3.1]; exact q)
    refine PySem.W.exc_clause_as (hT a _ σ' H' _ _ _ (J3.suite he3 hd3 na nL nF) LT fun c h5 k5 L5 => ⟨b, L5, ?_⟩)
    have fl5 := flying_kept fl3 k5
    have up5 := (up.trans up3).trans (up_kept k5)
    cases b with
    | true =>
      rw [if_pos rfl]
      refine HandSPX.lands_againZ fl5 fun h4 fl4 up4 => ?_
      have J4 : Inv X pins σ' H' { s' with heap := h4 } := J.landed nb fl4.1 (up5.trans up4) os ag
      obtain ⟨oe4, vs4, he4, hz4, hd4⟩ := fl4.there
      refine store_ok (X := X.suite a ((a, oe4) :: (X.pn ++ pins))) (v := .ref a) (J4.suite he4 hd4 na nL nF) hN hi (.inl hln) rfl (fun s5 S5 => ?_) (.inr hln)
      refine wpAny_mono (hyes rfl a oe4 (X.pn ++ pins) na nB hz4 ⟨_, hd4⟩ [] s5 S5) (fun f s6 hsp => ?_) (fun _ _ z => False.elim z)
      cases f with
      | next => exact hsp.elim fun σ6 ⟨H6, S6, q6⟩ => gone_ok (S6.unsuite ok) hN hi hln fun s7 J7 => ⟨_, _, J7, q6⟩
      | brk => exact hsp.elim fun σ6 ⟨H6, S6, q6⟩ => gone_ok (S6.unsuite ok) hN hi hln fun s7 J7 => ⟨_, _, J7, q6⟩
      | cont => exact hsp.elim fun σ6 ⟨H6, S6, q6⟩ => gone_ok (S6.unsuite ok) hN hi hln fun s7 J7 => ⟨_, _, J7, q6⟩
      | ret u => exact hsp.elim fun v6 ⟨σ6, H6, S6, r6, q6⟩ => gone_ok (S6.unsuite ok) hN hi hln fun s7 J7 => ⟨_, _, _, J7, r6, q6⟩
    | false =>
      rw [if_neg (by decide)]
      refine wpAny_handleBy_nil ?_
      obtain ⟨k1, k2, k3, oe, vs, T, oT, ts', he, hz, hd, h1, hr⟩ := id fl5
      unfold PySem.passOn
      refine wpAny_bind (wpAny_field he hd h1 ?_)
      rw [if_neg (show ¬ ((Value.ref T == Value.none) = true) from by simp)]
      have fin : wpAny (model X.prog X.w) X.A (setFlight (.ref a) X.env.frame) (fun _ s4 => wpAny (model X.prog X.w) X.A (throw (.ref a) : Sem Flow) (SP X pins (Dn X D rest)) X.xe s4) X.xe { s' with heap := h5 } := by
        rw [hf]
        refine HandSPX.setFlight_upZ fl5 fun h4 hh4 up4 => wpAny_throw (tk _ _ ?_)
        exact ⟨a, B, sI, pins, σ', H', cls, d, rfl, J, nb, up5.trans up4, .inr (.inr (by rw [hs]; exact hh4)), na, os, ag, hno rfl⟩
      first
        | exact wpAny_bind (wpAny_pure (wpAny_bind fin))
        | exact wpAny_bind fin
  · cases f with
    | next => exact hsp.elim fun σ' ⟨H', J', q⟩ => wpAny_execs_nil ⟨σ', H', J'.ofTry ok, q⟩
    | brk => exact hsp.elim fun σ' ⟨H', J', q⟩ => ⟨σ', H', J'.ofTry ok, q⟩
    | cont => exact hsp.elim fun σ' ⟨H', J', q⟩ => ⟨σ', H', J'.ofTry ok, q⟩
    | ret u => exact hsp.elim fun v ⟨σ', H', J', r, q⟩ => ⟨v, σ', H', J'.ofTry ok, r, q⟩
end Y
namespace Y
open PySem PySem.Spec PyProof.Rows L2 Z
/-! ## objects shown to a call: untracked ones, told by their objects while the call runs -/
def shown (H : Hp) (a : Addr) (o : Obj) : Hp := upd H a (.frz o (.ext fun _ => True))
def shownL (H : Hp) : List (Addr × Obj) → Hp
  | [] => H
  | p :: L => shown (shownL H L) p.1 p.2
def delL (H : Hp) : List (Addr × Obj) → Hp
  | [] => H
  | p :: L => delL (L2.del H p.1) L
section
variable {P : Program} {w : World} {H H1 : Hp} {h h1 B : Heap} {a b : Addr} {o : Obj} {u : HO} {fs : List Addr}
theorem shown_same : shown H a o a = some (.frz o (.ext fun _ => True)) := upd_same
theorem shown_ne (hb : b ≠ a) : shown H a o b = H b := upd_ne hb
theorem shown_hok (x : HOk P w H h) (n : H a = none) (e : h.get? a = some o) : HOk P w (shown H a o) h := fun b v q => by
  by_cases hb : b = a
  · subst hb
    rw [shown_same] at q
    cases q
    exact ⟨e, trivial, ⟨o, e⟩, fun _ _ _ _ => trivial⟩
  · rw [shown_ne hb] at q
    exact (x b v q).stay (fun _ _ _ z => z) (fun c z => (shown_ne (ne_of_none z n)).trans z) (fun c xs z => (shown_ne (ne_of_none z n)).trans z)
theorem del_hok (x : HOk P w H h) (e : H a = some (.frz o u)) : HOk P w (L2.del H a) h := fun b v q => by
  have hb : b ≠ a := fun z => by rw [z, L2.del_same] at q; cases q
  rw [L2.del_ne hb] at q
  exact (x b v q).stay (fun _ _ _ z => z) (fun c z => (L2.del_ne (fun y => by rw [y, e] at z; cases z)).trans z) (fun c xs z => (L2.del_ne (fun y => by rw [y, e] at z; cases z)).trans z)
theorem del_un (U : Un fs [] (shown H a o) H1 h h1) (ok : HOk P w H1 h1) (n : H a = none) (e : h.get? a = some o) : Un fs [] H (L2.del H1 a) h h1 := by
  have e1 : h1.get? a = some o := (ok a _ (U.frzs a _ _ shown_same)).1
  refine ⟨fun b ob q nb hf hx => ?_, fun b ob q nb hf hx => ?_, fun b ob q nb hx => ?_, U.there, fun b xs q => ?_, fun b ob v q => ?_, fun b ps q => ?_⟩
  · by_cases hb : b = a
    · subst hb; rw [e] at q; cases q; exact e1
    · exact U.keep b ob q ((shown_ne hb).trans nb) hf hx
  · by_cases hb : b = a
    · subst hb; rw [e] at q; cases q; exact ⟨_, e1⟩
    · exact U.slot b ob q ((shown_ne hb).trans nb) hf hx
  · by_cases hb : b = a
    · subst hb; exact L2.del_same
    · exact (L2.del_ne hb).trans (U.free b ob q ((shown_ne hb).trans nb) hx)
  · have hb := ne_of_none q n
    exact (L2.del_ne hb).trans (U.tups b xs ((shown_ne hb).trans q))
  · have hb := ne_of_none q n
    exact (L2.del_ne hb).trans (U.frzs b ob v ((shown_ne hb).trans q))
  · have hb := ne_of_none q n
    obtain ⟨m, z⟩ := U.tbls b ps ((shown_ne hb).trans q)
    exact ⟨m, (L2.del_ne hb).trans z⟩
end
/-- what leaves a call by an exception bears the hiding of a shown object -/
def Hides (CX : CXT) : Prop := ∀ (outer : List Env) (H : Hp) (a : Addr) (o : Obj) (s : Shared) (E : XK) (u : Value) (s' : Shared), H a = none → s.heap.get? a = some o → CX outer (shown H a o) s (fun cls d H' => E cls d (L2.del H' a)) u s' → CX outer H s E u s'
theorem hides0 : Hides CX0 := fun _ _ _ _ _ _ _ _ _ _ h => h.elim
/-- a thing that may be shown at this state -/
structure Show (base : Heap) (outer : List Env) (H : Hp) (s : Shared) (a : Addr) (o : Obj) : Prop where
  ob : s.heap.get? a = some o
  no : H a = none
  nf : a ∉ frs outer
  nb : base.get? a = none
theorem Show.skip {base : Heap} {outer : List Env} {H : Hp} {s : Shared} {a b : Addr} {o p : Obj} (x : Show base outer H s a o) (h : a ≠ b) : Show base outer (shown H b p) s a o := ⟨x.ob, (shown_ne h).trans x.no, x.nf, x.nb⟩
theorem Show.list {base : Heap} {outer : List Env} {H : Hp} {s : Shared} {a : Addr} {o : Obj} (x : Show base outer H s a o) : ∀ {L : List (Addr × Obj)}, a ∉ L.map (·.1) → Show base outer (shownL H L) s a o
  | [], _ => x
  | p :: L, h => by
    simp only [List.map_cons, List.mem_cons, not_or] at h
    exact (x.list h.2).skip h.1
section
variable {P : Program} {w : World} {K : PySem.W.Frag} {mg : Str → Option Value} {base : Heap} {A : Around} {outer : List Env} {s : Shared} {H : Hp} {a : Addr} {o : Obj} {CX : CXT} {c : Code} {Q : VK} {E : XK}
theorem env0_shown (e : Env0 P w K mg base A outer s H) (x : Show base outer H s a o) : Env0 P w K mg base A outer s (shown H a o) := by
  refine ⟨e.frames, e.mod, fun b ob q => ⟨(e.bs b ob q).1, ?_⟩, e.bsz, e.funs, fun b hb => ?_, shown_hok e.hok x.no x.ob, e.bare⟩
  · rw [shown_ne (fun z => by rw [z, x.nb] at q; cases q)]
    exact (e.bs b ob q).2
  · have hba : b ≠ a := fun z => x.nf (by rw [← z]; exact hb)
    rw [shown_ne hba]
    exact e.frf b hb
theorem hide (hd : Hides CX) (n : H a = none) (e : s.heap.get? a = some o) (h : codeAny (model P w) A c (CR CX outer P w (shown H a o) s (fun v H' => Q v (L2.del H' a)) (fun cls d H' => E cls d (L2.del H' a))) s) : codeAny (model P w) A c (CR CX outer P w H s Q E) s := by
  refine codeAny_mono h fun r s' hq => ?_
  cases r with
  | error u => exact hd _ _ _ _ _ _ _ _ n e hq
  | ok fl =>
    cases fl with
    | ret u =>
      obtain ⟨v, H', os, bare, un, hok, r, q⟩ := hq
      exact ⟨v, L2.del H' a, os, bare, del_un un hok n e, del_hok hok (un.frzs a _ _ shown_same), r, q⟩
    | next => exact False.elim hq
    | brk => exact False.elim hq
    | cont => exact False.elim hq
theorem env0_shownL (e : Env0 P w K mg base A outer s H) : ∀ {L : List (Addr × Obj)}, (∀ p ∈ L, Show base outer H s p.1 p.2) → (L.map (·.1)).Nodup → Env0 P w K mg base A outer s (shownL H L)
  | [], _, _ => e
  | p :: L, x, nd => by
    rw [List.map_cons, List.nodup_cons] at nd
    exact env0_shown (env0_shownL e (fun q hq => x q (List.mem_cons_of_mem _ hq)) nd.2) ((x p List.mem_cons_self).list nd.1)
theorem hideL (hd : Hides CX) : ∀ {L : List (Addr × Obj)} {Q : VK} {E : XK}, (∀ p ∈ L, Show base outer H s p.1 p.2) → (L.map (·.1)).Nodup → codeAny (model P w) A c (CR CX outer P w (shownL H L) s (fun v H' => Q v (delL H' L)) (fun cls d H' => E cls d (delL H' L))) s → codeAny (model P w) A c (CR CX outer P w H s Q E) s
  | [], _, _, _, _, h => h
  | p :: L, Q, E, x, nd, h => by
    rw [List.map_cons, List.nodup_cons] at nd
    have xp := (x p List.mem_cons_self).list nd.1
    exact hideL hd (fun q hq => x q (List.mem_cons_of_mem _ hq)) nd.2 (hide hd xp.no xp.ob h)
end
section
variable {X : Cx} {CX : CXT} {k : Nat} {f : Addr} {fd : FuncData} {ps : List Str} {sp : Sp} {ds : List Value} {dvs : List V} {E : XK} {pins : List (Addr × Obj)} {σ : L2.St} {H : Hp} {s : Shared} {Q : VK} {us : List Value} {vs : List V} {L : List (Addr × Obj)}
/-- the call of a def to which the things of L are shown -/
theorem run_shown (F : FnOk X.prog X.w X.K X.mg X.base CX k f fd ps sp) (hr : Room k X.A) (hb : Binds X.K fd ps ds) (hv : Vals dvs ds) (hx : Passes CX X E) (hd : Hides CX) (I : Inv X pins σ H s) (r : Vals vs us)
    (x : ∀ p ∈ L, Show X.base X.stack H s p.1 p.2) (nd : (L.map (·.1)).Nodup) (h : sp (vs ++ dvs) (shownL H L) (fun v H' => Q v (delL H' L)) (fun cls d H' => E cls d (delL H' L))) :
    wpAny (model X.prog X.w) X.A (call (.ref f) us) (EP X pins σ Q) X.xe s := by
  have r2 : Vals (vs ++ dvs) (us ++ ds) := r.append hv
  have hl : (us ++ ds).length = ps.length := by rw [← r2.length]; exact F.len _ _ _ _ h
  refine wpAny_call (codeAny_mono (hideL (base := X.base) (L := L) (Q := Q) (E := E) hd x nd (F.run X.A X.stack s (shownL H L) ⟨us, []⟩ (us ++ ds) (vs ++ dvs) _ _ hr (env0_shownL I.env0 x nd) (hb s us I.kIn hl) r2 h)) fun r s' hq => ?_)
  cases r with
  | error e => exact hx pins σ H s e s' I hq
  | ok fl =>
    cases fl with
    | ret u => exact I.after hq
    | next => exact False.elim hq
    | brk => exact False.elim hq
    | cont => exact False.elim hq
end
end Y
namespace Y
open PySem PySem.Spec PyProof.Rows L2 Z
/-! ## the other way: shown things are taken out for a call (the cells of a closure) -/
abbrev Tr : HO := .ext fun _ => True
section
variable {P : Program} {w : World} {H H1 : Hp} {h h1 B : Heap} {a b : Addr} {o : Obj} {u : HO} {fs : List Addr}
theorem unshow_un (U : Un fs [] (L2.del H a) H1 h h1) (hH : H a = some (.frz o Tr)) : Un fs [] H (shown H1 a o) h h1 := by
  have ne : ∀ b v, H b = some v → (∀ p q, v ≠ .frz p q) → b ≠ a := fun b v e q z => by
    rw [z, hH] at e; cases e; exact q _ _ rfl
  have nn : ∀ b, H b = none → b ≠ a := fun b e z => by rw [z, hH] at e; cases e
  refine ⟨fun b ob q nb hf hx => U.keep b ob q ((L2.del_ne (nn b nb)).trans nb) hf hx, fun b ob q nb hf hx => U.slot b ob q ((L2.del_ne (nn b nb)).trans nb) hf hx, fun b ob q nb hx => (shown_ne (nn b nb)).trans (U.free b ob q ((L2.del_ne (nn b nb)).trans nb) hx), U.there, fun b xs q => ?_, fun b ob v q => ?_, fun b ps q => ?_⟩
  · have hb := ne b _ q fun _ _ z => by cases z
    exact (shown_ne hb).trans (U.tups b xs ((L2.del_ne hb).trans q))
  · by_cases hb : b = a
    · subst hb; rw [hH] at q; cases q; exact shown_same
    · exact (shown_ne hb).trans (U.frzs b ob v ((L2.del_ne hb).trans q))
  · have hb := ne b _ q fun _ _ z => by cases z
    obtain ⟨m, z⟩ := U.tbls b ps ((L2.del_ne hb).trans q)
    exact ⟨m, (shown_ne hb).trans z⟩
theorem unshow_ub (U : UB fs (L2.del H a) H1 h B h1) (hH : H a = some (.frz o Tr)) : UB fs H (shown H1 a o) h B h1 := by
  have ne : ∀ b v, H b = some v → (∀ p q, v ≠ .frz p q) → b ≠ a := fun b v e q z => by
    rw [z, hH] at e; cases e; exact q _ _ rfl
  have nn : ∀ b, H b = none → b ≠ a := fun b e z => by rw [z, hH] at e; cases e
  refine ⟨fun b ob q nb hf => U.keep b ob q ((L2.del_ne (nn b nb)).trans nb) hf, U.slot, fun b ob q nb => (shown_ne (nn b nb)).trans (U.free b ob q ((L2.del_ne (nn b nb)).trans nb)), U.there, fun b xs q => ?_, fun b ob v q => ?_, fun b ps q => ?_⟩
  · have hb := ne b _ q fun _ _ z => by cases z
    exact (shown_ne hb).trans (U.tups b xs ((L2.del_ne hb).trans q))
  · by_cases hb : b = a
    · subst hb; rw [hH] at q; cases q; exact shown_same
    · exact (shown_ne hb).trans (U.frzs b ob v ((L2.del_ne hb).trans q))
  · have hb := ne b _ q fun _ _ z => by cases z
    obtain ⟨m, z⟩ := U.tbls b ps ((L2.del_ne hb).trans q)
    exact ⟨m, (shown_ne hb).trans z⟩
end
/-- a thing that is shown here -/
structure Shown (outer : List Env) (H : Hp) (s : Shared) (a : Addr) (o : Obj) : Prop where
  at_ : H a = some (.frz o Tr)
  ob : s.heap.get? a = some o
  nf : a ∉ frs outer
theorem Shown.of {P : Program} {w : World} {outer : List Env} {H : Hp} {s : Shared} {a : Addr} {o : Obj} (ok : HOk P w H s.heap) (fr : ∀ b ∈ frs outer, H b = none) (h : H a = some (.frz o Tr)) : Shown outer H s a o :=
  ⟨h, (ok a _ h).1, fun z => by have q := fr a z; rw [h] at q; cases q⟩
theorem Shown.skip {outer : List Env} {H : Hp} {s : Shared} {a b : Addr} {o : Obj} (x : Shown outer H s a o) (n : a ≠ b) : Shown outer (L2.del H b) s a o := ⟨(L2.del_ne n).trans x.at_, x.ob, x.nf⟩
/-- what leaves a call by an exception bears that a hidden thing is shown again -/
structure Bares (P : Program) (w : World) (CX : CXT) : Prop where
  mono : ∀ (outer : List Env) (H : Hp) (s : Shared) (E E' : XK) (u : Value) (s' : Shared), (∀ c d H', E c d H' → E' c d H') → CX outer H s E u s' → CX outer H s E' u s'
  show_ : ∀ (outer : List Env) (H : Hp) (a : Addr) (o : Obj) (s : Shared) (E : XK) (u : Value) (s' : Shared), Shown outer H s a o → CX outer (L2.del H a) s (fun cls d H' => H' a = none → E cls d (shown H' a o)) u s' → CX outer H s E u s'
theorem baresX {P : Program} {w : World} : Bares P w (L2.CX P w) := ⟨fun outer H s E E' u s' hE ⟨y, B, H', cls, d, eu, fl, ok, ub, na, os, ag, q⟩ => ⟨y, B, H', cls, d, eu, fl, ok, ub, na, os, ag, hE _ _ _ q⟩, fun outer H a o s E u s' x ⟨y, B, H', cls, d, eu, fl, ok, ub, na, os, ag, hE⟩ => by
  have e1 : B.get? a = some o := ub.keep a o x.ob L2.del_same x.nf
  have n1 : H' a = none := ub.free a o x.ob L2.del_same
  refine ⟨y, B, shown H' a o, cls, d, eu, fl, shown_hok ok n1 e1, unshow_ub ub x.at_, ?_, os, ag, hE n1⟩
  rw [shown_ne (fun z => by have q := fl.2.1; rw [z, e1] at q; cases q)]
  exact na⟩
theorem shownL_ne {b : Addr} : ∀ {L : List (Addr × Obj)} {H : Hp}, b ∉ L.map (·.1) → shownL H L b = H b
  | [], _, _ => rfl
  | p :: L, H, h => by
    rw [List.map_cons, List.mem_cons, not_or] at h
    exact (shown_ne h.1).trans (shownL_ne h.2)
section
variable {P : Program} {w : World} {K : PySem.W.Frag} {mg : Str → Option Value} {base : Heap} {A : Around} {outer : List Env} {s : Shared} {H : Hp} {a : Addr} {o : Obj} {CX : CXT} {c : Code} {Q : VK} {E : XK}
theorem env0_del (e : Env0 P w K mg base A outer s H) (x : Shown outer H s a o) : Env0 P w K mg base A outer s (L2.del H a) := by
  have nn : ∀ b, H b = none → b ≠ a := fun b e z => by rw [z, x.at_] at e; cases e
  refine ⟨e.frames, e.mod, fun b ob q => ⟨(e.bs b ob q).1, ?_⟩, e.bsz, e.funs, fun b hb => ?_, del_hok e.hok x.at_, e.bare⟩
  · rw [L2.del_ne (nn b (e.bs b ob q).2)]
    exact (e.bs b ob q).2
  · rw [L2.del_ne (nn b (e.frf b hb))]
    exact e.frf b hb
theorem bare (hd : Bares P w CX) (x : Shown outer H s a o) (h : codeAny (model P w) A c (CR CX outer P w (L2.del H a) s (fun v H' => H' a = none → Q v (shown H' a o)) (fun cls d H' => H' a = none → E cls d (shown H' a o))) s) : codeAny (model P w) A c (CR CX outer P w H s Q E) s := by
  refine codeAny_mono h fun r s' hq => ?_
  cases r with
  | error u => exact hd.show_ _ _ _ _ _ _ _ _ x hq
  | ok fl =>
    cases fl with
    | ret u =>
      obtain ⟨v, H', os, br, un, hok, r, q⟩ := hq
      have e1 : s'.heap.get? a = some o := un.keep a o x.ob L2.del_same x.nf (by simp)
      have n1 : H' a = none := un.free a o x.ob L2.del_same (by simp)
      exact ⟨v, shown H' a o, os, br, unshow_un un x.at_, shown_hok hok n1 e1, r, q n1⟩
    | next => exact False.elim hq
    | brk => exact False.elim hq
    | cont => exact False.elim hq
theorem env0_delL : ∀ {L : List (Addr × Obj)} {H : Hp}, Env0 P w K mg base A outer s H → (∀ p ∈ L, Shown outer H s p.1 p.2) → (L.map (·.1)).Nodup → Env0 P w K mg base A outer s (delL H L)
  | [], _, e, _, _ => e
  | p :: L, H, e, x, nd => by
    rw [List.map_cons, List.nodup_cons] at nd
    exact env0_delL (L := L) (H := L2.del H p.1) (env0_del e (x p List.mem_cons_self)) (fun q hq => (x q (List.mem_cons_of_mem _ hq)).skip fun z => nd.1 (by rw [← z]; exact List.mem_map_of_mem hq)) nd.2
theorem cr_mono {Q' : VK} {E' : XK} (hd : Bares P w CX) (hQ : ∀ v H', Q v H' → Q' v H') (hE : ∀ c d H', E c d H' → E' c d H') (h : codeAny (model P w) A c (CR CX outer P w H s Q E) s) : codeAny (model P w) A c (CR CX outer P w H s Q' E') s := by
  refine codeAny_mono h fun r s' hq => ?_
  cases r with
  | error u => exact hd.mono _ _ _ _ _ _ _ hE hq
  | ok fl =>
    cases fl with
    | ret u =>
      obtain ⟨v, H', os, br, un, hok, r, q⟩ := hq
      exact ⟨v, H', os, br, un, hok, r, hQ _ _ q⟩
    | next => exact hq
    | brk => exact hq
    | cont => exact hq
theorem bareL (hd : Bares P w CX) : ∀ {L : List (Addr × Obj)} {H : Hp} {Q : VK} {E : XK}, (∀ p ∈ L, Shown outer H s p.1 p.2) → (L.map (·.1)).Nodup → codeAny (model P w) A c (CR CX outer P w (delL H L) s (fun v H' => (∀ p ∈ L, H' p.1 = none) → Q v (shownL H' L)) (fun cls d H' => (∀ p ∈ L, H' p.1 = none) → E cls d (shownL H' L))) s → codeAny (model P w) A c (CR CX outer P w H s Q E) s
  | [], _, _, _, _, _, h => cr_mono hd (fun v H' q => q (fun p hp => by cases hp)) (fun cl d H' q => q (fun p hp => by cases hp)) h
  | p :: L, H, Q, E, x, nd, h => by
    rw [List.map_cons, List.nodup_cons] at nd
    refine bare hd (x p List.mem_cons_self) (bareL hd (fun q hq => (x q (List.mem_cons_of_mem _ hq)).skip fun z => nd.1 (by rw [← z]; exact List.mem_map_of_mem hq)) nd.2 (cr_mono hd (fun v H' q q1 q2 => q fun r hr => ?_) (fun cl d H' q q1 q2 => q fun r hr => ?_) h))
    · rcases List.mem_cons.mp hr with e | e
      · rw [e]; rw [shownL_ne nd.1] at q2; exact q2
      · exact q1 r e
    · rcases List.mem_cons.mp hr with e | e
      · rw [e]; rw [shownL_ne nd.1] at q2; exact q2
      · exact q1 r e
end
section
end
end Y
namespace Y
open PySem PySem.Spec PyProof.Rows L2 Z LamX NdefX
/-! ## lambdas that are kept: what one promises, called wherever (after HandS.Nested's nok_of and HandS.Lambda's pe_act) -/
/-- a lambda: its words, the cells that it captured, its code object, its defaults' tuple -/
structure LF where
  qual : Str
  params : Arguments
  body : Expr
  scope : Scope
  cl : List (Str × Addr)
  c : Addr
  dT : Option Addr
abbrev LF.nf (F : LF) : NF := ⟨"<lambda>", F.qual, F.params, [], F.scope, F.cl, F.c⟩
abbrev LF.fd (F : LF) (pm ctv : Value) : FuncData := { PySem.W.kla_fn "<lambda>" F.qual F.params F.body F.scope F.cl pm (.ref F.c) ctv with defaults := F.dT.elim .none .ref }
/-- the object at f is the lambda F -/
def LamO (f : Addr) (F : LF) : HO := .ext fun h => ∃ (pm ctv : Value), h.get? f = some ({ cls := .type "function", data := .func (F.fd pm ctv) } : Obj)
/-- what its parameters get -/
def LBind (F : LF) (ps : List Str) : Prop := ∀ (pm ctv : Value) (its : List Value) (s : Shared), (F.dT = none → its = []) → (∀ T, F.dT = some T → ∃ o n, s.heap.get? T = some o ∧ o.data = .seq its.toArray n) → its.length = ps.length → BindsTo s (F.fd pm ctv) ⟨[], []⟩ (ps.zip its)
/-- its defaults stand in H -/
def LDef (F : LF) (dvs : List V) (H : Hp) : Prop := (F.dT = none → dvs = []) ∧ ∀ T, F.dT = some T → H T = some (.tup dvs)
/-- the promise of the lambda F at f: sp ws, ws what its captured cells hold at the call -/
structure LOk (P : Program) (w : World) (K : PySem.W.Frag) (mg : Str → Option Value) (base : Heap) (CX : CXT) (k : Nat) (f : Addr) (F : LF) (fr : List Str) (dvs : List V) (sp : List (Option V) → Hp → VK → XK → Prop) : Prop where
  run : ∀ (A : Around) (outer : List Env) (s : Shared) (H : Hp) (ws : List (Option V)) (Q : VK) (E : XK), Room k A → Env0 P w K mg base A outer s H → H f = some (LamO f F) → H F.c = some (CodeO F.c F.qual) → LDef F dvs H →
    CellsAt F.cl fr ws s.heap H → sp ws H Q E → codeAny (model P w) A (.call (.ref f) ⟨[], []⟩) (CR CX outer P w H s Q E) s
section
variable {CX : CXT} {P : Program} {w : World} {K : PySem.W.Frag} {mg : Str → Option Value} {base : Heap} {N ps fr : List Str} {F : LF} {f : Addr} {k j : Nat} {dvs : List V} {sp : List (Option V) → Hp → VK → XK → Prop}
theorem lok_of (S : NScope N ps fr F.scope) (hb : LBind F ps) (hl : dvs.length = ps.length)
    (hbody : ∀ (A : Around) (outer : List Env) (s : Shared) (H : Hp) (ws : List (Option V)) (Q : VK) (E : XK), Room k (A.deeper (envF F.nf f s.heap.objs.size)) → ws.length = fr.length → sp ws H Q E →
      HE (ncx CX P w K mg base N F.nf f A outer s H E) F.body (startF N dvs ws) H Q) : LOk P w K mg base CX (k + 1) f F fr dvs sp := by
  refine ⟨fun A outer s H ws Q E hr e0 hf hc hd C hsp => ?_⟩
  have lim : s.heap.NoLimit := e0.mod.nolimit.keeps fun b o e => (e0.bs b o e).1
  obtain ⟨⟨pm, ctv, ho⟩, _, _⟩ := e0.hok f _ hf
  obtain ⟨us, r, hus⟩ : ∃ us : List Value, Vals dvs us ∧ ((F.dT = none → us = []) ∧ ∀ T, F.dT = some T → ∃ o n, s.heap.get? T = some o ∧ o.data = .seq us.toArray n) := by
    cases e : F.dT with
    | none =>
      have z := hd.1 e
      subst z
      exact ⟨[], .nil, ⟨fun _ => rfl, fun T q => (by cases q)⟩⟩
    | some T =>
      obtain ⟨_, its, r, o, ho, _, hn⟩ : _ ∧ ∃ its : List Value, Vals dvs its ∧ IsTup s.heap T its.toArray := e0.hok T _ (hd.2 T e)
      obtain ⟨m, hn⟩ := hn
      exact ⟨its, r, ⟨fun q => (by cases q), fun T' q => (by cases q; exact ⟨o, m, ho, hn⟩)⟩⟩
  refine PySem.W.kla_callFunE hr.depth ho rfl S.co S.gen rfl (codeO_at e0.hok hc) (hb pm ctv us s hus.1 hus.2 (by rw [← r.length]; exact hl) _ _ _ _ ?_)
  refine wpAny_newFunctionEnv S.nocell (fun ⟨n, _⟩ hy => S.par n (List.of_mem_zip hy).1) (fun h₁ hns hsb => ⟨lim.fresh _ hsb, ?_⟩) S.kind
  show codeAny _ _ (.expr F.body (envF F.nf f s.heap.objs.size)) _ _
  have kp : ∀ b o, s.heap.get? b = some o → h₁.get? b = some o := fun b o e => hsb.extBut b o (Nat.ne_of_lt (Heap.lt_size e)) (Heap.get?_push_of_some _ e)
  have I : Inv (ncx CX P w K mg base N F.nf f A outer s H E) [] (startF N dvs ws) H { s with heap := h₁, toks := s.toks + (ps.zip us).length } := inv_startN (F := F.nf) S hr.hd e0 hl r C hns kp
  refine PySem.W.kla_codeExpr (wpAny_mono (hbody A outer s H ws Q E (hr.deeper _) C.len hsp [] _ I) (fun v s' hq => ?_) fun e s' hq => hq)
  obtain ⟨w', H', J, rv, q⟩ := hq
  exact ⟨w', H', J.os, J.bare, J.base, J.hok, rv, q⟩
theorem LOk.mono (o : LOk P w K mg base CX j f F fr dvs sp) (h : j ≤ k) : LOk P w K mg base CX k f F fr dvs sp := ⟨fun A outer s H ws Q E hr => o.run A outer s H ws Q E (hr.mono h)⟩
end
end Y
namespace Y
open PySem PySem.Spec PyProof.Rows L2 Z LamX NdefX
/-! ## a lambda is made, with defaults or without (after KE.KLam's kla_makeTail and HandS.Nested's ndef_make, which have no defaults) -/
section
variable {M : Model} {A : Around} {E : Value → Shared → Prop} {s : Shared} {name qual : Str} {params : Arguments} {body : Expr} {scope : Scope} {env : Env} {c P : Addr} {ps : Array Value} {pos : Pos} {line : Nat} {mg : Str → Option Value} {clos : List (Str × Addr)} {Q : Value → Shared → Prop} {dV : Value}
abbrev lamFd (qual : Str) (params : Arguments) (body : Expr) (scope : Scope) (cl : List (Str × Addr)) (pm cdv ct dV : Value) : FuncData := { PySem.W.kla_fn "<lambda>" qual params body scope cl pm cdv ct with defaults := dV }
/-- the end of the making: what closes over, the code object got by t, then the function -/
theorem tail_end {cv ct : Value} (hg : s.heap.Ns mainGlobals mg) (hge0 : env.globals = mainGlobals) (hb : s.heap.BuiltinsAt mg P)
    (h : Q (.ref s.heap.objs.size) { s with heap := s.heap.push { cls := .type "function", data := .func (lamFd qual params body scope clos ((mg "__name__").getD .none) cv ct dV) } }) :
    wpAny M A (do let bl ← builtinsFor mainGlobals env.builtins
                  let pm ← nsGet mainGlobals "__name__"
                  let dc ← (pure .none : Sem Value)
                  newObj (.type "function") (.func { name := "<lambda>", qualname := qual, params, body := .expr body, scope, globals := mainGlobals, closure := clos, closureTuple := ct, code := cv, builtins := bl, defaults := dV, kwdefaults := .none, annotations := none, pyModule := pm.getD .none, doc := dc })) Q E s := by
  obtain ⟨bm, ob, hbm, hne0, _, hneP, hbo, hcls, hdict, hdata⟩ := hb
  refine wpAny_bind (wpAny_builtinsFor hg hbm hne0 hbo hcls hdict hdata ?_)
  refine wpAny_bind (wpAny_nsGet hg ?_)
  exact wpAny_bind (wpAny_pure (wpAny_newObj_type h (by size_fits)))
theorem lam_tail (hcl : closureFor scope env = pure clos) (hge0 : env.globals = mainGlobals) (hg : s.heap.Ns mainGlobals mg) (hcode : env.code = .ref c) (C : PySem.W.CodeHd s.heap c P) (hP : s.heap.get? P = some { cls := .none, data := .fields ps }) (ht : TriplesOk ps.toList) (hgP : mainGlobals ≠ P) (hb : s.heap.BuiltinsAt mg P)
    (hnew : codeAmong pos ps.toList = none → ∀ (c' : Addr) (ctv : Value) (h' : Heap) (tk : Tok), Heap.ExtBut P s.heap h' → s.heap.objs.size ≤ c' → c' < h'.objs.size → h'.CodeRec (.ref c') qual → h'.get? P = some { cls := .none, data := .fields (ps ++ #[rawInt pos.line, rawInt pos.col, .ref c']) } →
      Q (.ref h'.objs.size) { s with heap := h'.push { cls := .type "function", data := .func (lamFd qual params body scope clos ((mg "__name__").getD .none) (.ref c') ctv dV) }, toks := tk })
    (hhit : ∀ cv, codeAmong pos ps.toList = some cv → ∀ (ctv : Value) (h' : Heap) (tk : Tok), (∀ b o, s.heap.get? b = some o → h'.get? b = some o) → s.heap.objs.size ≤ h'.objs.size →
      Q (.ref h'.objs.size) { s with heap := h'.push { cls := .type "function", data := .func (lamFd qual params body scope clos ((mg "__name__").getD .none) cv ctv dV) }, toks := tk }) :
    wpAny M A (makeTail "<lambda>" qual params (.expr body) scope env dV .none none pos line) Q E s := by
  have key : ∀ (ct : Value) (h1 : Heap), (∀ b o, s.heap.get? b = some o → h1.get? b = some o) → s.heap.objs.size ≤ h1.objs.size → h1.Ns mainGlobals mg →
      wpAny M A (do let cv ← functionCode env pos line "<lambda>" qual params scope (.expr body)
                    let bl ← builtinsFor mainGlobals env.builtins
                    let pm ← nsGet mainGlobals "__name__"
                    let dc ← (pure .none : Sem Value)
                    newObj (.type "function") (.func { name := "<lambda>", qualname := qual, params, body := .expr body, scope, globals := mainGlobals, closure := clos, closureTuple := ct, code := cv, builtins := bl, defaults := dV, kwdefaults := .none, annotations := none, pyModule := pm.getD .none, doc := dc })) Q E { s with heap := h1 } := by
    intro ct h1 k1 z1 g1
    have C1 := C.keeps k1
    have hP1 := k1 _ _ hP
    have hb1 := hb.keeps k1
    cases hc : codeAmong pos ps.toList with
    | none =>
      refine wpAny_bind (wpAny_functionCodeX hcode (C1.code hP1 ht) (C1.tab hP1) hc fun c' h' tk hx hge hlt _ hrec htb _ => ?_)
      have hx' : Heap.ExtBut P s.heap h' := fun b o hb' e => hx b o hb' (k1 b o e)
      obtain ⟨bm, ob, hbm, hne0, q4, hneP, hbo, q⟩ := hb1
      exact tail_end (g1.extBut hx hgP) hge0 ⟨bm, ob, hbm, hne0, q4, hneP, hx _ _ hneP hbo, q⟩ (hnew hc c' ct h' tk hx' (Nat.le_trans z1 hge) hlt hrec htb.2)
    | some cv =>
      refine wpAny_bind (wpAny_functionCode_hit hcode (C1.code hP1 ht) hc ?_)
      exact tail_end g1 hge0 hb1 (hhit cv hc ct h1 s.toks k1 z1)
  unfold makeTail
  rw [hcl, hge0]
  refine wpAny_bind (wpAny_pure ?_)
  cases hq : clos.isEmpty with
  | true =>
    simp only [if_true]
    exact wpAny_bind (wpAny_pure (key .none s.heap (fun _ _ e => e) (Nat.le_refl _) hg))
  | false =>
    simp only [Bool.false_eq_true, if_false]
    refine wpAny_bind (wpAny_newTextTuple ?_)
    exact key _ _ (fun b o e => Heap.get?_push_of_some _ e) (by rw [Heap.size_push]; omega) (hg.push _)
end
end Y
namespace Y
open PySem PySem.Spec PyProof.Rows L2 Z LamX NdefX
theorem lamO_ne {f : Addr} {F : LF} (ps : Array Value) : LamO f F ≠ .tbl ps := fun z => by unfold LamO at z; cases z
section
variable {X : Cx} {pins : List (Addr × Obj)} {σ : L2.St} {H : Hp} {s : Shared}
/-- a lambda's object just made is known from now on -/
theorem inv_lam {F : LF} {o : Obj} {t' : Nat} {pm ctv : Value} (I : Inv X pins σ H s) (ho : o = { cls := .type "function", data := .func (F.fd pm ctv) }) :
    Inv X pins σ (upd H s.heap.objs.size (LamO s.heap.objs.size F)) { s with heap := s.heap.push o, toks := t' } := by
  subst ho
  have e : (s.heap.push ({ cls := .type "function", data := .func (F.fd pm ctv) } : Obj)).get? s.heap.objs.size = some ({ cls := .type "function", data := .func (F.fd pm ctv) } : Obj) := Heap.get?_push_size _ rfl
  exact I.laid (a := s.heap.objs.size) (fun b u e => Heap.get?_push_of_some _ e) (Nat.le_refl _) ⟨⟨pm, ctv, e⟩, ⟨_, e⟩, fun h1 h2 ⟨p, t, z⟩ st => ⟨p, t, st _ z⟩⟩
/-- what stands behind the making: the lambda at f, its code object at c' -/
structure Made (T : List NTab) (F : Addr → LF) (H H1 : Hp) (f c' : Addr) : Prop where
  ext : ExtN H H1
  mono : ∀ b, H1 b = none → H b = none
  tabs : TabsN T H1
  new : H f = none
  lam : H1 f = some (LamO f (F c'))
  code : H1 c' = some (CodeO c' (F c').qual)
theorem lam_made {T : List NTab} {nm : Nat → Nat → Str} {c P : Addr} {params : Arguments} {body : Expr} {scope : Scope} {pos : Pos} {dT : Option Addr} {E : Value → Shared → Prop} {Q : Value → Shared → Prop} (I : Inv X pins σ H s) (TB : TabB X.base X.mg c P) (hcode : X.env.code = .ref c)
    (hm : (P, nm) ∈ T) (hn : nm pos.line pos.col = X.env.qual ++ "<lambda>") (hu : ∀ p ∈ T, p.1 = P → p.2 = nm) (hT : TabsN T H) (hfree : ∀ y ∈ scope.names, y.2 = .free → ∃ c, X.env.cells.lookup y.1 = some c)
    (h : ∀ (f c' : Addr) (H1 : Hp) (s' : Shared), Inv X pins σ H1 s' → Made T (fun c' => ⟨X.env.qual ++ "<lambda>", params, body, scope, cloFrom X.env.cells scope.names [], c', dT⟩) H H1 f c' → Q (.ref f) s') :
    wpAny (model X.prog X.w) X.A (makeTail "<lambda>" (X.env.qual ++ "<lambda>") params (.expr body) scope X.env (dT.elim .none .ref) .none none pos pos.line) Q E s := by
  obtain ⟨ps, hP, ht, ha⟩ := (show TabN H P nm from hT _ hm)
  have bP : s.heap.BuiltinsAt X.mg P := TB.bm.keeps I.bk
  have hP' : s.heap.get? P = some { cls := .none, data := .fields ps } := I.hok P _ hP
  refine lam_tail (closure_ok hfree) I.ok.glob (I.mod.glob.keeps I.bk) hcode (TB.code.keeps I.bk) hP' ht TB.gP bP (fun hc c' ctv h' tk hx hge hlt hrec htb => ?_) (fun cv hc ctv h' tk hx hsz => ?_)
  · obtain ⟨c2, oc, vs, t, e2, hoc, hd, hv⟩ := hrec
    cases e2
    have nC : H c' = none := I.hok.fresh hge
    have I1 := inv_table (t' := tk) (more := #[rawInt pos.line, rawInt pos.col, .ref c']) (h' := h') I hP (fun b o hb e => hx b o hb e) htb hge ⟨oc, vs, t, hoc, hd, hv⟩
    have hE : ExtN H (upd (upd H P (.tbl (ps ++ #[rawInt pos.line, rawInt pos.col, .ref c']))) c' (CodeO c' (X.env.qual ++ "<lambda>"))) := fun b o e n => by
      rw [upd_ne (ne_of_none e nC), upd_ne (fun z => n ps (Option.some.inj (e.symm.trans (by rw [z]; exact hP))))]
      exact e
    have eL : (ps ++ #[rawInt pos.line, rawInt pos.col, .ref c']).toList = ps.toList ++ [rawInt pos.line, rawInt pos.col, .ref c'] := by simp
    have T1 : TabsN T (upd (upd H P (.tbl (ps ++ #[rawInt pos.line, rawInt pos.col, .ref c']))) c' (CodeO c' (X.env.qual ++ "<lambda>"))) := fun p hp => by
      by_cases hb : p.1 = P
      · rw [hu p hp hb, hb]
        refine ⟨_, by rw [upd_ne (ne_of_none hP nC), upd_same], by rw [eL]; exact PySem.TriplesOk_snoc _ _ _ _ ht, fun p' cv hcv => ?_⟩
        rw [eL] at hcv
        rcases among_app2 _ ht hcv with z | ⟨z, z1, z2⟩
        · obtain ⟨c0, e1, e2⟩ := ha p' cv z
          exact ⟨c0, e1, hE _ _ e2 codeO_ne⟩
        · refine ⟨c', z, ?_⟩
          rw [← z1, ← z2, hn]
          exact upd_same
      · obtain ⟨ps', a1, a2, a3⟩ := hT p hp
        refine ⟨ps', by rw [upd_ne (ne_of_none a1 nC), upd_ne hb]; exact a1, a2, fun p' cv hcv => ?_⟩
        obtain ⟨c0, e1, e2⟩ := a3 p' cv hcv
        exact ⟨c0, e1, hE _ _ e2 codeO_ne⟩
    have nF := I1.hok.fresh (Nat.le_refl _)
    have I2 := inv_lam (F := ⟨X.env.qual ++ "<lambda>", params, body, scope, cloFrom X.env.cells scope.names [], c', dT⟩) (t' := tk) (pm := (X.mg "__name__").getD .none) (ctv := ctv) I1 rfl
    refine h h'.objs.size c' _ _ I2 ⟨fun b o e n => ?_, fun b e => upd_none (upd_none (upd_none e)), T1.ext fun b o e => ?_, I.hok.fresh (Nat.le_trans hge (Nat.le_of_lt hlt)), upd_same, ?_⟩
    · have e1 := hE b o e n
      exact (upd_ne (ne_of_none e1 nF)).trans e1
    · exact (upd_ne (ne_of_none e nF)).trans e
    · exact (upd_ne (Nat.ne_of_lt hlt)).trans upd_same
  · obtain ⟨c', e, hco⟩ := ha pos cv hc
    subst e
    rw [hn] at hco
    have I1 : Inv X pins σ H { s with heap := h', toks := tk } := I.kept hx
    have nF : H h'.objs.size = none := I1.hok.fresh (Nat.le_refl _)
    have I2 := inv_lam (F := ⟨X.env.qual ++ "<lambda>", params, body, scope, cloFrom X.env.cells scope.names [], c', dT⟩) (t' := tk) (pm := (X.mg "__name__").getD .none) (ctv := ctv) I1 rfl
    refine h h'.objs.size c' _ _ I2 ⟨fun b o e n => ?_, fun b e => upd_none e, hT.ext fun b o e => ?_, nF, upd_same, ?_⟩
    · exact (upd_ne (ne_of_none e nF)).trans e
    · exact (upd_ne (ne_of_none e nF)).trans e
    · exact (upd_ne (ne_of_none hco nF)).trans hco
end
/-- the Lambda expression: no default -/
theorem he_lam0 {X : Cx} {σ : L2.St} {H : Hp} {T : List NTab} {nm : Nat → Nat → Str} {c P : Addr} {params : Arguments} {body : Expr} {scope : Scope} {pos : Pos} {Q : VK} (TB : TabB X.base X.mg c P) (hcode : X.env.code = .ref c) (hm : (P, nm) ∈ T) (hn : nm pos.line pos.col = X.env.qual ++ "<lambda>") (hu : ∀ p ∈ T, p.1 = P → p.2 = nm) (hT : TabsN T H)
    (hfree : ∀ y ∈ scope.names, y.2 = .free → X.env.scope.names.lookup y.1 = some .cell ∨ X.env.scope.names.lookup y.1 = some .free) (hdef : defaultsOf params X.env = ([], []))
    (h : ∀ f c' H1, Made T (fun c' => ⟨X.env.qual ++ "<lambda>", params, body, scope, cloFrom X.env.cells scope.names [], c', none⟩) H H1 f c' → Q (.ref f) H1) : HE X (.Lambda params body scope pos) σ H Q := fun pins s I => by
  refine PySem.W.kla_eval hdef ?_
  rw [makeFunction_eq]
  simp only [List.zip_nil_right, List.filterMap_nil, List.isEmpty_nil, if_true, pure_bind]
  exact lam_made (dT := none) I TB hcode hm hn hu hT (fun y hy e => (hfree y hy e).elim (fun z => I.ok.has _ (.inl z)) fun z => I.ok.has _ (.inr z)) fun f c' H1 s' I1 M => ⟨.ref f, H1, I1, rfl, h f c' H1 M⟩
/-- .. with one default -/
theorem he_lam1 {X : Cx} {σ : L2.St} {H : Hp} {T : List NTab} {nm : Nat → Nat → Str} {c P : Addr} {params : Arguments} {body e : Expr} {scope : Scope} {pos : Pos} {Q : VK} (TB : TabB X.base X.mg c P) (hcode : X.env.code = .ref c) (hm : (P, nm) ∈ T) (hn : nm pos.line pos.col = X.env.qual ++ "<lambda>") (hu : ∀ p ∈ T, p.1 = P → p.2 = nm)
    (hfree : ∀ y ∈ scope.names, y.2 = .free → X.env.scope.names.lookup y.1 = some .cell ∨ X.env.scope.names.lookup y.1 = some .free) (hdef : defaultsOf params X.env = ([eval e X.env], []))
    (h : HE X e σ H fun v H0 => TabsN T H0 ∧ ∀ d, H0 d = none → ∀ f c' H1, Made T (fun c' => ⟨X.env.qual ++ "<lambda>", params, body, scope, cloFrom X.env.cells scope.names [], c', some d⟩) (upd H0 d (.tup [v])) H1 f c' → Q (.ref f) H1) : HE X (.Lambda params body scope pos) σ H Q := fun pins s I => by
  rw [arm_eval_Lambda, hdef]
  show wpAny _ _ (do let dv ← evalAll [eval e X.env]; let kdv ← holding dv (evalAllOpt []); makeFunction "<lambda>" (X.env.qual ++ "<lambda>") params (.expr body) scope X.env dv kdv [] pos pos.line) _ _ s
  refine wpAny_bind ?_
  show wpAny _ _ (do let v ← eval e X.env; let r ← holding [v] (evalAll []); pure (v :: r)) _ _ s
  refine wpAny_bind (thn (h pins s I) fun u s1 hh => ?_)
  obtain ⟨v, H0, I0, rv, hT, q⟩ := hh
  refine wpAny_bind (wpAny_holding (wpAny_pure (wpAny_pure ?_)))
  refine wpAny_bind (wpAny_holding (wpAny_pure ?_))
  rw [makeFunction_eq]
  simp only [List.zip_nil_right, List.filterMap_nil, List.isEmpty_nil, List.isEmpty_cons, Bool.false_eq_true, if_false, if_true, pure_bind]
  refine wpAny_bind (wpAny_newTextTuple ?_)
  have nD : H0 s1.heap.objs.size = none := I0.hok.fresh (Nat.le_refl _)
  have I1 : Inv X pins σ (upd H0 s1.heap.objs.size (.tup [v])) { s1 with heap := s1.heap.push { cls := .type "tuple", data := .seq [u].toArray }, toks := s1.toks } :=
    I0.laid (fun b o e => Heap.get?_push_of_some _ e) (Nat.le_refl _) ⟨by size_fits, [u], .cons rv .nil, IsTup.new _ _⟩
  exact lam_made (dT := some s1.heap.objs.size) I1 TB hcode hm hn hu (hT.ext fun b o e => (upd_ne (ne_of_none e nD)).trans e) (fun y hy e => (hfree y hy e).elim (fun z => I0.ok.has _ (.inl z)) fun z => I0.ok.has _ (.inr z)) fun f c' H1 s' I2 M => ⟨.ref f, H1, I2, rfl, q _ nD f c' H1 M⟩
end Y
namespace Y
open PySem PySem.Spec PyProof.Rows L2 Z LamX NdefX
/-! ## a kept lambda is called, its cells shown here -/
theorem delL_ne {b : Addr} : ∀ {L : List (Addr × Obj)} {H : Hp}, (∀ p ∈ L, p.1 ≠ b) → delL H L b = H b
  | [], _, _ => rfl
  | p :: L, H, h => (delL_ne (L := L) (H := L2.del H p.1) fun q hq => h q (List.mem_cons_of_mem _ hq)).trans (L2.del_ne (Ne.symm (h p List.mem_cons_self)))
theorem delL_none {b : Addr} : ∀ {L : List (Addr × Obj)} {H : Hp}, H b = none → delL H L b = none
  | [], _, h => h
  | p :: L, H, h => delL_none (L := L) (H := L2.del H p.1) (by
      by_cases hb : b = p.1
      · rw [hb]; exact L2.del_same
      · exact (L2.del_ne hb).trans h)
theorem delL_mem {b : Addr} : ∀ {L : List (Addr × Obj)} {H : Hp}, b ∈ L.map (·.1) → delL H L b = none
  | p :: L, H, h => by
    rw [List.map_cons, List.mem_cons] at h
    by_cases hb : b = p.1
    · exact delL_none (L := L) (H := L2.del H p.1) (by rw [hb]; exact L2.del_same)
    · exact delL_mem (L := L) (H := L2.del H p.1) (h.resolve_left hb)
/-- the captured cells among the shown things, what they hold (ws) -/
structure CellsL (cl : List (Str × Addr)) (fr : List Str) (ws : List (Option V)) (L : List (Addr × Obj)) : Prop where
  len : ws.length = fr.length
  all : ∀ y c, cl.lookup y = some c → ∃ o v, (c, o) ∈ L ∧ o.data = .cell v
  inj : ∀ x y c, cl.lookup x = some c → cl.lookup y = some c → x = y
  has : ∀ (i : Nat) (y : Str), fr[i]? = some y → ∃ c, cl.lookup y = some c ∧ ∀ v, ws[i]? = some (some v) → ∃ u o, L2.RelV v u ∧ (c, o) ∈ L ∧ o.data = .cell (some u)
theorem CellsL.at_ {cl : List (Str × Addr)} {fr : List Str} {ws : List (Option V)} {L : List (Addr × Obj)} {h : Heap} {H : Hp} (C : CellsL cl fr ws L) (hL : ∀ p ∈ L, h.get? p.1 = some p.2) : CellsAt cl fr ws h (delL H L) := by
  refine ⟨C.len, fun y c e => ?_, C.inj, fun i y e => ?_⟩
  · obtain ⟨o, v, m, d⟩ := C.all y c e
    exact ⟨delL_mem (List.mem_map.mpr ⟨_, m, rfl⟩), v, o, hL _ m, d⟩
  · obtain ⟨c, e1, e2⟩ := C.has i y e
    refine ⟨c, e1, fun v hv => ?_⟩
    obtain ⟨u, o, r, m, d⟩ := e2 v hv
    exact ⟨u, r, o, hL _ m, d⟩
/-- a kept lambda with its cells shown: what is known of it in H -/
structure Kept (F : LF) (f : Addr) (fr : List Str) (dvs : List V) (ws : List (Option V)) (L : List (Addr × Obj)) (H : Hp) : Prop where
  lam : H f = some (LamO f F)
  code : H F.c = some (CodeO F.c F.qual)
  dfl : LDef F dvs H
  shw : ∀ p ∈ L, H p.1 = some (.frz p.2 Tr)
  nd : (L.map (·.1)).Nodup
  cells : CellsL F.cl fr ws L
theorem Kept.ext {F : LF} {f : Addr} {fr : List Str} {dvs : List V} {ws : List (Option V)} {L : List (Addr × Obj)} {H H' : Hp} (k : Kept F f fr dvs ws L H) (s : Same H H') : Kept F f fr dvs ws L H' :=
  ⟨s _ _ k.lam, s _ _ k.code, ⟨k.dfl.1, fun T e => s _ _ (k.dfl.2 T e)⟩, fun p hp => s _ _ (k.shw p hp), k.nd, k.cells⟩
section
variable {X : Cx} {σ : L2.St} {H : Hp} {i k : Nat} {a : Str} {p1 p2 : Pos} {f : Addr} {F : LF} {fr : List Str} {dvs : List V} {ws : List (Option V)} {L : List (Addr × Obj)} {sp : List (Option V) → Hp → VK → XK → Prop} {W : WX} {E : XK} {Q : VK}
/-- a(), a the name of slot i -/
theorem he_callLam (tk : Takes X W) (hW : ∀ cls d σ' H', E cls d H' → W cls d σ' H') (LO : LOk X.prog X.w X.K X.mg X.base (L2.CX X.prog X.w) k f F fr dvs sp) (hr : Room k X.A) (hs : σ[i]? = some (some (.ref f))) (KH : Kept F f fr dvs ws L H)
    (h : sp ws (delL H L) (fun v H' => (∀ p ∈ L, H' p.1 = none) → Q v (shownL H' L)) (fun cls d H' => (∀ p ∈ L, H' p.1 = none) → E cls d (shownL H' L))) (hN : X.N[i]? = some a) (hv : Vis X.env.scope a) (hd : (a == ("__debug__" : Str)) = false := by decide) (hcd : (a == ("__classdict__" : Str)) = false := by decide) :
    HE X (.Call (.Name a p1) [] [] p2) σ H Q := fun pins s I => by
  refine wpAny_Call_Name_kw (thn ((pe_var (pos := p1) (i := i) hN hv hd hcd).run pins s σ H (fun v H1 => v = .ref f ∧ H1 = H) I ⟨.ref f, hs, rfl, rfl⟩) fun u s1 ⟨v, H1, I1, r1, q1⟩ => ?_)
  obtain ⟨ev, eH⟩ := q1
  subst ev
  rw [eH] at I1
  obtain rfl : u = Value.ref f := r1
  obtain ⟨⟨pm, ctv, ho⟩, _, _⟩ := I1.hok f _ KH.lam
  refine PySem.W.callWith_F0 ⟨_, _, _, _, ho⟩ ?_
  have e0 := I1.env0
  have sh : ∀ p ∈ L, Shown X.stack H s1 p.1 p.2 := fun p hp => Shown.of I1.hok e0.frf (KH.shw p hp)
  have off : ∀ b v, H b = some v → (∀ o, v ≠ .frz o Tr) → delL H L b = H b := fun b v e n => delL_ne fun p hp z => by
    have q := KH.shw p hp
    rw [z, e] at q
    exact n _ (Option.some.inj q)
  have o1 : delL H L f = some (LamO f F) := (off f _ KH.lam fun o z => by unfold LamO at z; cases z).trans KH.lam
  have o2 : delL H L F.c = some (CodeO F.c F.qual) := (off _ _ KH.code fun o z => by unfold CodeO at z; cases z).trans KH.code
  have o3 : LDef F dvs (delL H L) := ⟨KH.dfl.1, fun T e => (off T _ (KH.dfl.2 T e) fun o z => by cases z).trans (KH.dfl.2 T e)⟩
  have rc : codeAny (model X.prog X.w) X.A (.call (.ref f) ⟨[], []⟩) (CR (L2.CX X.prog X.w) X.stack X.prog X.w H s1 Q E) s1 :=
    bareL baresX sh KH.nd (LO.run X.A X.stack s1 (delL H L) ws _ _ hr (env0_delL e0 sh KH.nd) o1 o2 o3 (KH.cells.at_ fun p hp => (sh p hp).ob) h)
  have hx : Passes (L2.CX X.prog X.w) X E := passes_call tk hW
  refine wpAny_call (codeAny_mono rc fun r s' hq => ?_)
  cases r with
  | error e => exact hx pins σ H s1 e s' I1 hq
  | ok fl =>
    cases fl with
    | ret u => exact I1.after hq
    | next => exact False.elim hq
    | brk => exact False.elim hq
    | cont => exact False.elim hq
end
end Y
namespace Y
open PySem PySem.Spec PyProof.Rows L2 Z
/-! ## a text in a list of texts; what a caught error keeps -/
theorem dts_str {K : PySem.W.Frag} {H : Hp} {ns : List Str} {xs : List V} (h : Dts K (ns.map .str) xs H) : xs = ns.map V.str := by
  refine List.ext_getElem? fun i => ?_
  cases e : ns[i]? with
  | none =>
    rw [List.getElem?_map, e]
    refine List.getElem?_eq_none ?_
    rw [h.1, List.length_map]
    exact List.getElem?_eq_none_iff.mp e
  | some n =>
    obtain ⟨hi, _⟩ := List.getElem?_eq_some_iff.mp e
    have hx : i < xs.length := by rw [h.1, List.length_map]; exact hi
    have q := h.2 i xs[i] (.str n) (List.getElem?_eq_getElem hx) (by rw [List.getElem?_map, e]; rfl)
    rw [List.getElem?_map, e, List.getElem?_eq_getElem hx]
    cases hq : xs[i] with
    | str m => rw [hq] at q; cases q; rfl
    | _ => rw [hq] at q; cases q
theorem inV_str (n : Str) : ∀ ns : List Str, inV (.str n) (ns.map V.str) = ns.any fun m => decide (m = n)
  | [] => rfl
  | m :: ns => by
    have h := inV_str n ns
    unfold inV at h ⊢
    rw [List.map_cons, List.any_cons, h, List.any_cons]
    congr 1
theorem flat_strs (ns : List Str) : (ns.map V.str).all flatV = true := by
  induction ns with
  | nil => rfl
  | cons n ns ih => rw [List.map_cons, List.all_cons, ih]; rfl
section
variable {X : Cx} {σ : L2.St} {S : Hp} {a b : Expr} {pos : Pos} {n : Str} {ns : List Str}
theorem opE_inLs {K : PySem.W.Frag} : OpE (rIn K false) S (Dt K (.str n)) (Dt K (.list (ns.map .str))) (Dt K (.bool (ns.any fun m => decide (m = n)))) := fun v w S1 H1 _ s pv pw Q q => by
  cases pv
  obtain ⟨l, xs, rfl, hl, hx, z⟩ := pw.lst_inv
  rw [dts_str hx] at hl
  refine ⟨l, ns.map V.str, rfl, .inl (sql_of (s _ _ hl)), rfl, flat_strs ns, ?_⟩
  rw [if_neg Bool.false_ne_true, inV_str]
  exact q _ S1 H1 (Gr.refl s) (.bl _)
theorem et_inLs (ha : EE X σ S a (Dt X.K (.str n))) (hb : EE X σ S b (Dt X.K (.list (ns.map .str)))) (hm : behindInMarks .In b = false := by rfl) : ET X σ S (.Compare a [.In] [b] pos) (ns.any fun m => decide (m = n)) := et_cmp op_in_seq ha hb opE_inLs hm
end
/-- a shown own error, its code, the attribute n -/
def ExcAt (C : Addr) (code n : Str) (v : V) (w : V) (S : Hp) : Prop := ∃ (a : Addr) (oe : Obj) (dd : Addr) (fs : List (Str × V)), w = .ref a ∧ S a = some (.frz oe Tr) ∧ oe.cls = .ref C ∧ oe.dict = some dd ∧ (∃ vs, oe.data = .fields vs) ∧ S dd = some (.xd fs) ∧ fs.lookup ("code" : Str) = some (V.str code) ∧ fs.lookup n = some v
instance {C : Addr} {code n : Str} {v : V} : Mn (ExcAt C code n v) := ⟨fun s ⟨a, oe, dd, fs, h1, h2, h3, h4, h5, h6, h7, h8⟩ => ⟨a, oe, dd, fs, h1, s _ _ h2, h3, h4, h5, s _ _ h6, h7, h8⟩⟩
section
end
end Y
namespace Y
open PySem PySem.Spec PyProof.Rows L2 Z
/-- a state with the exception shown, and back -/
theorem Gr.unshown {S H S1 H1 : Hp} {a : Addr} {oe : Obj} (s : Same S H) (n : H a = none) (g : Gr (shown S a oe) (shown H a oe) S1 H1) : Gr S H (L2.del S1 a) (L2.del H1 a) := by
  have nS : S a = none := s.free n
  refine ⟨fun b o e => ?_, fun b o e => ?_, fun b o e => ?_, fun b o e m => ?_⟩
  · have hb := ne_of_none e nS
    exact (L2.del_ne hb).trans (g.st b o ((shown_ne hb).trans e))
  · by_cases hb : b = a
    · rw [hb, L2.del_same] at e; cases e
    · rw [L2.del_ne hb] at e
      exact (L2.del_ne hb).trans (g.sub b o e)
  · have hb := ne_of_none e n
    exact (L2.del_ne hb).trans (g.hh b o ((shown_ne hb).trans e))
  · have hb := ne_of_none e n
    exact (L2.del_ne hb).trans ((g.old b o ((shown_ne hb).trans e) m).trans (shown_ne hb))
theorem shown_same_sub {S H : Hp} {a : Addr} {oe : Obj} (s : Same S H) : Same (shown S a oe) (shown H a oe) := fun b o e => by
  by_cases hb : b = a
  · subst hb; rw [shown_same] at e ⊢; exact e
  · rw [shown_ne hb] at e ⊢; exact s b o e
/-- shown things put back on top -/
theorem Gr.shownL {S H S1 H1 : Hp} {L : List (Addr × Obj)} (g : Gr S (delL H L) S1 H1) (hL : ∀ p ∈ L, H1 p.1 = none) (hk : ∀ p ∈ L, H p.1 = some (.frz p.2 Tr)) (nd : (L.map (·.1)).Nodup) : Gr S H S1 (shownL H1 L) := by
  have atL : ∀ {L : List (Addr × Obj)} {p : Addr × Obj}, p ∈ L → (L.map (·.1)).Nodup → Y.shownL H1 L p.1 = some (.frz p.2 Tr) := by
    intro L
    induction L with
    | nil => intro p hp; cases hp
    | cons q L ih =>
      intro p hp nd
      rw [List.map_cons, List.nodup_cons] at nd
      rcases List.mem_cons.mp hp with e | e
      · rw [e]; exact shown_same
      · exact (shown_ne fun z => nd.1 (by rw [← z]; exact List.mem_map_of_mem e)).trans (ih e nd.2)
  have top : Same H1 (Y.shownL H1 L) := fun b o e => by
    have hb : b ∉ L.map (·.1) := fun z => by
      obtain ⟨p, hp, rfl⟩ := List.mem_map.mp z
      rw [hL p hp] at e; cases e
    exact (shownL_ne hb).trans e
  refine ⟨g.st, g.sub.trans top, fun b o e => ?_, fun b o e m => ?_⟩
  · by_cases hb : b ∈ L.map (·.1)
    · obtain ⟨p, hp, rfl⟩ := List.mem_map.mp hb
      rw [hk p hp] at e
      rw [atL hp nd]; exact e
    · exact top b o (g.hh b o ((delL_ne fun p hp z => hb (by rw [← z]; exact List.mem_map_of_mem hp)).trans e))
  · by_cases hb : b ∈ L.map (·.1)
    · obtain ⟨p, hp, rfl⟩ := List.mem_map.mp hb
      have n1 : S1 p.1 = none := g.sub.free (hL p hp)
      rw [n1, g.st.free n1]
    · exact g.old b o ((delL_ne fun p hp z => hb (by rw [← z]; exact List.mem_map_of_mem hp)).trans e) m
end Y
namespace Y
open PySem PySem.Spec PyProof.Rows L2 L2H Z
/-! ## a def called within an except suite, the caught exception pinned; it raises nothing there (after HandS.HotCalls, without its wish on the exception's context) -/
structure FnP (P : Program) (w : World) (K : PySem.W.Frag) (mg : Str → Option Value) (base : Heap) (k : Nat) (f : Addr) (fd : FuncData) (ps : List Str) (sp : Addr × Obj → List V → Hp → VK → Prop) : Prop where
  len : ∀ p vs H Q, sp p vs H Q → vs.length = ps.length
  run : ∀ (A : Around) (outer : List Env) (s : Shared) (H : Hp) (args : Args) (us : List Value) (vs : List V) (Q : VK) (p : Addr × Obj), RoomH k A → PinOk outer H s p → Env0 P w K mg base A outer s H → BindsTo s fd args (ps.zip us) → Vals vs us → sp p vs H Q →
    codeAny (model P w) A (.call (.ref f) args) (CR CX0 outer P w H s Q (fun _ _ _ => False)) s
section
variable {P : Program} {w : World} {K : PySem.W.Frag} {mg : Str → Option Value} {base : Heap} {x qual : Str} {params : Arguments} {body : List Stmt} {scope : Scope} {dvs : List V} {kws : List (Str × V)} {f : Addr} {fd : FuncData} {N ps : List Str} {k : Nat} {sp : Addr × Obj → List V → Hp → VK → Prop}
theorem fn_hsP (F : FunD K x qual params body scope dvs kws f fd) (S : FnScope N ps scope) (len : ∀ p vs H Q, sp p vs H Q → vs.length = ps.length)
    (hb : ∀ (cdv : Value) (A : Around) (outer : List Env) (s : Shared) (H : Hp) (vs : List V) (Q : VK) (p : Addr × Obj), RoomH k (A.deeper (envOfC qual scope s.heap.objs.size f cdv)) → sp p vs H Q →
      HS (cxH CX0 P w K mg base N qual scope f cdv A outer s H (fun _ _ _ => False) p) { nx := fun _ H' => Q .non H', rt := Q } body (start N vs) H) : FnP P w K mg base (k + 1) f fd ps sp := by
  obtain ⟨oc, od, dV, kV, doc, pm, an, cdv, ct, osl, rfl, lk, hcd, _, _⟩ := F.ex
  refine ⟨len, fun A outer s H args us vs Q p hr hpin e0 hbt r hsp => ?_⟩
  have hl := len _ _ _ _ hsp
  have KX : K.In s.heap := e0.mod.kin.keeps fun b o e => (e0.bs b o e).1
  have lim : s.heap.NoLimit := e0.mod.nolimit.keeps fun b o e => (e0.bs b o e).1
  have hkind : ∀ y ∈ ps.zip us, scope.names.lookup y.1 = some .local ∨ (scope.names.lookup y.1 = some .cell ∧ ((cellsFrom (s.heap.objs.size + 1) scope.names []).lookup y.1).isSome = true) := fun ⟨n, v⟩ hy => by
    rcases S.par n (List.of_mem_zip hy).1 with q | q
    · exact .inl q
    · exact .inr ⟨q, PySem.W.cellsFrom_some _ _ _ (.inl q)⟩
  refine codeAny_call_function hr.depth (KX _ _ lk) rfl S.co S.gen rfl (PySem.W.codeRec_of KX hcd) (hbt _ _ _ _ ?_)
  refine wpAny_newFunctionEnv_cells S.kind hkind fun env he s1 xx => ?_
  subst he
  refine ⟨lim.keeps xx.toInCall.keep, codeAny_func ?_⟩
  have I : Inv (cxH CX0 P w K mg base N qual scope f cdv A outer s H (fun _ _ _ => False) p) [] (L2.start N vs) H s1 := inv_startH S hpin e0 hl r xx
  refine wpAny_mono (hb cdv A outer s H vs Q p (hr.deeper _) hsp [] s1 I) (fun fl s' hs => ?_) fun e s' hs => hs
  have fin : ∀ {σ' : L2.St} {H' : Hp} {v : V} {u : Value}, Inv (cxH CX0 P w K mg base N qual scope f cdv A outer s H (fun _ _ _ => False) p) [] σ' H' s' → L2.RelV v u → Q v H' → CE outer P w H s Q u s' :=
    fun {σ' H' v u} J rv q => ⟨v, H', J.os, J.bare, J.base, J.hok, rv, q⟩
  cases fl with
  | ret u => exact hs.elim fun v ⟨σ', H', J, rv, q⟩ => fin J rv q
  | next => exact hs.elim fun σ' ⟨H', J, q⟩ => fin (v := V.non) (u := Value.none) J rfl q
  | brk => exact hs.elim fun _ ⟨_, _, q⟩ => False.elim q
  | cont => exact hs.elim fun _ ⟨_, _, q⟩ => False.elim q
end
/-- f(e), e the caught exception, in its suite -/
theorem he_callP {X : Cx} {a : Addr} {oe : Obj} {pn : List (Addr × Obj)} {k : Nat} {f : Addr} {fd : FuncData} {ps : List Str} {sp : Addr × Obj → List V → Hp → VK → Prop} {fx : Str} {e : Expr} {σ : L2.St} {H : Hp} {Q : VK} {p pos : Pos} (F : FnP X.prog X.w X.K X.mg X.base k f fd ps sp) (hr : RoomH k (X.suite a ((a, oe) :: pn)).A)
    (hm : X.mg fx = some (.ref f)) (hk : PySem.W.keepIn X.K (.ref f) = true) (hb : Binds X.K fd ps []) (ha : HE (X.suite a ((a, oe) :: pn)) e σ H (fun v H1 => v = .ref a ∧ H1 = H)) (h : sp (a, oe) [.ref a] H Q)
    (hg : Gl X fx := by rfl) (hdb : (fx == ("__debug__" : Str)) = false := by decide) (he : starEach [e] X.env = (false, eval e X.env) :: starEach [] X.env := by rfl) (hpl : (backTo pos (starEach [] X.env)).any (·.1) = false := by rfl) :
    HE (X.suite a ((a, oe) :: pn)) (.Call (.Name fx p) [e] [] pos) σ H Q := fun pins s I => by
  refine wpAny_Call_Name_kw (ld_glob I hg hm ?_ hdb)
  refine PySem.W.callWith_K (h₀ := X.base) I.ok.mod.kin hk (thn ((pa_cons (X := X.suite a ((a, oe) :: pn)) (te := bE (X.suite a ((a, oe) :: pn)) e) peb pa_nil he).run pos pins s σ H (fun vs H1 => vs = [.ref a] ∧ H1 = H) I ?_) fun us s1 ⟨vs, H1, I1, r, q⟩ => ⟨I1.kIn, ?_⟩) he hpl
  · exact fun pins' s' I' => thn (ha pins' s' I') fun u s1 ⟨v, H1, I1, r, e1, e2⟩ => ⟨v, H1, I1, r, by rw [e1], e2⟩
  · obtain ⟨rfl, rfl⟩ := q
    have hl : us.length = ps.length := by rw [← r.length]; exact F.len _ _ _ _ h
    have pk : PinOk X.stack H1 s1 (a, oe) := by
      obtain ⟨e1, n, nL, nF, nc⟩ := I1.pin (a, oe) (List.mem_append_left _ List.mem_cons_self)
      exact ⟨e1, n, fun hm' => (List.mem_cons.mp (I1.stkSub _ hm')).elim nL nF, nc⟩
    have hbt := hb s1 us I1.kIn (by rw [List.append_nil]; exact hl)
    rw [List.append_nil] at hbt
    refine wpAny_call (codeAny_mono (F.run _ X.stack s1 H1 ⟨us, []⟩ us [.ref a] Q (a, oe) hr pk I1.env0 hbt r h) fun r s' hq => ?_)
    cases r with
    | error e => exact (show False from hq).elim
    | ok fl =>
      cases fl with
      | ret u => exact I1.after hq
      | next => exact False.elim hq
      | brk => exact False.elim hq
      | cont => exact False.elim hq
end Y
namespace Y
open PySem PySem.Spec PyProof.Rows L2 L2H Z
/-! ## attributes of the pinned exception -/
/-- the exception p: its class, its code, the value of its attribute n -/
def ExcP (C : Addr) (code n : Str) (v : V) (p : Addr × Obj) (S : Hp) : Prop := ∃ (dd : Addr) (fs : List (Str × V)), p.2.cls = .ref C ∧ p.2.dict = some dd ∧ (∃ vs, p.2.data = .fields vs) ∧ S dd = some (.xd fs) ∧ fs.lookup ("code" : Str) = some (V.str code) ∧ fs.lookup n = some v
theorem ExcP.up {C : Addr} {code n : Str} {v : V} {p : Addr × Obj} {S S' : Hp} (h : ExcP C code n v p S) (s : Same S S') : ExcP C code n v p S' := by
  obtain ⟨dd, fs, h1, h2, h3, h4, h5, h6⟩ := h
  exact ⟨dd, fs, h1, h2, h3, s _ _ h4, h5, h6⟩
section
variable {X : Cx} {σ : L2.St} {S : Hp} {e : Expr} {P : V → Hp → Prop} {pos : Pos} {C dd : Addr} {n code : Str} {p : Addr × Obj} {fs : List (Str × V)} {v : V}
theorem ee_xfP [Mn P] (hp : p ∈ X.pn) (hc : p.2.cls = .ref C) (hdd : p.2.dict = some dd) (hf : ∃ vs, p.2.data = .fields vs) (T : XfC X.K C) (hno : PySem.W.findIn X.K (.ref C) n = some none) (he : EE X σ S e (fun w _ => w = .ref p.1)) (hx : S dd = some (.xd fs)) (l : fs.lookup n = some v) (pv : P v S)
    (hb : attributeBase e n X.env (eval e X.env) = eval e X.env := by rfl) : EE X σ S (.Attribute e n pos) P := fun H s Q q pins sh I => by
  refine attr_of hb (thn (he H s (fun w H1 => w = .ref p.1 ∧ ∃ S1, Gr S H S1 H1) (fun v S1 H1 g pv => ⟨pv, S1, g⟩) pins sh I) fun x s1 hh => ?_)
  obtain ⟨w, H1, I1, rx, ew, S1, g⟩ := hh
  subst ew
  obtain rfl : x = Value.ref p.1 := rx
  obtain ⟨vs, hd⟩ := hf
  have ho : s1.heap.get? p.1 = some p.2 := (I1.pin p (List.mem_append_left _ hp)).1
  have hx1 : ObjOk X.prog X.w H1 s1.heap dd (.xd fs) := I1.hok dd _ (g.sub _ _ (g.st _ _ hx))
  obtain ⟨mA, hns, hr⟩ := hx1
  obtain ⟨od, hod, hl⟩ := lookIn_ns hns
  obtain ⟨u', hu, ru⟩ := RelO.some_of (v := v) (o := mA n) (by rw [← l]; exact hr n)
  have J : PySem.W.InstAt s1.heap p.1 p.2 C (some od) := ⟨ho, hc, by unfold PySem.W.notCls; rw [hd] <;> rfl, by rw [hdd]; exact hod⟩
  exact HandSPX.exc_get I1.kIn J T.ga T.gg T.exC (PySem.W.findObj_own T.hdC hno rfl (by rw [hl, hu])) (handed_of ru) ⟨v, H1, I1.tok _, ru, q v S1 H1 g (Mn.up g.st pv)⟩
end
end Y
namespace Y
open PySem PySem.Spec PyProof.Rows L2 Z
section
variable {X : Cx} {pins : List (Addr × Obj)} {σ : L2.St} {S H : Hp} {s : Shared} {x : Str} {c : Addr}
/-- a cell of the running frame may be shown -/
theorem show_cell (I : Inv X pins σ H s) (e : X.env.cells.lookup x = some c) (hf : X.fn x = true) : ∃ o cv, o.data = .cell cv ∧ Show X.base X.stack H s c o := by
  obtain ⟨cv, o, ho, hd⟩ := I.cell x c e
  have lt := I.ok.cab x c hf e
  refine ⟨o, cv, hd, ho, I.freeC x c e, fun hm => ?_, ?_⟩
  · rcases List.mem_cons.mp (I.stkSub c hm) with h | h
    · exact I.cne x c e h
    · obtain ⟨_, o', e', _⟩ := I.ok.funs.mem h
      exact absurd (Heap.lt_size e') (Nat.not_lt.mpr lt)
  · cases hb : X.base.get? c with
    | none => rfl
    | some o' => exact absurd (Heap.lt_size (I.ok.bs c o' hb).1) (Nat.not_lt.mpr lt)
end
end Y
namespace Y
open PySem PySem.Spec PyProof.Rows L2 Z
/-! ## a list comprehension over things of any kind (Z3's ee_lcG with predicates for the items) -/
section
variable {α : Type} {R : α → V → Hp → Prop} {X : Cx} {σ : L2.St} {S : Hp} {elt tg iter : Expr} {ifs : List Expr} {scope : Scope} {own : List (Str × Nat)} {pos : Pos} {ds : List α} {p : α → Bool} {G : α → PyData → Prop}
theorem lc_loopA (hz : ds.length ≤ sizeLine)
    (hel : ∀ d ∈ ds, ∀ v S', Same S S' → R d v S' → ∃ τ, wipe τ (own.map (·.2)) = wipe σ (own.map (·.2)) ∧ ∀ (s : Shared) (H0 : Hp) (C : Addr) (cl : List (Str × Addr)) (fp : List Addr),
      EG (X.blk s H0 scope (compEnvC scope cl C X.env) fp) S' tg v (wipe σ (own.map (·.2))) τ ∧ ETs (X.blk s H0 scope (compEnvC scope cl C X.env) fp) τ S' ifs (p d) ∧ (p d = true → EE (X.blk s H0 scope (compEnvC scope cl C X.env) fp) τ S' elt (Ex X.K (G d)))) {H : Hp} (Q : VK) (q : ∀ v S' H', Gr S H S' H' → (∃ rs, Paired G (ds.filter p) rs ∧ Dt X.K (.list rs) v S') → Q v H') {J : It} {S1 H1 : Hp} (g1 : Gr S H S1 H1) (it : ItP J S1 (ds.map R)) :
    ∀ D, H1 D = none → ∃ W : Nat → Nat → Hp → Prop, (∃ m, W 0 m (upd H1 D (.lst []))) ∧ ∀ i m H, W i m H →
      (J.stop i H ∧ Q (.ref D) H) ∨ (J.go i H ∧ ∃ Nx : Hp → Prop, (∀ H', Nx H' → ∃ m', m' < m ∧ W (i + 1) m' H') ∧ ∀ x H', J.yld i H x H' → gBlk X scope tg x (wipe σ (own.map (·.2))) H' fun σ2 H2 => wipe σ2 (own.map (·.2)) = wipe σ (own.map (·.2)) ∧ tBlk X scope ifs σ2 H2 fun b H3 =>
        if b = true then eBlk X scope elt σ2 H3 fun y H4 => ∃ acc, H4 D = some (.lst acc) ∧ acc.length < sizeLine ∧ Nx (upd H4 D (.lst (acc ++ [y]))) else Nx H3) := by
  intro D hD
  have hD1 : S1 D = none := g1.sub.free hD
  have hlen : (List.map R ds).length = ds.length := List.length_map ..
  refine lc_it (g := gBlk X scope tg) (tt := tBlk X scope ifs) (te := eBlk X scope elt) (vs := own.map (·.2)) (σ := σ) (Qd := Q (.ref D)) it (fun i H' => ∃ S' xs rs, Same S1 S' ∧ Same S' H' ∧ Same H1 H' ∧ (∀ a o, H1 a = some o → NT o → S' a = S1 a) ∧ S' D = none ∧ H' D = some (.lst xs) ∧ Paired G ((ds.take i).filter p) rs ∧ Dts X.K rs xs S' ∧ xs.length ≤ i)
    ⟨S1, [], [], Same.refl _, Same.mut g1.sub hD1, Same.new hD, fun _ _ _ _ => rfl, hD1, upd_same, .nil, .nil, Nat.le_refl _⟩ (fun i H' _ ⟨S', _, _, a, b, _⟩ => a.trans b) ?_ ?_
  · intro i x H2 H3 hi2 ⟨S2, xs, rs, k1, k2, k3, k4, k5, k6, k7, k8, k9⟩ y
    rw [hlen] at hi2
    obtain ⟨S3, g3, P, hP, px⟩ := y S2 k1 k2
    obtain ⟨d, hd⟩ : ∃ d, ds[i]? = some d := ⟨ds[i], List.getElem?_eq_getElem hi2⟩
    rw [List.getElem?_map, hd] at hP
    obtain rfl := Option.some.inj hP
    have sS3 : Same S S3 := g1.st.trans (k1.trans g3.st)
    obtain ⟨τ, hw, hb⟩ := hel d (List.mem_of_getElem? hd) x S3 sS3 px
    have hf : ∀ q, p d = q → (ds.take (i + 1)).filter p = (ds.take i).filter p ++ (if q = true then [d] else []) := fun q hq => by
      rw [take_snoc hd, List.filter_append]
      cases q with
      | true => simp [hq]
      | false => simp [hq]
    intro sh H0 C cl fp
    refine (hb sh H0 C cl fp).1 H3 g3.sub _ ⟨hw, ?_⟩
    intro sh' H0' C' cl' fp'
    refine (hb sh' H0' C' cl' fp').2.1 H3 g3.sub _ fun S4 H4 g4 => ?_
    have g34 := g3.trans g4
    cases hpd : p d with
    | false =>
      refine iteF ⟨S4, xs, rs, k1.trans g34.st, g34.sub, k3.trans g34.hh, fun a o h n => (g34.old a o (k3 a o h) n).trans (k4 a o h n), (g34.old D _ k6 (fun _ z => nomatch z)).trans k5, g34.hh _ _ k6, ?_, k8.up g34.st, by omega⟩
      rw [hf false hpd]
      simpa using k7
    | true =>
      refine iteT ?_
      intro sh'' H0'' C'' cl'' fp''
      refine ((hb sh'' H0'' C'' cl'' fp'').2.2 hpd).up g4.st H4 g4.sub _ fun w S5 H5 g5 ⟨r, hr, hrw⟩ => ?_
      have g := g34.trans g5
      have hD5 : S5 D = none := (g.old D _ k6 (fun _ z => nomatch z)).trans k5
      refine ⟨xs, g.hh _ _ k6, Nat.lt_of_le_of_lt k9 (Nat.lt_of_lt_of_le hi2 hz), S5, xs ++ [w], rs ++ [r], k1.trans g.st, Same.mut g.sub hD5, fun a o h => ?_, fun a o h n => (g.old a o (k3 a o h) n).trans (k4 a o h n), hD5, upd_same, ?_, (k8.up g.st).snoc hrw, by rw [List.length_append]; show xs.length + 1 ≤ i + 1; omega⟩
      · rw [upd_ne (ne_of_none h hD)]; exact g.hh _ _ (k3 a o h)
      · rw [hf true hpd]
        exact paired_snoc k7 hr
  · intro H2 ⟨S2, xs, rs, k1, k2, k3, k4, k5, k6, k7, k8, k9⟩
    rw [hlen] at k7 k9
    rw [List.take_length] at k7
    refine q _ (upd S2 D (.lst xs)) H2 (g1.trans ⟨k1.trans (Same.new k5), fun a o h => ?_, k3, fun a o h n => by rw [upd_ne (ne_of_none h hD)]; exact k4 a o h n⟩) ⟨rs, k7, Dt.lst_mk upd_same (k8.up (Same.new k5)) (Nat.le_trans k9 hz)⟩
    by_cases ha : a = D
    · subst ha; rw [upd_same] at h; rw [k6]; exact h
    · rw [upd_ne ha] at h; exact k2 a o h
theorem lc_readA (hi : EI X σ S tg iter (ds.map R)) (hz : ds.length ≤ sizeLine)
    (hel : ∀ d ∈ ds, ∀ v S', Same S S' → R d v S' → ∃ τ, wipe τ (own.map (·.2)) = wipe σ (own.map (·.2)) ∧ ∀ (s : Shared) (H0 : Hp) (C : Addr) (cl : List (Str × Addr)) (fp : List Addr),
      EG (X.blk s H0 scope (compEnvC scope cl C X.env) fp) S' tg v (wipe σ (own.map (·.2))) τ ∧ ETs (X.blk s H0 scope (compEnvC scope cl C X.env) fp) τ S' ifs (p d) ∧ (p d = true → EE (X.blk s H0 scope (compEnvC scope cl C X.env) fp) τ S' elt (Ex X.K (G d)))) {H : Hp} (s : Same S H) (Q : VK) (q : ∀ v S' H', Gr S H S' H' → (∃ rs, Paired G (ds.filter p) rs ∧ Dt X.K (.list rs) v S') → Q v H') :
    tLc (bI X tg iter) (gBlk X scope tg) (tBlk X scope ifs) (eBlk X scope elt) (own.map (·.2)) σ H Q := hi H s _ fun J S1 H1 g1 it => lc_loopA hz hel Q q g1 it
theorem ee_lcA (hc : X.calm = true) (hN : X.N.Nodup) (ok : BlkOk X.N X.env.scope scope own) (hi : EI X σ S tg iter (ds.map R)) (hz : ds.length ≤ sizeLine)
    (hel : ∀ d ∈ ds, ∀ v S', Same S S' → R d v S' → ∃ τ, wipe τ (own.map (·.2)) = wipe σ (own.map (·.2)) ∧ ∀ (s : Shared) (H0 : Hp) (C : Addr) (cl : List (Str × Addr)) (fp : List Addr),
      EG (X.blk s H0 scope (compEnvC scope cl C X.env) fp) S' tg v (wipe σ (own.map (·.2))) τ ∧ ETs (X.blk s H0 scope (compEnvC scope cl C X.env) fp) τ S' ifs (p d) ∧ (p d = true → EE (X.blk s H0 scope (compEnvC scope cl C X.env) fp) τ S' elt (Ex X.K (G d))))
    (hs : ∀ x, foldedSetIterable iter X.env x = pure x := by intro _; rfl) :
    EE X σ S (.ListComp elt [⟨tg, iter, ifs, 0⟩] scope pos) (fun v S' => ∃ rs, Paired G (ds.filter p) rs ∧ Dt X.K (.list rs) v S') := fun H s Q q =>
  he_of (pe_lc (own := own) (wi := bI X tg iter) (g := gBlk X scope tg) (tt := tBlk X scope ifs) (te := eBlk X scope elt) hc hN pib ok
    (fun s H0 C cl fp => ⟨fun pins sh σ' H' v u Q' I r h => h s H0 C cl fp pins sh u I r⟩) (fun s H0 C cl fp => ⟨fun pins sh σ' H' Q' I h => h s H0 C cl fp pins sh I⟩) (fun s H0 C cl fp => ⟨fun pins sh σ' H' Q' I h => h s H0 C cl fp pins sh I⟩) hs) (lc_readA hi hz hel s Q q)
end
end Y
namespace Y
open PySem PySem.Spec PyProof.Rows L2 Z
/-- a list whose items have the Ps -/
def LstP (Ps : List (V → Hp → Prop)) (v : V) (S : Hp) : Prop := ∃ l xs, v = .ref l ∧ S l = some (.lst xs) ∧ Al Ps xs S
theorem al_len {Ps : List (V → Hp → Prop)} {xs : List V} {H : Hp} (h : Al Ps xs H) : xs.length = Ps.length := by
  induction h with
  | nil => rfl
  | cons _ _ ih => rw [List.length_cons, List.length_cons, ih]
theorem al_get {Ps : List (V → Hp → Prop)} {xs : List V} {H : Hp} (h : Al Ps xs H) : ∀ {i : Nat} {x : V}, xs[i]? = some x → ∃ P, Ps[i]? = some P ∧ P x H := by
  induction h with
  | nil => intro i x e; cases e
  | cons p _ ih =>
    intro i x e
    cases i with
    | zero => cases e; exact ⟨_, rfl, p⟩
    | succ i => exact ih e
section
variable {X : Cx} {σ : L2.St} {S : Hp} {e tg : Expr} {Ps : List (V → Hp → Prop)}
theorem ei_lstP (hP : ∀ P ∈ Ps, Mn P) (ha : EE X σ S e (LstP Ps)) : EI X σ S tg e Ps := fun H s R q =>
  hi_of (pi_list peb) (ha H s _ fun v S1 H1 g1 pv => by
    obtain ⟨l, xs, rfl, hl, hx⟩ := pv
    have hlen := al_len hx
    refine ⟨l, rfl, ⟨xs, sql_of (g1.sub _ _ hl)⟩, q _ S1 H1 g1 ⟨fun i H hi hs => ?_, fun H hs => ?_, fun i H x H' hi hs y T st th => ?_⟩⟩
    · rw [← hlen] at hi
      exact (walk_list (K := X.K) (a := l) (xs := xs)).goes i H hi (sql_of (hs _ _ hl))
    · rw [← hlen]
      exact (walk_list (K := X.K) (a := l) (xs := xs)).stops H (sql_of (hs _ _ hl))
    · rw [← hlen] at hi
      obtain ⟨rfl, hy⟩ := (walk_list (K := X.K) (a := l) (xs := xs)).yields i H x H' hi (sql_of (hs _ _ hl)) y
      obtain ⟨P, e1, e2⟩ := al_get hx hy
      have m := hP P (List.mem_of_getElem? e1)
      exact ⟨T, Gr.refl th, P, e1, m.up st e2⟩)
end
/-- a closure's promise seen from the state with the cells: the state without them, and back -/
theorem Gr.under {S H S1 H1 : Hp} {L : List (Addr × Obj)} (s : Same S H) (hS : ∀ p ∈ L, S p.1 = some (.frz p.2 Tr)) (nd : (L.map (·.1)).Nodup) (g : Gr (delL S L) H S1 H1) : Gr S H (Y.shownL S1 L) H1 := by
  have atL : ∀ {L : List (Addr × Obj)} {p : Addr × Obj}, p ∈ L → (L.map (·.1)).Nodup → Y.shownL S1 L p.1 = some (.frz p.2 Tr) := by
    intro L
    induction L with
    | nil => intro p hp; cases hp
    | cons q L ih =>
      intro p hp nd
      rw [List.map_cons, List.nodup_cons] at nd
      rcases List.mem_cons.mp hp with e | e
      · rw [e]; exact shown_same
      · exact (shown_ne fun z => nd.1 (by rw [← z]; exact List.mem_map_of_mem e)).trans (ih e nd.2)
  have off : ∀ b, b ∉ L.map (·.1) → delL S L b = S b := fun b hb => delL_ne fun p hp z => hb (by rw [← z]; exact List.mem_map_of_mem hp)
  refine ⟨fun b o e => ?_, fun b o e => ?_, g.hh, fun b o e m => ?_⟩
  · by_cases hb : b ∈ L.map (·.1)
    · obtain ⟨p, hp, rfl⟩ := List.mem_map.mp hb
      rw [atL hp nd, ← hS p hp]; exact e
    · rw [shownL_ne hb]
      exact g.st b o ((off b hb).trans e)
  · by_cases hb : b ∈ L.map (·.1)
    · obtain ⟨p, hp, rfl⟩ := List.mem_map.mp hb
      rw [atL hp nd] at e
      rw [← e]
      exact g.hh _ _ (s _ _ (hS p hp))
    · rw [shownL_ne hb] at e
      exact g.sub b o e
  · by_cases hb : b ∈ L.map (·.1)
    · obtain ⟨p, hp, rfl⟩ := List.mem_map.mp hb
      rw [atL hp nd, hS p hp]
    · rw [shownL_ne hb]
      exact (g.old b o e m).trans (off b hb)
end Y
namespace Y
open PySem PySem.Spec PyProof.Rows L2 Z
section
end
end Y
namespace Y
open PySem PySem.Spec PyProof.Rows L2 Z
/-- lambda: .. gets nothing -/
theorem lbind0 {F : LF} (hd : F.dT = none) (h : ∀ pm ctv, bindArgs (F.fd pm ctv) ⟨[], []⟩ = pure []) : LBind F [] := fun pm ctv its s h0 _ _ => by
  rw [h0 hd]
  exact .of_eq (h pm ctv)
/-- lambda x=e: .. gets its default -/
theorem lbind1 {F : LF} {x : Str} {T : Addr} (hd : F.dT = some T) (h : ∀ pm ctv, ∃ k, bindArgs (F.fd pm ctv) ⟨[], []⟩ = seqItems? (F.fd pm ctv).defaults >>= k ∧ ∀ u, k (some #[u]) = pure [(x, u)]) : LBind F [x] := fun pm ctv its s _ h1 hl => by
  obtain ⟨o, n, ho, hs⟩ := h1 T hd
  obtain ⟨k, e1, e2⟩ := h pm ctv
  match its, hl with
  | [u], _ => exact .of_defaults (show (F.dT.elim Value.none .ref) = .ref T by rw [hd]; rfl) ho hs e1 (e2 u)
end Y
namespace Y
open PySem PySem.Spec PyProof.Rows L2 Z LamX NdefX
/-! ## the running frame's cells, shown to a call -/
theorem gr_unshownL : ∀ {L : List (Addr × Obj)} {S H S1 H1 : Hp}, Same S H → (∀ p ∈ L, H p.1 = none) → (L.map (·.1)).Nodup → Gr (Y.shownL S L) (Y.shownL H L) S1 H1 → Gr S H (delL S1 L) (delL H1 L)
  | [], _, _, _, _, _, _, _, g => g
  | p :: L, S, H, S1, H1, s, n, nd, g => by
    rw [List.map_cons, List.nodup_cons] at nd
    have s1 : Same (Y.shownL S L) (Y.shownL H L) := by
      have key : ∀ {L : List (Addr × Obj)} {S H : Hp}, Same S H → Same (Y.shownL S L) (Y.shownL H L) := by
        intro L
        induction L with
        | nil => intro S H s; exact s
        | cons q L ih => intro S H s; exact shown_same_sub (ih s)
      exact key s
    have n1 : Y.shownL H L p.1 = none := (shownL_ne nd.1).trans (n p List.mem_cons_self)
    exact gr_unshownL (L := L) s (fun q hq => n q (List.mem_cons_of_mem _ hq)) nd.2 (Gr.unshown s1 n1 g)
theorem shownL_at {L : List (Addr × Obj)} {S : Hp} {p : Addr × Obj} (hp : p ∈ L) (nd : (L.map (·.1)).Nodup) : Y.shownL S L p.1 = some (.frz p.2 Tr) := by
  induction L with
  | nil => cases hp
  | cons q L ih =>
    rw [List.map_cons, List.nodup_cons] at nd
    rcases List.mem_cons.mp hp with e | e
    · rw [e]; exact shown_same
    · exact (shown_ne fun z => nd.1 (by rw [← z]; exact List.mem_map_of_mem e)).trans (ih e nd.2)
/-- data does not lean on what is shown -/
theorem dt_hide {K : PySem.W.Frag} {d : PyData} {v : V} {S : Hp} {a : Addr} {o : Obj} (h : Dt K d v S) (e : S a = some (.frz o Tr)) : Dt K d v (L2.del S a) := by
  induction h with
  | non => exact .non
  | bl b => exact .bl b
  | int i => exact .int i
  | str x => exact .str x
  | lst h l z _ ih => exact .lst ((L2.del_ne (fun q => by rw [q, e] at h; cases h)).trans h) l z fun i x d hx hd => ih i x d hx hd e
  | tup h l z _ ih =>
    refine .tup ?_ l z fun i x d hx hd => ih i x d hx hd e
    rcases h with h | ⟨e0, (h | ⟨o', h⟩) | h⟩
    · exact .inl ((L2.del_ne (fun q => by rw [q, e] at h; cases h)).trans h)
    · exact .inl ((L2.del_ne (fun q => by rw [q, e] at h; cases h)).trans h)
    · exact .inr ⟨e0, .inl (.inr ⟨o', (L2.del_ne (fun q => by rw [q, e] at h; cases h)).trans h⟩)⟩
    · exact .inr ⟨e0, .inr h⟩
theorem dt_hideL {K : PySem.W.Frag} {d : PyData} {v : V} : ∀ {L : List (Addr × Obj)} {S : Hp}, Dt K d v S → (∀ p ∈ L, S p.1 = some (.frz p.2 Tr)) → (L.map (·.1)).Nodup → Dt K d v (delL S L)
  | [], _, h, _, _ => h
  | p :: L, S, h, e, nd => by
    rw [List.map_cons, List.nodup_cons] at nd
    exact dt_hideL (L := L) (dt_hide h (e p List.mem_cons_self)) (fun q hq => (L2.del_ne fun z => nd.1 (by rw [← z]; exact List.mem_map_of_mem hq)).trans (e q (List.mem_cons_of_mem _ hq))) nd.2
/-- L: the cells of the names xs, with what they hold -/
structure CellsOf (X : Cx) (σ : L2.St) (xs : List Str) (L : List (Addr × Obj)) : Prop where
  nd : (L.map (·.1)).Nodup
  has : ∀ x ∈ xs, ∃ (c : Addr) (o : Obj), X.env.cells.lookup x = some c ∧ (c, o) ∈ L ∧ (∃ cv, o.data = .cell cv) ∧ ∀ (j : Nat) (v : V), X.N[j]? = some x → σ[j]? = some (some v) → ∃ u, o.data = .cell (some u) ∧ RelV v u
  of : ∀ p ∈ L, ∃ x ∈ xs, X.env.cells.lookup x = some p.1
section
variable {X : Cx} {pins : List (Addr × Obj)} {σ : L2.St} {S H : Hp} {s : Shared}
theorem cells_show (I : Inv X pins σ H s) : ∀ {xs : List Str}, xs.Nodup → (∀ x ∈ xs, X.env.scope.names.lookup x = some .cell ∧ X.fn x = true) → ∃ L, CellsOf X σ xs L ∧ ∀ p ∈ L, Show X.base X.stack H s p.1 p.2
  | [], _, _ => ⟨[], ⟨List.nodup_nil, fun x hx => (by cases hx), fun p hp => (by cases hp)⟩, fun p hp => (by cases hp)⟩
  | x :: xs, nd, hk => by
    rw [List.nodup_cons] at nd
    obtain ⟨L, C, hs⟩ := cells_show I nd.2 fun y hy => hk y (List.mem_cons_of_mem _ hy)
    obtain ⟨k1, k2⟩ := hk x List.mem_cons_self
    obtain ⟨c, hc⟩ := I.ok.has x (.inl k1)
    obtain ⟨o, cv, hd, sh⟩ := show_cell I hc k2
    have nc : c ∉ L.map (·.1) := fun z => by
      obtain ⟨p, hp, e⟩ := List.mem_map.mp z
      obtain ⟨y, hy, hyc⟩ := C.of p hp
      rw [e] at hyc
      exact nd.1 (by rw [I.ok.inj x y c hc hyc]; exact hy)
    refine ⟨(c, o) :: L, ⟨by rw [List.map_cons, List.nodup_cons]; exact ⟨nc, C.nd⟩, fun y hy => ?_, fun p hp => ?_⟩, fun p hp => ?_⟩
    · rcases List.mem_cons.mp hy with e | e
      · subst e
        refine ⟨c, o, hc, List.mem_cons_self, ⟨cv, hd⟩, fun j v hj hv => ?_⟩
        obtain ⟨m, _, hl⟩ := I.loc
        obtain ⟨u, r, l⟩ := hl j y v hj hv (.inr (.inl k1))
        rcases l with ⟨z, _⟩ | ⟨_, c', hc', o', ho', hd'⟩
        · have z' : X.env.scope.names.lookup y = some .local := z
          rw [k1] at z'; cases z'
        · rw [hc] at hc'; cases hc'
          rw [sh.ob] at ho'; cases ho'
          exact ⟨u, hd', r⟩
      · obtain ⟨c', o', h1, h2, h3⟩ := C.has y e
        exact ⟨c', o', h1, List.mem_cons_of_mem _ h2, h3⟩
    · rcases List.mem_cons.mp hp with e | e
      · subst e; exact ⟨x, List.mem_cons_self, hc⟩
      · obtain ⟨y, hy, h⟩ := C.of p e
        exact ⟨y, List.mem_cons_of_mem _ hy, h⟩
    · rcases List.mem_cons.mp hp with e | e
      · subst e; exact sh
      · exact hs p e
/-- a lambda's captured cells among them -/
theorem cellsL_of {xs : List Str} {L : List (Addr × Obj)} {cl : List (Str × Addr)} {fr : List Str} {js : List Nat} (ok : X.Ok) (C : CellsOf X σ xs L) (K : Caps X cl fr js) (hcl : ∀ y c, cl.lookup y = some c → y ∈ xs) (hfr : ∀ y ∈ fr, y ∈ xs) : CellsL cl fr (js.map (slotAt σ)) L := by
  refine ⟨?_, fun y c e => ?_, fun x y c e1 e2 => ok.inj x y c (K.sub x c e1) (K.sub y c e2), fun i y e => ?_⟩
  · have q := congrArg List.length K.at_
    rw [List.length_map, List.length_map] at q
    rw [List.length_map]; exact q
  · obtain ⟨c', o, h1, h2, ⟨cv, h3⟩, _⟩ := C.has y (hcl y c e)
    rw [K.sub y c e] at h1; cases h1
    exact ⟨o, cv, h2, h3⟩
  · obtain ⟨c, o, h1, h2, _, h4⟩ := C.has y (hfr y (List.mem_of_getElem? e))
    refine ⟨c, K.sup y (List.mem_of_getElem? e) c h1, fun v ev => ?_⟩
    have e2 : (js.map fun j => X.N[j]?)[i]? = some (some y) := by
      rw [K.at_, List.getElem?_map, e]; rfl
    rw [List.getElem?_map] at e2 ev
    cases ej : js[i]? with
    | none => rw [ej] at e2; cases e2
    | some j =>
      rw [ej] at e2 ev
      have hj : X.N[j]? = some y := Option.some.inj (show some (X.N[j]?) = some (some y) from e2)
      obtain ⟨u, h5, h6⟩ := h4 j v hj (slotAt_some (Option.some.inj (show some (slotAt σ j) = some (some v) from ev)))
      exact ⟨u, o, h6, h2, h5⟩
end
section
end
/-! ## what is known without the tables -/
def noTab (S : Hp) : Hp := fun a => match S a with
  | some (.tbl _) => none
  | o => o
theorem noTab_at {S : Hp} {a : Addr} {o : HO} (h : S a = some o) (n : ∀ ps, o ≠ .tbl ps) : noTab S a = some o := by
  unfold noTab
  rw [h]
  cases o with
  | tbl ps => exact absurd rfl (n ps)
  | _ => rfl
theorem noTab_sub {S : Hp} : Same (noTab S) S := fun a o h => by
  unfold noTab at h
  cases e : S a with
  | none => rw [e] at h; cases h
  | some u =>
    rw [e] at h
    cases u with
    | tbl ps => cases h
    | _ => exact h
theorem noTab_no {S : Hp} {a : Addr} {ps : Array Value} : noTab S a ≠ some (.tbl ps) := fun h => by
  unfold noTab at h
  cases e : S a with
  | none => rw [e] at h; cases h
  | some u =>
    rw [e] at h
    cases u with
    | tbl qs => cases h
    | _ => cases h
theorem dt_noTab {K : PySem.W.Frag} {d : PyData} {v : V} {S : Hp} (h : Dt K d v S) : Dt K d v (Y.noTab S) := by
  induction h with
  | non => exact .non
  | bl b => exact .bl b
  | int i => exact .int i
  | str x => exact .str x
  | lst h l z _ ih => exact .lst (noTab_at h (fun _ z => nomatch z)) l z ih
  | tup h l z _ ih =>
    refine .tup ?_ l z ih
    rcases h with h | ⟨e0, (h | ⟨o', h⟩) | h⟩
    · exact .inl (noTab_at h (fun _ z => nomatch z))
    · exact .inl (noTab_at h (fun _ z => nomatch z))
    · exact .inr ⟨e0, .inl (.inr ⟨o', noTab_at h (fun _ z => nomatch z)⟩)⟩
    · exact .inr ⟨e0, .inr h⟩
theorem bx_noTab {v : V} {S : Hp} (h : BX v S) : BX v (Y.noTab S) := by
  obtain ⟨b, c, ns, e, n, h1, h2, l⟩ := h
  exact ⟨b, c, ns, e, n, noTab_at h1 (fun _ z => nomatch z), noTab_at h2 (fun _ z => nomatch z), l⟩
end Y
namespace Y
open PySem PySem.Spec PyProof.Rows L2 Z
section
variable {X : Cx} {σ : L2.St} {S S' H : Hp} {a b c e d0 tg : Expr} {pos p : Pos} {i j l m : Int} {b1 b2 b3 : Bool} {g1 g2 : Int → Int → V} {D : Ends} {rest body : List Stmt} {x : Str} {k n : Nat}
/-- f(k1 = e1, k2 = e2), by name alone; the values stand the other way round in the def -/
def gS {α : Type} : List α → List α → List α
  | us, [a, b] => us ++ [b, a]
  | us, ws => us ++ ws
/-- for .. in range(n): what is kept is told of the whole heap -/
theorem hs_forR {n : Nat} (Iv : Nat → L2.St → Hp → Prop) (hp : PassesOwn (model X.prog X.w) X.A X.env X.xe) (hc : X.calm = true) (hm : X.mg "range" = none) (hn : (n : Int) < 2 ^ 62) (ha : EE X σ S a (Dt X.K (.int (n : Nat)))) (s : Same S H) (h0 : ∀ S' H', Gr S H S' H' → Iv 0 σ H')
    (step : ∀ i σ1 H1, i < n → Iv i σ1 H1 → HG X tg (.int (i : Nat)) σ1 H1 fun σ3 H3 => HS X { D with nx := Iv (i + 1), ct := Iv (i + 1), bk := fun σ' H' => HS X D rest σ' H' } body σ3 H3)
    (done : ∀ σ1 H1, Iv n σ1 H1 → HS X D rest σ1 H1) (hg : Gl X "range" := by rfl) (hs1 : starEach [a] X.env = [(false, eval a X.env)] := by rfl) (hs : ∀ x, foldedSetIterable (.Call (.Name "range" p) [a] [] pos) X.env x = pure x := by intro _; rfl) {pos2 : Pos} :
    HS X D (.For tg (.Call (.Name "range" p) [a] [] pos) body [] pos2 :: rest) σ H :=
  hs_cons (ps_for hp hc (pi_range1 hg hm pab hs1) pgb psb hs) ((ea_1 ha (by rw [hs1]; rfl)).2 H s _ fun vs S1 H1 g1 al => by
    obtain ⟨v, rfl, pv⟩ := al.one
    cases pv
    refine ⟨(n : Int), rfl, by omega, hn, for_it (G := fun _ => True) (Y := fun i H x H' => H' = H ∧ x = .int (0 + (i : Int))) (n := n) ⟨fun i H hi _ => ?_, fun H _ => ?_, fun i H x H' _ _ y => y⟩ Iv (h0 S1 H1 g1) (fun _ _ _ _ _ => trivial) (fun i x σ' H2 H3 hi iv y => ?_) done⟩
    · show i < ((n : Int)).toNat
      omega
    · show ((n : Int)).toNat ≤ n
      omega
    · obtain ⟨rfl, rfl⟩ := y
      rw [Int.zero_add]
      exact step i σ' H3 hi iv)
end
section
variable {P : Program} {w : World} {K : PySem.W.Frag} {mg : Str → Option Value} {base : Heap} {x qual : Str} {params : Arguments} {body : List Stmt} {scope : Scope} {dvs : List V} {kws : List (Str × V)} {f c : Addr} {fd : FuncData} {N ps : List Str} {k : Nat} {sp : Sp}
/-- a def by its body, its code object known -/
theorem fn_hsC (F : FunD K x qual params body scope dvs kws f fd) (Sc : FnScope N ps scope) (hc : fd.code = .ref c) (len : ∀ vs H Q E, sp vs H Q E → vs.length = ps.length)
    (hb : ∀ (A : Around) (outer : List Env) (s : Shared) (H : Hp) (vs : List V) (Q : VK) (E : XK), Room k (A.deeper (envOfC qual scope s.heap.objs.size f (.ref c))) → sp vs H Q E →
      HS (cxOf CX0 P w K mg base N qual scope f (.ref c) A outer s H E).nox { nx := fun _ H' => Q .non H', rt := Q } body (start N vs) H) : FnOk P w K mg base CX0 (k + 1) f fd ps sp := by
  obtain ⟨oc, od, dV, kV, doc, pm, an, cdv, ct, osl, rfl, lk, hcd, _, _⟩ := F.ex
  have e : cdv = .ref c := hc
  subst e
  exact fn_of lk hcd Sc len fun A outer s H vs Q E hr hsp => ⟨_, PSs.nox psb, hb A outer s H vs Q E hr hsp⟩
end
end Y
namespace Y
open PySem PySem.Spec PyProof.Rows L2 Z
/-! ## an own error of the ValueErrors, told by one Bool -/
theorem oexB_ok {K : PySem.W.Frag} {C : Addr} (h : oexB K C = true) : OexC K C := by
  unfold oexB at h
  simp only [Bool.and_eq_true, decide_eq_true_eq] at h
  obtain ⟨h1, h2, h3, h4, h5⟩ := h
  refine ⟨?_, h2, h3, h4, h5⟩
  split at h1
  · rename_i t dd cd sl lk
    rw [Bool.and_eq_true] at h1
    obtain ⟨ht, h1⟩ := h1
    split at h1
    · rename_i C' bm k0 k1 k2 k3 n k5 hm hs
      simp only [Bool.and_eq_true, beq_iff_eq, Bool.not_eq_true'] at h1 ht
      obtain ⟨rfl, hb, rfl, hd, hl⟩ := h1
      subst ht
      obtain ⟨nm, bs, mro, ns, qn, hd', sn, sub, ab, col, del⟩ := cd
      dsimp only at hm hd hl
      subst hm hd hl
      have hsl : sl = #[k0, k1, k2, k3, some (.builtin "ValueError.__new__"), k5] := by
        obtain ⟨l⟩ := sl
        simp only at hs
        rw [hs]
      subst hsl
      exact ⟨nm, qn, ns, bs, bm, sn, sub, ab, col, dd, k0, k1, k2, k3, k5, lk, hb⟩
    · cases h1
  · cases h1
theorem errB_ok {K : PySem.W.Frag} {C fI : Addr} {f : Str} (h : errB K C fI f = true) : OexC K C ∧ XfC K C ∧ PySem.W.findIn K (.ref C) f = some none ∧ PySem.W.findIn K (.ref C) "code" = some none ∧ PySem.W.findIn K (.ref C) "__init__" = some (some (.ref fI)) ∧ PySem.W.typeIn K (.ref fI) = some (.type "function") := by
  unfold errB at h
  simp only [Bool.and_eq_true, decide_eq_true_eq] at h
  obtain ⟨h1, h2, h3, h4, h5, h6⟩ := h
  exact ⟨oexB_ok h1, xfB_ok h2, He.eqO_ok h3, He.eqO_ok h4, He.eqO_ok h5, h6⟩
end Y
namespace Y
open PySem PySem.Spec PyProof.Rows L2 Z
/-! ## dicts whose keys are tuples of ints, whose values are ints -/
abbrev MapI := List (List Int × Int)
def kI (k : List Int) : List L2.Key := k.map Sum.inl
def kvM (m : MapI) : List (List L2.Key × V) := m.map fun q => (kI q.1, V.int q.2)
def getM (m : MapI) (k : List Int) : Option Int := (m.find? fun q => decide (q.1 = k)).map (·.2)
def putM (m : MapI) (k : List Int) (n : Int) : MapI := if (m.any fun q => decide (q.1 = k)) = true then m.map (fun q => if q.1 = k then (q.1, n) else q) else m ++ [(k, n)]
theorem kI_inj : ∀ {k l : List Int}, kI k = kI l → k = l
  | [], [], _ => rfl
  | [], _ :: _, h => by cases h
  | _ :: _, [], h => by cases h
  | a :: k, b :: l, h => by
    have h1 : Sum.inl a = Sum.inl b ∧ kI k = kI l := List.cons.inj h
    rw [Sum.inl.inj h1.1, kI_inj h1.2]
theorem kI_iff {k l : List Int} : kI k = kI l ↔ k = l := ⟨kI_inj, fun h => by rw [h]⟩
theorem kI_dec {k l : List Int} : decide (kI k = kI l) = decide (k = l) := decide_eq_decide.mpr kI_iff
theorem kI_kV (k : List Int) : (kI k).map kV = k.map V.int := by
  unfold kI
  rw [List.map_map]
  rfl
theorem valV_kvM (k : List Int) : ∀ m : MapI, valV (kvM m) (kI k) = (getM m k).map V.int
  | [] => rfl
  | q :: m => by
    have ih := valV_kvM k m
    unfold valV kvM getM at *
    rw [List.map_cons, List.find?_cons, List.find?_cons, kI_dec]
    cases decide (q.1 = k) with
    | true => rfl
    | false => exact ih
theorem any_kvM (k : List Int) : ∀ m : MapI, ((kvM m).any fun kv => decide (kv.1 = kI k)) = m.any fun q => decide (q.1 = k)
  | [] => rfl
  | q :: m => by
    unfold kvM
    rw [List.map_cons, List.any_cons, List.any_cons, kI_dec]
    exact congrArg _ (any_kvM k m)
theorem putK_kvM (m : MapI) (k : List Int) (n : Int) : putK (kvM m) (kI k) (.int n) = kvM (putM m k n) := by
  unfold putK putM
  rw [any_kvM]
  split
  · unfold kvM
    rw [List.map_map, List.map_map]
    refine List.map_congr_left fun q _ => ?_
    show (if kI q.1 = kI k then (kI q.1, V.int n) else (kI q.1, V.int q.2)) = (kI (if q.1 = k then (q.1, n) else q).1, V.int (if q.1 = k then (q.1, n) else q).2)
    by_cases h : q.1 = k
    · rw [if_pos (kI_iff.mpr h), if_pos h]
    · rw [if_neg (fun z => h (kI_inj z)), if_neg h]
  · unfold kvM
    rw [List.map_append]
    rfl
theorem kvM_len (m : MapI) : (kvM m).length = m.length := List.length_map ..
theorem putM_len (m : MapI) (k : List Int) (n : Int) : (putM m k n).length ≤ m.length + 1 := by
  unfold putM
  split
  · rw [List.length_map]; omega
  · rw [List.length_append]; simp
/-- v is a tuple of these ints -/
def KyP (k : List Int) (w : V) (S : Hp) : Prop := ∃ b, w = .ref b ∧ S b = some (.tup (k.map V.int))
instance {k : List Int} : Mn (KyP k) := ⟨fun s ⟨b, e, h⟩ => ⟨b, e, s _ _ h⟩⟩
theorem ky_of {K : PySem.W.Frag} {k : List Int} {v : V} {S : Hp} (h : Dt K (.tuple (k.map .int)) v S) (hk : k ≠ []) : KyP k v S := by
  obtain ⟨a, xs, rfl, hl, hx, _⟩ := h.tup_invS
  have e := dts_int hx
  subst e
  rcases hl with hl | ⟨e, _⟩
  · exact ⟨a, rfl, hl⟩
  · exact absurd (List.map_eq_nil_iff.mp e) hk
theorem KyP.dt {K : PySem.W.Frag} {k : List Int} {v : V} {S : Hp} (h : KyP k v S) (hz : k.length ≤ sizeLine) : Dt K (.tuple (k.map .int)) v S := by
  obtain ⟨b, rfl, h⟩ := h
  exact Dt.tup_mk (.inl h) (int_dts k S) (by rw [List.length_map]; exact hz)
section
variable {X : Cx} {σ : L2.St} {S S' H : Hp} {e f o i : Expr} {P : V → Hp → Prop} {pos pos' p apos cpos : Pos} {D : Ends} {rest : List Stmt} {a : Addr} {m : MapI} {k : List Int} {n : Int}
theorem EE.ky (h : EE X σ S e (Dt X.K (.tuple (k.map .int)))) (hk : k ≠ []) : EE X σ S e (KyP k) := h.imp fun _ _ q => ky_of q hk
/-- o.get(e, f) -/
theorem ee_dget2 (hu : X.A.units + 1 < cLine) (hd : S a = some (.dT (kvM m))) (ho : EE X σ S o (fun w _ => w = .ref a)) (he : EE X σ S e (KyP k)) (hf : EE X σ S f (Dt X.K (.int n))) (hm : M2 X o "get" apos e f cpos := by exact ⟨rfl, rfl, rfl, rfl⟩) :
    EE X σ S (.Call (.Attribute o "get" apos) [e, f] [] cpos) (Dt X.K (.int ((getM m k).getD n))) := fun H s Q q =>
  he_of (pe_dget2 hu peb peb peb hm) (ho H s _ fun w S1 H1 g1 pw => by
    subst pw
    refine ⟨a, rfl, .inr ⟨_, .inl (g1.sub _ _ (g1.st _ _ hd))⟩, (he.up g1.st) H1 g1.sub _ fun y S2 H2 g2 py => ((hf.up g1.st).up g2.st) H2 g2.sub _ fun z S3 H3 g3 pz => ?_⟩
    cases pz
    obtain ⟨b, rfl, hb⟩ := py
    have g := (g1.trans g2).trans g3
    refine ⟨_, DGet.t (k := kI k) (g.sub _ _ (g.st _ _ hd)) (by rw [kI_kV]; exact g3.sub _ _ (g3.st _ _ hb)), ?_⟩
    rw [valV_kvM]
    have e : ((getM m k).map V.int).getD (V.int n) = V.int ((getM m k).getD n) := by cases getM m k <;> rfl
    rw [e]
    exact q _ S3 H3 g (.int _))
/-- o[i], there -/
theorem ee_dix (hu : X.A.units + 1 < cLine) (hd : S a = some (.dT (kvM m))) (hk : getM m k = some n) (ho : EE X σ S o (fun w _ => w = .ref a)) (hi : EE X σ S i (KyP k)) (hs : NoSl i := by exact fun _ _ => rfl) : EE X σ S (.Subscript o i pos) (Dt X.K (.int n)) := fun H s Q q =>
  he_of (pe_dget hu peb peb hs) (ho H s _ fun w S1 H1 g1 pw => (hi.up g1.st) H1 g1.sub _ fun y S2 H2 g2 py => by
    subst pw
    obtain ⟨b, rfl, hb⟩ := py
    have g := g1.trans g2
    refine ⟨a, .int n, rfl, ?_, q _ S2 H2 g (.int _)⟩
    have h := DGet.t (k := kI k) (g.sub _ _ (g.st _ _ hd)) (by rw [kI_kV]; exact g2.sub _ _ hb)
    rw [valV_kvM, hk] at h
    exact h)
/-- {} -/
theorem hs_dnew {x : Str} {j : Nat} (hN : X.N.Nodup) (q : ∀ b, H b = none → HS X D rest (σ.set j (some (.ref b))) (upd H b (.dT (kvM [])))) (hi : X.N[j]? = some x := by rfl) (hx : Loc X.env.scope x := by first | exact Or.inl rfl | exact Or.inr rfl)
    (hs : swapsWith (.Dict [] [] p) (some (.Name x pos')) pos.line X.env = pure false := by rfl) (hf : X.fn x = true ∨ X.env.scope.names.lookup x = some .local := by first | exact .inl rfl | exact .inr rfl) : HS X D (.Assign [.Name x pos'] (.Dict [] [] p) pos :: rest) σ H :=
  hs_cons (ps_set hN hi hx pe_dnewT hs hf) fun b hb => q b hb
/-- len(o) -/
theorem ee_dlen (hm : X.mg "len" = none) (hd : S a = some (.dT (kvM m))) (ho : EE X σ S o (fun w _ => w = .ref a)) (hg : Gl X "len" := by rfl) (hs : starEach [o] X.env = (false, eval o X.env) :: starEach [] X.env := by rfl) : EE X σ S (.Call (.Name "len" p) [o] [] pos) (Dt X.K (.int m.length)) := by
  haveI := mn_eq (v := .ref a)
  exact ee_callB call_len_dT hm boot_len (ea_1 ho hs) (fun vs S1 H1 s0 s al Q q => by
    obtain ⟨v, rfl, pv⟩ := al.one
    subst pv
    refine ⟨a, _, rfl, s _ _ (s0 _ _ hd), ?_⟩
    rw [kvM_len]
    exact q _ S1 H1 (Gr.refl s) (.int _)) hg (he := hs) (hpl := by rfl)
end
end Y
namespace Y
open PySem PySem.Spec PyProof.Rows L2 Z
/-! ## sorted, of data -/
def SortOk {β : Type} (enc : β → PyData) (bs : List β) (u : Nat) : Prop := PySem.W.AllAlike (bs.map enc) ∧ PySem.W.Sortable (bs.map enc) ∧ ∀ b ∈ bs, u + 2 + (enc b).depth < cLine
def srt {β : Type} (enc : β → PyData) (bs : List β) : List β := bs.mergeSort (PySem.W.dataLe false enc)
section
variable {β : Type} {enc : β → PyData}
/-- u stands for b's data -/
def Rd0 (K : PySem.W.Frag) (S : Hp) (enc : β → PyData) (u : Value) (b : β) : Prop := ∃ x, RelV x u ∧ Dt K (enc b) x S
theorem each_of {K : PySem.W.Frag} {S : Hp} : ∀ {bs : List β} {xs : List V} {us : List Value}, Vals xs us → Dts K (bs.map enc) xs S → PySem.W.EachIs (Rd0 K S enc) us bs
  | [], _, _, r, h => by
    have e := h.1
    cases r with
    | nil => exact .nil
    | cons _ _ => simp at e
  | b :: bs, _, _, r, h => by
    cases r with
    | nil => have e := h.1; simp at e
    | cons r0 rr =>
      have h' := dts_al h
      cases h' with
      | cons p q => exact .cons ⟨_, r0, p⟩ (each_of rr (al_dts q))
theorem of_each {K : PySem.W.Frag} {S : Hp} {us : List Value} {bs : List β} (h : PySem.W.EachIs (Rd0 K S enc) us bs) : ∃ xs, Vals xs us ∧ Dts K (bs.map enc) xs S := by
  induction h with
  | nil => exact ⟨[], .nil, .nil⟩
  | cons h _ ih =>
    obtain ⟨x, r, d⟩ := h
    obtain ⟨xs, rs, ds⟩ := ih
    exact ⟨x :: xs, .cons r rs, .cons d ds⟩
end
section
variable {X : Cx} {β : Type} {enc : β → PyData}
def rSortL (K : PySem.W.Frag) (u : Nat) (enc : β → PyData) (bs : List β) : List V → Hp → VK → Prop := fun vs H Q => ∃ (a : Addr) (xs : List V) (S : Hp), vs = [.ref a] ∧ Same S H ∧ SqL K H a xs ∧ Dts K (bs.map enc) xs S ∧ SortOk enc bs u ∧
  ∀ (ys : List V) (p : Addr), H p = none → Dts K ((srt enc bs).map enc) ys S → ys.length ≤ sizeLine → Q (.ref p) (upd H p (.lst ys))
theorem cr_sortL {bs : List β} : CallR X (.builtin "sorted") (rSortL X.K X.A.units enc bs) := by
  intro pins s σ H vs us Q I r h
  obtain ⟨a, xs, S, rfl, ss, hs, hd, ⟨hal, hk, hu⟩, q⟩ := h
  obtain ⟨its, rv, hl, hz⟩ := I.list hs
  rw [Vals.ref1 r]
  have hlen : bs.length = xs.length := by rw [hd.1, List.length_map]
  have he := each_of (enc := enc) (bs := bs) rv hd
  refine PySem.W.sorted_data (enc := enc) (bs := bs) hl.isList he (he.mono fun v b hb => ?_) hal hk (by rw [hlen]; exact hz) hu fun out hol hout => ?_
  · obtain ⟨x, rx, dx⟩ := hb
    exact Dp.reads I (enc b) x v (dx.up ss).dp rx
  · obtain ⟨ys, vy, dy⟩ := of_each hout
    obtain ⟨ep, he'⟩ := PyProof.Rows.sortedAll_at s.heap its out.toArray
    have hn : H (s.heap.objs.size + 1) = none := I.hok.fresh (Nat.le_succ _)
    have hyl : ys.length ≤ sizeLine := by rw [vy.length, hol, hlen]; exact hz
    refine ⟨.ref _, upd H (s.heap.objs.size + 1) (.lst ys), I.laid (t' := s.toks) (fun _ _ => PyProof.Rows.sortedAll_old) (Nat.le_succ _) ⟨hyl, out, ep, vy, by simpa using he'⟩, rfl, q ys _ hn dy hyl⟩
theorem ee_sortL {σ : L2.St} {S : Hp} {e : Expr} {p pos : Pos} {bs : List β} (hm : X.mg "sorted" = none) (hok : SortOk enc bs X.A.units) (he : EE X σ S e (Dt X.K (.list (bs.map enc)))) (hg : Gl X "sorted" := by rfl) (hs : starEach [e] X.env = (false, eval e X.env) :: starEach [] X.env := by rfl) :
    EE X σ S (.Call (.Name "sorted" p) [e] [] pos) (Dt X.K (.list ((srt enc bs).map enc))) :=
  ee_callB (cr_sortL (enc := enc) (bs := bs)) hm (by first | rfl | exact boot_sorted) (ea_1 he hs) (fun vs S1 H1 _ s al Q q => by
    obtain ⟨v, rfl, pv⟩ := al.one
    obtain ⟨l, xs, rfl, hl, hx, z⟩ := pv.lst_inv
    exact ⟨l, xs, S1, rfl, s, sql_of (s _ _ hl), hx, hok, fun ys p hp hy hz => q _ _ _ (Gr.new s hp) (Dt.lst_mk upd_same (hy.up (Same.new (s.free hp))) hz)⟩) hg (he := hs) (hpl := by rfl)
end
end Y
namespace Y
open PySem PySem.Spec PyProof.Rows L2 Z
/-! ## sorted(d), d a dict with tuple keys -/
/-- S, and the tuples of H -/
def learn (S H : Hp) : Hp := fun a => match S a with
  | some o => some o
  | none => match H a with
    | some (.tup xs) => some (.tup xs)
    | _ => none
theorem learn_l {S H : Hp} : Same S (learn S H) := fun a o h => by unfold learn; rw [h]
theorem learn_sub {S H : Hp} (s : Same S H) : Same (learn S H) H := fun a o h => by
  unfold learn at h
  cases e : S a with
  | some u => rw [e] at h; cases h; exact s a _ e
  | none =>
    rw [e] at h
    cases e2 : H a with
    | none => rw [e2] at h; cases h
    | some u =>
      rw [e2] at h
      cases u with
      | tup xs => exact h
      | _ => cases h
theorem learn_tup {S H : Hp} (s : Same S H) {a : Addr} {xs : List V} (h : H a = some (.tup xs)) : learn S H a = some (.tup xs) := by
  unfold learn
  cases e : S a with
  | some u =>
    have h2 := s a u e
    rw [h] at h2
    exact h2.symm
  | none =>
    rw [h]
theorem Gr.learn {S H : Hp} (s : Same S H) : Gr S H (Y.learn S H) H := ⟨learn_l, learn_sub s, Same.refl H, fun a o h n => by
  unfold Y.learn
  cases e : S a with
  | some u => rfl
  | none =>
    rw [h]
    cases o with
    | tup xs => exact absurd rfl (n xs)
    | _ => rfl⟩
abbrev tI' (k : List Int) : PyData := .tuple (k.map .int)
theorem readsAll_ints : ∀ {h : Heap} {us : List Value} {k : List Int} {as : List Addr}, ReadsAll h us (k.map PyData.int) as → as = []
  | _, _, [], _, r => by
    generalize e : ([] : List Int).map PyData.int = ds at r
    cases r with
    | nil => rfl
    | cons _ _ => cases e
  | h, us, i :: k, as, r => by
    generalize e : (i :: k).map PyData.int = ds at r
    cases r with
    | nil => cases e
    | cons r1 r2 =>
      cases e
      cases r1
      rw [readsAll_ints r2]
      rfl
theorem reads_tI {h : Heap} {u : Value} {k : List Int} {as : List Addr} (r : Reads h u (tI' k) as) : as = [] := by
  cases r with
  | tuple _ _ _ h4 => exact readsAll_ints h4
theorem each_keys {R : Value → List Int → Prop} {H : Hp} : ∀ {m : MapI} {ks : List (List L2.Key × Addr × Value)}, Paired (fun (p : List L2.Key × V) (q : List L2.Key × Addr × Value) => p.1 = q.1 ∧ H q.2.1 = some (.tup (p.1.map kV)) ∧ RelV p.2 q.2.2) (kvM m) ks → (∀ k b, H b = some (.tup (k.map V.int)) → R (.ref b) k) → PySem.W.EachIs R (ks.map fun x => Value.ref x.2.1) (m.map (·.1))
  | [], _, h, _ => by
    generalize e : kvM [] = l at h
    cases h with
    | nil => exact .nil
    | cons _ _ => cases e
  | q :: m, _, h, hR => by
    generalize e : kvM (q :: m) = l at h
    cases h with
    | nil => cases e
    | cons h1 h2 =>
      have e1 := (List.cons.inj e).1
      have e2 := (List.cons.inj e).2
      subst e1
      subst e2
      refine .cons (hR _ _ ?_) (each_keys h2 hR)
      have := h1.2.1
      rw [kI_kV] at this
      exact this
theorem refs_of_each {R : Value → List Int → Prop} {us : List Value} {bs : List (List Int)} (h : PySem.W.EachIs R us bs) {T : V → List Int → Prop} (hR : ∀ u k, R u k → ∃ b, u = .ref b ∧ T (.ref b) k) : ∃ ys, Vals ys us ∧ PySem.W.EachIs T ys bs := by
  induction h with
  | nil => exact ⟨[], .nil, .nil⟩
  | cons h _ ih =>
    obtain ⟨ys, v, e⟩ := ih
    obtain ⟨b, rfl, t⟩ := hR _ _ h
    exact ⟨.ref b :: ys, .cons rfl v, .cons t e⟩
section
variable {X : Cx}
def keysM (m : MapI) : List (List Int) := m.map (·.1)
def rSortDT (u : Nat) : List V → Hp → VK → Prop := fun vs H Q => ∃ (a : Addr) (m : MapI), vs = [.ref a] ∧ H a = some (.dT (kvM m)) ∧ SortOk tI' (keysM m) u ∧
  ∀ (ys : List V) (p : Addr), H p = none → PySem.W.EachIs (fun x k => KyP k x H) ys (srt tI' (keysM m)) → ys.length ≤ sizeLine → Q (.ref p) (upd H p (.lst ys))
theorem cr_sortDT (hcalm : X.calm = true) : CallR X (.builtin "sorted") (rSortDT X.A.units) := fun pins s σ H vs us Q I r ⟨a, m, ev, hd, ⟨hal, hk, hu⟩, q⟩ => by
  subst ev
  rw [Vals.ref1 r]
  obtain ⟨z, hs, ks, pr, o, es, ep, ho, hx, hdt, he, hn⟩ := (show ObjOk X.prog X.w H s.heap a (.dT (kvM m)) from I.hok a _ hd)
  have l1 : es.size = ks.length := size_of_entries he
  have l2 : (kvM m).length = ks.length := Paired.length pr
  refine Calls.call_function_entry PyProof.Rows.kind_sorted PyProof.Rows.plain_sorted PyProof.Rows.entry_sorted (PyProof.Rows.args_sorted1 _) ?_
  unfold Builtin.«sorted»
  refine wpAny_bind (m := checkCount "sorted" 1 1 _) (wpAny_pure ?_)
  refine wpAny_bind (PySem.W.kdu_collect (A := X.A.in1) (kdl_raw hs hx hdt) (I.ok.hd hcalm) ho (by omega) fun h' tk acc hkp hacc => ?_)
  have ea : acc.toList = ks.map fun x => Value.ref x.2.1 := by
    refine List.ext_getElem? fun j => ?_
    have hl : acc.toList.length = ks.length := by rw [Array.length_toList, hacc.1]; exact l1
    rw [List.getElem?_map]
    by_cases hj : j < ks.length
    · have hj2 : j < acc.toList.length := by omega
      obtain ⟨en, hen, hv⟩ := hacc.2 j acc.toList[j] (by rw [← Array.getElem?_toList]; exact List.getElem?_eq_getElem hj2)
      have qe := entry_at he j
      rw [hen, List.getElem?_eq_getElem hj] at qe
      have e2 := Option.some.inj qe
      rw [List.getElem?_eq_getElem hj2, List.getElem?_eq_getElem hj, hv, e2]
      rfl
    · rw [List.getElem?_eq_none (by omega), List.getElem?_eq_none (by omega)]
      rfl
  have I1 : Inv X pins σ H { s with heap := h', toks := tk } := I.kept hkp
  have hml : m.length = ks.length := by rw [← l2, kvM_len]
  have hal' : acc.toList.length = m.length := by rw [ea, List.length_map, hml]
  refine wpAny_bind (wpAny_newList ?_ (by rw [hal']; omega))
  have hoL : (h'.push (seqObj "list" acc.toList.toArray 0)).get? h'.objs.size = some (seqObj "list" acc.toList.toArray 0) := Heap.get?_push_size _ rfl
  have e0 : PySem.W.EachIs (fun v k => ∃ b, v = Value.ref b ∧ H b = some (.tup (k.map V.int))) acc.toList (keysM m) := by
    rw [ea]
    exact each_keys pr fun k b hb => ⟨b, rfl, hb⟩
  show wpAny _ _ _ _ _ { s with heap := h'.push (seqObj "list" acc.toList.toArray 0), toks := tk }
  refine wpAny_bind (wpAny_holding (wpAny_mono (PySem.W.list_sort_data (A := X.A.in1) (s := { s with heap := h'.push (seqObj "list" acc.toList.toArray 0), toks := tk }) (enc := tI') (bs := keysM m) (Q := fun _ s' => EP X pins σ Q (.ref h'.objs.size) s') hoL e0 (e0.mono fun v k hv => ?_) hal hk (by unfold keysM; rw [List.length_map]; omega) (fun b hb => ?_) fun out hol hout => ?_) (fun _ s' x => wpAny_pure ⟨_, rfl, x⟩) fun _ _ e => e))
  · obtain ⟨b, rfl, hb⟩ := hv
    have hz : k.length ≤ sizeLine := by
      obtain ⟨w, _⟩ := (show ObjOk X.prog X.w H s.heap b (.tup (k.map V.int)) from I.hok b _ hb)
      rw [List.length_map] at w
      exact w
    obtain ⟨as, ra⟩ := Dp.reads I1 (tI' k) (.ref b) (.ref b) ((show KyP k (.ref b) H from ⟨b, rfl, hb⟩).dt (K := X.K) hz).dp rfl
    have e := reads_tI ra
    subst e
    exact ⟨[], PyProof.Rows.Reads.keeps (fun b o q => Heap.get?_push_of_some _ q) ra, List.not_mem_nil⟩
  · have := hu b hb
    show X.A.units + 1 + 1 + _ < _
    omega
  · obtain ⟨ys, vy, ey⟩ := refs_of_each hout (T := fun x k => KyP k x H) fun u k ⟨b, e, hb⟩ => ⟨b, e, b, rfl, hb⟩
    obtain ⟨en, he'⟩ := PyProof.Rows.sortedHeap_at (h := h'.push (seqObj "list" acc.toList.toArray 0)) (out := out.toArray) hoL
    have hnL : H h'.objs.size = none := I1.hok.fresh (Nat.le_refl _)
    have hyl : ys.length ≤ sizeLine := by rw [vy.length, hol]; unfold keysM; rw [List.length_map]; omega
    refine ⟨.ref _, upd H h'.objs.size (.lst ys), I1.laid (t' := tk) (a := h'.objs.size) (fun b ob hb => ?_) (Nat.le_refl _) ⟨hyl, out, en, vy, by simpa using he'⟩, rfl, q ys _ hnL ey hyl⟩
    have hlt := Heap.lt_size hb
    rw [PyProof.Rows.sortedHeap_old (Nat.ne_of_lt hlt) (by rw [Heap.size_push]; exact Nat.lt_succ_of_lt hlt)]
    exact Heap.get?_push_of_some _ hb
end
end Y
namespace Y
open PySem PySem.Spec PyProof.Rows L2 Z
/-! ## sorted(d) as an expression; sums of tuples -/
theorem dts_of_each {K : PySem.W.Frag} {H S : Hp} (h : ∀ v k, KyP k v H → KyP k v S) : ∀ {ks : List (List Int)} {ys : List V}, PySem.W.EachIs (fun x k => KyP k x H) ys ks → (∀ k ∈ ks, k.length ≤ sizeLine) → Dts K (ks.map tI') ys S
  | [], _, e, _ => by cases e; exact .nil
  | k :: ks, _, e, hz => by
    cases e with
    | cons p r => exact Dts.cons ((h _ _ p).dt (hz k (List.mem_cons_self ..))) (dts_of_each h r fun j hj => hz j (List.mem_cons_of_mem _ hj))
theorem mem_srt {β : Type} {enc : β → PyData} {bs : List β} {b : β} : b ∈ srt enc bs ↔ b ∈ bs := (List.mergeSort_perm ..).mem_iff
section
variable {X : Cx} {σ : L2.St} {S H : Hp} {e : Expr} {p pos : Pos} {a : Addr} {m : MapI}
theorem ee_sortDT (hc : X.calm = true) (hm : X.mg "sorted" = none) (hok : SortOk tI' (keysM m) X.A.units) (hz : ∀ k ∈ keysM m, k.length ≤ sizeLine) (hd : S a = some (.dT (kvM m))) (he : EE X σ S e (fun w _ => w = .ref a)) (hg : Gl X "sorted" := by rfl) (hs : starEach [e] X.env = (false, eval e X.env) :: starEach [] X.env := by rfl) :
    EE X σ S (.Call (.Name "sorted" p) [e] [] pos) (Dt X.K (.list ((srt tI' (keysM m)).map tI'))) := by
  haveI := mn_eq (v := .ref a)
  exact ee_callB (cr_sortDT hc) hm (by first | rfl | exact boot_sorted) (ea_1 he hs) (fun vs S1 H1 s0 s al Q q => by
    obtain ⟨v, rfl, pv⟩ := al.one
    subst pv
    refine ⟨a, m, rfl, s _ _ (s0 _ _ hd), hok, fun ys p hp hy hl => ?_⟩
    have g1 := Gr.learn s
    have g2 := Gr.new (H := H1) (S := learn S1 H1) (o := .lst ys) g1.sub hp
    refine q _ _ _ (g1.trans g2) (Dt.lst_mk upd_same ((show Dts X.K ((srt tI' (keysM m)).map tI') ys (learn S1 H1) from dts_of_each (fun v k ⟨b, e, h⟩ => ⟨b, e, learn_tup s h⟩) hy fun k hk => hz k (mem_srt.mp hk)).up g2.st) hl)) hg (he := hs) (hpl := by rfl)
end
end Y
namespace Y
open PySem PySem.Spec PyProof.Rows L2 Z
section
variable {X : Cx} {σ : L2.St} {S S' H : Hp} {a b c e d0 tg o i : Expr} {pos pos' p : Pos} {D : Ends} {rest body : List Stmt} {r : Addr} {m : MapI} {k : List Int} {n : Int}
/-- for: what is kept is told of the whole heap (a thing that S does not tell may change) -/
theorem hs_forH {iter : Expr} {Ps : List (V → Hp → Prop)} (hp : PassesOwn (model X.prog X.w) X.A X.env X.xe) (hc : X.calm = true) (hi : EI X σ S tg iter Ps) (s : Same S H)
    (q : ∀ S1 H1, Gr S H S1 H1 → ∃ Iv : Nat → L2.St → Hp → Prop, Iv 0 σ H1 ∧ (∀ i σ' H', Iv i σ' H' → Same S1 H') ∧
      (∀ i P σ1 H2 x H3, Ps[i]? = some P → Iv i σ1 H2 → (∀ T, Same S1 T → Same T H2 → ∃ T', Gr T H2 T' H3 ∧ P x T') → HG X tg x σ1 H3 fun σ3 H4 => HS X { D with nx := Iv (i + 1), ct := Iv (i + 1), bk := fun σ' H' => HS X D rest σ' H' } body σ3 H4) ∧
      (∀ σ1 H2, Iv Ps.length σ1 H2 → HS X D rest σ1 H2))
    (hs : ∀ x, foldedSetIterable iter X.env x = pure x := by intro _; rfl) : HS X D (.For tg iter body [] pos :: rest) σ H :=
  hs_cons (ps_for hp hc pib pgb psb hs) (hi H s _ fun J S1 H1 g1 it => by
    obtain ⟨Iv, h0, hsame, step, done⟩ := q S1 H1 g1
    refine for_it it Iv h0 (fun i σ' H' _ iv => hsame i σ' H' iv) (fun i x σ' H2 H3 hlt iv y => ?_) done
    have hl : ∃ P, Ps[i]? = some P := ⟨_, List.getElem?_eq_getElem hlt⟩
    obtain ⟨P, hP⟩ := hl
    refine step i P σ' H2 x H3 hP iv fun T sT tH => ?_
    obtain ⟨T', g, P', hP', px⟩ := y T sT tH
    rw [hP] at hP'
    cases hP'
    exact ⟨T', g, px⟩)
/-- o[i] = e, what stands is told -/
theorem hs_dputS (hu : X.A.units + 1 < cLine) (he : EE X σ S e (Dt X.K (.int n))) (ho : EE X σ S o (fun w _ => w = .ref r)) (hi : EE X σ S i (KyP k)) (s : Same S H) (hd : S r = some (.dT (kvM m))) (hl : m.length < 16777216) (q : ∀ S' H', Gr S H S' H' → HS X D rest σ (upd H' r (.dT (kvM (putM m k n)))))
    (hs : swapsWith e (some (.Subscript o i pos')) pos.line X.env = pure false := by rfl) : HS X D (.Assign [.Subscript o i pos'] e pos :: rest) σ H :=
  haveI := mn_eq (v := .ref r)
  hs_cons (ps_dput hu peb peb peb hs) (he H s _ fun v S1 H1 g1 pv => (ho.up g1.st) H1 g1.sub _ fun w S2 H2 g2 pw => ((hi.up g1.st).up g2.st) H2 g2.sub _ fun y S3 H3 g3 py => by
    cases pv
    subst pw
    obtain ⟨b, rfl, hb⟩ := py
    have g := (g1.trans g2).trans g3
    refine ⟨r, _, rfl, DPut.t (k := kI k) (g.sub _ _ (g.st _ _ hd)) (by rw [kI_kV]; exact g3.sub _ _ hb) (by rw [kvM_len]; exact hl), ?_⟩
    rw [putK_kvM]
    exact q S3 H3 g)
/-- from a new thing b to the old one a -/
theorem GrI.under {a b : Addr} {S H S1 H1 T H' : Hp} {o : HO} (i : GrI a S H S1 H1) (hb : H1 b = none) (j : GrI b S1 (upd H1 b o) T H') : GrI a S H T H' :=
  ⟨i.st.trans j.st, j.sub, fun z u n e => by
    have e1 := i.hh z u n e
    have nz : z ≠ b := fun q => by subst q; rw [hb] at e1; cases e1
    exact j.hh z u nz (by rw [upd_ne nz]; exact e1), fun z u n e m => by
    have e1 := i.hh z u n e
    have nz : z ≠ b := fun q => by subst q; rw [hb] at e1; cases e1
    exact (j.old z u nz (by rw [upd_ne nz]; exact e1) m).trans (i.old z u n e m)⟩
theorem sub_new {S H : Hp} {b : Addr} {o : HO} (s : Same S H) (hb : H b = none) : Same S (upd H b o) := fun z u e => by
  have nz : z ≠ b := fun q => by subst q; rw [s _ _ e] at hb; cases hb
  rw [upd_ne nz]; exact s _ _ e
end
end Y
namespace Y
open PySem PySem.Spec PyProof.Rows L2 Z
/-! ## a list comprehension, its list told as new (after Z3's ee_lcG) -/
section
end
section
variable {X : Cx} {σ : L2.St} {S : Hp} {elt iter : Expr} {scope : Scope} {pos px : Pos} {ds : List PyData} {α : Type} {enc : α → PyData} {i : Nat} {x : Str}
theorem NewL.is {K : PySem.W.Frag} {S S' : Hp} {ds ds' : List PyData} {v : V} (h : NewL K S ds v S') (e : ds = ds') : NewL K S ds' v S' := e ▸ h
end
end Y
namespace Y
open PySem PySem.Spec PyProof.Rows L2 Z
/-! ## name = [elt for x, y in iter] on one line, the name a local; the same for one target -/
section
end
end Y
namespace Y
open PySem PySem.Spec PyProof.Rows L2 Z
/-! ## own == with a list on the right -/
section
end
end Y
namespace Y
open PySem PySem.Spec PyProof.Rows L2 Z
/-! ## dict([]), list(d) of a dict with tuple keys -/
section
variable {X : Cx} {σ : L2.St} {S S' H : Hp} {e : Expr} {p pos : Pos} {a : Addr} {m : MapI}
/-- list(d) -/
theorem keys_refs {H : Hp} : ∀ {m : MapI} {bs : List Addr}, IsKeys H (kvM m) bs → PySem.W.EachIs (fun x k => KyP k x H) (bs.map V.ref) (keysM m)
  | [], bs, h => by
    generalize e : kvM [] = l at h
    cases h with
    | nil => exact .nil
    | cons _ _ => cases e
  | q :: m, bs, h => by
    generalize e : kvM (q :: m) = l at h
    cases h with
    | nil => cases e
    | cons h1 h2 =>
      have e1 := (List.cons.inj e).1
      have e2 := (List.cons.inj e).2
      subst e1
      subst e2
      refine .cons ⟨_, rfl, ?_⟩ (keys_refs h2)
      rw [← kI_kV]
      exact h1
/-- a thing that was not there -/
theorem gr_none {S H S1 H1 : Hp} {b : Addr} {o : HO} (g : Gr S H S1 H1) (hb : S b = none) (h1 : S1 b = some o) (nt : NT o) : H b = none := by
  cases e : H b with
  | none => rfl
  | some u =>
    have e1 := g.hh _ _ e
    rw [g.sub _ _ h1] at e1
    cases e1
    have := g.old b _ e nt
    rw [h1, hb] at this
    cases this
end
end Y
namespace Y
open PySem PySem.Spec PyProof.Rows L2 Z
section
variable {X : Cx} {σ : L2.St} {S : Hp} {a b e : Expr} {pos p1 p2 p3 : Pos} {d : PyData} {ds : List PyData} {k : Nat}
/-- a not in b, b a list of data -/
theorem et_notInD (hu : X.A.units + 65 < cLine) (h1 : SeqAt.shaped d = true) (h2 : SeqAt.shaped (.list ds) = true) (ha : EE X σ S a (Dt X.K d)) (hb : EE X σ S b (Dt X.K (.list ds))) (hm : behindInMarks .NotIn b = false := by first | rfl | with_unfolding_all rfl) : ET X σ S (.Compare a [.NotIn] [b] pos) (!ds.any fun z => PyData.eqv z d) :=
  et_cmp (op_notInD hu) ha hb (fun v w S1 H1 _ s pv pw Q q => ⟨d, ds, (pv.up s).dp, (pw.up s).dp, h1, h2, q _ S1 H1 (Gr.refl s) (.bl _)⟩) hm
end
end Y
namespace Y
open PySem PySem.Spec PyProof.Rows L2 Z
/-! ## own + and * of two things of one class -/
section
end
end Y
namespace Y
open PySem PySem.Spec PyProof.Rows L2 Z
/-! ## own ** with an int on the right -/
section
open PySem.W
end
section
end
end Y
namespace Y
open PySem PySem.Spec PyProof.Rows L2 Z
/-! ## a list comprehension with two clauses, the second list the same for each item of the first -/
def iBlk (X : Cx) (scope : Scope) (tg iter : Expr) : TI := fun σ' H' R => ∀ (s : Shared) (H0 : Hp) (C : Addr) (cl : List (Str × Addr)) (fp : List Addr), HI (X.blk s H0 scope (compEnvC scope cl C X.env) fp) tg iter σ' H' R
theorem walk_W {J : It} {n : Nat} {G : Hp → Prop} {Yd : Nat → Hp → V → Hp → Prop} (it : Walk J n G Yd) {H0 : Hp} {End : Hp → Prop} {St : Nat → V → Hp → (Hp → Prop) → Prop} (Pv : Nat → Hp → Prop) (h0 : Pv 0 H0) (hG : ∀ i H, i ≤ n → Pv i H → G H) (step : ∀ i x H H', i < n → Pv i H → Yd i H x H' → St i x H' (Pv (i + 1))) (done : ∀ H, Pv n H → End H) :
    ∃ W : Nat → Nat → Hp → Prop, (∃ m, W 0 m H0) ∧ ∀ i m H, W i m H → (J.stop i H ∧ End H) ∨ (J.go i H ∧ ∃ Nx : Hp → Prop, (∀ H', Nx H' → ∃ m', m' < m ∧ W (i + 1) m' H') ∧ ∀ x H', J.yld i H x H' → St i x H' Nx) := by
  refine ⟨fun i m H => i ≤ n ∧ m = n - i ∧ Pv i H, ⟨n, Nat.zero_le _, rfl, h0⟩, fun i m H ⟨hi, hm, hp⟩ => ?_⟩
  by_cases e : i = n
  · subst e
    exact .inl ⟨it.stops H (hG _ _ (Nat.le_refl _) hp), done H hp⟩
  · have hlt : i < n := by omega
    exact .inr ⟨it.goes i H hlt (hG _ _ hi hp), Pv (i + 1), fun H' h => ⟨n - (i + 1), by omega, by omega, rfl, h⟩, fun x H' y => step i x H H' hlt hp (it.yields i H x H' hlt (hG _ _ hi hp) y)⟩
section
end
end Y
namespace Y
open PySem PySem.Spec PyProof.Rows L2 Z LamX NdefX
/-! ## sorted(e, key=lambda x: x[1]) -/
/-- an item that is a tuple, its second part the key k -/
def PairKey (h : Heap) (v : Value) (k : PyData) : Prop := ∃ t its u, v = .ref t ∧ IsTup h t its ∧ its[1]? = some u ∧ Reads h u k []
theorem PairKey.keeps {h h' : Heap} {v : Value} {k : PyData} (p : PairKey h v k) (hk : ∀ b o, h.get? b = some o → h'.get? b = some o) : PairKey h' v k := by
  obtain ⟨t, its, u, e, ht, hu, hr⟩ := p
  exact ⟨t, its, u, e, ht.keeps hk, hu, PyProof.Rows.Reads.keeps hk hr⟩
section
end
end Y
namespace Y
open PySem PySem.Spec PyProof.Rows L2 Z
/-! ## a dict comprehension whose store is told by a rule (after HandS.DictComp's dc_core, which is for keys that are ints or texts) -/
/-- the new dict is told as o0; Sto D y z H N: what the store of z at y asks, N behind it -/
structure DcRule (o0 : HO) (Sto : Addr → V → V → Hp → (Hp → Prop) → Prop) (X : Cx) : Prop where
  lay : ∀ (H : Hp) (h : Heap), sysModules < h.objs.size → ObjOk X.prog X.w (upd H h.objs.size o0) (h.push { cls := .type "dict", data := .dict #[] }) h.objs.size o0
  put : ∀ (Z : Cx), Z.prog = X.prog → Z.w = X.w → Z.A = X.A → ∀ (pins : List (Addr × Obj)) (σ : L2.St) (s : Shared) (E : Value → Shared → Prop) (D : Addr) (y z : V) (H : Hp) (N : Hp → Prop) (u r : Value) (Q : Unit → Shared → Prop),
    Inv Z pins σ H s → RelV y u → RelV z r → Sto D y z H N → (∀ H' s', Inv Z pins σ H' s' → N H' → Q () s') → wpAny (model X.prog X.w) X.A (dictSet D u r) Q E s
/-- the reading: D the new dict, W what is kept -/
def tDcR (o0 : HO) (Sto : Addr → V → V → Hp → (Hp → Prop) → Prop) (wi : TI) (g : TG) (tk tv : TE) (vs : List Nat) : TE := fun σ H Q => wi σ H fun J H1 => ∀ D, H1 D = none → ∃ W : Nat → Nat → Hp → Prop, (∃ m, W 0 m (upd H1 D o0)) ∧ ∀ i m H, W i m H →
  (J.stop i H ∧ Q (.ref D) H) ∨ (J.go i H ∧ ∃ Nx : Hp → Prop, (∀ H', Nx H' → ∃ m', m' < m ∧ W (i + 1) m' H') ∧ ∀ x H', J.yld i H x H' → g x (wipe σ vs) H' fun σ2 H2 => wipe σ2 vs = wipe σ vs ∧ tk σ2 H2 fun y H4 => tv σ2 H4 fun z H5 => Sto D y z H5 Nx)
section
variable {X : Cx} {o0 : HO} {Sto : Addr → V → V → Hp → (Hp → Prop) → Prop} {pins : List (Addr × Obj)} {s : Shared} {σ : L2.St} {H : Hp} {Q : VK} {kx vx tg iter : Expr} {scope : Scope} {own : List (Str × Nat)} {pos : Pos} {wi : TI} {g : TG} {tk tv : TE}
theorem dc_any (R : DcRule o0 Sto X) (hc : X.calm = true) (hN : X.N.Nodup) (I : Inv X pins σ H s) (hi : PI X tg iter wi) (ok : BlkOk X.N X.env.scope scope own)
    (hg : ∀ (s : Shared) (H : Hp) (C : Addr) (cl : List (Str × Addr)) (fp : List Addr), PG (X.blk s H scope (compEnvC scope cl C X.env) fp) tg g)
    (hk : ∀ (s : Shared) (H : Hp) (C : Addr) (cl : List (Str × Addr)) (fp : List Addr), PE (X.blk s H scope (compEnvC scope cl C X.env) fp) kx tk)
    (he : ∀ (s : Shared) (H : Hp) (C : Addr) (cl : List (Str × Addr)) (fp : List Addr), PE (X.blk s H scope (compEnvC scope cl C X.env) fp) vx tv) (hs : ∀ x, foldedSetIterable iter X.env x = pure x)
    (h : tDcR o0 Sto wi g tk tv (own.map (·.2)) σ H Q) : wpAny (model X.prog X.w) X.A (eval (.DictComp kx vx [⟨tg, iter, [], 0⟩] scope pos) X.env) (EP X pins σ Q) X.xe s := by
  have closed : ∀ y ∈ scope.names, y.2 = .free → ∃ c, X.env.cells.lookup y.1 = some c := fun y hy e => (ok.free y hy e).elim (fun z => I.ok.has _ (.inl z)) fun z => I.ok.has _ (.inr z)
  rw [arm_eval_DictComp]
  refine wpAny_comprehension_free rfl hs (closure_ok closed) ok.kind (fun y hy e => by rw [ok.uniq y hy, e]) (thn (hi.run pins s σ H _ I h) fun _ _ h1 => thn h1 fun _ s2 h2 => ?_)
  obtain ⟨it, fp, tn, J, H2, rfl, I2, T, st2, f2, q⟩ := h2
  refine wpAny_newObj_type (newEnv_comp ?_)
  have hDn : H2 s2.heap.objs.size = none := I2.hok.fresh (Nat.le_refl _)
  obtain ⟨W, ⟨m0, w0⟩, turn⟩ := q _ hDn
  -- the state with the new dict
  obtain ⟨s3, hs3⟩ : ∃ s3 : Shared, s3 = { s2 with heap := s2.heap.push { cls := .type "dict", data := .dict #[] } } := ⟨_, rfl⟩
  obtain ⟨D, hD⟩ : ∃ D, D = s2.heap.objs.size := ⟨_, rfl⟩
  rw [← hD] at hDn w0 turn
  have old3 : ∀ b o, s2.heap.get? b = some o → s3.heap.get? b = some o := fun b o e => by rw [hs3]; exact Heap.get?_push_of_some _ e
  have I3 : Inv X pins σ (upd H2 D o0) s3 := by
    rw [hs3, hD]
    exact I2.laid (t' := s2.toks) (fun b o e => Heap.get?_push_of_some _ e) (Nat.le_refl _) (R.lay H2 s2.heap I2.big)
  have below : ∀ b ∈ fp, b < s2.heap.objs.size := fun b hb => (T.obj _ _ st2 b hb).elim fun o z => Heap.lt_size z.1
  have f3 : ∀ b ∈ fp, FpOk X pins (upd H2 D o0) b ∧ b < s3.heap.objs.size := fun b hb => by
    refine ⟨⟨(upd_ne (by rw [hD]; exact Nat.ne_of_lt (below b hb))).trans (f2 b hb).1, (f2 b hb).2⟩, ?_⟩
    rw [hs3]
    show b < (s2.heap.push _).objs.size
    rw [Heap.size_push]
    exact Nat.lt_succ_of_lt (below b hb)
  have I4 := block_start I3 ok hN f3
  obtain ⟨cl, hcl⟩ : ∃ cl, cl = cellsFrom (s3.heap.objs.size + 1) scope.names (cloFrom X.env.cells scope.names []) := ⟨_, rfl⟩
  obtain ⟨ce, hce⟩ : ∃ ce, ce = compEnvC scope cl s3.heap.objs.size X.env := ⟨_, rfl⟩
  obtain ⟨H3, hH3⟩ : ∃ H3, H3 = upd H2 D o0 := ⟨_, rfl⟩
  obtain ⟨s4, hs4⟩ : ∃ s4 : Shared, s4 = { s3 with heap := pushCells (s3.heap.push { cls := .type "dict", data := .dict #[] }) scope.names } := ⟨_, rfl⟩
  have pg := hg s3 H3 s3.heap.objs.size cl fp
  have pk := hk s3 H3 s3.heap.objs.size cl fp
  have pe := he s3 H3 s3.heap.objs.size cl fp
  rw [← hcl, ← hce, ← hH3, ← hs4] at I4
  rw [← hce] at pg pk pe
  rw [← hH3] at I3 w0 f3
  have cL : ce.locals = s3.heap.objs.size := by rw [hce]; rfl
  have fpn : ∀ b ∈ fp, H3 b = none := fun b hb => (f3 b hb).1.1
  have st4 : tn 0 s4.heap := T.keep _ _ _ (T.keep _ _ _ st2 fun b _ o e => old3 b o e) fun b _ o e => by rw [hs4]; exact pushCells_keeps _ _ _ _ (Heap.get?_push_of_some _ e)
  have stat : ∀ {σ' : L2.St} {H' : Hp} {s' : Shared}, Inv (X.blk s3 H3 scope ce fp) [] σ' H' s' → (∀ b ∈ fp, H' b = none) → ∀ b ∈ fp, FpOk (X.blk s3 H3 scope ce fp) [] H' b := fun {_ H' _} I' hn b hb =>
    ⟨hn b hb, (I'.ok.exf b hb).1, I'.ok.exfs b hb, .inl hb, fun x c e => (I'.ok.exf b hb).2 x c e, fun p hp => nomatch (show p ∈ ([] : List (Addr × Obj)) from hp)⟩
  have loop : codeAny (model X.prog X.w) X.A (.compLoop (.DictComp kx vx [⟨tg, iter, [], 0⟩] scope pos) 0 (.ref it) (.ref D) ce) (compPost (model X.prog X.w) X.A X.xe none (EP X pins σ Q) (.ref D) s3.heap.objs.size) s4 := by
    refine compLoop_anyD (fun n z => ∃ i H', Inv (X.blk s3 H3 scope ce fp) [] (wipe σ (own.map (·.2))) H' z ∧ tn i z.heap ∧ (∀ b ∈ fp, H' b = none) ∧ W i n H') ?_ m0 ⟨0, H3, I4, st4, fpn, w0⟩
    rintro n s5 ⟨i, H5, I5, st5, n5, w5⟩
    rcases turn i n H5 w5 with ⟨stop, fin⟩ | ⟨go, Nx, less, step⟩
    · refine thnF (T.done (X.blk s3 H3 scope ce fp) rfl rfl rfl hc i [] s5 _ H5 (fun _ _ => False) I5 (stat I5 n5) st5 stop) fun r s6 z => ?_
      obtain ⟨rfl, I6⟩ := z
      have free6 : H5 s3.heap.objs.size = none := by rw [← cL]; exact I6.free
      obtain ⟨m, ns, _⟩ := I6.loc
      have ns6 : s6.heap.Ns s3.heap.objs.size m := by rw [← cL]; exact ns
      have I7 : Inv X pins σ H5 s6 := I3.call' (ch := fp) I6.os I6.base I6.hok I6.bare fun b hb => ⟨(f3 b hb).1.2.2.2.1, (f3 b hb).1.2.1, (f3 b hb).1.2.2.2.2.1, (f3 b hb).1.2.2.2.2.2⟩
      obtain ⟨g0, g1, g2, g3, g4, g5⟩ := I3.fpOk (Nat.le_refl _) free6
      exact ⟨m, ns6, fun h'' sb => ⟨.ref D, H5, I7.turned (t' := s6.toks) (fun b o hb e => (sb.2 b hb).trans e) g0 g1 g3 g4 g5, rfl, fin⟩⟩
    · refine thnF (T.item (X.blk s3 H3 scope ce fp) rfl rfl rfl hc i [] s5 _ H5 (fun _ _ => False) I5 (stat I5 n5) st5 go) fun r s6 z => ?_
      obtain ⟨u, rfl, h6⟩ := z
      refine thnF h6 fun _ s7 ⟨x, H7, I7, r7, y7, st7, n7⟩ => ?_
      refine thnF (pg.run _ s7 _ H7 x u _ (I7.pinned (stat I7 n7) (T.obj _ _ st7)) r7 (step x H7 y7)) fun _ s8 ⟨σ8, H8, I8, hw8, q8⟩ => ?_
      refine wpAny_pure ?_
      rw [if_pos rfl]
      refine thnF (pk.run _ s8 σ8 H8 _ I8 q8) fun _ s9 ⟨y, H9, I9, r9, q9⟩ => ?_
      refine thnF (pe.run _ s9 σ8 H9 _ I9 q9) fun _ s10 ⟨z, H10, I10, r10, q10⟩ => ?_
      refine R.put (X.blk s3 H3 scope ce fp) rfl rfl rfl _ _ _ _ _ _ _ _ _ _ _ _ I10 r9 r10 q10 fun H' s' I' nx => ?_
      obtain ⟨m', hm, w'⟩ := less H' nx
      have stays : ∀ b ∈ fp, ∀ o, s7.heap.get? b = some o → s'.heap.get? b = some o ∧ H' b = none := fun b hb o e => by
        have z := I'.pin (b, o) (List.mem_append_right _ (List.mem_append_right _ (mem_pinsAt hb e)))
        exact ⟨z.1, z.2.1⟩
      refine ⟨m', hm, i + 1, H', (I'.unpinned (pins := [])).weak (by rw [← hw8, wipe_length]) (fun j v e => ?_), T.keep _ _ _ st7 fun b hb o e => (stays b hb o e).1, fun b hb => ?_, w'⟩
      · rw [← hw8] at e
        exact (wipe_some e).1
      · obtain ⟨o, e, _⟩ := T.obj _ _ st7 b hb
        exact (stays b hb o e).2
  have start := codeAny_compStart_dict loop (T.self X.A 0 _ _ _ st4 loop)
  rw [hce, hcl, hs4] at start
  rw [← hs3, ← hD]
  exact start
end
end Y
namespace Y
open PySem PySem.Spec PyProof.Rows L2 Z
/-! ## a dict with tuple keys that is not changed any more: locked; what is read of it -/
def DcO (m : MapI) (d : Addr) (S : Hp) : Prop := ∃ o, S d = some (.frz o (.dT (kvM m)))
theorem DcO.up {m : MapI} {d : Addr} {S S' : Hp} (h : DcO m d S) (s : Same S S') : DcO m d S' := h.elim fun o e => ⟨o, s _ _ e⟩
def DcV (m : MapI) (v : V) (S : Hp) : Prop := ∃ d, v = .ref d ∧ DcO m d S
instance {m : MapI} : Mn (DcV m) := ⟨fun s ⟨d, e, h⟩ => ⟨d, e, h.up s⟩⟩
/-- from now on the thing at d is locked -/
theorem hs_freeze {X : Cx} {D : Ends} {st : List Stmt} {σ : L2.St} {H : Hp} {d : Addr} {u : HO} (h : H d = some u) (mu : Mut (some u)) (q : ∀ o, HS X D st σ (upd H d (.frz o u))) : HS X D st σ H := fun pins s I => by
  obtain ⟨o, I1⟩ := I.lock h mu
  exact q o pins s I1
section
end
/-! ### for a, b in o.items() -/
/-- what the object of a locked dict is -/
theorem frz_raw {X : Cx} {pins : List (Addr × Obj)} {σ : L2.St} {H : Hp} {s : Shared} {d : Addr} {o : Obj} {kvs : List (List L2.Key × V)} (I : Inv X pins σ H s) (h : H d = some (.frz o (.dT kvs))) :
    (d == sysModules) = false ∧ kvs.length ≤ sizeLine ∧ ∃ (es : Array DictEntry) (ep : Nat), s.heap.get? d = some o ∧ o.ExactDict ∧ o.data = .dict es ep ∧ es.size = kvs.length ∧
      ∀ (i : Nat) (k : List L2.Key) (v : V), kvs[i]? = some (k, v) → ∃ (en : DictEntry) (q : Addr), es[i]? = some en ∧ en.key = .ref q ∧ H q = some (.tup (k.map kV)) ∧ RelV v en.val := by
  obtain ⟨hd, z, hs, xs, pr, o', es, ep, ho, hx, hdt, he, _⟩ := I.hok d _ h
  obtain rfl : o' = o := Option.some.inj (ho.symm.trans hd)
  have l1 : es.size = xs.length := size_of_entries he
  have l2 : kvs.length = xs.length := Paired.length pr
  refine ⟨hs, z, es, ep, ho, hx, hdt, by omega, fun i k v e => ?_⟩
  obtain ⟨b, hb, e1, e2, e3⟩ := paired_get pr e
  have q := entry_at he i
  rw [hb] at q
  exact ⟨_, b.2.1, q, rfl, e2, e3⟩
section
end
/-- a pair (key, number) as data -/
def kvD (q : List Int × Int) : PyData := .tuple [.tuple (q.1.map .int), .int q.2]
section
end
end Y
namespace Y
open PySem PySem.Spec PyProof.Rows L2 Z
/-! ## o.items() as a value; list of it; a display of two -/
/-- S, all that is new in T, the tuples of H -/
def grown (S H T : Hp) : Hp := fun a => match S a with
  | some o => some o
  | none => match H a with
    | none => T a
    | some (.tup xs) => some (.tup xs)
    | some _ => none
theorem grown_S {S H T : Hp} {a : Addr} {o : HO} (h : S a = some o) : grown S H T a = some o := by unfold grown; rw [h]
theorem grown_new {S H T : Hp} (s : Same S H) {a : Addr} (h : H a = none) : grown S H T a = T a := by
  unfold grown
  cases e : S a with
  | some o => rw [s a o e] at h; cases h
  | none => simp only [h]
theorem grown_tup {S H T : Hp} (s : Same S H) {a : Addr} {xs : List V} (h : H a = some (.tup xs)) : grown S H T a = some (.tup xs) := by
  unfold grown
  cases e : S a with
  | some o => simp only []; rw [s a o e] at h; exact h
  | none => simp only [h]
theorem Gr.all {S H T : Hp} (s : Same S H) (st : Same H T) : Gr S H (grown S H T) T := by
  refine ⟨fun a o h => grown_S h, fun a o h => ?_, st, fun a o h n => ?_⟩
  · unfold grown at h
    cases e : S a with
    | some u => rw [e] at h; cases h; exact st a _ (s a _ e)
    | none =>
      rw [e] at h
      cases q : H a with
      | none => simp only [q] at h; exact h
      | some u =>
        cases u <;> simp only [q] at h <;> first | cases h | skip
        exact st a _ q
  · unfold grown
    cases e : S a with
    | some u => rfl
    | none =>
      cases q : H a with
      | none => rw [q] at h; cases h
      | some u =>
        rw [q] at h
        cases h
        cases o <;> first | rfl | exact absurd rfl (n _)
/-- the items view at p of the locked dict at d -/
def ItV (m : MapI) (v : V) (S : Hp) : Prop := ∃ p d, v = .ref p ∧ S p = some (L2.DX.itemsO p d) ∧ DcO m d S
instance {m : MapI} : Mn (ItV m) := ⟨fun s ⟨p, d, e, h, q⟩ => ⟨p, d, e, s _ _ h, q.up s⟩⟩
section
variable {X : Cx} {σ : L2.St} {S S' H : Hp} {a b e : Expr} {apos cpos p pos : Pos} {m m1 m2 : MapI}
theorem pe_itv {td : TE} (he : PE X e td) (hbase : attributeBase e "items" X.env (eval e X.env) = eval e X.env := by rfl) (hline : (apos.endLine == cpos.line) = true := by rfl) :
    PE X (.Call (.Attribute e "items" apos) [] [] cpos) (fun σ H Q => td σ H fun x H1 => ∃ d o kvs, x = .ref d ∧ H1 d = some (.frz o (.dT kvs)) ∧ ∀ p, H1 p = none → Q (.ref p) (upd H1 p (L2.DX.itemsO p d))) := by
  refine ⟨fun pins s σ H Q I h => ?_⟩
  refine wpAny_Call_method (T := "dict") (id := "dict.items") hbase rfl hline F.plainAttrs_dict F.slot_dict_items F.type_dict_items (thn (he.run pins s σ H _ I h) fun u s1 hq => ?_)
  obtain ⟨x, H1, I1, rx, d, o, kvs, rfl, hd, q⟩ := hq
  obtain rfl : u = Value.ref d := rx
  obtain ⟨hs, z, es, ep, hgd, hx, hdt, hsz, ent⟩ := frz_raw I1 hd
  have hr : DT.Raw s1.heap d es ep := ⟨o, hgd, hx, hdt⟩
  obtain ⟨_, t2, _⟩ := isD_at I1 (show IsD H1 d from .inr ⟨kvs, .inr ⟨o, hd⟩⟩)
  refine ⟨hr.typeIs, t2, ?_⟩
  show wpAny _ _ (callWith cpos (.builtin "dict.items") [.ref d] [] []) _ X.xe s1
  refine method_meetsIn F.slot_dict_items F.entry_dict_items rfl (PySem.evalArgs_none ⟨rfl, hr.typeIs, F.args_dict_items_1 _, _, DT.meetsItems (es := es) (ep := ep) hs, hr, ?_⟩)
  have hf : H1 s1.heap.objs.size = none := I1.hok.fresh (Nat.le_refl _)
  exact ⟨.ref s1.heap.objs.size, _, I1.laid (t' := s1.toks) (fun b u e => Heap.get?_push_of_some _ e) (Nat.le_refl _) (L2.DX.itemsO_ok (Heap.get?_push_size _ rfl)), rfl, q _ hf⟩
theorem ee_itv (he : EE X σ S e (DcV m)) (hbase : attributeBase e "items" X.env (eval e X.env) = eval e X.env := by rfl) (hline : (apos.endLine == cpos.line) = true := by rfl) : EE X σ S (.Call (.Attribute e "items" apos) [] [] cpos) (ItV m) := fun H s Q q =>
  he_of (pe_itv peb hbase hline) (he H s _ fun w S1 H1 g1 pw => by
    obtain ⟨d, rfl, o, hd⟩ := pw
    refine ⟨d, o, kvM m, rfl, g1.sub _ _ hd, fun p hp => q _ _ _ (g1.trans (Gr.new g1.sub hp)) ⟨p, d, rfl, upd_same, o, ?_⟩⟩
    rw [upd_ne (ne_of_none hd (g1.sub.free hp))]
    exact hd)
/-- what the pairs that are made stand for -/
theorem view_pairs {H1 : Hp} {pins : List (Addr × Obj)} {s : Shared} {h' : Heap} {tk : Nat} {d : Addr} {es : Array DictEntry} {ep : Nat} {as : List Addr} (I : Inv X pins σ H s) (s0 : Same S H) (hd : DcO m d S) (hz : ∀ q ∈ m, q.1.length ≤ sizeLine) (hr : DT.Raw s.heap d es ep)
    (I1 : Inv X pins σ H1 { s with heap := h', toks := tk }) (s1 : Same H H1) (hn1 : ∀ a ∈ as, H1 a = none) (hl : as.length = es.size) (rise : as.Pairwise (· < ·)) (above : ∀ a ∈ as, s.heap.objs.size ≤ a) (pairs : ∀ (j : Nat) (a : Addr), as[j]? = some a → ∃ e, es[j]? = some e ∧ h'.get? a = some { cls := .type "tuple", data := .seq #[e.key, e.val] }) :
    ∃ H2, Inv X pins σ H2 { s with heap := h', toks := tk } ∧ Same H1 H2 ∧ as.length = m.length ∧ Dts X.K (m.map kvD) (as.map V.ref) (grown S H H2) := by
  obtain ⟨o, ho⟩ := hd
  obtain ⟨hs, z, es', ep', hgd, hx, hdt, hsz, ent⟩ := frz_raw I (s0 _ _ ho)
  obtain ⟨o2, h1, _, h2⟩ := hr
  obtain rfl : o = o2 := Option.some.inj (hgd.symm.trans h1)
  obtain ⟨rfl, rfl⟩ := dict_ep h2 hdt
  have lm : as.length = m.length := by rw [hl, hsz, kvM_len]
  have nodup : as.Nodup := rise.imp fun h => Nat.ne_of_lt h
  have get : ∀ (j : Nat) (q : List Int × Int), m[j]? = some q → (kvM m)[j]? = some (kI q.1, V.int q.2) := fun j q e => by unfold kvM; rw [List.getElem?_map, e]; rfl
  have key : ∀ (j : Nat) (a : Addr), as[j]? = some a → ∃ q b, m[j]? = some q ∧ H b = some (.tup (q.1.map V.int)) ∧ ∀ T, ObjOk X.prog X.w T h' a (.tup [.ref b, .int q.2]) := fun j a ha => by
    obtain ⟨hj, _⟩ := List.getElem?_eq_some_iff.mp ha
    obtain ⟨q, hq⟩ : ∃ q, m[j]? = some q := ⟨m[j]'(by omega), List.getElem?_eq_getElem (by omega)⟩
    obtain ⟨en, b, he, hk, hb, rv⟩ := ent j _ _ (get j q hq)
    obtain ⟨en2, he2, hT⟩ := pairs j a ha
    rw [he] at he2
    cases he2
    rw [hk] at hT
    exact ⟨q, b, hq, by rw [← kI_kV]; exact hb, fun T => ⟨by show 2 ≤ sizeLine; decide, [.ref b, en.val], .cons rfl (.cons rv .nil), ⟨_, hT, rfl, _, rfl⟩⟩⟩
  obtain ⟨H2, I2, s2, ht⟩ := L2.DX.takeT (P := fun a vs => ∃ (j : Nat) (q : List Int × Int) (b : Addr), as[j]? = some a ∧ m[j]? = some q ∧ H b = some (.tup (q.1.map V.int)) ∧ vs = [.ref b, .int q.2]) I as H1 I1 nodup (fun a ha => by
    obtain ⟨j, hj⟩ := List.mem_iff_getElem?.mp ha
    obtain ⟨q, b, e1, e2, e3⟩ := key j a hj
    exact ⟨above a ha, hn1 a ha, _, ⟨j, q, b, hj, e1, e2, rfl⟩, e3⟩)
  refine ⟨H2, I2, s2, lm, by rw [List.length_map, List.length_map, lm], fun j x dd hx hdd => ?_⟩
  rw [List.getElem?_map] at hx hdd
  obtain ⟨a, ha, rfl⟩ := Option.map_eq_some_iff.mp hx
  obtain ⟨q, hq, rfl⟩ := Option.map_eq_some_iff.mp hdd
  obtain ⟨vs, ⟨j', q', b, e1, e2, e3, rfl⟩, h2a⟩ := ht a (List.mem_of_getElem? ha)
  obtain rfl : j' = j := (List.getElem?_inj (List.getElem?_eq_some_iff.mp e1).1 nodup).mp (e1.trans ha.symm)
  obtain rfl : q = q' := Option.some.inj (hq.symm.trans e2)
  have hn : H a = none := I.hok.fresh (above a (List.mem_of_getElem? ha))
  refine Dt.tup_mk (.inl ((grown_new s0 hn).trans h2a)) (Dts.cons (KyP.dt ⟨b, rfl, grown_tup s0 e3⟩ (hz q (List.mem_of_getElem? hq))) (Dts.cons (.int _) .nil)) (by show 2 ≤ 16777216; decide)
def rListIt : List V → Hp → VK → Prop := fun xs H Q => ∃ (v : V) (m : MapI) (S : Hp), xs = [v] ∧ ItV m v S ∧ Same S H ∧ (∀ q ∈ m, q.1.length ≤ sizeLine) ∧ ∀ l S' H', Gr S H S' H' → S l = none → (∃ ys, S' l = some (.lst ys) ∧ Dts X.K (m.map kvD) ys S' ∧ ys.length ≤ sizeLine) → Q (.ref l) H'
theorem cr_listIt (hc : X.calm = true) : CallR X (.type "list") (rListIt (X := X)) := by
  intro pins s σ H xs us Q I r h
  obtain ⟨v, m, S, rfl, ⟨p, d, rfl, hp, hd⟩, s0, hz, q⟩ := h
  rw [Vals.ref1 r]
  obtain ⟨o, ho⟩ := hd
  obtain ⟨hs, z, es, ep, hgd, hx, hdt, hsz, ent⟩ := frz_raw I (s0 _ _ ho)
  obtain ⟨hv, _, _⟩ := I.hok p _ (s0 _ _ hp)
  refine PySem.W.dil_call (I.ok.hd hc) hv ⟨o, hgd, hx, hdt⟩ (by rw [hsz]; exact z) fun h' tk acc c as kp hD hl G hacc => ?_
  have hN : H s.heap.objs.size = none := I.hok.fresh (Nat.le_refl _)
  have hlen : as.length ≤ sizeLine := by rw [hl, hsz]; exact z
  have vs : ∀ l : List Addr, Vals (l.map V.ref) (l.map Value.ref) := fun l => by
    induction l with
    | nil => exact .nil
    | cons a l ih => exact .cons rfl ih
  have I1 : Inv X pins σ (upd H s.heap.objs.size (.lst (as.map V.ref))) { s with heap := h', toks := tk } := I.laid kp (Nat.le_refl _) ⟨by rw [List.length_map]; exact hlen, as.map Value.ref, c, vs as, by rw [← hacc, Array.toArray_toList]; exact hD⟩
  obtain ⟨H2, I2, s2, lm, dts⟩ := view_pairs (m := m) (h' := h') (tk := tk) (as := as) I s0 ⟨o, ho⟩ hz ⟨o, hgd, hx, hdt⟩ I1 (Same.new hN) (fun a ha => by rw [upd_ne (Nat.ne_of_gt (G.above a ha))]; exact I.hok.fresh (Nat.le_of_lt (G.above a ha))) hl G.rise (fun a ha => Nat.le_of_lt (G.above a ha)) (fun j a ha => by
    obtain ⟨hj, e⟩ := G.pairs j a ha
    exact ⟨es[j], Array.getElem?_eq_getElem hj, e⟩)
  have sH : Same H H2 := (Same.new hN).trans s2
  exact ⟨.ref s.heap.objs.size, H2, I2, rfl, q _ _ H2 (Gr.all s0 sH) (s0.free hN) ⟨as.map V.ref, by rw [grown_new s0 hN]; exact s2 _ _ upd_same, dts, by rw [List.length_map]; exact hlen⟩⟩
/-- list(o.items()) -/
theorem ee_listIt (hc : X.calm = true) (hm : X.mg "list" = none) (hz : ∀ q ∈ m, q.1.length ≤ sizeLine) (he : EE X σ S e (ItV m)) (hg : Gl X "list" := by rfl) (hs : starEach [e] X.env = (false, eval e X.env) :: starEach [] X.env := by rfl) :
    EE X σ S (.Call (.Name "list" p) [e] [] pos) (NewL X.K S (m.map kvD)) :=
  ee_callTy (cr_listIt hc) hm (by first | rfl | exact boot_list) (ea_1 he hs) (fun vs S1 H1 s0 s al Q q => by
    obtain ⟨v, rfl, pv⟩ := al.one
    refine ⟨v, m, S1, rfl, pv, s, hz, fun l S' H' g hl ⟨ys, h1, h2, h3⟩ => q _ S' H' g ⟨l, ys, rfl, s0.free hl, h1, h2, h3⟩⟩) hg (he := hs) (hpl := by rfl)
end
end Y
namespace Y
open PySem PySem.Spec PyProof.Rows L2 Z
/-! ## {kx: vx for x in iter}, keys tuples of ints, values ints -/
def StoT (D : Addr) (y z : V) (H : Hp) (N : Hp → Prop) : Prop := ∃ kvs k b, y = V.ref b ∧ H b = some (.tup (k.map kV)) ∧ H D = some (.dT kvs) ∧ kvs.length < sizeLine ∧ N (upd H D (.dT (putK kvs k z)))
theorem dcRuleT {X : Cx} (hu : X.A.units < cLine) : DcRule (.dT []) StoT X where
  lay := fun H h hb => dt_empty h hb
  put := by
    intro Z hP hw hA pins σ s E D y z H N u r Q I ry rz hS q
    obtain ⟨kvs, k, b, rfl, hb, hD, hl, hN⟩ := hS
    obtain rfl : u = Value.ref b := ry
    obtain ⟨zl, hd, xs, rel, dd⟩ := dt_of I.hok hD
    have lx : kvs.length = xs.length := Paired.length rel
    have hu' : Z.A.units < cLine := by rw [hA]; exact hu
    rw [← hP, ← hw, ← hA]
    refine wpAny_dictSet_heap (knd := tupleKind (mixKind Z.prog Z.w)) (hsz := by omega) hu' (key_of I.hok hb) dd fun h' dd' hs => q _ _ ?_ hN
    have hl2 : (putK kvs k z).length ≤ sizeLine := by have := length_putK kvs k z; omega
    obtain ⟨o, es, ep, ho, h2, h3, h4, _, h5⟩ := dd'
    refine d_write I (by rw [hD]; exact True.intro) hs ⟨o, ho⟩ ⟨hl2, hd, _, (rel.put k hb rz).keeps fun c ys ec => ?_, o, es, ep, ho, h2, h3, h4, h5⟩
    rw [upd_ne (ne_of ec hD (fun z => nomatch z))]
    exact ec
/-- the dict that the store of the pairs leaves -/
def mkM (ps : List (List Int × Int)) : MapI := ps.foldl (fun m p => putM m p.1 p.2) []
theorem mkM_snoc (ps : List (List Int × Int)) (p : List Int × Int) : mkM (ps ++ [p]) = putM (mkM ps) p.1 p.2 := by
  unfold mkM
  rw [List.foldl_append]
  rfl
theorem mkM_lenA : ∀ (ps : List (List Int × Int)) (m : MapI), (ps.foldl (fun m p => putM m p.1 p.2) m).length ≤ m.length + ps.length
  | [], m => Nat.le_refl _
  | p :: ps, m => by
    have h := mkM_lenA ps (putM m p.1 p.2)
    have h2 := putM_len m p.1 p.2
    show (ps.foldl _ (putM m p.1 p.2)).length ≤ m.length + (ps.length + 1)
    omega
theorem mkM_len (ps : List (List Int × Int)) : (mkM ps).length ≤ ps.length := by
  have h : (mkM ps).length ≤ ([] : MapI).length + ps.length := mkM_lenA ps []
  rw [List.length_nil, Nat.zero_add] at h
  exact h
/-- a new dict -/
def NewM (S : Hp) (m : MapI) (v : V) (S' : Hp) : Prop := ∃ d, v = .ref d ∧ S d = none ∧ S' d = some (.dT (kvM m))
section
variable {X : Cx} {σ : L2.St} {S : Hp} {kx vx tg iter : Expr} {scope : Scope} {own : List (Str × Nat)} {pos : Pos} {α : Type} {enc : α → PyData} {kf : α → List Int} {vf : α → Int} {as : List α}
theorem ee_dcT (hu : X.A.units < cLine) (hc : X.calm = true) (hN : X.N.Nodup) (ok : BlkOk X.N X.env.scope scope own) (hi : EI X σ S tg iter (Ds X.K (as.map enc))) (hz : as.length ≤ 1000000)
    (hel : ∀ a ∈ as, ∀ v S', Same S S' → Dt X.K (enc a) v S' → ∃ τ, wipe τ (own.map (·.2)) = wipe σ (own.map (·.2)) ∧ ∀ (s : Shared) (H0 : Hp) (C : Addr) (cl : List (Str × Addr)) (fp : List Addr),
      EG (X.blk s H0 scope (compEnvC scope cl C X.env) fp) S' tg v (wipe σ (own.map (·.2))) τ ∧ EE (X.blk s H0 scope (compEnvC scope cl C X.env) fp) τ S' kx (KyP (kf a)) ∧ EE (X.blk s H0 scope (compEnvC scope cl C X.env) fp) τ S' vx (Dt X.K (.int (vf a))))
    (hs : ∀ x, foldedSetIterable iter X.env x = pure x := by intro _; rfl) : EE X σ S (.DictComp kx vx [⟨tg, iter, [], 0⟩] scope pos) (NewM S (mkM (as.map fun a => (kf a, vf a)))) := fun H s Q q => by
  intro pins sh I
  refine dc_any (dcRuleT hu) (wi := bI X tg iter) (g := gBlk X scope tg) (tk := eBlk X scope kx) (tv := eBlk X scope vx) hc hN I pib ok (fun s H0 C cl fp => ⟨fun pins sh σ' H' v u Q' I r h => h s H0 C cl fp pins sh u I r⟩) (fun s H0 C cl fp => ⟨fun pins sh σ' H' Q' I h => h s H0 C cl fp pins sh I⟩) (fun s H0 C cl fp => ⟨fun pins sh σ' H' Q' I h => h s H0 C cl fp pins sh I⟩) hs ?_
  refine hi H s _ fun J S1 H1 g1 it D hD => ?_
  have hlen : (Ds X.K (as.map enc)).length = as.length := by rw [ds_len, List.length_map]
  let mm : Nat → MapI := fun i => mkM ((as.take i).map fun a => (kf a, vf a))
  have hS1 : S1 D = none := g1.sub.free hD
  refine walk_W it (fun i H' => ∃ S', Same S1 S' ∧ Same S' H' ∧ Same H1 H' ∧ (∀ a o, H1 a = some o → NT o → S' a = S1 a) ∧ S' D = none ∧ H' D = some (.dT (kvM (mm i)))) ⟨S1, Same.refl _, (g1.sub).trans (Same.new hD), Same.new hD, fun _ _ _ _ => rfl, hS1, upd_same⟩ (fun i H' _ ⟨S', a, b, _⟩ => a.trans b) ?_ ?_
  · intro i x H2 H3 hi2 ⟨S2, k1, k2, k3, k4, k5, k6⟩ y
    rw [hlen] at hi2
    obtain ⟨S3, g3, P', hP', px⟩ := y S2 k1 k2
    obtain ⟨a, ha⟩ : ∃ a, as[i]? = some a := ⟨as[i], List.getElem?_eq_getElem hi2⟩
    rw [ds_get (by rw [List.getElem?_map, ha]; rfl)] at hP'
    obtain rfl := Option.some.inj hP'
    have sS3 : Same S S3 := (g1.st.trans k1).trans g3.st
    obtain ⟨τ, hw, hb⟩ := hel a (List.mem_of_getElem? ha) x S3 sS3 px
    intro sh1 H01 C1 cl1 fp1
    refine (hb sh1 H01 C1 cl1 fp1).1 H3 g3.sub _ ⟨hw, ?_⟩
    intro sh2 H02 C2 cl2 fp2
    refine (hb sh2 H02 C2 cl2 fp2).2.1 H3 g3.sub _ fun yk S4 H4 g4 pk => ?_
    intro sh3 H03 C3 cl3 fp3
    refine ((hb sh3 H03 C3 cl3 fp3).2.2.up g4.st) H4 g4.sub _ fun z S5 H5 g5 pz => ?_
    obtain ⟨b, rfl, hb4⟩ := pk
    cases pz
    have g := (g3.trans g4).trans g5
    have hD5 : S5 D = none := (g.old D _ k6 (fun _ z => nomatch z)).trans k5
    have mlen : (mm i).length ≤ i := Nat.le_trans (mkM_len _) (by rw [List.length_map, List.length_take]; omega)
    refine ⟨kvM (mm i), kI (kf a), b, rfl, by rw [kI_kV]; exact g5.sub _ _ (g5.st _ _ hb4), g.hh _ _ k6, by rw [kvM_len]; show _ < 16777216; omega, S5, k1.trans g.st, Same.mut g.sub hD5, fun c o e => ?_, fun c o e n => (g.old c o (k3 c o e) n).trans (k4 c o e n), hD5, ?_⟩
    · rw [upd_ne (ne_of_none e hD)]; exact g.hh _ _ (k3 c o e)
    · rw [putK_kvM, upd_same]
      show _ = some (HO.dT (kvM (mkM ((as.take (i + 1)).map fun a => (kf a, vf a)))))
      rw [take_snoc ha, List.map_append]
      exact congrArg (fun z => some (HO.dT (kvM z))) (mkM_snoc ((as.take i).map fun a => (kf a, vf a)) (kf a, vf a)).symm
  · intro H2 ⟨S2, k1, k2, k3, k4, k5, k6⟩
    rw [hlen] at k6
    have em : mm as.length = mkM (as.map fun a => (kf a, vf a)) := by show mkM _ = _; rw [List.take_length]
    rw [em] at k6
    refine q _ (upd S2 D (.dT (kvM (mkM (as.map fun a => (kf a, vf a)))))) H2 (g1.trans ⟨k1.trans (Same.new k5), fun a o h => ?_, k3, fun a o h n => by rw [upd_ne (ne_of_none h hD)]; exact k4 a o h n⟩) ⟨D, rfl, s.free ((show H D = none from by
      cases e : H D with
      | none => rfl
      | some o => exact absurd (g1.hh _ _ e) (by rw [hD]; intro z; cases z))), upd_same⟩
    by_cases ha : a = D
    · subst ha; rw [upd_same] at h; rw [k6]; exact h
    · rw [upd_ne ha] at h; exact k2 a o h
end
end Y
namespace Y
open PySem PySem.Spec PyProof.Rows L2 Z
/-! ## == of two dicts with tuple keys and ints as values -/
section
end
section
end
end Y
namespace Y
open PySem PySem.Spec PyProof.Rows L2 Z
/-! ## len(o), bool(o) of an own thing -/
section
variable {X : Cx} {σ : L2.St} {S S' H : Hp} {a e : Expr} {P P0 R : V → Hp → Prop} {pos p apos : Pos} {k : Nat} {x m kn : Str} {sp : Sp} {C : Addr}
theorem call_boolO {prog : Program} {w : World} {A : Around} {E : Value → Shared → Prop} {s : Shared} {x : Value} {Q : Value → Shared → Prop} (h : wpAny (model prog w) A.in1.in1 (truthy x) (fun b s' => Q (.bool b) s') E s) : wpAny (model prog w) A (call (.type "bool") [x]) Q E s := by
  refine callType_codes F.called_bool (F.typeCall_bool_1 x) F.entry_object_init (Q₁ := fun v s' => s'.TypeIs v "bool" ∧ Q v s') ?_ (fun obj s1 h1 => ⟨h1.1, F.args_object_init_2 obj x, object_init_meets F.called_bool.init.lookup F.called_bool.made F.newNe_bool prog w A.in1 _ s1 ⟨h1.1, rfl, h1.2⟩⟩)
  refine codeAny_call_builtin F.called_bool.plain F.entry_bool_new (wpAny_of_eq (F.newCall_bool_1 x) ?_)
  have f1 := F.conv_sub_bool
  unfold Builtin.«bool.__new__»
  repeat (any_goals (first | assumption | (with_reducible refine wpAny_mono h (fun b s' hb => ?_) fun _ _ z => z) | wp_step))
  all_goals first | exact (show s'.TypeIs (Value.bool b) "bool" ∧ Q (.bool b) s' from ⟨rfl, hb⟩) | skip
theorem ee_boolO {bo : Bool} (D : KM X.prog X.w X.K X.mg X.base C "__bool__" k sp) (hr : Room (k + 2) X.A) (hm : X.mg "bool" = none) (ha : EE X σ S a P0) [Mn P0] (hC : ∀ w S1, P0 w S1 → ∃ r dx fs, w = .ref r ∧ S1 r = some (.ins C dx fs)) (hsp : SpE sp S [P0] (Dt X.K (.bool bo))) (hg : Gl X "bool" := by rfl)
    (he : starEach [a] X.env = (false, eval a X.env) :: starEach [] X.env := by rfl) (hpl : (backTo pos (starEach [] X.env)).any (·.1) = false := by rfl) : EE X σ S (.Call (.Name "bool" p) [a] [] pos) (Dt X.K (.bool bo)) := by
  have hc : CallR X (.type "bool") (fun vs H Q => ∃ r dx fs, vs = [.ref r] ∧ H r = some (.ins C dx fs) ∧ sp vs H (fun v H' => v = .bl bo ∧ Q (.bl bo) H') E0) := by
    intro pins s σ H vs us Q I rv hq
    obtain ⟨r, dx, fs, rfl, hx, q⟩ := hq
    obtain ⟨f, fd, ps, F, hm, hf, hk, hb⟩ := D.ex
    rw [Vals.ref1 rv]
    obtain ⟨ox, od, J⟩ := insAt I hx
    obtain ⟨m, hF⟩ := I.fr
    refine call_boolO (PySem.W.truthy_K hF I.ok.mod.kin J hm hf (wpAny_mono (run_fnA (vs := [.ref r]) F (show Room k X.A.in1.in1 from (hr.in1).in1) rfl hb pass0 I (.cons rfl .nil) q) (fun rv s' hq' => ?_) fun _ _ z => z))
    obtain ⟨w, H', I', rw', rfl, q'⟩ := hq'
    obtain rfl : rv = Value.bool bo := rw'
    exact ⟨.bl bo, H', I', rfl, q'⟩
  refine ee_callTy hc hm (by first | rfl | exact boot_bool) (ea_1 ha he) (fun vs S1 H1 st s al Q q => ?_) hg (by decide) (by decide) he hpl
  obtain ⟨v, rfl, pv⟩ := al.one
  obtain ⟨r, dx, fs, rfl, e⟩ := hC v S1 pv
  exact ⟨r, dx, fs, rfl, s _ _ e, hsp _ S1 H1 st s (.cons pv .nil) _ fun v S2 H2 g pv => by
    cases pv
    exact ⟨rfl, q _ S2 H2 g (.bl _)⟩⟩
end
/-! ## a staticmethod def m(*xs, kn=d), called through its class -/
section
end
end Y
namespace Y
open PySem PySem.Spec PyProof.Rows L2 Z
/-! ## a def m(*xs, kn=d) by its body -/
section
end
end Y
namespace Y
open PySem PySem.Spec PyProof.Rows L2 Z
section
end
end Y
namespace Y
open PySem PySem.Spec PyProof.Rows L2 Z LamX NdefX
/-! ## expressions and statements that may raise an own error -/
/-- a kind of own error: its class, its code, the attribute that it keeps -/
structure EK where
  C : Addr
  code : Str
  fn : Option Str
/-- E is met by an error of the kind k that keeps g -/
def XErr (K : PySem.W.Frag) (k : EK) (g : PyData) (S H : Hp) (E : XK) : Prop := ∀ d fs S3 H3, Gr S H S3 H3 → H d = none → S3 d = some (.xd fs) → fs.lookup ("code" : Str) = some (V.str k.code) → (k.fn = none → g = .none) → (∀ x, k.fn = some x → ∃ v, fs.lookup x = some v ∧ Dt K g v S3) → E (.ref k.C) (some d) H3
theorem XErr.up {K : PySem.W.Frag} {k : EK} {g : PyData} {S H S1 H1 : Hp} {E : XK} (h : XErr K k g S H E) (gr : Gr S H S1 H1) : XErr K k g S1 H1 E := fun d fs S3 H3 g3 hd hx hc hn hf => h d fs S3 H3 (gr.trans g3) (gr.hh.free hd) hx hc hn hf
theorem XErr.wide {K : PySem.W.Frag} {k : EK} {g : PyData} {S H H' : Hp} {E : XK} (h : XErr K k g S H E) (hh : Same H H') : XErr K k g S H' E := fun d fs S3 H3 gr hd hx hc hn hf => h d fs S3 H3 ⟨gr.st, gr.sub, hh.trans gr.hh, fun a o e m => gr.old a o (hh _ _ e) m⟩ (hh.free hd) hx hc hn hf
/-- e gives P, or raises as O -/
def ER (X : Cx) (E : XK) (σ : L2.St) (S : Hp) (e : Expr) (P : V → Hp → Prop) (O : EK → PyData → Prop) : Prop := ∀ H, Same S H → (∀ k g, O k g → XErr X.K k g S H E) → ∀ Q : VK, (∀ v S1 H1, Gr S H S1 H1 → P v S1 → Q v H1) → HE X e σ H Q
/-- a promise with both ends -/
def SpO (K : PySem.W.Frag) (sp : Sp) (S : Hp) (Ps : List (V → Hp → Prop)) (P : V → Hp → Prop) (O : EK → PyData → Prop) : Prop := ∀ vs S1 H1, Same S S1 → Same S1 H1 → Al Ps vs S1 → ∀ (Q : VK) (E : XK), (∀ v S2 H2, Gr S1 H1 S2 H2 → P v S2 → Q v H2) → (∀ k g, O k g → XErr K k g S1 H1 E) → sp vs H1 Q E
def O1 (k : EK) (g : PyData) : EK → PyData → Prop := fun k' g' => k' = k ∧ g' = g
structure KDX (P : Program) (w : World) (K : PySem.W.Frag) (mg : Str → Option Value) (base : Heap) (x : Str) (k : Nat) (sp : Sp) : Prop where
  ex : ∃ f fd ps, FnOk P w K mg base (L2.CX P w) k f fd ps sp ∧ mg x = some (.ref f) ∧ PySem.W.keepIn K (.ref f) = true ∧ Binds K fd ps []
/-- what the __init__ of an own class promises when it raises -/
def spXI' (C : Addr) (K : PySem.W.Frag) (G : List V → Hp → EK → PyData → Prop) : Sp := fun vs H _ E => ∃ S a dx ws k g, vs = .ref a :: ws ∧ Same S H ∧ S a = none ∧ H a = some (.ins C dx []) ∧ G ws S k g ∧ XErr K k g S H E
section
variable {X : Cx} {σ : L2.St} {S S' H : Hp} {e a b c o : Expr} {es : List Expr} {P Pa Pb P0 P1 R : V → Hp → Prop} {Ps : List (V → Hp → Prop)} {pos p apos pos2 kpos : Pos} {k : Nat} {x m f kn : Str} {sp : Sp} {C : Addr} {D : Ends} {rest : List Stmt} {O : EK → PyData → Prop} {E : XK} {op : Operator}
theorem ER.imp (h : ER X E σ S e P O) (f : ∀ v S', P v S' → R v S') : ER X E σ S e R O := fun H s hx Q q => h H s hx Q fun v S1 H1 g p => q v S1 H1 g (f v S1 p)
theorem ER.up (h : ER X E σ S e P O) (s : Same S S') (hk : ∀ H, Same S' H → (∀ k g, O k g → XErr X.K k g S' H E) → ∀ k g, O k g → XErr X.K k g S H E) (hq : ∀ v S1 H1 H, Same S' H → Gr S H S1 H1 → P v S1 → ∃ S2, Gr S' H S2 H1 ∧ P v S2) : ER X E σ S' e P O := fun H s' hx Q q => h H (s.trans s') (hk H s' hx) Q fun v S1 H1 g p => let ⟨S2, g2, p2⟩ := hq v S1 H1 H s' g p; q v S2 H1 g2 p2
/-- f(e, ..) -/
theorem er_call (tk : Takes X (fun cls d _ H => E cls d H)) (D1 : KDX X.prog X.w X.K X.mg X.base x k sp) (hr : Room k X.A) (ha : EA X σ S (e :: es) Ps) (hsp : SpO X.K sp S Ps P O) (hg : Gl X x := by rfl) (hdb : (x == ("__debug__" : Str)) = false := by decide)
    (he : starEach (e :: es) X.env = (false, eval e X.env) :: starEach es X.env := by rfl) (hpl : (backTo pos (starEach es X.env)).any (·.1) = false := by rfl) : ER X E σ S (.Call (.Name x p) (e :: es) [] pos) P O := fun H s hx Q q => by
  obtain ⟨f, fd, ps, F, hm, hk, hb⟩ := D1.ex
  refine he_of (pe_call F hr hg hm hk hb .nil (passes_call tk fun _ _ _ _ h => h) pab hdb he hpl) (ha.2 H s _ fun vs S1 H1 g1 al => ?_)
  rw [List.append_nil]
  exact hsp vs S1 H1 g1.st g1.sub al Q E (fun v S2 H2 g2 pv => q v S2 H2 (g1.trans g2) pv) fun k g o => (hx k g o).up g1
/-- C(e, ..), where __init__ raises -/
theorem er_make {f : Addr} {fd : FuncData} {ps : List Str} {us : List Value} {dvs : List V} {Pd : List (V → Hp → Prop)} {G : List V → Hp → EK → PyData → Prop} (tk : Takes X (fun cls d _ H => E cls d H)) (M : Mk X.K C f) (F : FnOk X.prog X.w X.K X.mg X.base (L2.CX X.prog X.w) k f fd ps (spXI' C X.K G)) (hr : Room (k + 1) X.A) (hm : X.mg x = some (.ref C)) (hb : Binds X.K fd ps us) (hd : Vals dvs us) (ha : EA X σ S (e :: es) Ps)
    (hG : ∀ ws S1, Same S S1 → Al Ps ws S1 → ∃ k g, G (ws ++ dvs) S1 k g ∧ O k g) (hg : Gl X x := by rfl) (hdb : (x == ("__debug__" : Str)) = false := by decide) (he : starEach (e :: es) X.env = (false, eval e X.env) :: starEach es X.env := by rfl) (hpl : (backTo pos (starEach es X.env)).any (·.1) = false := by rfl) : ER X E σ S (.Call (.Name x p) (e :: es) [] pos) R O := fun H s hx Q q =>
  he_of (pe_make M F hr hg hm hb hd (passes_call tk fun _ _ _ _ h => h) pab hdb he hpl) (ha.2 H s _ fun vs S1 H1 g1 al a dx h1 h2 h3 => by
    obtain ⟨k, g, hk, ho⟩ := hG vs S1 g1.st al
    have hst : Same H1 (upd (upd H1 dx (.own a)) a (.ins C dx [])) := (Same.new h2).trans (Same.new (by rw [upd_ne h3.symm]; exact h1))
    exact ⟨S1, a, dx, vs ++ dvs, k, g, rfl, g1.sub.trans hst, g1.sub.free h1, upd_same, hk, ((hx k g ho).up g1).wide hst⟩)
/-! ### statements -/
theorem hs_exprX (h : ER X E σ S e P O) (s : Same S H) (hx : ∀ k g, O k g → XErr X.K k g S H E) (q : ∀ v S' H', Gr S H S' H' → P v S' → HS X D rest σ H') (hs : swapsWith e none pos.line X.env = pure false := by rfl) : HS X D (.Expr e pos :: rest) σ H := hs_cons (ps_expr peb hs) (h H s hx _ q)
/-- raise C(e) -/
theorem hs_raiseX {ke : EK} {fname : Str} {G : PyData → Prop} (hc : X.calm = true) (tk : Takes X (fun cls d _ H => E cls d H)) (R : Err X.prog X.w X.K X.mg X.base x ke.C fname ke.code) (hfn : ke.fn = some fname) (hne : fname ≠ "code") (hr : Room 2 X.A) (ha : EE X σ S e (Ex X.K G)) (s : Same S H) (hx : ∀ g, G g → XErr X.K ke g S H E) (hg : Gl X x := by rfl)
    (hdb : (x == ("__debug__" : Str)) = false := by decide) (he : starEach [e] X.env = (false, eval e X.env) :: starEach [] X.env := by rfl) (hpl : (backTo pos (starEach [] X.env)).any (·.1) = false := by rfl) : HS X D (.Raise (some (.Call (.Name x p) [e] [] pos)) none pos2 :: rest) σ H :=
  hs_raiseO hc tk R hr ha s (fun v S1 H1 d H3 gr ⟨g, hgg, pv⟩ hd h1 h2 => by
    have n1 : S1 d = none := gr.sub.free hd
    refine hx g hgg d _ (upd S1 d (.xd [("code", .str ke.code), (fname, v)])) H3 ⟨gr.st.trans (Same.new n1), h1, gr.hh.trans h2, fun a o ha m => (upd_ne (ne_of_none ha (gr.hh.free hd))).trans (gr.old a o ha m)⟩ (gr.hh.free hd) upd_same rfl (fun z => by rw [hfn] at z; cases z) fun y hy => ?_
    rw [hfn] at hy
    cases hy
    refine ⟨v, ?_, pv.up (Same.new n1)⟩
    show (([("code", V.str ke.code), (fname, v)] : List (Str × V)).lookup fname) = some v
    have e1 : (fname == ("code" : Str)) = false := by simpa using hne
    simp [List.lookup, e1]) hg hdb he hpl
theorem hs_raise1 {ke : EK} {fname : Str} {g : PyData} (hc : X.calm = true) (tk : Takes X (fun cls d _ H => E cls d H)) (R : Err X.prog X.w X.K X.mg X.base x ke.C fname ke.code) (hfn : ke.fn = some fname) (hne : fname ≠ "code") (hr : Room 2 X.A) (ha : EE X σ S e (Dt X.K g)) (s : Same S H) (hx : XErr X.K ke g S H E) (hg : Gl X x := by rfl)
    (hdb : (x == ("__debug__" : Str)) = false := by decide) (he : starEach [e] X.env = (false, eval e X.env) :: starEach [] X.env := by rfl) (hpl : (backTo pos (starEach [] X.env)).any (·.1) = false := by rfl) : HS X D (.Raise (some (.Call (.Name x p) [e] [] pos)) none pos2 :: rest) σ H :=
  hs_raiseX (G := fun d => d = g) hc tk R hfn hne hr (ha.ex rfl) s (fun g' e => by subst e; exact hx) hg hdb he hpl
end
/-! ### kept lambdas that may raise -/
def spAsk (K : PySem.W.Frag) (W : List (Option V) → Hp → Prop) (P : V → Hp → Prop) (O : EK → PyData → Prop) : List (Option V) → Hp → VK → XK → Prop := fun ws H Q E => ∃ S, Same S H ∧ W ws S ∧ (∀ v S1 H1, Gr S H S1 H1 → P v S1 → Q v H1) ∧ ∀ k g, O k g → XErr K k g S H E
theorem lok_ask {P : Program} {w : World} {K : PySem.W.Frag} {mg : Str → Option Value} {base : Heap} {N ps fr : List Str} {F : LF} {f : Addr} {k : Nat} {dvs : List V} {W : List (Option V) → Hp → Prop} {Pv : V → Hp → Prop} {O : EK → PyData → Prop} (Sc : NScope N ps fr F.scope) (hB : LBind F ps) (hl : dvs.length = ps.length)
    (h : ∀ (A : Around) (outer : List Env) (s : Shared) (H : Hp) (ws : List (Option V)) (E : XK) (S : Hp), Room k (A.deeper (envF F.nf f s.heap.objs.size)) → ws.length = fr.length → W ws S → Takes (ncx (L2.CX P w) P w K mg base N F.nf f A outer s H E) (fun cls d _ H => E cls d H) → ER (ncx (L2.CX P w) P w K mg base N F.nf f A outer s H E) E (startF N dvs ws) S F.body Pv O) : LOk P w K mg base (L2.CX P w) (k + 1) f F fr dvs (spAsk K W Pv O) :=
  lok_of Sc hB hl fun A outer s H ws Q E hr hlen ⟨S, sS, hw, hq, hx⟩ => h A outer s H ws E S hr hlen hw (takes_of rfl rfl rfl rfl) H sS hx Q hq
end Y
namespace Y
open PySem PySem.Spec PyProof.Rows L2 Z
/-! ## staticmethods that may raise (after Y45, Y46) -/
section
end
section
end
end Y
namespace Y
open PySem PySem.Spec PyProof.Rows L2 L2H Z LamX NdefX
/-! ## what a caught error keeps: any kind -/
def fldAt : List Str := ["InvalidSystem", "InvalidFact", "InvalidFactor", "InvalidGroup", "InvalidClaim", "InvalidSums", "InvalidDeed", "InvalidCommand", "WrongSchema", "TooHigh", "EqualSums"]
def fldNm : List Str := ["InvalidName", "WrongKind", "DuplicateName", "UnknownName"]
def fldNo : List Str := ["InvalidText", "Boundless", "NoTable", "NotThere", "Empty", "NothingLeft"]
/-- the attribute that is read of an error with a code -/
def fieldOf (c : Str) : Option Str := if (fldAt.any fun m => decide (m = c)) = true then some "at" else if (fldNm.any fun m => decide (m = c)) = true then some "name" else if (fldNo.any fun m => decide (m = c)) = true then none else if decide (c = "InvalidPage") = true then some "line" else if decide (c = "WrongWidth") = true then some "width" else if decide (c = "TooMany") = true then some "most" else if decide (c = "Full") = true then some "limit" else some "given"
/-- what a kind of error must tell to be caught and read -/
structure KOk (K : PySem.W.Frag) (tup : List Value) (k : EK) : Prop where
  T : XfC K k.C
  cd : PySem.W.findIn K (.ref k.C) "code" = some none
  at_ : ∀ x, k.fn = some x → PySem.W.findIn K (.ref k.C) x = some none
  ex : PySem.W.exmAny K (.ref k.C) tup = some true
  fld : k.fn = fieldOf k.code
  nt : decide (k.code = "Tight") = false
  nb : decide (k.code = "BrokenClaim") = false
/-- the pinned exception is of the kind k, and keeps g -/
def ExcG (K : PySem.W.Frag) (k : EK) (g : PyData) (p : Addr × Obj) (S : Hp) : Prop := ∃ (dd : Addr) (fs : List (Str × V)), p.2.cls = .ref k.C ∧ p.2.dict = some dd ∧ (∃ vs, p.2.data = .fields vs) ∧ S dd = some (.xd fs) ∧ fs.lookup ("code" : Str) = some (V.str k.code) ∧ (k.fn = none → g = .none) ∧ ∀ x, k.fn = some x → ∃ v, fs.lookup x = some v ∧ Dt K g v S
theorem ExcG.up {K : PySem.W.Frag} {k : EK} {g : PyData} {p : Addr × Obj} {S S' : Hp} (h : ExcG K k g p S) (s : Same S S') : ExcG K k g p S' := by
  obtain ⟨dd, fs, h1, h2, h3, h4, h5, h6, h7⟩ := h
  exact ⟨dd, fs, h1, h2, h3, s _ _ h4, h5, h6, fun x hx => let ⟨v, a, b⟩ := h7 x hx; ⟨v, a, b.up s⟩⟩
section
variable {X : Cx} {σ : L2.St} {S : Hp} {e : Expr} {pos : Pos} {k : EK} {g : PyData} {p : Addr × Obj} {tup : List Value} {x : Str}
theorem ee_codeG (hp : p ∈ X.pn) (px : ExcG X.K k g p S) (ok : KOk X.K tup k) (he : EE X σ S e (fun w _ => w = .ref p.1)) (hb : attributeBase e "code" X.env (eval e X.env) = eval e X.env := by rfl) : EE X σ S (.Attribute e "code" pos) (Dt X.K (.str k.code)) := by
  obtain ⟨dd, fs, h1, h2, h3, h4, h5, _⟩ := px
  exact ee_xfP hp h1 h2 h3 ok.T ok.cd he h4 h5 (.str _) hb
theorem ee_keptG (hp : p ∈ X.pn) (px : ExcG X.K k g p S) (ok : KOk X.K tup k) (hx : k.fn = some x) (he : EE X σ S e (fun w _ => w = .ref p.1)) (hb : attributeBase e x X.env (eval e X.env) = eval e X.env := by rfl) : EE X σ S (.Attribute e x pos) (Dt X.K g) := by
  obtain ⟨dd, fs, h1, h2, h3, h4, _, _, h7⟩ := px
  obtain ⟨v, h8, h9⟩ := h7 x hx
  exact ee_xfP hp h1 h2 h3 ok.T (ok.at_ x hx) he h4 h8 h9 hb
end
def spFieldG (K : PySem.W.Frag) (tup : List Value) (p : Addr × Obj) (vs : List V) (H : Hp) (Q : VK) : Prop := ∃ S k g, Same S H ∧ vs = [.ref p.1] ∧ KOk K tup k ∧ ExcG K k g p S ∧ ∀ v S1 H1, Gr S H S1 H1 → Dt K g v S1 → Q v H1
section
variable {P : Program} {w : World} {K : PySem.W.Frag} {mg : Str → Option Value} {base : Heap}
/-- what an ask's answer is: its value, or the code and what the error keeps -/
def RtD (Od : PyData → Prop) (O : EK → PyData → Prop) (r : PyData) : Prop := (∃ d, Od d ∧ r = .tuple [.str "", d]) ∨ ∃ k g, O k g ∧ r = .tuple [.str k.code, g]
def spTry (P : Program) (w : World) (K : PySem.W.Frag) (mg : Str → Option Value) (base : Heap) (tup : List Value) (k : Nat) : Sp := fun vs H Q _ => ∃ S f F fr dvs ws L sp Od O, vs = [.ref f] ∧ LOk P w K mg base (L2.CX P w) k f F fr dvs sp ∧ Kept F f fr dvs ws L H ∧ Same S (delL H L) ∧ (∀ e g, O e g → KOk K tup e) ∧
  (∀ Q' E', (∀ v S1 H1, Gr S (delL H L) S1 H1 → Ex K Od v S1 → Q' v H1) → (∀ e g, O e g → XErr K e g S (delL H L) E') → sp ws (delL H L) Q' E') ∧ ∀ w S1 H1, Gr S H S1 H1 → Ex K (RtD Od O) w S1 → Q w H1
/-- an ask: a kept lambda with what it may answer -/
structure AskI (P : Program) (w : World) (K : PySem.W.Frag) (mg : Str → Option Value) (base : Heap) (tup : List Value) (k : Nat) where
  Od : PyData → Prop
  O : EK → PyData → Prop
  f : Addr
  F : LF
  fr : List Str
  dvs : List V
  ws : List (Option V)
  L : List (Addr × Obj)
  sp : List (Option V) → Hp → VK → XK → Prop
  S0 : Hp
  lok : LOk P w K mg base (L2.CX P w) k f F fr dvs sp
  ok : ∀ e g, O e g → KOk K tup e
  hR : ∀ S2 H2 Q' E', Same S0 S2 → Same S2 H2 → (∀ v S1 H1, Gr S2 H2 S1 H1 → Ex K Od v S1 → Q' v H1) → (∀ e g, O e g → XErr K e g S2 H2 E') → sp ws H2 Q' E'
def AskJ {tup : List Value} {k : Nat} (it : AskI P w K mg base tup k) (v : V) (S : Hp) : Prop := v = .ref it.f ∧ Kept it.F it.f it.fr it.dvs it.ws it.L S ∧ Same it.S0 (delL S it.L)
theorem delL_mono : ∀ {L : List (Addr × Obj)} {S S' : Hp}, Same S S' → Same (delL S L) (delL S' L)
  | [], _, _, s => s
  | p :: L, S, S', s => delL_mono (L := L) (S := L2.del S p.1) (S' := L2.del S' p.1) fun b o e => by
      by_cases hb : b = p.1
      · rw [hb, L2.del_same] at e; cases e
      · rw [L2.del_ne hb] at e ⊢; exact s b o e
theorem shownL_sub {L : List (Addr × Obj)} {S : Hp} (h : ∀ p ∈ L, S p.1 = none) : Same S (shownL S L) := fun b o e => by
  have hb : b ∉ L.map (·.1) := fun z => by
    obtain ⟨p, hp, rfl⟩ := List.mem_map.mp z
    rw [h p hp] at e; cases e
  exact (shownL_ne hb).trans e
instance askMn {tup : List Value} {k : Nat} {it : AskI P w K mg base tup k} : Mn (AskJ it) := ⟨fun s ⟨h1, h2, h3⟩ => ⟨h1, h2.ext s, h3.trans (delL_mono s)⟩⟩
theorem try_E {tup : List Value} {k : Nat} {S : Hp} (it : AskI P w K mg base tup k) : SpE (spTry P w K mg base tup k) S [AskJ it] (Ex K (RtD it.Od it.O)) := fun vs S1 H1 _ s al Q q => by
  obtain ⟨v, rfl, pv⟩ := al.one
  obtain ⟨rfl, KH, s0⟩ := pv
  refine ⟨delL S1 it.L, it.f, it.F, it.fr, it.dvs, it.ws, it.L, it.sp, it.Od, it.O, rfl, it.lok, KH.ext s, delL_mono s, it.ok, fun Q' E' hq hx => it.hR _ _ Q' E' s0 (delL_mono s) hq hx, fun w S2 H2 g2 ⟨d, hd, pw⟩ => q w _ H2 (Y.Gr.under s KH.shw KH.nd g2) ⟨d, hd, pw.up (shownL_sub fun p hp => ?_)⟩⟩
  rw [g2.old _ _ (s _ _ (KH.shw p hp)) (fun _ z => nomatch z)]
  exact delL_mem (List.mem_map_of_mem hp)
/-- _law_tries -/
def spTries (P : Program) (w : World) (K : PySem.W.Frag) (mg : Str → Option Value) (base : Heap) (tup : List Value) (k : Nat) : Sp := fun vs H Q _ => ∃ (S : Hp) (its : List (AskI P w K mg base tup k)) (l : V), Same S H ∧ vs = [l] ∧ LstP (its.map AskJ) l S ∧ its.length ≤ 1000 ∧ ∀ u S1 H1, Gr S H S1 H1 → (∃ rs, Paired (fun it r => RtD it.Od it.O r) its rs ∧ Dt K (.list rs) u S1) → Q u H1
end
/-! ## lambdas in a list -/
def LamF (e : Expr) (qual : Str) (cells : List (Str × Addr)) (c : Addr) (dT : Option Addr) : LF := match e with
  | .Lambda params body scope _ => ⟨qual, params, body, scope, cloFrom cells scope.names [], c, dT⟩
  | e => ⟨qual, default, e, default, [], c, dT⟩
def LamSc (e : Expr) : Scope := match e with
  | .Lambda _ _ s _ => s
  | _ => default
/-- the lambda at f, in a state -/
def AskS (F : LF) (f : Addr) (dvs : List V) (S : Hp) : Prop := S f = some (LamO f F) ∧ S F.c = some (CodeO F.c F.qual) ∧ LDef F dvs S
theorem AskS.up {F : LF} {f : Addr} {dvs : List V} {S S' : Hp} (h : AskS F f dvs S) (s : Same S S') : AskS F f dvs S' := ⟨s _ _ h.1, s _ _ h.2.1, ⟨h.2.2.1, fun T e => s _ _ (h.2.2.2 T e)⟩⟩
theorem extN_trans {H1 H2 H3 : Hp} (a : ExtN H1 H2) (b : ExtN H2 H3) : ExtN H1 H3 := fun x o e n => b x o (a x o e n) n
theorem extN_new {H : Hp} {p : Addr} {o : HO} (h : H p = none) : ExtN H (upd H p o) := fun b u e _ => (upd_ne (ne_of_none e h)).trans e
theorem extN_refl {H : Hp} : ExtN H H := fun _ _ e _ => e
theorem codeO_ne' {c : Addr} {q : Str} (ps : Array Value) : CodeO c q ≠ .tbl ps := fun z => by unfold CodeO at z; cases z
theorem AskS.ext {F : LF} {f : Addr} {dvs : List V} {H H' : Hp} (h : AskS F f dvs H) (s : ExtN H H') : AskS F f dvs H' := ⟨s _ _ h.1 lamO_ne, s _ _ h.2.1 codeO_ne', ⟨h.2.2.1, fun T e => s _ _ (h.2.2.2 T e) (fun _ z => nomatch z)⟩⟩
theorem AskS.noTab {F : LF} {f : Addr} {dvs : List V} {H : Hp} (h : AskS F f dvs H) : AskS F f dvs (Y.noTab H) := ⟨noTab_at h.1 lamO_ne, noTab_at h.2.1 codeO_ne', ⟨h.2.2.1, fun T e => noTab_at (h.2.2.2 T e) (fun _ z => nomatch z)⟩⟩
/-- v is the lambda e (b: it has a default) -/
def AskE (cells : List (Str × Addr)) (q : Str) (e : Expr) (b : Bool) (v : V) (S : Hp) : Prop := ∃ f c dT, v = .ref f ∧ (b = false → dT = none) ∧ (b = true → ∃ T, dT = some T) ∧ AskS (LamF e q cells c dT) f (if b = true then [.int 0] else []) S
theorem AskE.ext {cells : List (Str × Addr)} {q : Str} {e : Expr} {b : Bool} {v : V} {H H' : Hp} (h : AskE cells q e b v H) (s : ExtN H H') : AskE cells q e b v H' := let ⟨f, c, dT, h1, h2, h3, h4⟩ := h; ⟨f, c, dT, h1, h2, h3, h4.ext s⟩
theorem AskE.noTab {cells : List (Str × Addr)} {q : Str} {e : Expr} {b : Bool} {v : V} {H : Hp} (h : AskE cells q e b v H) : AskE cells q e b v (Y.noTab H) := let ⟨f, c, dT, h1, h2, h3, h4⟩ := h; ⟨f, c, dT, h1, h2, h3, h4.noTab⟩
instance {cells : List (Str × Addr)} {q : Str} {e : Expr} {b : Bool} : Mn (AskE cells q e b) := ⟨fun s ⟨f, c, dT, h1, h2, h3, h4⟩ => ⟨f, c, dT, h1, h2, h3, h4.up s⟩⟩
abbrev AskEs (cells : List (Str × Addr)) (q : Str) (es : List (Expr × Bool)) : List (V → Hp → Prop) := es.map fun p => AskE cells q p.1 p.2
theorem askEs_ext {cells : List (Str × Addr)} {q : Str} {H H' : Hp} (s : ExtN H H') : ∀ {es : List (Expr × Bool)} {vs : List V}, Al (AskEs cells q es) vs H → Al (AskEs cells q es) vs H'
  | [], _, h => by cases h; exact .nil
  | _ :: _, _, h => by cases h with | cons a t => exact .cons (a.ext s) (askEs_ext s t)
theorem askEs_noTab {cells : List (Str × Addr)} {q : Str} {H : Hp} : ∀ {es : List (Expr × Bool)} {vs : List V}, Al (AskEs cells q es) vs H → Al (AskEs cells q es) vs (Y.noTab H)
  | [], _, h => by cases h; exact .nil
  | _ :: _, _, h => by cases h with | cons a t => exact .cons a.noTab (askEs_noTab t)
theorem askEs_up {cells : List (Str × Addr)} {q : Str} {H H' : Hp} (s : Same H H') : ∀ {es : List (Expr × Bool)} {vs : List V}, Al (AskEs cells q es) vs H → Al (AskEs cells q es) vs H'
  | [], _, h => by cases h; exact .nil
  | _ :: _, _, h => by cases h with | cons a t => exact .cons (Mn.up s a) (askEs_up s t)
theorem al_app {Ps Qs : List (V → Hp → Prop)} {vs ws : List V} {S : Hp} (h : Al Ps vs S) (g : Al Qs ws S) : Al (Ps ++ Qs) (vs ++ ws) S := by
  induction h with
  | nil => exact g
  | cons p _ ih => exact .cons p (ih g)
theorem ldef0 {F : LF} {H : Hp} (h : F.dT = none) : LDef F [] H := ⟨fun _ => rfl, fun T e => (by rw [h] at e; cases e)⟩
theorem ldef1 {F : LF} {H : Hp} {T : Addr} {dvs : List V} (h : F.dT = some T) (e : H T = some (.tup dvs)) : LDef F dvs H := ⟨fun q => (by rw [h] at q; cases q), fun T' q => (by rw [h] at q; cases q; exact e)⟩
/-- what is asked of a lambda's expression -/
structure LamOk (X : Cx) (e : Expr) (b : Bool) : Prop where
  ex : ∃ params body scope pos, e = .Lambda params body scope pos ∧ (∀ y ∈ scope.names, y.2 = .free → X.env.scope.names.lookup y.1 = some .cell ∨ X.env.scope.names.lookup y.1 = some .free) ∧ (b = false → defaultsOf params X.env = ([], [])) ∧ (b = true → ∃ p0 k0, defaultsOf params X.env = ([eval (.Constant (.int 0) k0 p0) X.env], []))
/-- the law's code table is told -/
structure TabU (X : Cx) (c Pt : Addr) (q : Str) : Prop where
  tab : TabB X.base X.mg c Pt
  code : X.env.code = .ref c
  qual : X.env.qual ++ "<lambda>" = q
abbrev TabQ (Pt : Addr) (q : Str) : List NTab := [(Pt, fun _ _ => q)]
section
variable {X : Cx} {σ : L2.St} {H : Hp} {c Pt : Addr} {q : Str} {D : Ends} {rest : List Stmt}
theorem he_lamE {e : Expr} {b : Bool} (U : TabU X c Pt q) (hT : TabsN (TabQ Pt q) H) (ok : LamOk X e b) {Q : VK} (h : ∀ v H1, ExtN H H1 → TabsN (TabQ Pt q) H1 → AskE X.env.cells q e b v H1 → Q v H1) : HE X e σ H Q := by
  obtain ⟨params, body, scope, pos, rfl, hf, h0, h1⟩ := ok.ex
  have hu : ∀ p ∈ TabQ Pt q, p.1 = Pt → p.2 = fun _ _ => q := fun p hp _ => by rw [List.mem_singleton.mp hp]
  have hm : (Pt, fun _ _ => q) ∈ TabQ Pt q := List.mem_singleton.mpr rfl
  cases b with
  | false =>
    refine he_lam0 U.tab U.code hm U.qual.symm hu hT hf (h0 rfl) fun f c' H1 M => h _ _ M.ext M.tabs ⟨f, c', none, rfl, fun _ => rfl, (fun z => by cases z), ?_⟩
    have e1 := M.lam
    have e2 := M.code
    rw [U.qual] at e1 e2
    exact ⟨e1, e2, ldef0 rfl⟩
  | true =>
    obtain ⟨p0, k0, hd⟩ := h1 rfl
    refine he_lam1 U.tab U.code hm U.qual.symm hu hf hd (he_of pe_int ⟨hT, fun T hT2 f c' H1 M => h _ _ (extN_trans (extN_new hT2) M.ext) M.tabs ⟨f, c', some T, rfl, (fun z => by cases z), fun _ => ⟨T, rfl⟩, ?_⟩⟩)
    have e1 := M.lam
    have e2 := M.code
    rw [U.qual] at e1 e2
    exact ⟨e1, e2, ldef1 rfl (M.ext _ _ upd_same (fun _ z => nomatch z))⟩
theorem ha_lams (U : TabU X c Pt q) : ∀ {es : List (Expr × Bool)} {H : Hp}, TabsN (TabQ Pt q) H → (∀ p ∈ es, LamOk X p.1 p.2) → ∀ {Q : List V → Hp → Prop}, (∀ vs H1, ExtN H H1 → TabsN (TabQ Pt q) H1 → Al (AskEs X.env.cells q es) vs H1 → Q vs H1) → HA X (es.map (·.1)) σ H Q
  | [], H, hT, _, Q, h => ha_of pa_nil (h [] H extN_refl hT .nil)
  | p :: es, H, hT, ok, Q, h => by
    have hs : starEach ((p :: es).map (·.1)) X.env = (false, eval p.1 X.env) :: starEach (es.map (·.1)) X.env := by
      obtain ⟨params, body, scope, pos, e, _⟩ := (ok p List.mem_cons_self).ex
      obtain ⟨p1, p2⟩ := p
      cases e
      rfl
    refine ha_of (pa_cons (te := bE X p.1) (t := bA X (es.map (·.1))) peb pab hs) (he_lamE U hT (ok p List.mem_cons_self) fun v H1 x1 hT1 a => ?_)
    exact ha_lams U hT1 (fun p' hp => ok p' (List.mem_cons_of_mem _ hp)) fun vs H2 x2 hT2 al => h (v :: vs) H2 (extN_trans x1 x2) hT2 (.cons (a.ext x2) al)
/-- name = [lambda .., ..] -/
theorem hs_asks {es : List (Expr × Bool)} {i : Nat} {x : Str} {pos' pos pl : Pos} (U : TabU X c Pt q) (hN : X.N.Nodup) (hT : TabsN (TabQ Pt q) H) (ok : ∀ p ∈ es, LamOk X p.1 p.2) (hz : es.length ≤ 1000)
    (nx : ∀ l vs Hf, ExtN H Hf → TabsN (TabQ Pt q) Hf → Al (AskEs X.env.cells q es) vs (Y.noTab Hf) → Y.noTab Hf l = some (.lst vs) → HS X D rest (σ.set i (some (.ref l))) Hf) (hi : X.N[i]? = some x := by rfl) (hx : Loc X.env.scope x := by first | exact Or.inl rfl | exact Or.inr rfl)
    (hs : swapsWith (.List (es.map (·.1)) pl) (some (.Name x pos')) pos.line X.env = pure false := by rfl) (hf : X.fn x = true ∨ X.env.scope.names.lookup x = some .local := by first | exact .inl rfl | exact .inr rfl | assumption) : HS X D (.Assign [.Name x pos'] (.List (es.map (·.1)) pl) pos :: rest) σ H := by
  refine hs_cons (ps_set hN hi hx (pe_lst pab) hs hf) (ha_lams U hT ok fun vs H1 x1 hT1 al => ⟨?_, fun l hl => ?_⟩)
  · rw [al_len al, List.length_map]; show _ ≤ 16777216; omega
  · have x2 : ExtN H1 (upd H1 l (.lst vs)) := extN_new hl
    exact nx l vs _ (extN_trans x1 x2) (hT1.ext fun b o e => (upd_ne (ne_of_none e hl)).trans e) (askEs_noTab (askEs_ext x2 al)) (noTab_at upd_same (fun _ z => nomatch z))
/-- name = name + [lambda .., ..] -/
theorem hs_asksMore {es es0 : List (Expr × Bool)} {i l0 : Nat} {vs0 : List V} {x : Str} {pos' pos pl p1 p2 : Pos} (U : TabU X c Pt q) (hN : X.N.Nodup) (hT : TabsN (TabQ Pt q) H) (ok : ∀ p ∈ es, LamOk X p.1 p.2) (hz : es0.length + es.length ≤ 1000) (h0 : Al (AskEs X.env.cells q es0) vs0 H) (hl0 : H l0 = some (.lst vs0)) (hv : σ[i]? = some (some (.ref l0)))
    (nx : ∀ l vs Hf, ExtN H Hf → TabsN (TabQ Pt q) Hf → Al (AskEs X.env.cells q (es0 ++ es)) vs (Y.noTab Hf) → Y.noTab Hf l = some (.lst vs) → HS X D rest (σ.set i (some (.ref l))) Hf) (hi : X.N[i]? = some x := by rfl) (hx : Loc X.env.scope x := by first | exact Or.inl rfl | exact Or.inr rfl) (hvis : Vis X.env.scope x := by first | exact Or.inl rfl | exact Or.inr (Or.inl rfl))
    (hd : (x == ("__debug__" : Str)) = false := by decide) (hcd : (x == ("__classdict__" : Str)) = false := by decide)
    (hs : swapsWith (.BinOp (.Name x p1) .Add (.List (es.map (·.1)) pl) p2) (some (.Name x pos')) pos.line X.env = pure false := by rfl) (hf : X.fn x = true ∨ X.env.scope.names.lookup x = some .local := by first | exact .inl rfl | exact .inr rfl | assumption) : HS X D (.Assign [.Name x pos'] (.BinOp (.Name x p1) .Add (.List (es.map (·.1)) pl) p2) pos :: rest) σ H := by
  refine hs_cons (ps_set hN hi hx (pe_op op_cat (pe_var (i := i) hi hvis hd hcd) (pe_lst pab)) hs hf) ⟨.ref l0, hv, ha_lams U hT ok fun vs H1 x1 hT1 al => ⟨?_, fun l hl => ?_⟩⟩
  · rw [al_len al, List.length_map]; show _ ≤ 16777216; omega
  · have x2 : ExtN H1 (upd H1 l (.lst vs)) := extN_new hl
    have hb : l ≠ l0 := fun e => by
      subst e
      have := x1 _ _ hl0 (fun _ z => nomatch z)
      rw [hl] at this; cases this
    have e0 : upd H1 l (.lst vs) l0 = some (.lst vs0) := (upd_ne hb.symm).trans (x1 _ _ hl0 (fun _ z => nomatch z))
    refine ⟨l0, l, vs0, vs, rfl, rfl, e0, upd_same, ?_, fun l2 hl2 => ?_⟩
    · rw [al_len h0, al_len al, List.length_map, List.length_map]; show _ ≤ 16777216; omega
    · have x3 : ExtN (upd H1 l (.lst vs)) (upd (upd H1 l (.lst vs)) l2 (.lst (vs0 ++ vs))) := extN_new hl2
      have x13 := extN_trans x1 (extN_trans x2 x3)
      refine nx l2 (vs0 ++ vs) _ x13 ((hT1.ext fun b o e => (upd_ne (ne_of_none e hl)).trans e).ext fun b o e => (upd_ne (ne_of_none e hl2)).trans e) ?_ (noTab_at upd_same (fun _ z => nomatch z))
      refine askEs_noTab ?_
      show Al ((es0 ++ es).map _) _ _
      rw [List.map_append]
      exact al_app (askEs_ext x13 h0) (askEs_ext (extN_trans x2 x3) al)
end
/-! ## a call to which the running frame's cells are shown -/
theorem exi_hideL {K : PySem.W.Frag} {F : PyData → Prop} {v : V} {L : List (Addr × Obj)} {S : Hp} (h : Ex K F v S) (e : ∀ p ∈ L, S p.1 = some (.frz p.2 Tr)) (nd : (L.map (·.1)).Nodup) : Ex K F v (delL S L) := let ⟨d, hd, pv⟩ := h; ⟨d, hd, dt_hideL pv e nd⟩
section
variable {X : Cx} {σ : L2.St} {S H : Hp} {e : Expr} {es : List Expr} {x : Str} {k : Nat} {sp : Sp} {p pos : Pos} {F : PyData → Prop} {Q : VK}
theorem he_callCells (xs : List Str) (hxs : xs.Nodup) (hk : ∀ y ∈ xs, X.env.scope.names.lookup y = some .cell ∧ X.fn y = true) (D : KD X.prog X.w X.K X.mg X.base x k sp) (hr : Room k X.A)
    (ha : HA X (e :: es) σ H fun vs H1 => ∃ S1, Same S1 H1 ∧ (X.Ok → ∀ L, CellsOf X σ xs L → (∀ p ∈ L, H1 p.1 = none) → ∀ Q' : VK, (∀ v S2 H2, Gr (Y.shownL S1 L) (Y.shownL H1 L) S2 H2 → Ex X.K F v S2 → Q' v H2) → sp vs (Y.shownL H1 L) Q' E0) ∧ ∀ v S2 H2, Gr S1 H1 S2 H2 → Ex X.K F v S2 → Q v H2)
    (hg : Gl X x := by rfl) (hdb : (x == ("__debug__" : Str)) = false := by decide) (he : starEach (e :: es) X.env = (false, eval e X.env) :: starEach es X.env := by rfl) (hpl : (backTo pos (starEach es X.env)).any (·.1) = false := by rfl) : HE X (.Call (.Name x p) (e :: es) [] pos) σ H Q := fun pins s0 I => by
  obtain ⟨f, fd, ps, F1, hm, hkp, hb⟩ := D.ex
  refine wpAny_Call_Name_kw (ld_glob I hg hm ?_ hdb)
  refine PySem.W.callWith_K (h₀ := X.base) I.ok.mod.kin hkp (thn (ha pos pins s0 I) fun us s1 ⟨vs, H1, I1, r, S1, s, hsp, q⟩ => ⟨I1.kIn, ?_⟩) he hpl
  obtain ⟨L, C, hsh⟩ := cells_show I1 hxs hk
  refine run_shown F1 hr hb .nil pass0 hides0 I1 r hsh C.nd ?_
  rw [List.append_nil]
  exact hsp I1.ok L C (fun p hp => (hsh p hp).no) _ fun v S2 H2 g2 pv => q v (delL S2 L) (delL H2 L) (gr_unshownL s (fun p hp => (hsh p hp).no) C.nd g2) (exi_hideL pv (fun p hp => g2.st _ _ (shownL_at hp C.nd)) C.nd)
end
theorem shownL_mono {L : List (Addr × Obj)} : ∀ {S H : Hp}, Same S H → Same (Y.shownL S L) (Y.shownL H L) := by
  induction L with
  | nil => intro S H s; exact s
  | cons q L ih => intro S H s; exact shown_same_sub (ih s)
theorem unshow_sub {L : List (Addr × Obj)} {S : Hp} (h : ∀ p ∈ L, S p.1 = none) : Same S (delL (Y.shownL S L) L) := fun b o e => by
  have hb : ∀ p ∈ L, p.1 ≠ b := fun p hp z => by rw [← z, h p hp] at e; cases e
  rw [delL_ne hb, shownL_ne (fun z => by obtain ⟨p, hp, q⟩ := List.mem_map.mp z; exact hb p hp q)]
  exact e
theorem clo_in {cells : List (Str × Addr)} {names : List (Str × NameKind)} {xs : List Str} (h : ∀ y ∈ names, y.2 = .free → y.1 ∈ xs) {y : Str} {c : Addr} (e : (cloFrom cells names []).lookup y = some c) : y ∈ xs := by
  rcases cloFrom_mem (PySem.mem_of_lookup e) with hm | ⟨h1, _⟩
  · cases hm
  · exact h _ h1 rfl
theorem kept_of {F : LF} {g : Addr} {fr : List Str} {dvs : List V} {ws : List (Option V)} {L : List (Addr × Obj)} {S : Hp} (h : AskS F g dvs S) (s : Same S (Y.shownL S L)) (nd : (L.map (·.1)).Nodup) (cl : CellsL F.cl fr ws L) : Kept F g fr dvs ws L (Y.shownL S L) :=
  ⟨s _ _ h.1, s _ _ h.2.1, ⟨h.2.2.1, fun T e => s _ _ (h.2.2.2 T e)⟩, fun p hp => shownL_at hp nd, nd, cl⟩
/-- an ask of the law: the lambda e, what its captured names hold, what it answers -/
structure AskC (X : Cx) (q : Str) (tup : List Value) (k : Nat) (σ : L2.St) (xs : List Str) (S : Hp) where
  e : Expr
  b : Bool
  fr : List Str
  js : List Nat
  Od : PyData → Prop
  O : EK → PyData → Prop
  W : List (Option V) → Hp → Prop
  lam : ∃ params body scope pos, e = .Lambda params body scope pos
  lok : ∀ f c dT, (b = false → dT = none) → (b = true → ∃ T, dT = some T) → LOk X.prog X.w X.K X.mg X.base (L2.CX X.prog X.w) k f (LamF e q X.env.cells c dT) fr (if b = true then [.int 0] else []) (spAsk X.K W (Ex X.K Od) O)
  free : ∀ y ∈ (LamSc e).names, y.2 = .free → X.env.scope.names.lookup y.1 = some .cell ∨ X.env.scope.names.lookup y.1 = some .free
  sub : ∀ y ∈ (LamSc e).names, y.2 = .free → y.1 ∈ xs
  hfr : ∀ y ∈ fr, (y, NameKind.free) ∈ (LamSc e).names
  hjs : js.map (fun j => X.N[j]?) = fr.map some
  ok : ∀ e g, O e g → KOk X.K tup e
  hW : ∀ S', Same S S' → W (js.map (slotAt σ)) S'
/-- a kept ask, from its description -/
theorem ask_mk {X : Cx} {q : Str} {tup : List Value} {k : Nat} {σ : L2.St} {xs : List Str} {S S1 : Hp} {L : List (Addr × Obj)} (ok : X.Ok) (Cs : CellsOf X σ xs L) (s0 : Same S S1) (hn : ∀ p ∈ L, S1 p.1 = none) (it : AskC X q tup k σ xs S) {v : V} (h : AskE X.env.cells q it.e it.b v S1) :
    ∃ i : AskI X.prog X.w X.K X.mg X.base tup k, i.Od = it.Od ∧ i.O = it.O ∧ AskJ i v (Y.shownL S1 L) := by
  obtain ⟨f, c, dT, rfl, h0, h1, ha⟩ := h
  have hS : Same S1 (Y.shownL S1 L) := shownL_sub hn
  have hU : Same S1 (delL (Y.shownL S1 L) L) := unshow_sub hn
  obtain ⟨params, body, scope, pos, he⟩ := it.lam
  have hcl : (LamF it.e q X.env.cells c dT).cl = cloFrom X.env.cells (LamSc it.e).names [] := by rw [he]; rfl
  have kc := cellsL_of (js := it.js) (fr := it.fr) (cl := (LamF it.e q X.env.cells c dT).cl) ok Cs (by rw [hcl]; exact Caps.made ok it.free it.hfr it.hjs) (fun y c' e => by rw [hcl] at e; exact clo_in it.sub e) (fun y hy => it.sub (y, .free) (it.hfr y hy) rfl)
  exact ⟨⟨it.Od, it.O, f, LamF it.e q X.env.cells c dT, it.fr, _, it.js.map (slotAt σ), L, spAsk X.K it.W (Ex X.K it.Od) it.O, S1, it.lok f c dT h0 h1, it.ok, fun S2 H2 Q' E' s02 s22 hq hx => ⟨S2, s22, it.hW S2 (s0.trans s02), hq, hx⟩⟩, rfl, rfl, rfl, kept_of ha hS Cs.nd kc, hU⟩
theorem asks_mk {X : Cx} {q : Str} {tup : List Value} {k : Nat} {σ : L2.St} {xs : List Str} {S S1 : Hp} {L : List (Addr × Obj)} (ok : X.Ok) (Cs : CellsOf X σ xs L) (s0 : Same S S1) (hn : ∀ p ∈ L, S1 p.1 = none) : ∀ (its : List (AskC X q tup k σ xs S)) {vs : List V}, Al (AskEs X.env.cells q (its.map fun it => (it.e, it.b))) vs S1 →
    ∃ is : List (AskI X.prog X.w X.K X.mg X.base tup k), is.map (fun i => (i.Od, i.O)) = its.map (fun i => (i.Od, i.O)) ∧ Al (is.map AskJ) vs (Y.shownL S1 L)
  | [], _, h => by cases h; exact ⟨[], rfl, .nil⟩
  | it :: its, _, h => by
    cases h with
    | cons a t =>
      obtain ⟨i, e1, e2, h1⟩ := ask_mk ok Cs s0 hn it a
      obtain ⟨is, e3, h2⟩ := asks_mk ok Cs s0 hn its t
      refine ⟨i :: is, ?_, .cons h1 h2⟩
      rw [List.map_cons, List.map_cons, e3, e1, e2]
theorem paired_pairs {α β : Type} {f : α → (PyData → Prop) × (EK → PyData → Prop)} {g : β → (PyData → Prop) × (EK → PyData → Prop)} : ∀ {xs : List α} {ys : List β} {rs : List PyData}, xs.map f = ys.map g → Paired (fun x r => RtD (f x).1 (f x).2 r) xs rs → Paired (fun y r => RtD (g y).1 (g y).2 r) ys rs
  | [], [], _, _, h => by cases h; exact .nil
  | [], _ :: _, _, e, _ => nomatch e
  | _ :: _, [], _, e, _ => nomatch e
  | x :: xs, y :: ys, _, e, h => by
    cases h with
    | cons a t =>
      rw [List.map_cons, List.map_cons] at e
      obtain ⟨e1, e2⟩ := List.cons.inj e
      exact .cons (by rw [← e1]; exact a) (paired_pairs e2 t)
section
variable {X : Cx} {σ : L2.St} {S H : Hp} {q : Str} {tup : List Value} {k : Nat} {xs : List Str} {x y : Str} {p p2 pos : Pos} {i : Nat} {l : Addr} {vs : List V}
/-- _law_tries(asks) -/
theorem ee_tries (hxs : xs.Nodup) (hk : ∀ y ∈ xs, X.env.scope.names.lookup y = some .cell ∧ X.fn y = true) (D : KD X.prog X.w X.K X.mg X.base x (k + 3) (spTries X.prog X.w X.K X.mg X.base tup k)) (hr : Room (k + 3) X.A) (its : List (AskC X q tup k σ xs S)) (hz : its.length ≤ 1000) (hv : σ[i]? = some (some (.ref l))) (hl : S l = some (.lst vs)) (al : Al (AskEs X.env.cells q (its.map fun it => (it.e, it.b))) vs S)
    (hi : X.N[i]? = some y := by rfl) (hvis : Vis X.env.scope y := by first | exact Or.inl rfl | exact Or.inr (Or.inl rfl)) (hd : (y == ("__debug__" : Str)) = false := by decide) (hcd : (y == ("__classdict__" : Str)) = false := by decide) (hg : Gl X x := by rfl) (hdb : (x == ("__debug__" : Str)) = false := by decide) (he : starEach [.Name y p2] X.env = (false, eval (.Name y p2) X.env) :: starEach [] X.env := by rfl) (hpl : (backTo pos (starEach [] X.env)).any (·.1) = false := by rfl) :
    EE X σ S (.Call (.Name x p) [.Name y p2] [] pos) (Ex X.K fun d => ∃ rs, d = .list rs ∧ Paired (fun (it : AskC X q tup k σ xs S) r => RtD it.Od it.O r) its rs) := fun H s Q qq => by
  refine he_callCells xs hxs hk D hr (F := fun d => ∃ rs, d = .list rs ∧ Paired (fun (it : AskC X q tup k σ xs S) r => RtD it.Od it.O r) its rs) (ha_of (pa_cons (te := bE X (.Name y p2)) (t := tNil) peb pa_nil he) (he_of (pe_var (i := i) hi hvis hd hcd) ⟨.ref l, hv, ?_⟩)) hg hdb he hpl
  refine ⟨S, s, fun ok L C hn Q' q' => ?_, fun v S2 H2 g pv => qq v S2 H2 g pv⟩
  obtain ⟨is, e, h2⟩ := asks_mk ok C (Same.refl S) (fun p hp => s.free (hn p hp)) its al
  refine ⟨Y.shownL S L, is, .ref l, shownL_mono s, rfl, ⟨l, vs, rfl, shownL_sub (fun p hp => s.free (hn p hp)) _ _ hl, h2⟩, ?_, fun u S1 H1 g ⟨rs, h3, h4⟩ => q' u S1 H1 g ⟨_, ⟨rs, rfl, paired_pairs e h3⟩, h4⟩⟩
  have := congrArg List.length e
  rw [List.length_map, List.length_map] at this
  rw [this]; exact hz
end
end Y
namespace Y
open PySem PySem.Spec PyProof.Rows L2 Z
/-! ## staticmethods def m(a, b, ..) of plain parameters, called x.m(e, ..) -/
section
end
end Y
namespace Y
open PySem PySem.Spec PyProof.Rows L2 L2H Z LamX NdefX
/-! ## what stays when cells and tables are hidden -/
def NF (o : HO) : Prop := (∀ x, o ≠ .frz x Tr) ∧ ∀ ps, o ≠ .tbl ps
def Les (S S' : Hp) : Prop := ∀ a o, S a = some o → NF o → S' a = some o
class Rb (P : V → Hp → Prop) : Prop where
  rb : ∀ {v : V} {S S' : Hp}, Les S S' → P v S → P v S'
theorem dt_rb {K : PySem.W.Frag} {d : PyData} {v : V} {S S' : Hp} (h : Dt K d v S) (e : Les S S') : Dt K d v S' := by
  induction h with
  | non => exact .non
  | bl b => exact .bl b
  | int i => exact .int i
  | str x => exact .str x
  | lst h l z _ ih => exact .lst (e _ _ h ⟨(fun _ z => nomatch z), (fun _ z => nomatch z)⟩) l z fun i x d hx hd => ih i x d hx hd e
  | tup h l z _ ih =>
    refine .tup ?_ l z fun i x d hx hd => ih i x d hx hd e
    rcases h with h | ⟨e0, (h | ⟨o', h⟩) | h⟩
    · exact .inl (e _ _ h ⟨(fun _ z => nomatch z), (fun _ z => nomatch z)⟩)
    · exact .inl (e _ _ h ⟨(fun _ z => nomatch z), (fun _ z => nomatch z)⟩)
    · exact .inr ⟨e0, .inl (.inr ⟨o', (e _ _ h ⟨(fun _ z => nomatch z), (fun _ z => nomatch z)⟩)⟩)⟩
    · exact .inr ⟨e0, .inr h⟩
instance {K : PySem.W.Frag} {d : PyData} : Rb (Dt K d) := ⟨fun e h => dt_rb h e⟩
instance {K : PySem.W.Frag} {F : PyData → Prop} : Rb (Ex K F) := ⟨fun e ⟨d, hd, h⟩ => ⟨d, hd, dt_rb h e⟩⟩
def NoV : V → Hp → Prop := fun _ _ => False
instance : Rb NoV := ⟨fun _ h => h⟩
instance : Mn NoV := ⟨fun _ h => h⟩
/-! ## asks whose answers need not be data -/
section
variable {P : Program} {w : World} {K : PySem.W.Frag} {mg : Str → Option Value} {base : Heap}
/-- an ask: a kept lambda with what it may answer -/
structure AskIV (P : Program) (w : World) (K : PySem.W.Frag) (mg : Str → Option Value) (base : Heap) (tup : List Value) (k : Nat) where
  R : V → Hp → Prop
  rb : Rb R
  O : EK → PyData → Prop
  f : Addr
  F : LF
  fr : List Str
  dvs : List V
  ws : List (Option V)
  L : List (Addr × Obj)
  sp : List (Option V) → Hp → VK → XK → Prop
  S0 : Hp
  lok : LOk P w K mg base (L2.CX P w) k f F fr dvs sp
  ok : ∀ e g, O e g → KOk K tup e
  hR : ∀ S2 H2 Q' E', Same S0 S2 → Same S2 H2 → (∀ v S1 H1, Gr S2 H2 S1 H1 → R v S1 → Q' v H1) → (∀ e g, O e g → XErr K e g S2 H2 E') → sp ws H2 Q' E'
def AskJV {tup : List Value} {k : Nat} (it : AskIV P w K mg base tup k) (v : V) (S : Hp) : Prop := v = .ref it.f ∧ Kept it.F it.f it.fr it.dvs it.ws it.L S ∧ Same it.S0 (delL S it.L)
instance askMnV {tup : List Value} {k : Nat} {it : AskIV P w K mg base tup k} : Mn (AskJV it) := ⟨fun s ⟨h1, h2, h3⟩ => ⟨h1, h2.ext s, h3.trans (delL_mono s)⟩⟩
end
/-! ## a list comprehension whose elements are of any kind -/
section
variable {α : Type} {R : α → V → Hp → Prop} {X : Cx} {σ : L2.St} {S : Hp} {elt tg iter : Expr} {ifs : List Expr} {scope : Scope} {own : List (Str × Nat)} {pos : Pos} {ds : List α} {G : α → V → Hp → Prop}
theorem al_map_up {ds : List α} (hG : ∀ d ∈ ds, Mn (G d)) {xs : List V} {S S' : Hp} (s : Same S S') (h : Al (ds.map G) xs S) : Al (ds.map G) xs S' := by
  induction ds generalizing xs with
  | nil => cases h; exact .nil
  | cons d ds ih =>
    rw [List.map_cons] at h ⊢
    cases h with
    | cons a t => exact .cons ((hG d List.mem_cons_self).up s a) (ih (fun x hx => hG x (List.mem_cons_of_mem _ hx)) t)
theorem al_snoc {Ps : List (V → Hp → Prop)} {P : V → Hp → Prop} {xs : List V} {x : V} {S : Hp} (h : Al Ps xs S) (p : P x S) : Al (Ps ++ [P]) (xs ++ [x]) S := by
  induction h with
  | nil => exact .cons p .nil
  | cons a _ ih => exact .cons a (ih p)
theorem lc_loopB (hG : ∀ d ∈ ds, Mn (G d)) (hz : ds.length ≤ sizeLine)
    (hel : ∀ d ∈ ds, ∀ v S', Same S S' → R d v S' → ∃ τ, wipe τ (own.map (·.2)) = wipe σ (own.map (·.2)) ∧ ∀ (s : Shared) (H0 : Hp) (C : Addr) (cl : List (Str × Addr)) (fp : List Addr),
      EG (X.blk s H0 scope (compEnvC scope cl C X.env) fp) S' tg v (wipe σ (own.map (·.2))) τ ∧ ETs (X.blk s H0 scope (compEnvC scope cl C X.env) fp) τ S' ifs true ∧ EE (X.blk s H0 scope (compEnvC scope cl C X.env) fp) τ S' elt (G d)) {H : Hp} (Q : VK) (q : ∀ v S' H', Gr S H S' H' → LstP (ds.map G) v S' → Q v H') {J : It} {S1 H1 : Hp} (g1 : Gr S H S1 H1) (it : ItP J S1 (ds.map R)) :
    ∀ D, H1 D = none → ∃ W : Nat → Nat → Hp → Prop, (∃ m, W 0 m (upd H1 D (.lst []))) ∧ ∀ i m H, W i m H →
      (J.stop i H ∧ Q (.ref D) H) ∨ (J.go i H ∧ ∃ Nx : Hp → Prop, (∀ H', Nx H' → ∃ m', m' < m ∧ W (i + 1) m' H') ∧ ∀ x H', J.yld i H x H' → gBlk X scope tg x (wipe σ (own.map (·.2))) H' fun σ2 H2 => wipe σ2 (own.map (·.2)) = wipe σ (own.map (·.2)) ∧ tBlk X scope ifs σ2 H2 fun b H3 =>
        if b = true then eBlk X scope elt σ2 H3 fun y H4 => ∃ acc, H4 D = some (.lst acc) ∧ acc.length < sizeLine ∧ Nx (upd H4 D (.lst (acc ++ [y]))) else Nx H3) := by
  intro D hD
  have hD1 : S1 D = none := g1.sub.free hD
  have hlen : (List.map R ds).length = ds.length := List.length_map ..
  refine lc_it (g := gBlk X scope tg) (tt := tBlk X scope ifs) (te := eBlk X scope elt) (vs := own.map (·.2)) (σ := σ) (Qd := Q (.ref D)) it (fun i H' => ∃ S' xs, Same S1 S' ∧ Same S' H' ∧ Same H1 H' ∧ (∀ a o, H1 a = some o → NT o → S' a = S1 a) ∧ S' D = none ∧ H' D = some (.lst xs) ∧ Al ((ds.take i).map G) xs S' ∧ xs.length ≤ i)
    ⟨S1, [], Same.refl _, Same.mut g1.sub hD1, Same.new hD, fun _ _ _ _ => rfl, hD1, upd_same, .nil, Nat.le_refl _⟩ (fun i H' _ ⟨S', _, a, b, _⟩ => a.trans b) ?_ ?_
  · intro i x H2 H3 hi2 ⟨S2, xs, k1, k2, k3, k4, k5, k6, k8, k9⟩ y
    rw [hlen] at hi2
    obtain ⟨S3, g3, P, hP, px⟩ := y S2 k1 k2
    obtain ⟨d, hd⟩ : ∃ d, ds[i]? = some d := ⟨ds[i], List.getElem?_eq_getElem hi2⟩
    rw [List.getElem?_map, hd] at hP
    obtain rfl := Option.some.inj hP
    have sS3 : Same S S3 := g1.st.trans (k1.trans g3.st)
    obtain ⟨τ, hw, hb⟩ := hel d (List.mem_of_getElem? hd) x S3 sS3 px
    intro sh H0 C cl fp
    refine (hb sh H0 C cl fp).1 H3 g3.sub _ ⟨hw, ?_⟩
    intro sh' H0' C' cl' fp'
    refine (hb sh' H0' C' cl' fp').2.1 H3 g3.sub _ fun S4 H4 g4 => ?_
    have g34 := g3.trans g4
    refine iteT ?_
    intro sh'' H0'' C'' cl'' fp''
    haveI := hG d (List.mem_of_getElem? hd)
    refine (EE.up g4.st (hb sh'' H0'' C'' cl'' fp'').2.2) H4 g4.sub _ fun w S5 H5 g5 hrw => ?_
    have g := g34.trans g5
    have hD5 : S5 D = none := (g.old D _ k6 (fun _ z => nomatch z)).trans k5
    refine ⟨xs, g.hh _ _ k6, Nat.lt_of_le_of_lt k9 (Nat.lt_of_lt_of_le hi2 hz), S5, xs ++ [w], k1.trans g.st, Same.mut g.sub hD5, fun a o h => ?_, fun a o h n => (g.old a o (k3 a o h) n).trans (k4 a o h n), hD5, upd_same, ?_, by rw [List.length_append]; show xs.length + 1 ≤ i + 1; omega⟩
    · rw [upd_ne (ne_of_none h hD)]; exact g.hh _ _ (k3 a o h)
    · rw [take_snoc hd, List.map_append]
      exact al_snoc (al_map_up (fun d hd => hG d (List.mem_of_mem_take hd)) g.st k8) hrw
  · intro H2 ⟨S2, xs, k1, k2, k3, k4, k5, k6, k8, k9⟩
    rw [hlen] at k8 k9
    rw [List.take_length] at k8
    refine q _ (upd S2 D (.lst xs)) H2 (g1.trans ⟨k1.trans (Same.new k5), fun a o h => ?_, k3, fun a o h n => by rw [upd_ne (ne_of_none h hD)]; exact k4 a o h n⟩) ⟨D, xs, rfl, upd_same, al_map_up hG (Same.new k5) k8⟩
    by_cases ha : a = D
    · subst ha; rw [upd_same] at h; rw [k6]; exact h
    · rw [upd_ne ha] at h; exact k2 a o h
theorem lc_readB (hG : ∀ d ∈ ds, Mn (G d)) (hi : EI X σ S tg iter (ds.map R)) (hz : ds.length ≤ sizeLine)
    (hel : ∀ d ∈ ds, ∀ v S', Same S S' → R d v S' → ∃ τ, wipe τ (own.map (·.2)) = wipe σ (own.map (·.2)) ∧ ∀ (s : Shared) (H0 : Hp) (C : Addr) (cl : List (Str × Addr)) (fp : List Addr),
      EG (X.blk s H0 scope (compEnvC scope cl C X.env) fp) S' tg v (wipe σ (own.map (·.2))) τ ∧ ETs (X.blk s H0 scope (compEnvC scope cl C X.env) fp) τ S' ifs true ∧ EE (X.blk s H0 scope (compEnvC scope cl C X.env) fp) τ S' elt (G d)) {H : Hp} (s : Same S H) (Q : VK) (q : ∀ v S' H', Gr S H S' H' → LstP (ds.map G) v S' → Q v H') :
    tLc (bI X tg iter) (gBlk X scope tg) (tBlk X scope ifs) (eBlk X scope elt) (own.map (·.2)) σ H Q := hi H s _ fun J S1 H1 g1 it => lc_loopB hG hz hel Q q g1 it
theorem ee_lcB (hG : ∀ d ∈ ds, Mn (G d)) (hc : X.calm = true) (hN : X.N.Nodup) (ok : BlkOk X.N X.env.scope scope own) (hi : EI X σ S tg iter (ds.map R)) (hz : ds.length ≤ sizeLine)
    (hel : ∀ d ∈ ds, ∀ v S', Same S S' → R d v S' → ∃ τ, wipe τ (own.map (·.2)) = wipe σ (own.map (·.2)) ∧ ∀ (s : Shared) (H0 : Hp) (C : Addr) (cl : List (Str × Addr)) (fp : List Addr),
      EG (X.blk s H0 scope (compEnvC scope cl C X.env) fp) S' tg v (wipe σ (own.map (·.2))) τ ∧ ETs (X.blk s H0 scope (compEnvC scope cl C X.env) fp) τ S' ifs true ∧ EE (X.blk s H0 scope (compEnvC scope cl C X.env) fp) τ S' elt (G d))
    (hs : ∀ x, foldedSetIterable iter X.env x = pure x := by intro _; rfl) :
    EE X σ S (.ListComp elt [⟨tg, iter, ifs, 0⟩] scope pos) (LstP (ds.map G)) := fun H s Q q =>
  he_of (pe_lc (own := own) (wi := bI X tg iter) (g := gBlk X scope tg) (tt := tBlk X scope ifs) (te := eBlk X scope elt) hc hN pib ok
    (fun s H0 C cl fp => ⟨fun pins sh σ' H' v u Q' I r h => h s H0 C cl fp pins sh u I r⟩) (fun s H0 C cl fp => ⟨fun pins sh σ' H' Q' I h => h s H0 C cl fp pins sh I⟩) (fun s H0 C cl fp => ⟨fun pins sh σ' H' Q' I h => h s H0 C cl fp pins sh I⟩) hs) (lc_readB hG hi hz hel s Q q)
end
/-! ## a call to which the running frame's cells are shown -/
section
end
section
end
end Y
namespace Y
open PySem PySem.Spec PyProof.Rows L2 L2H Z LamX NdefX
/-! ## pairs of things of any kind -/
class Mn2 (P : V → V → Hp → Prop) : Prop where
  up : ∀ {v u : V} {H H' : Hp}, Same H H' → P v u H → P v u H'
/-- a pair whose parts are as P says -/
def PrP (P : V → V → Hp → Prop) (v : V) (S : Hp) : Prop := ∃ l a b, v = .ref l ∧ S l = some (.tup [a, b]) ∧ P a b S
instance {P : V → V → Hp → Prop} [m : Mn2 P] : Mn (PrP P) := ⟨fun s ⟨l, a, b, h1, h2, h3⟩ => ⟨l, a, b, h1, s _ _ h2, m.up s h3⟩⟩
section
variable {X : Cx} {σ : L2.St} {S : Hp} {a b e : Expr} {p pos : Pos} {Rs : List (V → V → Hp → Prop)} {l m : Addr} {xs ys : List V}
/-! ## displays of things of any kind -/
def TupP (Ps : List (V → Hp → Prop)) (v : V) (S : Hp) : Prop := ∃ l xs, v = .ref l ∧ S l = some (.tup xs) ∧ Al Ps xs S
theorem ee_tupP {es : List Expr} {x1} {Ps : List (V → Hp → Prop)} (h : EA X σ S es Ps) (hz : Ps.length ≤ sizeLine := by show _ ≤ 16777216; exact Nat.le_of_ble_eq_true rfl) : EE X σ S (.Tuple es x1 pos) (TupP Ps) :=
  ee_tupA (vsP := Al Ps) h.2 (fun vs S' al => by rw [al_len al]; exact hz) fun vs S' p _ hp al => ⟨p, vs, rfl, upd_same, al.up h.1 (Same.new hp)⟩
theorem ee_lstP {es : List Expr} {Ps : List (V → Hp → Prop)} (h : EA X σ S es Ps) (hz : Ps.length ≤ sizeLine := by show _ ≤ 16777216; exact Nat.le_of_ble_eq_true rfl) : EE X σ S (.List es pos) (LstP Ps) :=
  ee_lstA (vsP := Al Ps) h.2 (fun vs S' al => by rw [al_len al]; exact hz) fun vs S' p _ hp al => ⟨p, vs, rfl, upd_same, al.up h.1 (Same.new hp)⟩
/-- len of a list or a tuple of any things -/
theorem ee_lenLP {n : Nat} {Pa : V → Hp → Prop} [Mn Pa] (hm : X.mg "len" = none) (ha : EE X σ S a Pa) (hl : ∀ v S1, Pa v S1 → ∃ l xs, v = .ref l ∧ (S1 l = some (.lst xs) ∨ S1 l = some (.tup xs)) ∧ xs.length = n) (hg : Gl X "len" := by rfl)
    (hs : starEach [a] X.env = (false, eval a X.env) :: starEach [] X.env := by rfl) : EE X σ S (.Call (.Name "len" p) [a] [] pos) (Dt X.K (.int n)) :=
  ee_callB call_len hm boot_len (ea_1 ha hs) (fun vs S1 H1 _ s al Q q => by
    obtain ⟨v, rfl, pv⟩ := al.one
    obtain ⟨l, xs, rfl, h | h, rfl⟩ := hl _ _ pv
    · exact ⟨_, xs.length, rfl, .inl ⟨_, sql_of (s _ _ h), rfl⟩, q _ S1 H1 (Gr.refl s) (.int _)⟩
    · exact ⟨_, xs.length, rfl, .inr ⟨_, sqt_of (s _ _ h), rfl⟩, q _ S1 H1 (Gr.refl s) (.int _)⟩) hg (he := hs) (hpl := by rfl)
end
end Y
namespace Y
open PySem PySem.Spec PyProof.Rows L2 L2H Z LamX NdefX
theorem al_mn {Ps : List (V → Hp → Prop)} (h : ∀ P ∈ Ps, Mn P) {xs : List V} {S S' : Hp} (s : Same S S') (a : Al Ps xs S) : Al Ps xs S' := by
  induction a with
  | nil => exact .nil
  | cons p _ ih => exact .cons ((h _ List.mem_cons_self).up s p) (ih (fun P hP => h P (List.mem_cons_of_mem _ hP)) s)
theorem lstP_mn {Ps : List (V → Hp → Prop)} (h : ∀ P ∈ Ps, Mn P) : Mn (LstP Ps) := ⟨fun s ⟨l, xs, a, b, c⟩ => ⟨l, xs, a, s _ _ b, al_mn h s c⟩⟩
section
variable {X : Cx} {σ : L2.St} {S H : Hp} {a b e tg : Expr} {p pos : Pos} {D : Ends} {rest : List Stmt}
/-- ls[i] of a list of things of any kind -/
theorem ee_ixLP {Ps : List (V → Hp → Prop)} {P : V → Hp → Prop} {i : Nat} (hM : ∀ P ∈ Ps, Mn P) (he : Ps[i]? = some P) (ha : EE X σ S a (LstP Ps)) (hb : EE X σ S b (Dt X.K (.int (i : Nat)))) (hs : PlainIx b := by exact fun _ _ => rfl) : EE X σ S (.Subscript a b pos) P := by
  haveI := lstP_mn hM
  exact ee_2 (pe_ix ix_list peb peb hs) ha hb fun x y S1 H1 _ s px py Q q => by
    cases py
    obtain ⟨l, xs, rfl, hl, al⟩ := px
    have hlen := al_len al
    have hi : i < Ps.length := by
      rcases Nat.lt_or_ge i Ps.length with h | h
      · exact h
      · rw [List.getElem?_eq_none h] at he; cases he
    have hx : i < xs.length := by omega
    obtain ⟨P', e1, e2⟩ := al_get al (List.getElem?_eq_getElem hx)
    rw [he] at e1
    obtain rfl := Option.some.inj e1
    exact ⟨l, xs, i, xs[i], rfl, rfl, sql_of (s _ _ hl), L2.atI_nat (List.getElem?_eq_getElem hx), q _ S1 H1 (Gr.refl s) e2⟩
end
end Y
namespace Y
open PySem PySem.Spec PyProof.Rows L2 L2H Z LamX NdefX
/-! ## lambdas where several code tables are told -/
section
end
end Y
namespace Y
open PySem PySem.Spec PyProof.Rows L2 L2H Z
section
end
end Y
namespace Y
open PySem PySem.Spec PyProof.Rows L2 L2H Z LamX NdefX PySem.W
section
end
end Y
namespace L2
open PySem PySem.Spec PyProof.Rows
section
end
end L2
namespace Y
open PySem PySem.Spec PyProof.Rows L2 Z
/-! ## own errors without an attribute -/
section
/-! ## methods def m(self, *xs) that raise -/
end
end Y
namespace Y
open PySem PySem.Spec PyProof.Rows L2 Z
/-! ## texts: count, partition, split, index -/
section
end
end Y
noncomputable section
namespace Y
open PySem PySem.Spec PyProof.Rows L2 PySem.Froz Z
/-! ## set(text), a text of ascii signs, equal ones among them -/
section
end
section
end
section
end
end Y
namespace Y
open PySem PySem.Spec PyProof.Rows L2 Z
/-! ## zip(text, list), zip(text, tuple) -/
end Y
namespace Y
open PySem PySem.Spec PyProof.Rows L2 L2H Z
section
end
end Y
namespace Y
open PySem PySem.Spec PyProof.Rows L2 Z
/-! ## name = [elt for x, y in iter if t] on one line, the name a local -/
section
end
end Y
namespace Y
open PySem PySem.Spec PyProof.Rows L2 Z
section
variable {X : Cx} {σ : L2.St} {S S' H : Hp} {e a b c o : Expr} {P : V → Hp → Prop} {pos p apos : Pos} {D : Ends} {rest : List Stmt} {r : Addr} {xs : List V} {d1 d2 d3 : PyData}
/-- x is None, as a test -/
theorem et_isN {v : V} (ha : EE X σ S a (fun w _ => w = v)) {n p2} : ET X σ S (.Compare a [.Is] [.Constant .none n p2] pos) (decide (v = .non)) := by
  haveI : Mn (fun (w : V) (_ : Hp) => w = v) := ⟨fun _ h => h⟩
  exact et_cmp op_isN ha (ee_non (n := n) (pos := p2)) (fun x y S1 H1 _ s px py Q q => by
    cases py
    subst px
    exact ⟨rfl, q _ S1 H1 (Gr.refl s) (.bl _)⟩) (nomark _)
end
end Y
namespace Y
open PySem PySem.Spec PyProof.Rows L2 Z
section
end
end Y
namespace Y
open PySem PySem.Spec PyProof.Rows L2 Z
section
end
end Y
namespace Y
open PySem PySem.Spec PyProof.Rows L2 Z
section
end
end Y
namespace Y
open PySem PySem.Spec PyProof.Rows L2 L2H Z
section
end
end Y
namespace Y
open PySem PySem.Spec PyProof.Rows L2 Z
/-- a list l that grows: H knows it, S does not; all else that is known is S -/
structure Acc (K : PySem.W.Frag) (Sb Hb : Hp) (l : Addr) (ds : List PyData) (S H : Hp) : Prop where
  g : Gr Sb Hb S H
  n : S l = none
  sb : Same Sb Hb
  nb : Hb l = none
  ex : ∃ xs, H l = some (.lst xs) ∧ Dts K ds xs S ∧ xs.length ≤ sizeLine
theorem Acc.gr {K : PySem.W.Frag} {Sb Hb S H S1 H1 : Hp} {l : Addr} {ds : List PyData} (a : Acc K Sb Hb l ds S H) (g : Gr S H S1 H1) : Acc K Sb Hb l ds S1 H1 := by
  obtain ⟨xs, h1, h2, h3⟩ := a.ex
  exact ⟨a.g.trans g, (g.old l _ h1 (fun _ z => nomatch z)).trans a.n, a.sb, a.nb, xs, g.hh _ _ h1, h2.up g.st, h3⟩
/-- the list, told with all else -/
theorem Acc.full {K : PySem.W.Frag} {Sb Hb S H : Hp} {l : Addr} {ds : List PyData} (a : Acc K Sb Hb l ds S H) : ∃ S', Gr Sb Hb S' H ∧ Same S S' ∧ Dt K (.list ds) (.ref l) S' ∧ (∀ S2 H2, Gr S' H S2 H2 → Acc K Sb Hb l ds (del S2 l) H2 ∧ Same S (del S2 l)) := by
  obtain ⟨xs, h1, h2, h3⟩ := a.ex
  have sS : Same S (upd S l (.lst xs)) := Same.new a.n
  have hsb : Sb l = none := a.sb.free a.nb
  have sub : Same (upd S l (.lst xs)) H := fun b o e => by
    by_cases hb : b = l
    · subst hb; rw [upd_same] at e; rw [h1]; exact e
    · rw [upd_ne hb] at e; exact a.g.sub b o e
  have G : Gr Sb Hb (upd S l (.lst xs)) H := ⟨a.g.st.trans sS, sub, a.g.hh, fun b o e m => by
    have ne : b ≠ l := fun z => by subst z; rw [a.nb] at e; cases e
    rw [upd_ne ne]; exact a.g.old b o e m⟩
  refine ⟨_, G, sS, Dt.lst_mk upd_same (h2.up sS) h3, fun S2 H2 g => ?_⟩
  have hl : H2 l = some (.lst xs) := g.hh _ _ h1
  have e2 : upd H2 l (.lst xs) = H2 := by
    funext b
    by_cases hb : b = l
    · subst hb; rw [upd_same, hl]
    · rw [upd_ne hb]
  have G2 := Gr.cut (o := .lst xs) (G.trans g) a.sb a.nb
  rw [e2] at G2
  have s2 : Same S (del S2 l) := fun b o e => by
    have ne : b ≠ l := fun z => by subst z; rw [a.n] at e; cases e
    rw [del_ne ne]; exact g.st _ _ (sS _ _ e)
  exact ⟨⟨G2, del_self, a.sb, a.nb, xs, hl, h2.up s2, h3⟩, s2⟩
section
variable {X : Cx} {σ : L2.St} {S H Sb Hb : Hp} {e o : Expr} {pos p apos : Pos} {D : Ends} {rest body : List Stmt} {l : Addr} {ds : List PyData} {d : PyData}
/-- x = [] -/
theorem hs_acc0 {i : Nat} {x : Str} {pos' pl : Pos} (s : Same S H) (hN : X.N.Nodup) (q : ∀ l H', Acc X.K S H l [] S H' → HS X D rest (σ.set i (some (.ref l))) H') (hi : X.N[i]? = some x := by rfl) (hx : Loc X.env.scope x := by first | exact Or.inl rfl | exact Or.inr rfl)
    (hs : swapsWith (.List [] pl) (some (.Name x pos')) pos.line X.env = pure false := by rfl) (hf : X.fn x = true ∨ X.env.scope.names.lookup x = some .local := by first | exact .inl rfl | exact .inr rfl | assumption) : HS X D (.Assign [.Name x pos'] (.List [] pl) pos :: rest) σ H := by
  refine hs_cons (ps_set hN hi hx (pe_lst pab) hs hf) (ha_of pa_nil ⟨Nat.zero_le _, fun l hl => ?_⟩)
  refine q l _ ⟨⟨Same.refl S, fun b u e => ?_, Same.new hl, fun _ _ _ _ => rfl⟩, s.free hl, s, hl, [], upd_same, .nil, Nat.zero_le _⟩
  rw [upd_ne (ne_of_none (s b u e) hl)]
  exact s b u e
theorem Acc.put {K : PySem.W.Frag} {xs : List V} {es : List PyData} {ys : List V} (a : Acc K Sb Hb l ds S H) (hl : H l = some (.lst xs)) (hd : Dts K es ys S) (hz : xs.length + ys.length ≤ sizeLine) : Acc K Sb Hb l (ds ++ es) S (upd H l (.lst (xs ++ ys))) := by
  obtain ⟨xs', h1, h2, h3⟩ := a.ex
  rw [hl] at h1
  cases h1
  have G2 := Gr.cut (o := .lst (xs ++ ys)) a.g a.sb a.nb
  have e : del S l = S := by
    funext b
    by_cases hb : b = l
    · subst hb; rw [del_self, a.n]
    · rw [del_ne hb]
  rw [e] at G2
  exact ⟨G2, a.n, a.sb, a.nb, _, upd_same, h2.append hd, by rw [List.length_append]; exact hz⟩
/-- o.append(e) -/
theorem hs_accApp (a : Acc X.K Sb Hb l ds S H) (hz : ds.length < 100000) (ho : EE X σ S o (fun w _ => w = .ref l)) (he : EE X σ S e (Dt X.K d)) (q : ∀ S' H', Same S S' → Acc X.K Sb Hb l (ds ++ [d]) S' H' → HS X D rest σ H') (hbase : attributeBase o "append" X.env (eval o X.env) = eval o X.env := by rfl) (hline : (apos.endLine == p.line) = true := by rfl)
    (hs : swapsWith (.Call (.Attribute o "append" apos) [e] [] p) none pos.line X.env = pure false := by rfl) (hst : starEach [e] X.env = (false, eval e X.env) :: starEach [] X.env := by rfl)
    (hfew : ((backTo p (starEach [e] X.env)).all (fun x => !x.1) && (backToKw p (keywordEach [] X.env)).all (fun x => x.1.isSome) && decide ([e].length + ([] : List Keyword).length + (if ([] : List Keyword).isEmpty then 0 else 1) < 30)) = true := by rfl) : HS X D (.Expr (.Call (.Attribute o "append" apos) [e] [] p) pos :: rest) σ H :=
  hs_cons (ps_expr (pe_bm PySem.F.plainAttrs_list PySem.F.slot_list_append PySem.F.type_list_append mt_append peb (pa_cons (te := bE X e) (t := tNil) peb pa_nil hst) hbase hfew hline hst (by rfl)) hs) (ho H a.g.sub _ fun w S1 H1 g1 pw => by
    subst pw
    have a1 := a.gr g1
    obtain ⟨xs, h1, h2, h3⟩ := a1.ex
    refine ⟨.inl ⟨rfl, _, .inl (.inl h1)⟩, ?_⟩
    exact (he.up g1.st) H1 g1.sub _ fun v S2 H2 g2 pv => ⟨l, xs, v, rfl, rfl, g2.hh _ _ h1, by rw [h2.1]; show _ < 16777216; omega, q S2 _ (g1.st.trans g2.st) ((a1.gr g2).put (g2.hh _ _ h1) (.cons pv .nil) (by rw [h2.1]; show _ ≤ 16777216; simp only [List.length_singleton]; omega))⟩)
/-- int(b) -/
theorem ee_intB {b : Bool} {a : Expr} (hm : X.mg "int" = none) (ha : EE X σ S a (Dt X.K (.bool b))) (hg : Gl X "int" := by rfl) (hs : starEach [a] X.env = (false, eval a X.env) :: starEach [] X.env := by rfl) : EE X σ S (.Call (.Name "int" p) [a] [] pos) (Dt X.K (.int (if b then 1 else 0))) :=
  ee_callTy call_int1 hm boot_int (ea_1 ha hs) (fun vs S1 H1 _ s al Q q => by
    obtain ⟨v, rfl, pv⟩ := al.one
    cases pv
    exact .inr ⟨b, rfl, q _ S1 H1 (Gr.refl s) (.int _)⟩) hg (he := hs) (hpl := by rfl)
end
end Y
namespace Y
open PySem PySem.Spec PyProof.Rows L2 Z
/-! ## a staticmethod of plain parameters, called x.m(k1=e1, k2=e2, k3=e3) in reversed order -/
section
variable {X : Cx} {σ : L2.St} {S : Hp} {e1 e2 e3 : Expr} {R P1 P2 P3 : V → Hp → Prop} {pos p apos q1 q2 q3 : Pos} {k : Nat} {x m k1 k2 k3 : Str} {sp : Sp} {C : Addr}
/-- for .. in range(e), e not fixed -/
theorem hs_forRE {D : Ends} {H : Hp} {a tg : Expr} {body rest : List Stmt} {W : Nat → Prop} (hp : PassesOwn (model X.prog X.w) X.A X.env X.xe) (hc : X.calm = true) (hm : X.mg "range" = none) (hW : ∀ n, W n → (n : Int) < 2 ^ 62) (ha : EE X σ S a (Ex X.K fun d => ∃ n : Nat, d = .int n ∧ W n)) (s : Same S H)
    (q : ∀ n S1 H1, W n → Gr S H S1 H1 → ∃ Iv : Nat → L2.St → Hp → Prop, Iv 0 σ H1 ∧ (∀ i σ1 H2, i < n → Iv i σ1 H2 → HG X tg (.int (i : Nat)) σ1 H2 fun σ3 H3 => HS X { D with nx := Iv (i + 1), ct := Iv (i + 1), bk := fun σ' H' => HS X D rest σ' H' } body σ3 H3) ∧ (∀ σ1 H2, Iv n σ1 H2 → HS X D rest σ1 H2))
    (hg : Gl X "range" := by rfl) (hs1 : starEach [a] X.env = [(false, eval a X.env)] := by rfl) (hs : ∀ x, foldedSetIterable (.Call (.Name "range" p) [a] [] pos) X.env x = pure x := by intro _; rfl) {pos2 : Pos} :
    HS X D (.For tg (.Call (.Name "range" p) [a] [] pos) body [] pos2 :: rest) σ H :=
  hs_cons (ps_for hp hc (pi_range1 hg hm pab hs1) pgb psb hs) ((ea_1 ha (by rw [hs1]; rfl)).2 H s _ fun vs S1 H1 g1 al => by
    obtain ⟨v, rfl, pv⟩ := al.one
    obtain ⟨_, ⟨n, rfl, hn⟩, pv⟩ := pv
    cases pv
    obtain ⟨Iv, h0, step, done⟩ := q n S1 H1 hn g1
    refine ⟨(n : Int), rfl, by omega, hW n hn, for_it (G := fun _ => True) (Y := fun i H x H' => H' = H ∧ x = .int (0 + (i : Int))) (n := n) ⟨fun i H hi _ => ?_, fun H _ => ?_, fun i H x H' _ _ y => y⟩ Iv h0 (fun _ _ _ _ _ => trivial) (fun i x σ' H2 H3 hi iv y => ?_) done⟩
    · show i < ((n : Int)).toNat
      omega
    · show ((n : Int)).toNat ≤ n
      omega
    · obtain ⟨rfl, rfl⟩ := y
      rw [Int.zero_add]
      exact step i σ' H3 hi iv)
end
end Y
namespace Y
open PySem PySem.Spec PyProof.Rows L2 Z
/-! ## name = [elt for x in iter if ..] on one line, the name a local -/
section
end
end Y
namespace Y
open PySem PySem.Spec PyProof.Rows L2 Z
/-! ## a new instance of a class whose __init__ takes things -/
def MkSp (sp : Sp) (C : Addr) (S : Hp) (Ps : List (V → Hp → Prop)) (R : V → Hp → Prop) : Prop := ∀ vs S1 H1 a dx, Same S S1 → Same S1 H1 → Al Ps vs S1 → H1 a = none → H1 dx = none → dx ≠ a → ∀ Q : Hp → Prop, (∀ S2 H2, Gr S1 H1 S2 H2 → R (.ref a) S2 → Q H2) →
  sp (.ref a :: vs) (upd (upd H1 dx (.own a)) a (.ins C dx [])) (fun v H2 => v = .non ∧ Q H2) E0
/-- what a promise of __init__ over things wants: the new heap and back -/
theorem mk_grI {S1 H1 : Hp} {a dx : Addr} {C : Addr} {S' H' : Hp} (ha : H1 a = none) (hdx : H1 dx = none) (hne : dx ≠ a) (g : GrI a S1 (upd (upd H1 dx (.own a)) a (.ins C dx [])) S' H') : Gr S1 H1 S' H' := by
  have hst : Same H1 (upd (upd H1 dx (.own a)) a (.ins C dx [])) := (Same.new hdx).trans (Same.new (by rw [upd_ne hne.symm]; exact ha))
  exact ⟨g.st, g.sub, fun z o hz => g.hh z o (ne_of_none hz ha) (hst z o hz), fun z o hz m => g.old z o (ne_of_none hz ha) (hst z o hz) m⟩
theorem mk_same {S1 H1 : Hp} {a dx : Addr} {C : Addr} (s : Same S1 H1) (ha : H1 a = none) (hdx : H1 dx = none) (hne : dx ≠ a) : Same S1 (upd (upd H1 dx (.own a)) a (.ins C dx [])) :=
  s.trans ((Same.new hdx).trans (Same.new (by rw [upd_ne hne.symm]; exact ha)))
section
variable {X : Cx} {σ : L2.St} {S H : Hp} {e : Expr} {es : List Expr} {R P0 P1 P2 P3 : V → Hp → Prop} {Ps : List (V → Hp → Prop)} {pos p : Pos} {k : Nat} {x : Str} {sp : Sp} {C f : Addr} {fd : FuncData} {ps : List Str}
theorem ee_makeT (M : Mk X.K C f) (G : FnOk X.prog X.w X.K X.mg X.base CX0 k f fd ps sp) (hr : Room (k + 1) X.A) (hm : X.mg x = some (.ref C)) (hb : Binds X.K fd ps []) (ha : EA X σ S (e :: es) Ps) (h : MkSp sp C S Ps R)
    (hg : Gl X x := by rfl) (hdb : (x == ("__debug__" : Str)) = false := by decide) (he : starEach (e :: es) X.env = (false, eval e X.env) :: starEach es X.env := by rfl) (hpl : (backTo pos (starEach es X.env)).any (·.1) = false := by rfl) : EE X σ S (.Call (.Name x p) (e :: es) [] pos) R := fun H s Q q =>
  he_of (pe_make M G hr hg hm hb .nil pass0 pab hdb he hpl) (ha.2 H s _ fun vs S1 H1 g1 al a dx h1 h2 h3 => by
    rw [List.append_nil]
    exact h vs S1 H1 a dx g1.st g1.sub al h1 h2 h3 _ fun S2 H2 g2 r => q _ S2 H2 (g1.trans g2) r)
end
/-! ## o(e), o an instance with an own __call__ -/
section
end
end Y
namespace Y
open PySem PySem.Spec PyProof.Rows L2 Z
section
end
end Y
namespace Y
open PySem PySem.Spec PyProof.Rows L2 Z
section
variable {β : Type} {enc : β → PyData} {X : Cx} {σ : L2.St} {S H : Hp} {e tg : Expr} {Ps : List (V → Hp → Prop)} {pos p : Pos}
/-- for x in a tuple of things -/
theorem ei_tupP (hP : ∀ P ∈ Ps, Mn P) (ha : EE X σ S e (TupP Ps)) : EI X σ S tg e Ps := fun H s R q =>
  hi_of (pi_tup peb) (ha H s _ fun v S1 H1 g1 pv => by
    obtain ⟨l, xs, rfl, hl, hx⟩ := pv
    have hlen := al_len hx
    refine ⟨l, rfl, ⟨xs, sqt_of (g1.sub _ _ hl)⟩, q _ S1 H1 g1 ⟨fun i H hi hs => ?_, fun H hs => ?_, fun i H x H' hi hs y T st th => ?_⟩⟩
    · rw [← hlen] at hi
      exact (walk_tup (K := X.K) (a := l) (xs := xs)).goes i H hi (sqt_of (hs _ _ hl))
    · rw [← hlen]
      exact (walk_tup (K := X.K) (a := l) (xs := xs)).stops H (sqt_of (hs _ _ hl))
    · rw [← hlen] at hi
      obtain ⟨rfl, hy⟩ := (walk_tup (K := X.K) (a := l) (xs := xs)).yields i H x H' hi (sqt_of (hs _ _ hl)) y
      obtain ⟨P, e1, e2⟩ := al_get hx hy
      have m := hP P (List.mem_of_getElem? e1)
      exact ⟨T, Gr.refl th, P, e1, m.up st e2⟩)
/-- sorted(e), the list not fixed -/
theorem ee_sortLE {W : List β → Prop} (hm : X.mg "sorted" = none) (hok : ∀ bs, W bs → SortOk enc bs X.A.units) (he : EE X σ S e (Ex X.K fun d => ∃ bs, d = .list (bs.map enc) ∧ W bs)) (hg : Gl X "sorted" := by rfl) (hs : starEach [e] X.env = (false, eval e X.env) :: starEach [] X.env := by rfl) :
    EE X σ S (.Call (.Name "sorted" p) [e] [] pos) (Ex X.K fun d => ∃ bs, d = .list ((srt enc bs).map enc) ∧ W bs) := by
  have hc : CallR X (.builtin "sorted") (fun vs H Q => ∃ bs, rSortL X.K X.A.units enc bs vs H Q) := by
    intro pins s σ H vs us Q I r ⟨bs, h⟩
    exact cr_sortL (enc := enc) (bs := bs) pins s σ H vs us Q I r h
  refine ee_callB hc hm (by first | rfl | exact boot_sorted) (ea_1 he hs) (fun vs S1 H1 _ s al Q q => ?_) hg (he := hs) (hpl := by rfl)
  obtain ⟨v, rfl, _, ⟨bs, rfl, hw⟩, pv⟩ := al.one
  obtain ⟨l, xs, rfl, hl, hx, z⟩ := pv.lst_inv
  exact ⟨bs, l, xs, S1, rfl, s, sql_of (s _ _ hl), hx, hok bs hw, fun ys p hp hy hz => q _ _ _ (Gr.new s hp) ⟨_, ⟨bs, rfl, hw⟩, Dt.lst_mk upd_same (hy.up (Same.new (s.free hp))) hz⟩⟩
/-- a if e > n else b, e an int that is not fixed -/
theorem ee_ifX {F : Int → Prop} {Q' : V → Hp → Prop} [Mn Q'] {e a b : Expr} {n : Int} {k : Nat} {p1 p2 p3 : Pos} (he : EE X σ S e (Ex X.K fun d => ∃ i, d = .int i ∧ F i)) (ha : ∀ S', Same S S' → EE X σ S' a Q') (hb : ∀ S', Same S S' → EE X σ S' b Q') : EE X σ S (.IfExp (.Compare e [.Gt] [.Constant (.int n) k p1] p2) a b p3) Q' := fun H s Q q =>
  he_of (pe_ifExp ptb peb peb) (ht_of (pt_cmpR op_gt peb peb (nomark _)) (he H s _ fun x S1 H1 g1 ⟨_, ⟨i, rfl, _⟩, px⟩ => (ee_int (n := k) (pos := p1) (i := n)) H1 g1.sub _ fun y S2 H2 g2 py => by
    cases px; cases py
    refine ⟨i, n, rfl, rfl, decide (n < i), rfl, ?_⟩
    have G := g1.trans g2
    cases hk : decide (n < i) with
    | true => exact iteT ((ha S2 G.st) H2 g2.sub _ fun y S3 H3 g3 py => q y S3 H3 (G.trans g3) py)
    | false => exact iteF ((hb S2 G.st) H2 g2.sub _ fun y S3 H3 g3 py => q y S3 H3 (G.trans g3) py)))
end
end Y
namespace Y
open PySem PySem.Spec PyProof.Rows L2 Z
/-! ## (e0)(e): e0 any expression that answers an instance with an own __call__; C(e1, e2, ..) whose e2 raises -/
section
end
end Y
namespace Y
open PySem PySem.Spec PyProof.Rows L2 Z
section
end
end Y
namespace Y
open PySem PySem.W PySem.Spec PyProof.Rows
open Builtin Builtin.ObjectAttr
/-! ## stores on an exception whose class is over any built-in one (as HandS.Exc's exc_osa and HandS.ExcInit's osa_old are over ValueError) -/
section
end
end Y
namespace Y
open PySem PySem.Spec PyProof.Rows L2 Z
/-- an own exception class over the built-in B, its instances to be made and read -/
structure OexG (K : PySem.W.Frag) (C : Addr) : Prop where
  ex : ∃ (B newId initId : String) (bmB : List Value), ExcBaseFacts B newId initId bmB ∧ StoreFacts B bmB "object.__setattr__" "object" ∧ PySem.W.excInitIn K C bmB newId = true ∧ PySem.W.excOver K C bmB = true
  sa : PySem.W.findIn K (.ref C) "__setattr__" = some (some (.builtin "object.__setattr__"))
  xf : XfC K C
  kC : PySem.W.keepIn K (.ref C) = true
  ha : PySem.W.findIn K (.ref C) "__class__" = some (some (.builtin "object.__class__"))
  om : PySem.W.mroIn K C (.type "object") = some true
theorem OexG.dict {K : PySem.W.Frag} {C : Addr} (T : XfC K C) {cd : ClassData} (h : PySem.W.clsIn K C = some cd) : cd.hasDict = true := by
  obtain ⟨cd', hc, ho⟩ := PySem.W.any_some T.hdC
  rw [hc] at h
  cases h
  exact ho
section
end
section
end
end Y
namespace PySem
namespace HandSPX
open PySem.W PySem.Calls PyProof.Rows
/-! ### an own exception class called with keywords (as call_own and what it rests on, there without) -/
section
end
section
end
end HandSPX
end PySem
namespace Y
open PySem PySem.Spec PyProof.Rows L2 Z
section
end
/-- a made error of the kind k that keeps g -/
def ErV (K : PySem.W.Frag) (k : EK) (g : PyData) (v : V) (S : Hp) : Prop := ∃ a dx fs, v = .ref a ∧ S a = some (exo a k.C (some dx)) ∧ S dx = some (exd dx fs) ∧ fs.lookup ("code" : Str) = some (V.str k.code) ∧ ∀ x, k.fn = some x → ∃ w, fs.lookup x = some w ∧ Dt K g w S
instance {K : PySem.W.Frag} {k : EK} {g : PyData} : Mn (ErV K k g) := ⟨fun s ⟨a, dx, fs, h1, h2, h3, h4, h5⟩ => ⟨a, dx, fs, h1, s _ _ h2, s _ _ h3, h4, fun x hx => let ⟨w, e, d⟩ := h5 x hx; ⟨w, e, d.up s⟩⟩⟩
section
variable {X : Cx} {σ : L2.St} {S S' H : Hp} {e e1 o a b : Expr} {P P0 : V → Hp → Prop} {pos p pos2 q1 : Pos} {x fname n : Str} {k : EK} {g : PyData}
theorem ErV.code {K : PySem.W.Frag} {w : V} {S1 : Hp} (h : ErV K k g w S1) : ∃ a dx fs v, w = .ref a ∧ S1 a = some (exo a k.C (some dx)) ∧ S1 dx = some (exd dx fs) ∧ fs.lookup ("code" : Str) = some v ∧ Dt K (.str k.code) v S1 := by
  obtain ⟨a, dx, fs, h1, h2, h3, h4, _⟩ := h
  exact ⟨a, dx, fs, _, h1, h2, h3, h4, .str _⟩
theorem ErV.kept {K : PySem.W.Frag} {w : V} {S1 : Hp} (hf : k.fn = some n) (h : ErV K k g w S1) : ∃ a dx fs v, w = .ref a ∧ S1 a = some (exo a k.C (some dx)) ∧ S1 dx = some (exd dx fs) ∧ fs.lookup n = some v ∧ Dt K g v S1 := by
  obtain ⟨a, dx, fs, h1, h2, h3, _, h5⟩ := h
  obtain ⟨v, e, pv⟩ := h5 n hf
  exact ⟨a, dx, fs, v, h1, h2, h3, e, pv⟩
end
end Y
namespace Y
open PySem PySem.Spec PyProof.Rows L2 Z
/-! ## lists of things, put together -/
section
end
/-! ## an own error to be made, told by Bools -/
end Y
/-! ## set comprehensions of tuples of ints (as HandS.SetBool's of truth values, over HandS.TupSets' sets) -/
namespace PpSetT
open PySem PySem.Spec PyProof.Rows L2 PpSet
section
variable {P : Program} {w : World} {A : Around} {E : Value → Shared → Prop} {s : Shared} {a : Addr} {L : List (Addr × List Int)} {es : Array (Int × Value)} {ep : Nat} {t : SetTable}
theorem setT_addCall {x : Addr} {k : List Int} {Q : Value → Shared → Prop} (R : SetTR P w s.heap a L es ep t) (hx : IsT P w s.heap k x) (hu : A.units + 8 < cLine) (room : L.length + 1 < 64)
    (hQ : ∀ h' tk L' es' ep' t', Heap.SameBut a s.heap h' → SetTR P w h' a L' es' ep' t' → (k ∈ L.map (·.2) → L' = L) → (k ∉ L.map (·.2) → L'.Perm ((x, k) :: L)) → Q .none { s with heap := h', toks := tk }) :
    wpAny (model P w) A (call (.builtin "set.add") [.ref a, .ref x]) Q E s := by
  have hT : s.TypeIs (.ref a) "set" := by
    obtain ⟨o, ho, hex, _⟩ := R.ob
    exact ⟨o, ho, hex.1⟩
  have hu1 : A.in1.units < cLine := by
    first
      | (show A.units + 1 < cLine; omega)
      | (show A.units < cLine; omega)
      | (unfold Around.in1; dsimp only; omega)
      | (simp [Around.in1, Around.units]; omega)
  refine wpAny_call_entry F.slot_set_add hT F.entry_set_add ?_ (F.args_set_add_2 _ _)
  unfold Builtin.«set.add» Builtin.Frozenset.oneOther
  simp only [List.isEmpty_nil, bind_assoc]
  unfold Builtin.Frozenset.addrOf setAdd
  refine wpAny_bind (wpAny_pure ?_)
  try dsimp only
  refine wpAny_bind (wpAny_pure ?_)
  try dsimp only
  refine wpAny_bind ?_
  refine wpAny_holding ?_
  refine wpAny_bind (wpAny_pyHash_tuple hu1 hx ?_)
  refine add_at (s := { s with toks := s.toks + (k.length + 1) }) (R.keep (fun o e => e) R.tup) hx hu1 room fun b h' L' es' ep' t' hsb hS2 c1 c2 => ?_
  show wpAny _ _ (ret Value.none) _ _ _
  exact wpAny_pure ⟨_, rfl, hQ h' _ L' es' ep' t' hsb hS2 c1 c2⟩
end
section
variable {X : Cx}
theorem setTO_get {pins : List (Addr × Obj)} {σ : L2.St} {H : Hp} {s : Shared} {a : Addr} {L : List (Addr × List Int)} (I : Inv X pins σ H s) (ha : H a = some (SetTO X.prog X.w a L)) : SetT0 X.prog X.w s.heap a L := (I.hok a _ ha).1
/-- set.add of a tuple of ints -/
theorem addT_ok {pins : List (Addr × Obj)} {σ : L2.St} {H : Hp} {s : Shared} {E : Value → Shared → Prop} {D c : Addr} {k : List Int} {L : List (Addr × List Int)} {Q : Value → Shared → Prop} (hu : X.A.units + 8 < cLine) (I : Inv X pins σ H s) (hD : H D = some (SetTO X.prog X.w D L)) (hq : SqT X.K H c (k.map V.int)) (hL : ∀ p ∈ L, SqT X.K H p.1 (p.2.map V.int)) (room : L.length + 1 < 64)
    (h : ∀ L' s', (k ∈ L.map (·.2) → L' = L) → (k ∉ L.map (·.2) → L'.Perm ((c, k) :: L)) → Inv X pins σ (upd H D (SetTO X.prog X.w D L')) s' → Q .none s') : wpAny (model X.prog X.w) X.A (call (.builtin "set.add") [.ref D, .ref c]) Q E s := by
  obtain ⟨es, ep, t, R⟩ := (setTO_get I hD).full fun p hp => I.isT (hL p hp)
  refine setT_addCall R (I.isT hq) hu room fun h' tk L' es' ep' t' sb R' c1 c2 => ?_
  have he : ∃ u, h'.get? D = some u := by
    obtain ⟨o, ho, _⟩ := R'.ob
    exact ⟨o, ho⟩
  exact h L' _ c1 c2 (I.write (e := D) (t' := tk) (by rw [hD]; trivial) (.inl rfl) (fun b u hb hu => (sb.2 b hb).trans hu) he (setTO_new R'.t0))
end
section
end
end PpSetT
namespace Y
open PySem PySem.Spec PyProof.Rows L2 Z
/-! ## sets of tuples of ints -/
/-- a set of tuples of ints: its members are those of ks -/
def SetP (P : Program) (w : World) (K : PySem.W.Frag) (ks : List (List Int)) (v : V) (S : Hp) : Prop := ∃ a L, v = .ref a ∧ S a = some (SetTO P w a L) ∧ (∀ p ∈ L, SqT K S p.1 (p.2.map V.int)) ∧ (∀ k, k ∈ L.map (·.2) ↔ k ∈ ks) ∧ (L.map (·.2)).Nodup ∧ L.length ≤ ks.length
instance {P : Program} {w : World} {K : PySem.W.Frag} {ks : List (List Int)} : Mn (SetP P w K ks) := ⟨fun s ⟨a, L, e, h1, h2, h3⟩ => ⟨a, L, e, s _ _ h1, fun p hp => sqt_up s (h2 p hp), h3⟩⟩
section
end
/-- the members behind one more add -/
theorem set_next {L L' : List (Addr × List Int)} {c : Addr} {k : List Int} {ks : List (List Int)} (c1 : k ∈ L.map (·.2) → L' = L) (c2 : k ∉ L.map (·.2) → L'.Perm ((c, k) :: L)) (hm : ∀ k, k ∈ L.map (·.2) ↔ k ∈ ks) (nd : (L.map (·.2)).Nodup) :
    (∀ p ∈ L', p = (c, k) ∨ p ∈ L) ∧ (∀ j, j ∈ L'.map (·.2) ↔ j ∈ ks ++ [k]) ∧ (L'.map (·.2)).Nodup ∧ L'.length ≤ L.length + 1 := by
  rcases Classical.em (k ∈ L.map (·.2)) with h | h
  · rw [c1 h]
    refine ⟨fun p hp => .inr hp, fun j => ?_, nd, by omega⟩
    rw [List.mem_append, List.mem_singleton, hm j]
    exact ⟨.inl, fun z => z.elim id fun e => by rw [e]; exact (hm k).mp h⟩
  · have pm := c2 h
    have pm2 := pm.map (·.2)
    refine ⟨fun p hp => ?_, fun j => ?_, ?_, by rw [pm.length_eq]; simp⟩
    · rcases List.mem_cons.mp (pm.mem_iff.mp hp) with e | z
      · exact .inl e
      · exact .inr z
    · rw [pm2.mem_iff, List.map_cons, List.mem_cons, List.mem_append, List.mem_singleton, hm j]
      exact or_comm
    · rw [pm2.nodup_iff, List.map_cons, List.nodup_cons]
      exact ⟨h, nd⟩
section
end
section
end
end Y
namespace Y
open PySem PySem.Spec PyProof.Rows L2 Z
/-! ## isdigit, startswith; a walk with both ends that never raises -/
section
end
/-- a def that may raise, where it does not -/
theorem fnok_calm {P : Program} {w : World} {K : PySem.W.Frag} {mg : Str → Option Value} {base : Heap} {k : Nat} {f : Addr} {fd : FuncData} {ps : List Str} {sp sp' : Sp} (F : FnOk P w K mg base (L2.CX P w) k f fd ps sp) (h : ∀ vs H Q E, sp' vs H Q E → sp vs H Q (fun _ _ _ => False)) : FnOk P w K mg base CX0 k f fd ps sp' :=
  ⟨fun vs H Q E q => F.len vs H Q _ (h _ _ _ _ q), fun A outer s H args us vs Q E hr he hb hv hs => codeAny_mono (F.run A outer s H args us vs Q _ hr he hb hv (h _ _ _ _ hs)) fun r s' c => by
    cases r with
    | ok o => cases o <;> exact c
    | error e =>
      obtain ⟨_, _, _, _, _, _, _, _, _, _, _, _, c⟩ := c
      exact c.elim⟩
theorem EW.is {X : Cx} {σ : L2.St} {S : Hp} {e : Expr} {k k' : Bool} (h : EW X σ S e k) (f : k = k') : EW X σ S e k' := f ▸ h
/-- a, b = e1, e2 with plain local names -/
theorem hs_par {X : Cx} {σ : L2.St} {S H : Hp} {a b : Expr} {Pa Pb : V → Hp → Prop} {D : Ends} {rest : List Stmt} {pos : Pos} {i j : Nat} {x y : Str} {px py pt : Pos} {kt k2 pt2} [Mn Pa] [Mn Pb] (hc : X.calm = true) (hN : X.N.Nodup) (ha : EE X σ S a Pa) (hb : EE X σ S b Pb) (s : Same S H)
    (q : ∀ v w S' H', Pa v S' → Pb w S' → Gr S H S' H' → HS X D rest ((σ.set i (some v)).set j (some w)) H')
    (hi : X.N[i]? = some x := by rfl) (hj : X.N[j]? = some y := by rfl) (hij : i ≠ j := by decide) (hx : X.env.scope.names.lookup x = some .local := by rfl) (hy : X.env.scope.names.lookup y = some .local := by rfl)
    (hw : swappedStores [.Tuple [.Name x px, .Name y py] kt pt] (.Tuple [a, b] k2 pt2) X.env = pure (some [x, y]) := by first | rfl | with_unfolding_all rfl)
    (hss : swapsWithSole [.Tuple [.Name x px, .Name y py] kt pt] (.Tuple [a, b] k2 pt2) pos.line X.env = pure false := by rfl)
    (hs1 : starEach [a, b] X.env = (false, eval a X.env) :: starEach [b] X.env := by rfl) (hs2 : starEach [b] X.env = (false, eval b X.env) :: starEach [] X.env := by rfl) : HS X D (.Assign [.Tuple [.Name x px, .Name y py] kt pt] (.Tuple [a, b] k2 pt2) pos :: rest) σ H :=
  hs_cons (ps_par hc hN hi hj hij hx hy pab hw hss) ((ea_2 ha hb hs1 hs2).2 H s _ fun vs S' H' g al => by
    obtain ⟨v, w, rfl, p1, p2⟩ := al.two
    exact ⟨v, w, rfl, q v w S' H' p1 p2 g⟩)
section
end
end Y
namespace Y
open PySem PySem.Spec PyProof.Rows L2 L2H Z
section
variable {X : Cx} {σ : L2.St} {S S' H : Hp} {a b e c o : Expr} {es : List Expr} {P R P0 : V → Hp → Prop} {pos p apos p2 : Pos} {k : Nat} {x m : Str} {sp : Sp} {C : Addr} {d1 d2 : PyData} {E : XK} {O : EK → PyData → Prop} {D : Ends} {rest body : List Stmt}
/-- what is not fixed, in a row -/
theorem al_ex {K : PySem.W.Frag} : ∀ {Ws : List (PyData → Prop)} {vs : List V} {S : Hp}, Al (Ws.map (Ex K)) vs S → ∃ ds, Dts K ds vs S ∧ Paired (fun (W : PyData → Prop) d => W d) Ws ds
  | [], _, _, h => by cases h; exact ⟨[], .nil, .nil⟩
  | W :: Ws, _, _, h => by
    cases h with
    | cons p q =>
      obtain ⟨d, hd, pd⟩ := p
      obtain ⟨ds, h1, h2⟩ := al_ex q
      exact ⟨d :: ds, .cons pd h1, .cons hd h2⟩
theorem ee_callBG {F : List PyData → (PyData → Prop) → Prop} {Ws : List (PyData → Prop)} {G : PyData → Prop} (D : KD X.prog X.w X.K X.mg X.base x k (spB X.K F)) (hr : Room k X.A) (hF : ∀ ds, Paired (fun (W : PyData → Prop) d => W d) Ws ds → ∃ G', F ds G' ∧ ∀ r, G' r → G r) (ha : EA X σ S (e :: es) (BX :: Ws.map (Ex X.K))) (hg : Gl X x := by rfl) (hdb : (x == ("__debug__" : Str)) = false := by decide)
    (he : starEach (e :: es) X.env = (false, eval e X.env) :: starEach es X.env := by rfl) (hpl : (backTo pos (starEach es X.env)).any (·.1) = false := by rfl) : EE X σ S (.Call (.Name x p) (e :: es) [] pos) (Ex X.K G) :=
  ee_call D hr ha (fun vs S1 H1 _ s al Q q => by
    cases al with
    | cons pb r =>
      obtain ⟨ds, h1, h2⟩ := al_ex r
      obtain ⟨G', h3, h4⟩ := hF ds h2
      exact ⟨S1, _, _, ds, G', rfl, s, pb, h1, h3, fun d hd u' S' H' g pu' => q u' S' H' g ⟨d, h4 d hd, pu'⟩⟩) hg hdb he hpl
end
section
end
section
end
end Y
namespace Y
open PySem PySem.Spec PyProof.Rows L2 Z
/-! ## things that change, told exactly: targets, calls, while -/
section
/-! ## list(range(..)), told as new -/
end
/-! ## a comprehension whose items are told by themselves, its list told as new (after Y52's) -/
/-- a new list: its items stand in a heap without it -/
def LstPN (S : Hp) (Ps : List (V → Hp → Prop)) (v : V) (S' : Hp) : Prop := ∃ l xs S2, v = .ref l ∧ S l = none ∧ Same S S2 ∧ S2 l = none ∧ Same S2 S' ∧ S' l = some (.lst xs) ∧ Al Ps xs S2
instance {S : Hp} {Ps : List (V → Hp → Prop)} : Mn (LstPN S Ps) := ⟨fun s ⟨l, xs, S2, a, b, c, d, e, f, g⟩ => ⟨l, xs, S2, a, b, c, d, e.trans s, s _ _ f, g⟩⟩
section
end
end Y
namespace Y
open PySem PySem.Spec PyProof.Rows L2 Z NdefX ClX
/-! ## an __init__ that begins with super().__init__(..) -/
/-- a def with the cell __class__, the class at D in it -/
structure FunS (P : Program) (K : PySem.W.Frag) (x qual : Str) (params : Arguments) (body : List Stmt) (scope : Scope) (D f : Addr) (fd : FuncData) : Prop where
  ex : ∃ (oc : Value) (od : Option Addr) (dV kV doc pm : Value) (an : Option Addr) (c cc : Addr) (ct : Value) (osl : Array (Option Value)),
    fd = PySem.W.ksFn x qual params body scope dV kV doc pm an (.ref c) ct cc ∧ K.lookup f = some ⟨oc, od, .func fd, osl⟩ ∧ PySem.W.codeIn K (.ref c) qual = true ∧
    (∃ ccl cld csl, K.lookup cc = some ⟨ccl, cld, .cell (some (.ref D)), csl⟩) ∧ (∃ cd, PySem.W.clsIn K D = some cd) ∧ ∃ ccl cdd vs ccs file tf, K.lookup c = some ⟨ccl, cdd, .fields vs, ccs⟩ ∧ vs[2]? = some (.str file tf) ∧ ((P.main.file : Str) == file) = true
  kp : PySem.W.keepIn K (.ref f) = true
  dv : fd.defaults = .none
section
end
theorem FunS.bindsN {P : Program} {K : PySem.W.Frag} {x qual : Str} {params : Arguments} {body : List Stmt} {scope : Scope} {D f : Addr} {fd : FuncData} {ps : List Str} (F : FunS P K x qual params body scope D f fd)
    (h : ∀ (kV doc pm : Value) (an : Option Addr) (cdv ct : Value) (cc : Addr) (us : List Value), us.length = ps.length → bindArgs (PySem.W.ksFn x qual params body scope .none kV doc pm an cdv ct cc) ⟨us, []⟩ = pure (ps.zip us)) : Binds K fd ps [] := by
  obtain ⟨oc, od, dV, kV, doc, pm, an, c, cc, ct, osl, rfl, _⟩ := F.ex
  have := F.dv
  have hd : dV = .none := this
  subst hd
  exact .all (h kV doc pm an (.ref c) ct cc)
end Y
namespace Y
open PySem PySem.Spec PyProof.Rows L2 Z
section
end
section
end
end Y
namespace Y
open PySem PySem.Spec PyProof.Rows L2 Z
/-! ## name = [..] on one line, the list told as new -/
section
end
section
end
end Y
namespace PySem.W
open PySem PySem.Spec PySem.Calls PyProof.Rows
end PySem.W
namespace Y
open PySem PySem.Spec PyProof.Rows L2 Z
section
end
end Y
namespace Y
open PySem PySem.Spec PyProof.Rows L2 Z
section
end
end Y
namespace Y
open PySem PySem.Spec PyProof.Rows L2 Z
end Y
namespace Y
open PySem PySem.Spec PyProof.Rows L2 Z
section
end
end Y
namespace Y
open PySem PySem.Spec PyProof.Rows L2 Z LamX NdefX
section
end
end Y
namespace Y
open PySem PySem.Spec PyProof.Rows L2 L2H Z
section
end
end Y
namespace Y
open PySem PySem.Spec PyProof.Rows L2 Z
section
end
end Y
namespace Y
open PySem PySem.Spec PyProof.Rows L2 Z
/-! ## f(k1=, k2=, k3=), the parameters in the order k2, k3, k1 -/
section
end
end Y
namespace Y
open PySem PySem.Spec PyProof.Rows L2 Z
section
end
end Y
namespace Y
open PySem PySem.Spec PyProof.Rows L2 Z
/-! ## dict(a list of pairs) whose keys are tuples of ints, whose values are ints -/
theorem dts_hd {K : PySem.W.Frag} {d : PyData} {ds : List PyData} {x : V} {xs : List V} {H : Hp} (h : Dts K (d :: ds) (x :: xs) H) : Dt K d x H := h.2 0 x d rfl rfl
theorem dts_tl {K : PySem.W.Frag} {d : PyData} {ds : List PyData} {x : V} {xs : List V} {H : Hp} (h : Dts K (d :: ds) (x :: xs) H) : Dts K ds xs H := ⟨Nat.succ.inj h.1, fun i y e hy he => h.2 (i + 1) y e hy he⟩
def pkI (q : List Int × Int) : PyData := .tuple [.tuple (q.1.map .int), .int q.2]
/-- v is a dict that holds m -/
def DctP (m : MapI) (v : V) (S : Hp) : Prop := ∃ b, v = .ref b ∧ S b = some (.dT (kvM m))
instance {m : MapI} : Mn (DctP m) := ⟨fun s ⟨b, e, h⟩ => ⟨b, e, s _ _ h⟩⟩
/-- what the items are -/
def PrsH (H : Hp) : List V → MapI → Prop := Paired fun v q => ∃ T b, v = .ref T ∧ H T = some (.tup [.ref b, .int q.2]) ∧ H b = some (.tup (q.1.map V.int))
theorem kt_fold {H : Hp} : ∀ (ps : MapI) (rs : List (List Key × Addr × Value)) (m : MapI) (xs : List (List Key × Addr × Value)), KT H (kvM m) xs → Paired (fun (p : List Int × Int) r => r.1 = kI p.1 ∧ H r.2.1 = some (.tup (p.1.map V.int)) ∧ RelV (.int p.2) r.2.2) ps rs → KT H (kvM (ps.foldl (fun m q => putM m q.1 q.2) m)) (storedAllH xs rs)
  | [], _, m, xs, k, r => by cases r; exact k
  | p :: ps, _, m, xs, k, r => by
    cases r with
    | @cons _ q _ qs h t =>
      obtain ⟨e, hb, rv⟩ := h
      have k2 : KT H (kvM (putM m p.1 p.2)) (storedH xs q.1 q.2.1 q.2.2) := by
        rw [e, ← putK_kvM]
        exact k.put (kI p.1) (by rw [kI_kV]; exact hb) rv
      exact kt_fold ps qs _ _ k2 t
section
variable {X : Cx} {σ : L2.St} {S S' H : Hp} {e o : Expr} {p pos : Pos} {ps : MapI}
/-- the items' objects -/
theorem prs_objs {P : Program} {w : World} {h : Heap} (ok : HOk P w H h) : ∀ (vs : List V) (ps : MapI) (its : List Value), PrsH H vs ps → Vals vs its → ∃ qs : List (Addr × List Key × Addr × Value), its = qs.map (fun q => .ref q.1) ∧ (∀ q ∈ qs, PairAt h q.1 (.ref q.2.2.1) q.2.2.2 ∧ H q.2.2.1 = some (.tup (q.2.1.map kV))) ∧
    Paired (fun (p : List Int × Int) r => r.1 = kI p.1 ∧ H r.2.1 = some (.tup (p.1.map V.int)) ∧ RelV (.int p.2) r.2.2) ps (qs.map (·.2))
  | [], ps, its, hp, hv => by
    cases hp
    cases hv
    exact ⟨[], rfl, (fun q hq => nomatch hq), .nil⟩
  | v :: vs, ps, its, hp, hv => by
    cases hp with
    | @cons _ q _ ps h1 t =>
      cases hv with
      | @cons _ u _ us r t2 =>
        obtain ⟨qs, e, hq, hp2⟩ := prs_objs ok vs ps us t t2
        obtain ⟨T, b, rfl, hT, hb⟩ := h1
        cases (show u = Value.ref T from r)
        obtain ⟨_, its, rv, hi⟩ := (show ObjOk P w H h T (.tup [.ref b, .int q.2]) from ok T _ hT)
        cases rv with
        | @cons _ u1 _ _ r1 rv =>
          cases rv with
          | @cons _ u2 _ _ r2 rv =>
            cases rv
            cases (show u1 = Value.ref b from r1)
            refine ⟨(T, kI q.1, b, u2) :: qs, by rw [List.map_cons, e], fun x hx => ?_, .cons ⟨rfl, hb, r2⟩ hp2⟩
            rcases List.mem_cons.mp hx with rfl | hx
            · exact ⟨.inl hi, by show H b = some (.tup ((kI q.1).map kV)); rw [kI_kV]; exact hb⟩
            · exact hq x hx
def rDictP (K : PySem.W.Frag) (ps : MapI) : List V → Hp → VK → Prop := fun xs H Q => ∃ a vs, xs = [V.ref a] ∧ SqL K H a vs ∧ PrsH H vs ps ∧ ∀ p, H p = none → Q (.ref p) (upd H p (.dT (kvM (mkM ps))))
theorem cr_dictP (hu : X.A.units + 2 < cLine) (hc : X.calm = true) : CallR X (.type "dict") (rDictP X.K ps) := fun pins s σ H xs us Q I r ⟨a, vs, ev, hs, hp, q⟩ => by
  subst ev
  obtain ⟨its, rv, hl, hz⟩ := I.list hs
  rw [Vals.ref1 r]
  obtain ⟨ol, np, h1, h2, h3, h4⟩ := hl
  obtain ⟨qs, e, hq, hpp⟩ := prs_objs I.hok vs ps its hp rv
  subst e
  have hlen : qs.length ≤ sizeLine := by
    have := rv.length
    rw [List.length_map] at this
    omega
  have hps : ps.length = qs.length := by
    have := hpp.length
    rw [List.length_map] at this
    exact this
  have hH : H s.heap.objs.size = none := I.hok.fresh (Nat.le_refl _)
  let vps : List (Value × Value) := qs.map fun q => (.ref q.2.2.1, q.2.2.2)
  have PA := PySem.PairArg.list (prog := X.prog) (w := X.w) a (qs.map (fun q => Value.ref q.1)).toArray (fun j => ((qs[j]?).map (·.1)).getD 0) vps
  refine PySem.call_dict_pairsH (knd := tupleKind (mixKind X.prog X.w)) (ps := qs.map (·.2)) PA (I.ok.hd hc) hu ⟨⟨ol, np, h1, h2, h3, h4⟩, ?_, ?_⟩ ⟨?_, ?_⟩ ?_ ?_ fun h' tk hd hk => ?_
  · show (qs.map fun q => Value.ref q.1).toArray.size = vps.length
    simp [vps]
  · intro j k v hj
    have hj' : (qs.map fun q => (Value.ref q.2.2.1, q.2.2.2))[j]? = some (k, v) := hj
    rw [List.getElem?_map] at hj'
    obtain ⟨q0, hq0, e0⟩ := Option.map_eq_some_iff.mp hj'
    refine ⟨by simp [hq0], ?_⟩
    have := (hq q0 (List.mem_of_getElem? hq0)).1
    simp only [hq0, Option.map_some, Option.getD_some]
    cases e0
    exact this
  · show (qs.map (·.2)).length = vps.length
    simp [vps]
  · intro i key v hi
    obtain ⟨q0, hq0, e0⟩ := Option.map_eq_some_iff.mp (show (qs[i]?).map (fun q => (Value.ref q.2.2.1, q.2.2.2)) = some (key, v) by rw [← List.getElem?_map]; exact hi)
    cases e0
    exact ⟨q0.2.1, q0.2.2.1, by simp [hq0], rfl⟩
  · intro h' hst x hx
    obtain ⟨q0, hq0, rfl⟩ := List.mem_map.mp hx
    have hb := (hq q0 hq0).2
    obtain ⟨o, its, n, h1, h2, h3, h4⟩ := key_of I.hok hb
    refine ⟨o, its, n, hst _ _ (fun e => ?_) (fun h => nomatch h) h1, h2, h3, h4⟩
    rw [e, hH] at hb
    cases hb
  · show vps.length ≤ sizeLine
    simp only [vps, List.length_map]; exact hlen
  · obtain ⟨o, es, ep, d1, d2, d3, d4, _, d5⟩ := hd
    have kt : KT H (kvM (mkM ps)) (storedAllH [] (qs.map (·.2))) := kt_fold ps _ [] [] .nil hpp
    refine ⟨.ref _, upd H s.heap.objs.size (.dT (kvM (mkM ps))), I.laid (t' := tk) (fun b u e => hk b u (fun h => nomatch h) e) (Nat.le_refl _) ⟨?_, beq_eq_false_iff_ne.mpr (Ne.symm (Nat.ne_of_lt I.big)), _, ?_, o, es, ep, d1, d2, d3, d4, d5⟩, rfl, q _ hH⟩
    · rw [kvM_len]
      have := mkM_len ps
      omega
    · exact kt.keeps fun b ys e => by rw [upd_ne (ne_of_none e hH)]; exact e
theorem prs_of {K : PySem.W.Frag} {S H : Hp} (s : Same S H) : ∀ {ps : MapI} {xs : List V}, (∀ q ∈ ps, q.1 ≠ []) → Dts K (ps.map pkI) xs S → PrsH H xs ps
  | [], xs, _, h => by
    have : xs = [] := List.eq_nil_of_length_eq_zero (by have := h.1; simpa using this)
    subst this
    exact .nil
  | q :: ps, xs, hn, h => by
    cases xs with
    | nil => exact absurd h.1 (by simp)
    | cons x xs =>
      have hd := dts_hd h
      have ht := dts_tl h
      refine .cons ?_ (prs_of s (fun q hq => hn q (List.mem_cons_of_mem _ hq)) ht)
      obtain ⟨a, ys, rfl, hl, hx, _⟩ := (show Dt K (.tuple [.tuple (q.1.map .int), .int q.2]) x S from hd).tup_invS
      match ys, hx with
      | [y1, y2], hx =>
        have h2 := dts_hd (dts_tl hx)
        cases h2
        obtain ⟨b, rfl, hb⟩ := ky_of (dts_hd hx) (hn q (List.mem_cons_self ..))
        rcases hl with hl | ⟨e, _⟩
        · exact ⟨a, b, rfl, s _ _ hl, s _ _ hb⟩
        · cases e
      | [], hx => exact absurd hx.1 (by simp)
      | [_], hx => exact absurd hx.1 (by simp)
      | _ :: _ :: _ :: _, hx => exact absurd hx.1 (by simp)
/-- dict([(k, n), ..]) -/
theorem ee_dictP (hu : X.A.units + 2 < cLine) (hc : X.calm = true) (hm : X.mg "dict" = none) (hn : ∀ q ∈ ps, q.1 ≠ []) (he : EE X σ S e (Dt X.K (.list (ps.map pkI)))) (hg : Gl X "dict" := by rfl) (hs : starEach [e] X.env = (false, eval e X.env) :: starEach [] X.env := by rfl) :
    EE X σ S (.Call (.Name "dict" p) [e] [] pos) (DctP (mkM ps)) :=
  ee_callTy (cr_dictP hu hc) hm (by rfl) (ea_1 he hs) (fun vs S1 H1 s0 s al Q q => by
    obtain ⟨v, rfl, pv⟩ := al.one
    obtain ⟨l, xs, rfl, hl, hx, z⟩ := pv.lst_inv
    exact ⟨l, xs, rfl, sql_of (s _ _ hl), prs_of s hn hx, fun p hp => q _ _ _ (Gr.new s hp) ⟨p, rfl, upd_same⟩⟩) hg (he := hs) (hpl := by rfl)
end
section
variable {X : Cx} {σ : L2.St} {S H : Hp} {o : Expr} {pos p apos : Pos} {D : Ends} {rest : List Stmt}
/-- o.clear(), o a new list -/
theorem hs_clearN {ds : List PyData} (ho : EE X σ S o (NewL X.K S ds)) (s : Same S H) (q : ∀ l xs S' H', Gr S H S' H' → S l = none → S' l = some (.lst xs) → HS X D rest σ (upd H' l (.lst []))) (hbase : attributeBase o "clear" X.env (eval o X.env) = eval o X.env := by rfl) (hline : (apos.endLine == p.line) = true := by rfl) (hs : swapsWith (.Call (.Attribute o "clear" apos) [] [] p) none pos.line X.env = pure false := by rfl) : HS X D (.Expr (.Call (.Attribute o "clear" apos) [] [] p) pos :: rest) σ H :=
  hs_cons (ps_expr (pe_bm0 PySem.F.plainAttrs_list PySem.F.slot_list_clear PySem.F.type_list_clear mt_clear peb hbase hline) hs) (ho H s _ fun w S1 H1 g1 pw => by
    obtain ⟨l, xs, rfl, h0, h1, h2, h3⟩ := pw
    exact ⟨.inl ⟨rfl, _, .inl (.inl (g1.sub _ _ h1))⟩, l, xs, rfl, rfl, g1.sub _ _ h1, q l xs S1 H1 g1 h0 h1⟩)
end
/-! ## a not in b as a value -/
section
end
/-! ## any(a tuple of ints) -/
section
end
theorem putM_new {m : MapI} {k : List Int} {n : Int} (h : k ∉ m.map (·.1)) : putM m k n = m ++ [(k, n)] := by
  unfold putM
  rw [if_neg]
  intro hh
  obtain ⟨q, hq, e⟩ := List.any_eq_true.mp hh
  exact h (List.mem_map.mpr ⟨q, hq, of_decide_eq_true e⟩)
theorem foldM_nodup : ∀ (ps m : MapI), ((m ++ ps).map (·.1)).Nodup → ps.foldl (fun m q => putM m q.1 q.2) m = m ++ ps
  | [], m, _ => by rw [List.append_nil]; rfl
  | q :: ps, m, h => by
    rw [List.foldl_cons, putM_new, foldM_nodup ps]
    · rw [List.append_assoc]; rfl
    · rw [List.append_assoc]; exact h
    · rw [List.map_append, List.map_cons, List.nodup_append] at h
      exact fun hk => h.2.2 _ hk _ (List.mem_cons_self ..) rfl
theorem mkM_nodup {ps : MapI} (h : (ps.map (·.1)).Nodup) : mkM ps = ps := by
  unfold mkM
  rw [foldM_nodup ps [] (by simpa using h)]
  rfl
end Y
namespace Y
open PySem PySem.Spec PyProof.Rows L2 Z
/-! ## C(e1, e2, e3, ..) whose third part raises -/
section
end
/-! ## tests and calls over the whole heap -/
section
end
end Y
namespace Y
open PySem PySem.Spec PyProof.Rows L2 Z
/-! ## enumerate over zip of two tuples: the zip's own tuple is never let go, so its marks are any -/
section
open Sem (wp)
end
end Y
namespace Y
open PySem PySem.Spec PyProof.Rows L2 Z
section
end
end Y
namespace Y
open PySem PySem.Spec PyProof.Rows L2 Z
/-! ## if o: .., o an own thing with __bool__ -/
section
end
end Y
namespace Y
open PySem PySem.Spec PyProof.Rows L2 Z
/-! ## o.m(k1=a, k2=b) -/
section
end
end Y
namespace Y
open PySem PySem.Spec PyProof.Rows L2 Z
/-! ## zip of three tuples -/
section
end
end Y
namespace Y
open PySem PySem.Spec PyProof.Rows L2 Z
/-! ## zip of a list and a tuple -/
section
end
end Y
namespace Y
open PySem PySem.Spec PyProof.Rows L2 Z
/-! ## enumerate over a tuple of things of any kind -/
theorem tupP_mn {Ps : List (V → Hp → Prop)} (h : ∀ P ∈ Ps, Mn P) : Mn (TupP Ps) := ⟨fun s ⟨l, xs, a, b, c⟩ => ⟨l, xs, a, s _ _ b, al_mn h s c⟩⟩
instance tupP2_mn {A B : V → Hp → Prop} [ma : Mn A] [mb : Mn B] : Mn (TupP [A, B]) := tupP_mn fun P hP => by
  simp only [List.mem_cons, List.not_mem_nil, or_false] at hP
  rcases hP with rfl | rfl
  · exact ma
  · exact mb
/-- the pair of a place and a thing -/
def EnP (i : Nat) (P : V → Hp → Prop) (v : V) (S : Hp) : Prop := ∃ l x, v = .ref l ∧ S l = some (.tup [.int (i : Nat), x]) ∧ P x S
section
end
/-! ## f(k1 = e1, k2 = e2), the values in the def's order or the other way round -/
section
end
end Y
namespace Y
open PySem PySem.Spec PyProof.Rows L2 Z
section
variable {X : Cx} {σ : L2.St} {S : Hp} {a b elt iter : Expr} {pos p px py tp : Pos} {ds1 : List PyData} {scope : Scope} {i j kk : Nat} {x y : Str} {d : PyData}
/-- x is None, x data -/
def isNn (d : PyData) : Bool := match d with
  | .none => true
  | _ => false
theorem dt_non {K : PySem.W.Frag} {v : V} {S : Hp} (h : Dt K d v S) : decide (v = .non) = isNn d := by
  cases h <;> simp [isNn]
end
end Y
/-! # a set comprehension with two clauses, of tuples of ints -/
namespace PpSetT
open PySem PySem.Spec PyProof.Rows L2 PpSet
theorem compTurnS2_out (elt t0 i0 t1 i1 : Expr) (ifs0 ifs1 : List Expr) (scope : Scope) (pos : Pos) (it acc : Value) (env : Env) :
    compTurn (.SetComp elt [⟨t0, i0, ifs0, 0⟩, ⟨t1, i1, ifs1, 0⟩] scope pos) 0 it acc env = (do
      standAt i0.pos
      match ← pyNext it with
      | none => pure (.done .next)
      | some v =>
        letOwnedTupleGo t0 it v
        assign t0 env v
        let mut ok := true
        for c in ifs0 do
          if ok then ok ← isTrue c env (eval c env)
        if ok then
          let x ← eval i1 env
          standAt i1.pos
          let x ← foldedSetIterable i1 env x
          let _ ← runOwn (.compStart (.SetComp elt [⟨t0, i0, ifs0, 0⟩, ⟨t1, i1, ifs1, 0⟩] scope pos) 1 (← holding [x] (pyIter x)) acc env) env
        again (.compLoop (.SetComp elt [⟨t0, i0, ifs0, 0⟩, ⟨t1, i1, ifs1, 0⟩] scope pos) 0 it acc env)) := by rfl
theorem compTurnS2_in (elt t0 i0 t1 i1 : Expr) (ifs0 ifs1 : List Expr) (scope : Scope) (pos : Pos) (it acc : Value) (env : Env) :
    compTurn (.SetComp elt [⟨t0, i0, ifs0, 0⟩, ⟨t1, i1, ifs1, 0⟩] scope pos) 1 it acc env = (do
      standAt i1.pos
      match ← pyNext it with
      | none => pure (.done .next)
      | some v =>
        letOwnedTupleGo t1 it v
        assign t1 env v
        let mut ok := true
        for c in ifs1 do
          if ok then ok ← isTrue c env (eval c env)
        if ok then
          (do let v ← eval elt env; standAt elt.pos; let _ ← call (.builtin "set.add") [acc, v])
        again (.compLoop (.SetComp elt [⟨t0, i0, ifs0, 0⟩, ⟨t1, i1, ifs1, 0⟩] scope pos) 1 it acc env)) := by rfl
section
variable {prog : Program} {w : World} {A : Around} {R : Result → Shared → Prop} {s : Shared} {elt t0 i0 t1 i1 : Expr} {ifs0 ifs1 : List Expr} {scope : Scope} {pos : Pos} {it acc : Value} {env : Env}
/-- the loop of the first clause -/
theorem compLoopS2_out (hs : ∀ x, foldedSetIterable i1 env x = pure x) (I : Nat → Shared → Prop)
    (turn : ∀ n s, I n s → wpAny (model prog w) A (pyNext it) (fun r s₁ => match r with
      | none => R (.ok .next) s₁
      | some v => wpAny (model prog w) A (letOwnedTupleGo t0 it v) (fun _ s₁' => wpAny (model prog w) A (assign t0 env v) (fun _ s₂ =>
          wpAny (model prog w) A (forIn ifs0 true fun c r => if r = true then do let ok ← isTrue c env (eval c env); pure (ForInStep.yield ok) else pure (ForInStep.yield r)) (fun ok s₃ =>
            if ok = true then wpAny (model prog w) A (eval i1 env) (fun x s₄ => wpAny (model prog w) A (pyIter x) (fun it1 s₅ =>
              codeAny (model prog w) A (.compStart (.SetComp elt [⟨t0, i0, ifs0, 0⟩, ⟨t1, i1, ifs1, 0⟩] scope pos) 1 it1 acc env) (fun r s' => match r with
                | .ok _ => ∃ m, m < n ∧ I m s'
                | .error _ => False) s₅) (notedBy (model prog w) A env fun e s' => R (.error e) s') s₄) (notedBy (model prog w) A env fun e s' => R (.error e) s') s₃
            else ∃ m, m < n ∧ I m s₃) (notedBy (model prog w) A env fun e s' => R (.error e) s') s₂) (notedBy (model prog w) A env fun e s' => R (.error e) s') s₁') (notedBy (model prog w) A env fun e s' => R (.error e) s') s₁) (notedBy (model prog w) A env fun e s' => R (.error e) s') s)
    (n : Nat) (h : I n s) :
    codeAny (model prog w) A (.compLoop (.SetComp elt [⟨t0, i0, ifs0, 0⟩, ⟨t1, i1, ifs1, 0⟩] scope pos) 0 it acc env) R s := by
  refine codeAny_loop rfl I (fun n s hI => ?_) n h
  show wpAny _ A ((compTurn (.SetComp elt [⟨t0, i0, ifs0, 0⟩, ⟨t1, i1, ifs1, 0⟩] scope pos) 0 it acc env).onRaise (fun x => do noteFrame x env; theTreesLotGoes x)) _ _ s
  refine wpAny_noted ?_
  rw [compTurnS2_out]
  refine wpAny_bind (wpAny_standAt (wpAny_bind (wpAny_mono (turn n s hI) (fun r s₁ h₁ => ?_) fun _ _ h' => h')))
  cases r with
  | none => exact wpAny_pure h₁
  | some v =>
    refine wpAny_bind (wpAny_mono h₁ (fun _ s₁' h₁' => ?_) fun _ _ h' => h')
    refine wpAny_bind (wpAny_mono h₁' (fun _ s₂ h₂ => wpAny_bind (wpAny_mono h₂ (fun ok s₃ h₃ => ?_) fun _ _ h' => h')) fun _ _ h' => h')
    cases ok with
    | false => exact wpAny_pure ⟨rfl, h₃⟩
    | true =>
      refine wpAny_bind (wpAny_mono h₃ (fun x s₄ h₄ => ?_) fun _ _ h' => h')
      refine wpAny_bind (wpAny_standAt (wpAny_bind (wpAny_of_eq (hs x) (wpAny_bind (wpAny_holding (wpAny_mono h₄ (fun it1 s₅ h₅ => ?_) fun _ _ h' => h'))))))
      refine wpAny_bind (wpAny_runOwn ?_)
      rw [Around.mark_none]
      refine codeAny_mono h₅ fun r s' hr => ?_
      cases r with
      | ok f =>
        first
          | exact wpAny_pure ⟨rfl, hr⟩
          | exact wpAny_bind (wpAny_pure (wpAny_pure ⟨rfl, hr⟩))
      | error e => exact hr.elim
/-- the loop of the second -/
theorem compLoopS2_in (I : Nat → Shared → Prop)
    (turn : ∀ n s, I n s → wpAny (model prog w) A (pyNext it) (fun r s₁ => match r with
      | none => R (.ok .next) s₁
      | some v => wpAny (model prog w) A (letOwnedTupleGo t1 it v) (fun _ s₁' => wpAny (model prog w) A (assign t1 env v) (fun _ s₂ =>
          wpAny (model prog w) A (forIn ifs1 true fun c r => if r = true then do let ok ← isTrue c env (eval c env); pure (ForInStep.yield ok) else pure (ForInStep.yield r)) (fun ok s₃ =>
            if ok = true then wpAny (model prog w) A (eval elt env) (fun x s₄ =>
              wpAny (model prog w) A (call (.builtin "set.add") [acc, x]) (fun _ s₅ => ∃ m, m < n ∧ I m s₅) (notedBy (model prog w) A env fun e s' => R (.error e) s') s₄) (notedBy (model prog w) A env fun e s' => R (.error e) s') s₃
            else ∃ m, m < n ∧ I m s₃) (notedBy (model prog w) A env fun e s' => R (.error e) s') s₂) (notedBy (model prog w) A env fun e s' => R (.error e) s') s₁') (notedBy (model prog w) A env fun e s' => R (.error e) s') s₁) (notedBy (model prog w) A env fun e s' => R (.error e) s') s)
    (n : Nat) (h : I n s) :
    codeAny (model prog w) A (.compLoop (.SetComp elt [⟨t0, i0, ifs0, 0⟩, ⟨t1, i1, ifs1, 0⟩] scope pos) 1 it acc env) R s := by
  refine codeAny_loop rfl I (fun n s hI => ?_) n h
  show wpAny _ A ((compTurn (.SetComp elt [⟨t0, i0, ifs0, 0⟩, ⟨t1, i1, ifs1, 0⟩] scope pos) 1 it acc env).onRaise (fun x => do noteFrame x env; theTreesLotGoes x)) _ _ s
  refine wpAny_noted ?_
  rw [compTurnS2_in]
  refine wpAny_bind (wpAny_standAt (wpAny_bind (wpAny_mono (turn n s hI) (fun r s₁ h₁ => ?_) fun _ _ h' => h')))
  cases r with
  | none => exact wpAny_pure h₁
  | some v =>
    refine wpAny_bind (wpAny_mono h₁ (fun _ s₁' h₁' => ?_) fun _ _ h' => h')
    refine wpAny_bind (wpAny_mono h₁' (fun _ s₂ h₂ => wpAny_bind (wpAny_mono h₂ (fun ok s₃ h₃ => ?_) fun _ _ h' => h')) fun _ _ h' => h')
    cases ok with
    | false => exact wpAny_pure ⟨rfl, h₃⟩
    | true =>
      exact wpAny_bind (wpAny_bind (wpAny_mono h₃ (fun x s₄ h₄ => wpAny_bind (wpAny_standAt (wpAny_bind (wpAny_mono h₄ (fun _ s₅ h₅ => wpAny_pure (wpAny_pure ⟨rfl, h₅⟩)) fun _ _ h' => h')))) fun _ _ h' => h'))
/-- the second clause's start -/
theorem compStartS1_ok (h0 : codeAny (model prog w) A (.compLoop (.SetComp elt [⟨t0, i0, ifs0, 0⟩, ⟨t1, i1, ifs1, 0⟩] scope pos) 1 it acc env) R s)
    (h : wpAny (model prog w) A (pyIter it) (fun it' s' => codeAny (model prog w) A (.compLoop (.SetComp elt [⟨t0, i0, ifs0, 0⟩, ⟨t1, i1, ifs1, 0⟩] scope pos) 1 it' acc env) R s')
      (notedBy (model prog w) A env fun x s' => R (.error x) s') s) :
    codeAny (model prog w) A (.compStart (.SetComp elt [⟨t0, i0, ifs0, 0⟩, ⟨t1, i1, ifs1, 0⟩] scope pos) 1 it acc env) R s := by
  refine codeAny_of_tree ?_
  show wpAny _ _ ((compStart (.SetComp elt [⟨t0, i0, ifs0, 0⟩, ⟨t1, i1, ifs1, 0⟩] scope pos) 1 it acc env).onRaise (fun x => do noteFrame x env; standAt theWindowsPlace)) _ _ s
  refine wpAny_notedAt ?_
  unfold compStart
  show wpAny _ _ (ask >>= _) _ _ s
  refine wpAny_bind (wpAny_askSetting (wpAny_ite ?_))
  split
  · first
      | exact wpAny_bind (wpAny_pure (wpAny_pure (And.intro rfl h0)))
      | exact wpAny_pure (And.intro rfl h0)
  · first
      | exact wpAny_bind (wpAny_rule (wpAny_bind (wpAny_standAt (wpAny_bind (wpAny_mono h (fun it' s' h' => wpAny_pure (And.intro rfl h')) fun _ _ x => x)))))
      | (refine wpAny_bind (wpAny_rule ?_); show wpAny _ _ (standAt i1.pos >>= _) _ _ s; exact wpAny_bind (wpAny_standAt (wpAny_bind (wpAny_mono h (fun it' s' h' => wpAny_pure (And.intro rfl h')) fun _ _ x => x))))
end
section
variable {X : Cx}
/-- {elt for tg in iter if .. for tg1 in iter1 if ..}: D the new set -/
def tSc2 (P : Program) (w : World) (K : PySem.W.Frag) (wi : TI) (g : TG) (tt : TT) (wi1 : TI) (g1 : TG) (tt1 : TT) (te : TE) (vs vs1 : List Nat) : TE := fun σ H Q => wi σ H fun J H1 => ∀ D, H1 D = none → ∃ W : Nat → Nat → Hp → Prop, (∃ m, W 0 m (upd H1 D (SetTO P w D []))) ∧ ∀ i m H, W i m H →
  (J.stop i H ∧ Q (.ref D) H) ∨ (J.go i H ∧ ∃ Nx : Hp → Prop, (∀ H', Nx H' → ∃ m', m' < m ∧ W (i + 1) m' H') ∧ ∀ x H', J.yld i H x H' → g x (wipe σ vs) H' fun σ2 H2 => wipe σ2 vs = wipe σ vs ∧ tt σ2 H2 fun b H3 =>
    if b = true then wi1 σ2 H3 fun J1 H4 => ∃ W1 : Nat → Nat → Hp → Prop, (∃ m, W1 0 m H4) ∧ ∀ j k H, W1 j k H →
      (J1.stop j H ∧ Nx H) ∨ (J1.go j H ∧ ∃ Nx1 : Hp → Prop, (∀ H', Nx1 H' → ∃ k', k' < k ∧ W1 (j + 1) k' H') ∧ ∀ x H', J1.yld j H x H' → g1 x (wipe σ2 vs1) H' fun σ3 H5 => wipe σ3 vs1 = wipe σ2 vs1 ∧ tt1 σ3 H5 fun b H6 =>
        if b = true then te σ3 H6 fun y H7 => ∃ (c : Addr) (k : List Int) (L : List (Addr × List Int)), y = .ref c ∧ SqT K H7 c (k.map V.int) ∧ (∀ p ∈ L, SqT K H7 p.1 (p.2.map V.int)) ∧ H7 D = some (SetTO P w D L) ∧ L.length + 1 < 64 ∧ ∀ L', (k ∈ L.map (·.2) → L' = L) → (k ∉ L.map (·.2) → L'.Perm ((c, k) :: L)) → Nx1 (upd H7 D (SetTO P w D L')) else Nx1 H6)
    else Nx H3)
theorem sc2_core {pins : List (Addr × Obj)} {s : Shared} {σ : L2.St} {H : Hp} {Q : VK} {elt tg iter tg1 iter1 : Expr} {ifs ifs1 : List Expr} {scope : Scope} {own : List (PySem.Str × Nat)} {vs1 : List Nat} {pos pos' : Pos} {wi wi1 : TI} {g g1 : TG} {tt tt1 : TT} {te : TE} {use : Option (Value → Sem Unit)} {Qf : Value → Shared → Prop}
    (hu : X.A.units + 64 < cLine) (hc : X.calm = true) (hN : X.N.Nodup) (I : Inv X pins σ H s) (hi : PI X tg iter wi) (ok : BlkOk X.N X.env.scope scope own) (hv : ∀ i ∈ vs1, i ∈ own.map (·.2))
    (hg : ∀ (s : Shared) (H : Hp) (C : Addr) (cl : List (PySem.Str × Addr)) (fp : List Addr), PG (X.blk s H scope (compEnvC scope cl C X.env) fp) tg g) (ht : ∀ (s : Shared) (H : Hp) (C : Addr) (cl : List (PySem.Str × Addr)) (fp : List Addr), PTs (X.blk s H scope (compEnvC scope cl C X.env) fp) ifs tt)
    (he : ∀ (s : Shared) (H : Hp) (C : Addr) (cl : List (PySem.Str × Addr)) (fp : List Addr), PE (X.blk s H scope (compEnvC scope cl C X.env) fp) elt te) (hs : ∀ x, foldedSetIterable iter X.env x = pure x)
    (hi1 : ∀ (s : Shared) (H : Hp) (C : Addr) (cl : List (PySem.Str × Addr)) (fp : List Addr), PI (X.blk s H scope (compEnvC scope cl C X.env) fp) tg1 iter1 wi1)
    (hg1 : ∀ (s : Shared) (H : Hp) (C : Addr) (cl : List (PySem.Str × Addr)) (fp : List Addr), PG (X.blk s H scope (compEnvC scope cl C X.env) fp) tg1 g1)
    (ht1 : ∀ (s : Shared) (H : Hp) (C : Addr) (cl : List (PySem.Str × Addr)) (fp : List Addr), PTs (X.blk s H scope (compEnvC scope cl C X.env) fp) ifs1 tt1)
    (hs1 : ∀ env x, foldedSetIterable iter1 env x = pure x)
    (h : tSc2 X.prog X.w X.K wi g tt wi1 g1 tt1 te (own.map (·.2)) vs1 σ H Q)
    (hRR : ∀ D C s' m H', Inv X pins σ H' s' → Q (.ref D) H' → s'.heap.Ns C m → FpOk X pins H' C → compPost (model X.prog X.w) X.A X.xe use Qf (.ref D) C (.ok .next) s') :
    wpAny (model X.prog X.w) X.A (comprehension (.SetComp elt [⟨tg, iter, ifs, 0⟩, ⟨tg1, iter1, ifs1, 0⟩] scope pos) scope X.env pos' (newSet (.type "set")) false (eval iter X.env) use) Qf X.xe s := by
  have hfree : ∀ y ∈ scope.names, y.2 = .free → ∃ c, X.env.cells.lookup y.1 = some c := fun y hy e => by
    rcases ok.free y hy e with k | k
    · exact I.ok.has _ (.inl k)
    · exact I.ok.has _ (.inr k)
  refine wpAny_comprehension_free (use := use) rfl hs (closure_ok hfree) ok.kind (fun y hy e => by rw [ok.uniq y hy, e])
    (thn (hi.run pins s σ H _ I h) fun xv s1 hx => thn hx fun itv s2 h2 => ?_)
  obtain ⟨it, fp, tn, J, H2, e, I2, T, st2, f2, q⟩ := h2
  subst e
  refine newSet_ok (newEnv_comp ?_)
  generalize hD : s2.heap.objs.size = D
  have hDn : H2 D = none := I2.hok.fresh (Nat.le_of_eq hD)
  obtain ⟨W, ⟨m0, w0⟩, turn⟩ := q D hDn
  -- the new list
  generalize hs3 : ({ s2 with heap := s2.heap.push { cls := .type "set", dict := none, data := .set #[] 0 (.fresh 0 0 (!X.w.params.followText "set-order")) } } : Shared) = s3
  have I3 : Inv X pins σ (upd H2 D (SetTO X.prog X.w D [])) s3 := by
    rw [← hs3]
    refine I2.laid (t' := s2.toks) (fun b o e => Heap.get?_push_of_some _ e) (Nat.le_of_eq hD) ?_
    rw [← hD]
    exact setTO_new (setTR_fresh (Heap.get?_push_size _ rfl)).t0
  have h3 : s3.heap = s2.heap.push { cls := .type "set", dict := none, data := .set #[] 0 (.fresh 0 0 (!X.w.params.followText "set-order")) } := by rw [← hs3]
  have sz : ∀ b ∈ fp, b < s2.heap.objs.size := fun b hb => by
    obtain ⟨o, e, _⟩ := T.obj _ _ st2 b hb
    exact Heap.lt_size e
  have f3 : ∀ b ∈ fp, FpOk X pins (upd H2 D (SetTO X.prog X.w D [])) b ∧ b < s3.heap.objs.size := fun b hb => by
    have hlt := sz b hb
    refine ⟨⟨?_, (f2 b hb).2⟩, by rw [h3, Heap.size_push]; exact Nat.lt_succ_of_lt hlt⟩
    rw [upd_ne (by rw [← hD]; exact Nat.ne_of_lt hlt)]
    exact (f2 b hb).1
  have st3 : tn 0 s3.heap := T.keep _ _ _ st2 fun b _ o e => by rw [h3]; exact Heap.get?_push_of_some _ e
  have I4 := block_start I3 ok hN f3
  have pg := hg s3 (upd H2 D (SetTO X.prog X.w D [])) s3.heap.objs.size (cellsFrom (s3.heap.objs.size + 1) scope.names (cloFrom X.env.cells scope.names [])) fp
  have pt := ht s3 (upd H2 D (SetTO X.prog X.w D [])) s3.heap.objs.size (cellsFrom (s3.heap.objs.size + 1) scope.names (cloFrom X.env.cells scope.names [])) fp
  have pe := he s3 (upd H2 D (SetTO X.prog X.w D [])) s3.heap.objs.size (cellsFrom (s3.heap.objs.size + 1) scope.names (cloFrom X.env.cells scope.names [])) fp
  have pi1 := hi1 s3 (upd H2 D (SetTO X.prog X.w D [])) s3.heap.objs.size (cellsFrom (s3.heap.objs.size + 1) scope.names (cloFrom X.env.cells scope.names [])) fp
  have pg1 := hg1 s3 (upd H2 D (SetTO X.prog X.w D [])) s3.heap.objs.size (cellsFrom (s3.heap.objs.size + 1) scope.names (cloFrom X.env.cells scope.names [])) fp
  have pt1 := ht1 s3 (upd H2 D (SetTO X.prog X.w D [])) s3.heap.objs.size (cellsFrom (s3.heap.objs.size + 1) scope.names (cloFrom X.env.cells scope.names [])) fp
  show codeAny _ _ (.compStart (.SetComp elt [⟨tg, iter, ifs, 0⟩, ⟨tg1, iter1, ifs1, 0⟩] scope pos) 0 (.ref it) (.ref D) (compEnvC scope (cellsFrom (s3.heap.objs.size + 1) scope.names (cloFrom X.env.cells scope.names [])) s3.heap.objs.size X.env)) (compPost (model X.prog X.w) X.A X.xe use Qf (.ref D) s3.heap.objs.size) { s3 with heap := pushCells (s3.heap.push { cls := .type "dict", data := .dict #[] }) scope.names }
  have nfp : ∀ b ∈ fp, (upd H2 D (SetTO X.prog X.w D [])) b = none := fun b hb => (f3 b hb).1.1
  generalize hce : compEnvC scope (cellsFrom (s3.heap.objs.size + 1) scope.names (cloFrom X.env.cells scope.names [])) s3.heap.objs.size X.env = ce at I4 pg pt pe pi1 pg1 pt1 ⊢
  have cL : ce.locals = s3.heap.objs.size := by subst hce; rfl
  generalize hH3 : upd H2 D (SetTO X.prog X.w D []) = H3 at I3 I4 pg pt pe pi1 pg1 pt1 w0 nfp f3
  generalize hs4 : ({ s3 with heap := pushCells (s3.heap.push { cls := .type "dict", data := .dict #[] }) scope.names } : Shared) = s4 at I4 ⊢
  have st4 : tn 0 s4.heap := T.keep _ _ _ st3 fun b _ o e => by rw [← hs4]; exact pushCells_keeps _ _ _ _ (Heap.get?_push_of_some _ e)
  have stat : ∀ {σ' : L2.St} {H' : Hp} {s' : Shared}, Inv (X.blk s3 H3 scope ce fp) [] σ' H' s' → (∀ b ∈ fp, H' b = none) → ∀ b ∈ fp, FpOk (X.blk s3 H3 scope ce fp) [] H' b := fun {σ' H' s'} I' hn b hb =>
    ⟨hn b hb, (I'.ok.exf b hb).1, I'.ok.exfs b hb, .inl hb, fun x c e => (I'.ok.exf b hb).2 x c e, fun p hp => absurd (show p ∈ ([] : List (Addr × Obj)) ++ [] from hp) (by simp)⟩
  have loop : codeAny (model X.prog X.w) X.A (.compLoop (.SetComp elt [⟨tg, iter, ifs, 0⟩, ⟨tg1, iter1, ifs1, 0⟩] scope pos) 0 (.ref it) (.ref D) ce) (compPost (model X.prog X.w) X.A X.xe use Qf (.ref D) s3.heap.objs.size) s4 := by
    refine compLoopS2_out (hs1 ce) (fun n s' => ∃ i H', Inv (X.blk s3 H3 scope ce fp) [] (wipe σ (own.map (·.2))) H' s' ∧ tn i s'.heap ∧ (∀ b ∈ fp, H' b = none) ∧ W i n H') ?_ m0 ⟨0, H3, I4, st4, nfp, w0⟩
    rintro n s5 ⟨i, H5, I5, st5, n5, w5⟩
    rcases turn i n H5 w5 with ⟨stop, qq⟩ | ⟨go, Nx, hNx, step⟩
    · have td := T.done (X.blk s3 H3 scope ce fp) rfl rfl rfl hc i [] s5 _ H5 (fun _ _ => False) I5 (stat I5 n5) st5 stop
      refine thnF td fun r s6 ⟨hr, I6⟩ => ?_
      subst hr
      -- back in the def's context
      have I7 : Inv X pins σ H5 s6 := I3.call' (ch := fp) I6.os I6.base I6.hok I6.bare fun b hb => ⟨(f3 b hb).1.2.2.2.1, (f3 b hb).1.2.1, (f3 b hb).1.2.2.2.2.1, (f3 b hb).1.2.2.2.2.2⟩
      have nC : H5 s3.heap.objs.size = none := by
        have z : H5 ce.locals = none := I6.free
        rw [cL] at z
        exact z
      obtain ⟨m, hn, _⟩ := I6.loc
      have hn : s6.heap.Ns ce.locals m := hn
      rw [cL] at hn
      exact hRR D s3.heap.objs.size s6 m H5 I7 qq hn (I3.fpOk (Nat.le_refl _) nC)
    · have ti := T.item (X.blk s3 H3 scope ce fp) rfl rfl rfl hc i [] s5 _ H5 (fun _ _ => False) I5 (stat I5 n5) st5 go
      refine thnF ti fun r s6 ⟨u, hr, h6⟩ => ?_
      subst hr
      refine thnF h6 fun _ s7 ⟨x, H7, I7, r7, y7, st7, n7⟩ => ?_
      have I7' := I7.pinned (stat I7 n7) (T.obj _ _ st7)
      refine thnF (pg.run _ s7 _ H7 x u _ I7' r7 (step x H7 y7)) fun _ s8 ⟨σ8, H8, I8, hw8, q8⟩ => ?_
      refine thnF (pt.run _ s8 σ8 H8 _ I8 q8) fun b s9 ⟨H9, I9, q9⟩ => ?_
      -- the turn's end, from any slots that know what the block knew at its start
      have fin : ∀ {σ9 : L2.St} {s' : Shared} {H' : Hp}, Inv (X.blk s3 H3 scope ce fp) ([] ++ pinsAt fp s7.heap) σ9 H' s' → (wipe σ (own.map (·.2))).length = σ9.length → (∀ (j : Nat) v, (wipe σ (own.map (·.2)))[j]? = some (some v) → σ9[j]? = some (some v)) → Nx H' →
          ∃ m, m < n ∧ ∃ i H', Inv (X.blk s3 H3 scope ce fp) [] (wipe σ (own.map (·.2))) H' s' ∧ tn i s'.heap ∧ (∀ b ∈ fp, H' b = none) ∧ W i m H' := fun {σ9 s' H'} I' hl hk nx => by
        obtain ⟨m', hm, w'⟩ := hNx H' nx
        have pin' : ∀ b ∈ fp, ∀ o, s7.heap.get? b = some o → s'.heap.get? b = some o ∧ H' b = none := fun b hb o e =>
          let z := I'.pin (b, o) (List.mem_append_right _ (List.mem_append_right _ (mem_pinsAt hb e)))
          ⟨z.1, z.2.1⟩
        refine ⟨m', hm, i + 1, H', (I'.unpinned (pins := [])).weak hl hk, T.keep _ _ _ st7 fun b hb o e => (pin' b hb o e).1, fun b hb => ?_, w'⟩
        obtain ⟨o, e, _⟩ := T.obj _ _ st7 b hb
        exact (pin' b hb o e).2
      have hl8 : (wipe σ (own.map (·.2))).length = σ8.length := by rw [← hw8, wipe_length]
      have hk8 : ∀ (j : Nat) v, (wipe σ (own.map (·.2)))[j]? = some (some v) → σ8[j]? = some (some v) := fun j v e => by
        rw [← hw8] at e
        exact (wipe_some e).1
      have hk9 : ∀ (j : Nat) v, (wipe σ (own.map (·.2)))[j]? = some (some v) → (wipe σ8 vs1)[j]? = some (some v) := fun j v e => by
        rw [← hw8] at e
        obtain ⟨e1, e2⟩ := wipe_some e
        rw [wipe_out fun z => e2 (hv j z)]
        exact e1
      cases b with
      | false =>
        simp only [Bool.false_eq_true, if_false] at q9 ⊢
        exact fin I9 hl8 hk8 q9
      | true =>
        simp only [if_true] at q9 ⊢
        refine thnF (pi1.run _ s9 σ8 H9 _ I9 q9) fun xv s10 hx => thnF hx fun itv s11 h11 => ?_
        obtain ⟨it1, fp1, tn1, J1, H11, e1, I11, T1, st11, f11, W1, ⟨m1, w1⟩, turn1⟩ := h11
        subst e1
        -- the inner loop
        have stat1 : ∀ {H' : Hp}, (∀ b ∈ fp1, H' b = none) → ∀ b ∈ fp1, FpOk (X.blk s3 H3 scope ce fp) ([] ++ pinsAt fp s7.heap) H' b := fun hn b hb => ⟨hn b hb, (f11 b hb).2⟩
        have loop1 : codeAny (model X.prog X.w) X.A (.compLoop (.SetComp elt [⟨tg, iter, ifs, 0⟩, ⟨tg1, iter1, ifs1, 0⟩] scope pos) 1 (.ref it1) (.ref D) ce)
            (fun r s' => match r with
              | .ok _ => ∃ m, m < n ∧ ∃ i H', Inv (X.blk s3 H3 scope ce fp) [] (wipe σ (own.map (·.2))) H' s' ∧ tn i s'.heap ∧ (∀ b ∈ fp, H' b = none) ∧ W i m H'
              | .error _ => False) s11 := by
          refine compLoopS2_in (fun k s' => ∃ j H', Inv (X.blk s3 H3 scope ce fp) ([] ++ pinsAt fp s7.heap) (wipe σ8 vs1) H' s' ∧ tn1 j s'.heap ∧ (∀ b ∈ fp1, H' b = none) ∧ W1 j k H') ?_ m1 ⟨0, H11, I11.weak (wipe_length _ _) (fun j v e => (wipe_some e).1), st11, fun b hb => (f11 b hb).1, w1⟩
          rintro k s12 ⟨j, H12, I12, st12, n12, w12⟩
          rcases turn1 j k H12 w12 with ⟨stop1, nx1⟩ | ⟨go1, Nx1, hNx1, step1⟩
          · refine thnF (T1.done (X.blk s3 H3 scope ce fp) rfl rfl rfl hc j _ s12 (wipe σ8 vs1) H12 (fun _ _ => False) I12 (stat1 n12) st12 stop1) fun r s13 ⟨hr, I13⟩ => ?_
            subst hr
            exact fin I13 (hl8.trans (wipe_length σ8 vs1).symm) hk9 nx1
          · refine thnF (T1.item (X.blk s3 H3 scope ce fp) rfl rfl rfl hc j _ s12 (wipe σ8 vs1) H12 (fun _ _ => False) I12 (stat1 n12) st12 go1) fun r s13 ⟨u1, hr, h13⟩ => ?_
            subst hr
            refine thnF h13 fun _ s14 ⟨x1, H14, I14, r14, y14, st14, n14⟩ => ?_
            have I14' := I14.pinned (stat1 n14) (T1.obj _ _ st14)
            refine thnF (pg1.run _ s14 (wipe σ8 vs1) H14 x1 u1 _ I14' r14 (step1 x1 H14 y14)) fun _ s15 ⟨σ15, H15, I15, hw15, q15⟩ => ?_
            refine thnF (pt1.run _ s15 σ15 H15 _ I15 q15) fun b1 s16 ⟨H16, I16, q16⟩ => ?_
            have fin1 : ∀ {s' : Shared} {H' : Hp}, Inv (X.blk s3 H3 scope ce fp) (([] ++ pinsAt fp s7.heap) ++ pinsAt fp1 s14.heap) σ15 H' s' → Nx1 H' → ∃ m, m < k ∧ ∃ j H', Inv (X.blk s3 H3 scope ce fp) ([] ++ pinsAt fp s7.heap) (wipe σ8 vs1) H' s' ∧ tn1 j s'.heap ∧ (∀ b ∈ fp1, H' b = none) ∧ W1 j m H' := fun {s' H'} I' nx => by
              obtain ⟨m', hm, w'⟩ := hNx1 H' nx
              have pin' : ∀ b ∈ fp1, ∀ o, s14.heap.get? b = some o → s'.heap.get? b = some o ∧ H' b = none := fun b hb o e =>
                let z := I'.pin (b, o) (List.mem_append_right _ (List.mem_append_right _ (mem_pinsAt hb e)))
                ⟨z.1, z.2.1⟩
              refine ⟨m', hm, j + 1, H', I'.unpinned.weak (by rw [← hw15, wipe_length]) (fun j v e => by rw [← hw15] at e; exact (wipe_some e).1), T1.keep _ _ _ st14 fun b hb o e => (pin' b hb o e).1, fun b hb => ?_, w'⟩
              obtain ⟨o, e, _⟩ := T1.obj _ _ st14 b hb
              exact (pin' b hb o e).2
            cases b1 with
            | false =>
              simp only [Bool.false_eq_true, if_false] at q16 ⊢
              exact fin1 I16 q16
            | true =>
              simp only [if_true] at q16 ⊢
              refine thnF (pe.run _ s16 σ15 H16 _ I16 q16) fun z s17 ⟨yv, H17, I17, r17, cb, kb, L0, ey, hq17, hL17, hD17, hz17, nx⟩ => ?_
              subst ey
              cases (show z = Value.ref cb from r17)
              exact addT_ok (X := X.blk s3 H3 scope ce fp) (by first | (show X.A.units + 8 < cLine; omega) | (show X.A.units + 1 + 8 < cLine; omega) | (show X.A.units + 2 + 8 < cLine; omega)) I17 hD17 hq17 hL17 hz17 fun L' s18 c1 c2 I18 => fin1 I18 (nx L' c1 c2)
        exact compStartS1_ok loop1 (T1.self X.A 0 _ _ _ st11 loop1)
  exact codeAny_compStart_set loop (T.self X.A 0 _ _ _ st4 loop)
theorem pe_scT2 {elt tg iter tg1 iter1 : Expr} {ifs ifs1 : List Expr} {scope : Scope} {own : List (PySem.Str × Nat)} {vs1 : List Nat} {pos : Pos} {wi wi1 : TI} {g g1 : TG} {tt tt1 : TT} {te : TE} (hu : X.A.units + 64 < cLine) (hc : X.calm = true) (hN : X.N.Nodup) (hi : PI X tg iter wi) (ok : BlkOk X.N X.env.scope scope own) (hv : ∀ i ∈ vs1, i ∈ own.map (·.2))
    (hg : ∀ (s : Shared) (H : Hp) (C : Addr) (cl : List (PySem.Str × Addr)) (fp : List Addr), PG (X.blk s H scope (compEnvC scope cl C X.env) fp) tg g) (ht : ∀ (s : Shared) (H : Hp) (C : Addr) (cl : List (PySem.Str × Addr)) (fp : List Addr), PTs (X.blk s H scope (compEnvC scope cl C X.env) fp) ifs tt)
    (hi1 : ∀ (s : Shared) (H : Hp) (C : Addr) (cl : List (PySem.Str × Addr)) (fp : List Addr), PI (X.blk s H scope (compEnvC scope cl C X.env) fp) tg1 iter1 wi1)
    (hg1 : ∀ (s : Shared) (H : Hp) (C : Addr) (cl : List (PySem.Str × Addr)) (fp : List Addr), PG (X.blk s H scope (compEnvC scope cl C X.env) fp) tg1 g1) (ht1 : ∀ (s : Shared) (H : Hp) (C : Addr) (cl : List (PySem.Str × Addr)) (fp : List Addr), PTs (X.blk s H scope (compEnvC scope cl C X.env) fp) ifs1 tt1)
    (he : ∀ (s : Shared) (H : Hp) (C : Addr) (cl : List (PySem.Str × Addr)) (fp : List Addr), PE (X.blk s H scope (compEnvC scope cl C X.env) fp) elt te) (hs : ∀ x, foldedSetIterable iter X.env x = pure x := by intro _; rfl) (hs1 : ∀ env x, foldedSetIterable iter1 env x = pure x := by intro _ _; rfl) :
    PE X (.SetComp elt [⟨tg, iter, ifs, 0⟩, ⟨tg1, iter1, ifs1, 0⟩] scope pos) (tSc2 X.prog X.w X.K wi g tt wi1 g1 tt1 te (own.map (·.2)) vs1) := by
  refine ⟨fun pins s σ H Q I h => ?_⟩
  rw [eval_SetComp]
  refine sc2_core hu hc hN I hi ok hv hg ht he hs hi1 hg1 ht1 hs1 h fun D C s' m H' I' q hn f => ⟨m, hn, fun h'' sb => ?_⟩
  obtain ⟨f0, f1, f2, f3, f4, f5⟩ := f
  exact ⟨.ref D, H', I'.turned (t' := s'.toks) (fun b o hb e => (sb.2 b hb).trans e) f0 f1 f3 f4 f5, rfl, q⟩
end
end PpSetT
namespace Y
open PySem PySem.Spec PyProof.Rows L2 Z
/-! ## {elt for tg in iter for tg1 in iter1}, the elements tuples of ints -/
section
variable {α : Type} {R : α → V → Hp → Prop} {X : Cx} {σ : L2.St} {S : Hp} {elt tg iter tg1 iter1 : Expr} {scope : Scope} {own : List (Str × Nat)} {vs1 : List Nat} {pos : Pos} {ds : List α} {es : α → List PyData} {f : PyData → List Int}
theorem sqt_dt {K : PySem.W.Frag} {k : List Int} {a : Addr} {S : Hp} (h : Dt K (.tuple (k.map .int)) (.ref a) S) : SqT K S a (k.map V.int) := by
  obtain ⟨l, xs, e, hq, hx, _⟩ := h.tup_inv
  cases e
  rw [dts_int hx] at hq
  exact hq
/-- a set of tuples of ints, its members told as data -/
def SetD (P : Program) (w : World) (K : PySem.W.Frag) (ks : List (List Int)) (v : V) (S : Hp) : Prop := ∃ a L, v = .ref a ∧ S a = some (SetTO P w a L) ∧ (∀ p ∈ L, Dt K (.tuple (p.2.map .int)) (.ref p.1) S) ∧ (∀ k, k ∈ L.map (·.2) ↔ k ∈ ks) ∧ (L.map (·.2)).Nodup ∧ L.length ≤ ks.length
instance {P : Program} {w : World} {K : PySem.W.Frag} {ks : List (List Int)} : Mn (SetD P w K ks) := ⟨fun s ⟨a, L, e, h1, h2, h3⟩ => ⟨a, L, e, s _ _ h1, fun p hp => (h2 p hp).up s, h3⟩⟩
/-- what is kept: the members of ks stand in the set at D -/
def ScI (P : Program) (w : World) (K : PySem.W.Frag) (S1 H1 : Hp) (D : Addr) (B : Hp) (ks : List (List Int)) (H' : Hp) : Prop := ∃ S' L, Same B S' ∧ Same S' H' ∧ Same H1 H' ∧ (∀ a o, H1 a = some o → NT o → S' a = S1 a) ∧ S' D = none ∧ H' D = some (SetTO P w D L) ∧ (∀ p ∈ L, Dt K (.tuple (p.2.map .int)) (.ref p.1) S') ∧ (∀ k, k ∈ L.map (·.2) ↔ k ∈ ks) ∧ (L.map (·.2)).Nodup ∧ L.length ≤ ks.length
theorem ee_scT22 (hu : X.A.units + 64 < cLine) (hc : X.calm = true) (hN : X.N.Nodup) (ok : BlkOk X.N X.env.scope scope own) (hv : ∀ i ∈ vs1, i ∈ own.map (·.2)) (hi : EI X σ S tg iter (ds.map R)) (hz : (ds.flatMap es).length < 63)
    (hel : ∀ d ∈ ds, ∀ v S', Same S S' → R d v S' → ∃ τ, wipe τ (own.map (·.2)) = wipe σ (own.map (·.2)) ∧ ∀ (s : Shared) (H0 : Hp) (C : Addr) (cl : List (Str × Addr)) (fp : List Addr),
      EG (X.blk s H0 scope (compEnvC scope cl C X.env) fp) S' tg v (wipe σ (own.map (·.2))) τ ∧ EI (X.blk s H0 scope (compEnvC scope cl C X.env) fp) τ S' tg1 iter1 (Ds X.K (es d)) ∧
      ∀ e ∈ es d, ∀ w S2, Same S' S2 → Dt X.K e w S2 → ∃ τ2, wipe τ2 vs1 = wipe τ vs1 ∧ ∀ (s : Shared) (H0 : Hp) (C : Addr) (cl : List (Str × Addr)) (fp : List Addr), EG (X.blk s H0 scope (compEnvC scope cl C X.env) fp) S2 tg1 w (wipe τ vs1) τ2 ∧ EE (X.blk s H0 scope (compEnvC scope cl C X.env) fp) τ2 S2 elt (Dt X.K (.tuple ((f e).map .int))))
    (hs : ∀ x, foldedSetIterable iter X.env x = pure x := by intro _; rfl) (hs1 : ∀ (env : Env) x, foldedSetIterable iter1 env x = pure x := by intro _ _; rfl) :
    EE X σ S (.SetComp elt [⟨tg, iter, [], 0⟩, ⟨tg1, iter1, [], 0⟩] scope pos) (SetD X.prog X.w X.K ((ds.flatMap es).map f)) := fun H s Q q => by
  refine he_of (PpSetT.pe_scT2 (own := own) (vs1 := vs1) (wi := bI X tg iter) (wi1 := iBlk X scope tg1 iter1) (g := gBlk X scope tg) (g1 := gBlk X scope tg1) (tt := tBlk X scope []) (tt1 := tBlk X scope []) (te := eBlk X scope elt) hu hc hN pib ok hv
    (fun s H0 C cl fp => ⟨fun pins sh σ' H' v u Q' I r h => h s H0 C cl fp pins sh u I r⟩) (fun s H0 C cl fp => ⟨fun pins sh σ' H' Q' I h => h s H0 C cl fp pins sh I⟩) (fun s H0 C cl fp => ⟨fun pins sh σ' H' R I h => h s H0 C cl fp pins sh I⟩) (fun s H0 C cl fp => ⟨fun pins sh σ' H' v u Q' I r h => h s H0 C cl fp pins sh u I r⟩) (fun s H0 C cl fp => ⟨fun pins sh σ' H' Q' I h => h s H0 C cl fp pins sh I⟩) (fun s H0 C cl fp => ⟨fun pins sh σ' H' Q' I h => h s H0 C cl fp pins sh I⟩) hs hs1) ?_
  refine hi H s _ fun J S1 H1 g1 it D hD => ?_
  have hD1 : S1 D = none := g1.sub.free hD
  have hlen : (ds.map R).length = ds.length := List.length_map ..
  refine walk_W it (fun i H' => ScI X.prog X.w X.K S1 H1 D S1 (((ds.take i).flatMap es).map f) H') ⟨S1, [], Same.refl _, Same.mut g1.sub hD1, Same.new hD, fun _ _ _ _ => rfl, hD1, upd_same, fun p hp => (by cases hp), fun k => (by simp), List.nodup_nil, Nat.le_refl _⟩ (fun i H' _ ⟨S', _, a, b, _⟩ => a.trans b) ?_ ?_
  · intro i x H2 H3 hi2 ⟨S2, L, k1, k2, k3, k4, k5, k6, k7, k8, k9, k10⟩ y
    rw [hlen] at hi2
    obtain ⟨S3, g3, P, hP, px⟩ := y S2 k1 k2
    obtain ⟨d, hd⟩ : ∃ d, ds[i]? = some d := ⟨ds[i], List.getElem?_eq_getElem hi2⟩
    rw [List.getElem?_map, hd] at hP
    obtain rfl := Option.some.inj hP
    have sS3 : Same S S3 := g1.st.trans (k1.trans g3.st)
    obtain ⟨τ, hw, hb⟩ := hel d (List.mem_of_getElem? hd) x S3 sS3 px
    have hlen2 : (Ds X.K (es d)).length = (es d).length := ds_len
    have eP : ((ds.take (i + 1)).flatMap es).map f = ((ds.take i).flatMap es).map f ++ (es d).map f := by
      rw [take_snoc hd, List.flatMap_append, List.map_append]
      simp
    have hbound : ((ds.take i).flatMap es).length + (es d).length ≤ (ds.flatMap es).length := by
      have e1 : (ds.take (i + 1)).flatMap es = (ds.take i).flatMap es ++ es d := by
        rw [take_snoc hd, List.flatMap_append]; simp
      have e2 : ds.flatMap es = (ds.take (i + 1)).flatMap es ++ (ds.drop (i + 1)).flatMap es := by
        rw [← List.flatMap_append, List.take_append_drop]
      rw [e2, e1, List.length_append, List.length_append]
      omega
    intro sh H0 C cl fp
    refine (hb sh H0 C cl fp).1 H3 g3.sub _ ⟨hw, ?_⟩
    intro sh' H0' C' cl' fp'
    refine (ets_nil (X := X.blk sh' H0' scope (compEnvC scope cl' C' X.env) fp') (σ := τ) (S := S3)) H3 g3.sub _ fun S4 H4 g4 => ?_
    refine iteT ?_
    intro sh2 H02 C2 cl2 fp2
    refine ((hb sh2 H02 C2 cl2 fp2).2.1.up g4.st) H4 g4.sub _ fun J1 S5 H5 g5 it1 => ?_
    have g35 := (g3.trans g4).trans g5
    have hD5 : S5 D = none := (g35.old D _ k6 (fun _ z => nomatch z)).trans k5
    refine walk_W it1 (fun j H' => ScI X.prog X.w X.K S1 H1 D S5 (((ds.take i).flatMap es).map f ++ ((es d).take j).map f) H') ⟨S5, L, Same.refl _, g5.sub, k3.trans g35.hh, fun a o h n => (g35.old a o (k3 a o h) n).trans (k4 a o h n), hD5, g35.hh _ _ k6, fun p hp => (k7 p hp).up g35.st, by simpa using k8, k9, by simpa using k10⟩ (fun j H' _ ⟨S', _, a, b, _⟩ => a.trans b) ?_ ?_
    · intro j w H6 H7 hj2 ⟨S6, L6, m1, m2, m3, m4, m5, m6, m7, m8, m9, m10⟩ yy
      rw [hlen2] at hj2
      obtain ⟨S7, g7, P', hP', pw⟩ := yy S6 m1 m2
      obtain ⟨e, he⟩ : ∃ e, (es d)[j]? = some e := ⟨(es d)[j], List.getElem?_eq_getElem hj2⟩
      rw [ds_get he] at hP'
      obtain rfl := Option.some.inj hP'
      have sS7 : Same S3 S7 := (g4.st.trans g5.st).trans (m1.trans g7.st)
      obtain ⟨τ2, hw2, hb2⟩ := (hb sh2 H02 C2 cl2 fp2).2.2 e (List.mem_of_getElem? he) w S7 sS7 pw
      intro sh3 H03 C3 cl3 fp3
      refine (hb2 sh3 H03 C3 cl3 fp3).1 H7 g7.sub _ ⟨hw2, ?_⟩
      intro sh4 H04 C4 cl4 fp4
      refine (ets_nil (X := X.blk sh4 H04 scope (compEnvC scope cl4 C4 X.env) fp4) (σ := τ2) (S := S7)) H7 g7.sub _ fun S8 H8 g8 => ?_
      refine iteT ?_
      intro sh5 H05 C5 cl5 fp5
      refine ((hb2 sh5 H05 C5 cl5 fp5).2.up g8.st) H8 g8.sub _ fun z S9 H9 g9 pz => ?_
      have g := (g7.trans g8).trans g9
      have hD9 : S9 D = none := (g.old D _ m6 (fun _ z => nomatch z)).trans m5
      obtain ⟨c, xs, rfl, _, _, _⟩ := pz.tup_inv
      have hl10 : L6.length + 1 < 64 := by
        rw [List.length_append, List.length_map, List.length_map, List.length_take] at m10
        have : min j (es d).length ≤ (es d).length := Nat.min_le_right _ _
        omega
      refine ⟨c, f e, L6, rfl, sqt_dt (pz.up g9.sub), fun p hp => sqt_dt ((m7 p hp).up (g.st.trans g.sub)), g.hh _ _ m6, hl10, fun L' c1 c2 => ?_⟩
      obtain ⟨n1, n2, n3, n4⟩ := set_next c1 c2 m8 m9
      have eT : ((es d).take (j + 1)).map f = ((es d).take j).map f ++ [f e] := by
        rw [take_snoc he, List.map_append]; rfl
      refine ⟨S9, L', m1.trans g.st, Same.mut g.sub hD9, fun a o h => ?_, fun a o h n => (g.old a o (m3 a o h) n).trans (m4 a o h n), hD9, upd_same, fun p hp => ?_, fun k => ?_, n3, ?_⟩
      · rw [upd_ne (ne_of_none h hD)]; exact g.hh _ _ (m3 a o h)
      · rcases n1 p hp with e' | z'
        · rw [e']; exact pz
        · exact (m7 p z').up g.st
      · rw [n2 k, eT, List.append_assoc]
      · rw [eT, ← List.append_assoc, List.length_append]
        exact Nat.le_trans n4 (Nat.add_le_add_right m10 1)
    · intro H6 ⟨S6, L6, m1, m2, m3, m4, m5, m6, m7, m8, m9, m10⟩
      rw [hlen2, List.take_length] at m8 m10
      rw [eP]
      exact ⟨S6, L6, k1.trans (g35.st.trans m1), m2, m3, m4, m5, m6, m7, m8, m9, m10⟩
  · intro H2 ⟨S2, L, k1, k2, k3, k4, k5, k6, k7, k8, k9, k10⟩
    rw [hlen, List.take_length] at k8 k10
    refine q _ (upd S2 D (SetTO X.prog X.w D L)) H2 (g1.trans ⟨k1.trans (Same.new k5), fun a o h => ?_, k3, fun a o h n => by rw [upd_ne (ne_of_none h hD)]; exact k4 a o h n⟩) ⟨D, L, rfl, upd_same, fun p hp => (k7 p hp).up (Same.new k5), k8, k9, k10⟩
    by_cases ha : a = D
    · subst ha; rw [upd_same] at h; rw [k6]; exact h
    · rw [upd_ne ha] at h; exact k2 a o h
end
end Y
namespace Y
open PySem PySem.Spec PyProof.Rows L2 Z
/-! ## lists and tuples of things of any kind -/
/-- a list (t = false) or a tuple (t = true) of things -/
def SqP (K : PySem.W.Frag) (t : Bool) (Ps : List (V → Hp → Prop)) (v : V) (S : Hp) : Prop := ∃ l xs, v = .ref l ∧ (if t = true then SqT K S l xs else S l = some (.lst xs)) ∧ Al Ps xs S
theorem sqP_mn {K : PySem.W.Frag} {t : Bool} {Ps : List (V → Hp → Prop)} (h : ∀ P ∈ Ps, Mn P) : Mn (SqP K t Ps) := ⟨fun s ⟨l, xs, a, b, c⟩ => ⟨l, xs, a, by
  cases t with
  | true => exact sqt_up s b
  | false => exact s _ _ b, al_mn h s c⟩⟩
/-- a new list of things -/
def LstQ (S0 : Hp) (Ps : List (V → Hp → Prop)) (v : V) (S : Hp) : Prop := ∃ l xs, v = .ref l ∧ S0 l = none ∧ S l = some (.lst xs) ∧ Al Ps xs S
theorem LstQ.p {S0 : Hp} {Ps : List (V → Hp → Prop)} {v : V} {S : Hp} (h : LstQ S0 Ps v S) : LstP Ps v S := let ⟨l, xs, a, _, b, c⟩ := h; ⟨l, xs, a, b, c⟩
/-- the thing x and what is told of it -/
def PinP (x : V) (P : V → Hp → Prop) : V → Hp → Prop := fun w S => w = x ∧ P w S
instance {x : V} {P : V → Hp → Prop} [m : Mn P] : Mn (PinP x P) := ⟨fun s ⟨a, b⟩ => ⟨a, m.up s b⟩⟩
/-- a list with these very things -/
def Pins (xs : List V) (v : V) (S : Hp) : Prop := ∃ l, v = .ref l ∧ S l = some (.lst xs)
instance {xs : List V} : Mn (Pins xs) := ⟨fun s ⟨l, e, h⟩ => ⟨l, e, s _ _ h⟩⟩
def RefsV (xs : List V) : Prop := ∀ x ∈ xs, ∃ c, x = V.ref c
theorem vals_refs {xs : List V} (hr : RefsV xs) : ∀ {us ws : List Value}, Vals xs us → Vals xs ws → us = ws := by
  induction xs with
  | nil => intro us ws a b; cases a; cases b; rfl
  | cons x xs ih =>
    intro us ws a b
    obtain ⟨c, rfl⟩ := hr x (List.mem_cons_self ..)
    cases a with
    | cons a1 a =>
      cases b with
      | cons b1 b =>
        cases (show _ = Value.ref c from a1)
        cases (show _ = Value.ref c from b1)
        rw [ih (fun y hy => hr y (List.mem_cons_of_mem _ hy)) a b]
section
variable {X : Cx} {σ : L2.St} {S : Hp} {a b e tg : Expr} {Ps Qs : List (V → Hp → Prop)} {pos p : Pos} {t : Bool}
def rNeL : R2 := fun x y H Q => ∃ a b xs, x = .ref a ∧ y = .ref b ∧ H a = some (.lst xs) ∧ H b = some (.lst xs) ∧ RefsV xs ∧ Q (.bl false) H
theorem op_neL (hu : X.A.units < cLine) : OpR X (compareOp .NotEq) rNeL := by
  intro pins s σ H x y v u Q I rx ry h
  obtain ⟨a, b, xs, rfl, rfl, ha, hb, hr, q⟩ := h
  cases rx
  cases ry
  obtain ⟨z, its, k, r, e⟩ := I.hok a _ ha
  obtain ⟨z2, its2, k2, r2, e2⟩ := I.hok b _ hb
  obtain rfl := vals_refs hr r r2
  have hx := SeqAt.RcNeAt.lists (A := X.A) (s := s) (e := fun _ => true) ⟨_, e, rfl, _, rfl⟩ ⟨_, e2, rfl, _, rfl⟩ rfl hu (fun j _ _ => SeqAt.EqAt.same _)
  have hall : (!(List.range its.toArray.size).all fun _ => true) = false := by simp
  rw [hall] at hx
  exact hx X.prog X.w X.xe _ ⟨.bl false, H, I, rfl, q⟩
/-- a != b, two lists of the very same things -/
theorem et_neL {xs : List V} {u : Nat} (hr : Room u X.A) (hx : RefsV xs) (ha : EE X σ S a (Pins xs)) (hb : EE X σ S b (Pins xs)) (hm : behindInMarks .NotEq b = false := by exact nomark _) : ET X σ S (.Compare a [.NotEq] [b] pos) false :=
  et_cmp (op_neL hr.units0) ha hb (fun x y S1 H1 _ s px py Q q => by
    obtain ⟨l, rfl, h1⟩ := px
    obtain ⟨m, rfl, h2⟩ := py
    exact ⟨l, m, xs, rfl, rfl, s _ _ h1, s _ _ h2, hx, q _ S1 H1 (Gr.refl s) (.bl _)⟩) hm
/-- for at, x in enumerate(a) -/
theorem ei_enumSqT {elts : List Expr} {kk : Nat} {tpos : Pos} (hP : ∀ P ∈ Ps, Mn P) (hm : X.mg "enumerate" = none) (ha : EE X σ S a (SqP X.K true Ps)) (hg : Gl X "enumerate" := by rfl) (hs : starEach [a] X.env = [(false, eval a X.env)] := by rfl) :
    EI X σ S (.Tuple elts kk tpos) (.Call (.Name "enumerate" p) [a] [] pos) (Ps.mapIdx EnP) := fun H s R q => by
  haveI := sqP_mn (K := X.K) (t := true) hP
  refine hi_of (pi_enumT (tg := a) hg hm pab hs) ((ea_1 ha (by rw [hs]; rfl)).2 H s _ fun vs S1 H1 g1 al => ?_)
  obtain ⟨v, rfl, pv⟩ := al.one
  obtain ⟨l, xs, rfl, hl, hx⟩ := pv
  have hl : SqT X.K S1 l xs := hl
  have hlen : (Ps.mapIdx EnP).length = xs.length := by rw [List.length_mapIdx, al_len hx]
  refine ⟨l, xs, rfl, sqt_up g1.sub hl, q _ S1 H1 g1 ⟨fun i H hi hs => ?_, fun H hs => ?_, fun i H x H' hi hs y T st th => ?_⟩⟩
  · rw [hlen] at hi
    exact ⟨xs, xs[i], sqt_up hs hl, by simp [hi]⟩
  · rw [hlen]
    exact ⟨xs, sqt_up hs hl, Nat.le_refl _⟩
  · rw [hlen] at hi
    obtain ⟨t, x1, rfl, ht, rfl, k1⟩ := y
    obtain ⟨P, e1, e2⟩ := al_get hx (k1 xs (sqt_up hs hl))
    haveI := hP P (List.mem_of_getElem? e1)
    exact ⟨_, Gr.new th ht, EnP i P, by rw [List.getElem?_mapIdx, e1]; rfl, t, x1, rfl, upd_same, Mn.up (st.trans (Same.new (th.free ht))) e2⟩
theorem ei_enumSqL {elts : List Expr} {kk : Nat} {tpos : Pos} (hP : ∀ P ∈ Ps, Mn P) (hm : X.mg "enumerate" = none) (ha : EE X σ S a (LstP Ps)) (hg : Gl X "enumerate" := by rfl) (hs : starEach [a] X.env = [(false, eval a X.env)] := by rfl) :
    EI X σ S (.Tuple elts kk tpos) (.Call (.Name "enumerate" p) [a] [] pos) (Ps.mapIdx EnP) := fun H s R q => by
  haveI := lstP_mn hP
  refine hi_of (pi_enum hg hm pab hs) ((ea_1 ha (by rw [hs]; rfl)).2 H s _ fun vs S1 H1 g1 al => ?_)
  obtain ⟨v, rfl, pv⟩ := al.one
  obtain ⟨l, xs, rfl, hl, hx⟩ := pv
  have hlen : (Ps.mapIdx EnP).length = xs.length := by rw [List.length_mapIdx, al_len hx]
  refine ⟨l, xs, rfl, sql_of (g1.sub _ _ hl), q _ S1 H1 g1 ⟨fun i H hi hs => ?_, fun H hs => ?_, fun i H x H' hi hs y T st th => ?_⟩⟩
  · rw [hlen] at hi
    exact ⟨xs, xs[i], sql_of (hs _ _ hl), by simp [hi]⟩
  · rw [hlen]
    exact ⟨xs, sql_of (hs _ _ hl), Nat.le_refl _⟩
  · rw [hlen] at hi
    obtain ⟨t, x1, rfl, ht, rfl, k1⟩ := y
    obtain ⟨P, e1, e2⟩ := al_get hx (k1 xs (sql_of (hs _ _ hl)))
    haveI := hP P (List.mem_of_getElem? e1)
    exact ⟨_, Gr.new th ht, EnP i P, by rw [List.getElem?_mapIdx, e1]; rfl, t, x1, rfl, upd_same, Mn.up (st.trans (Same.new (th.free ht))) e2⟩
theorem ei_enumSq {elts : List Expr} {kk : Nat} {tpos : Pos} (hP : ∀ P ∈ Ps, Mn P) (hm : X.mg "enumerate" = none) (ha : EE X σ S a (SqP X.K t Ps)) (hg : Gl X "enumerate" := by rfl) (hs : starEach [a] X.env = [(false, eval a X.env)] := by rfl) :
    EI X σ S (.Tuple elts kk tpos) (.Call (.Name "enumerate" p) [a] [] pos) (Ps.mapIdx EnP) := by
  cases t with
  | false => exact ei_enumSqL hP hm ha hg hs
  | true => exact ei_enumSqT hP hm ha hg hs
theorem ee_lenSq {n : Nat} (hP : ∀ P ∈ Ps, Mn P) (hm : X.mg "len" = none) (ha : EE X σ S a (SqP X.K t Ps)) (hl : Ps.length = n) (hg : Gl X "len" := by rfl)
    (hs : starEach [a] X.env = (false, eval a X.env) :: starEach [] X.env := by rfl) : EE X σ S (.Call (.Name "len" p) [a] [] pos) (Dt X.K (.int n)) := by
  haveI := sqP_mn (K := X.K) (t := t) hP
  refine ee_callB call_len hm boot_len (ea_1 ha hs) (fun vs S1 H1 _ s al Q q => ?_) hg (he := hs) (hpl := by rfl)
  obtain ⟨v, rfl, l, xs, rfl, h, al9⟩ := al.one
  have e : xs.length = n := by rw [al_len al9, hl]
  subst e
  cases t with
  | false => exact ⟨_, xs.length, rfl, .inl ⟨_, sql_of (s _ _ h), rfl⟩, q _ S1 H1 (Gr.refl s) (.int _)⟩
  | true => exact ⟨_, xs.length, rfl, .inr ⟨_, sqt_up s h, rfl⟩, q _ S1 H1 (Gr.refl s) (.int _)⟩
/-- list(a): a new list of the same things -/
theorem ee_listSq (hP : ∀ P ∈ Ps, Mn P) (hm : X.mg "list" = none) (ha : EE X σ S a (SqP X.K t Ps)) (hg : Gl X "list" := by rfl)
    (hs : starEach [a] X.env = (false, eval a X.env) :: starEach [] X.env := by rfl) : EE X σ S (.Call (.Name "list" p) [a] [] pos) (LstQ S Ps) := by
  haveI := sqP_mn (K := X.K) (t := t) hP
  exact ee_callTy call_list_of hm boot_list (ea_1 ha hs) (fun vs S1 H1 st s al Q q => by
    obtain ⟨v, rfl, l, xs, rfl, h, al9⟩ := al.one
    cases t with
    | false => exact ⟨l, xs, rfl, .inl (sql_of (s _ _ h)), fun t ht => q _ _ _ (Gr.new s ht) ⟨t, xs, rfl, st.free (s.free ht), upd_same, al_mn hP (Same.new (s.free ht)) al9⟩⟩
    | true => exact ⟨l, xs, rfl, .inr (sqt_up s h), fun t ht => q _ _ _ (Gr.new s ht) ⟨t, xs, rfl, st.free (s.free ht), upd_same, al_mn hP (Same.new (s.free ht)) al9⟩⟩) hg (he := hs) (hpl := by rfl)
/-- tuple(a), a a list -/
theorem ee_tupSq (hP : ∀ P ∈ Ps, Mn P) (hm : X.mg "tuple" = none) (ha : EE X σ S a (LstP Ps)) (hg : Gl X "tuple" := by rfl)
    (hs : starEach [a] X.env = (false, eval a X.env) :: starEach [] X.env := by rfl) : EE X σ S (.Call (.Name "tuple" p) [a] [] pos) (SqP X.K true Ps) := by
  haveI := lstP_mn hP
  exact ee_callTy call_tuple_of hm boot_tuple (ea_1 ha hs) (fun vs S1 H1 st s al Q q => by
    obtain ⟨v, rfl, l, xs, rfl, h, al9⟩ := al.one
    exact ⟨l, xs, rfl, .inl ⟨sql_of (s _ _ h), fun t ht => q _ _ _ (Gr.new s ht) ⟨t, xs, rfl, sqt_of upd_same, al_mn hP (Same.new (s.free ht)) al9⟩⟩⟩) hg (he := hs) (hpl := by rfl)
/-- [*a, *b] -/
theorem ee_lst2P {p1 p2 : Pos} (hP : ∀ P ∈ Ps, Mn P) (hQ : ∀ P ∈ Qs, Mn P) (hz : Ps.length + Qs.length ≤ sizeLine) (ha : EE X σ S a (LstP Ps)) (hb : EE X σ S b (LstP Qs)) (hs1 : starEach [.Starred a p1, .Starred b p2] X.env = (true, eval a X.env) :: starEach [.Starred b p2] X.env := by rfl) (hs2 : starEach [.Starred b p2] X.env = (true, eval b X.env) :: starEach [] X.env := by rfl) :
    EE X σ S (.List [.Starred a p1, .Starred b p2] pos) (LstP (Ps ++ Qs)) := by
  haveI := lstP_mn hP
  haveI := lstP_mn hQ
  have hM : ∀ P ∈ Ps ++ Qs, Mn P := fun P h => (List.mem_append.mp h).elim (hP P) (hQ P)
  refine ee_lstA (vsP := fun vs S' => Al (Ps ++ Qs) vs S') (fun H s Q q => ?_) (fun vs S' h => by rw [al_len h, List.length_append]; exact hz) (fun vs S' p st hp h => ⟨p, vs, rfl, upd_same, al_mn hM (Same.new hp) h⟩)
  refine ha_of (StX.pa_star (te := bE X a) (t := StX.tStar X.K (bE X b) tNil) peb (StX.pa_star peb pa_nil hs2) hs1) (ha H s _ fun v S1 H1 g1 pv => ?_)
  obtain ⟨p, xs, rfl, hp, hx⟩ := pv
  refine ⟨p, xs, rfl, .inr (sql_of (g1.sub _ _ hp)), (hb.up g1.st) H1 g1.sub _ fun w S2 H2 g2 pw => ?_⟩
  obtain ⟨p', ys, rfl, hp', hy⟩ := pw
  exact ⟨p', ys, rfl, .inr (sql_of (g2.sub _ _ hp')), by
    show Q (xs ++ (ys ++ [])) H2
    rw [List.append_nil]
    exact q _ S2 H2 (g1.trans g2) (al_app (al_mn hP g2.st hx) hy)⟩
/-- a + b, two lists of things -/
theorem ee_catP (hP : ∀ P ∈ Ps, Mn P) (hQ : ∀ P ∈ Qs, Mn P) (hz : Ps.length + Qs.length ≤ sizeLine) (ha : EE X σ S a (LstP Ps)) (hb : EE X σ S b (LstP Qs)) : EE X σ S (.BinOp a .Add b pos) (LstP (Ps ++ Qs)) := by
  haveI := lstP_mn hP
  haveI := lstP_mn hQ
  exact ee_op op_cat ha hb fun x y S1 H1 _ s px py Q q => by
    obtain ⟨l, xs, rfl, hl, hx⟩ := px
    obtain ⟨m, ys, rfl, hm, hy⟩ := py
    have hz' : xs.length + ys.length ≤ sizeLine := by rw [al_len hx, al_len hy]; exact hz
    have hM : ∀ P ∈ Ps ++ Qs, Mn P := fun P h => (List.mem_append.mp h).elim (hP P) (hQ P)
    exact ⟨l, m, xs, ys, rfl, rfl, s _ _ hl, s _ _ hm, hz', fun t ht => q _ _ _ (Gr.new s ht) ⟨t, _, rfl, upd_same, al_mn hM (Same.new (s.free ht)) (al_app hx hy)⟩⟩
theorem al_flat {S : Hp} {xs : List V} (h : Al Ps xs S) : ∀ n : Nat, Al (List.replicate n Ps).flatten (List.replicate n xs).flatten S
  | 0 => .nil
  | n + 1 => by
    rw [List.replicate_succ, List.replicate_succ, List.flatten_cons, List.flatten_cons]
    exact al_app h (al_flat h n)
/-- a * i, a list of things -/
theorem ee_repP {i : Int} (hP : ∀ P ∈ Ps, Mn P) (h1 : -(2 ^ 63) ≤ i) (h2 : i < 2 ^ 63) (hz : Ps.length * i.toNat ≤ sizeLine) (ha : EE X σ S a (LstP Ps)) (hb : EE X σ S b (Dt X.K (.int i))) : EE X σ S (.BinOp a .Mult b pos) (LstP (List.replicate i.toNat Ps).flatten) := by
  haveI := lstP_mn hP
  exact ee_op op_rep ha hb fun x y S1 H1 _ s px py Q q => by
    cases py
    obtain ⟨l, xs, rfl, hl, hx⟩ := px
    have hz' : xs.length * i.toNat ≤ sizeLine := by rw [al_len hx]; exact hz
    have hM : ∀ P ∈ (List.replicate i.toNat Ps).flatten, Mn P := fun P h => by
      obtain ⟨L, hL, hp⟩ := List.mem_flatten.mp h
      rw [List.eq_of_mem_replicate hL] at hp
      exact hP P hp
    exact ⟨l, i, xs, rfl, rfl, s _ _ hl, h1, h2, hz', fun t ht => q _ _ _ (Gr.new s ht) ⟨t, _, rfl, upd_same, al_mn hM (Same.new (s.free ht)) (al_flat hx _)⟩⟩
/-- a[0], a list or tuple of things -/
theorem ee_ixSq {P : V → Hp → Prop} {i : Nat} (hM : ∀ P ∈ Ps, Mn P) (he : Ps[i]? = some P) (ha : EE X σ S a (SqP X.K t Ps)) (hb : EE X σ S b (Dt X.K (.int (i : Nat)))) (hs : PlainIx b := by exact fun _ _ => rfl) : EE X σ S (.Subscript a b pos) P := by
  cases t with
  | false => exact ee_ixLP hM he ha hb hs
  | true =>
    haveI := sqP_mn (K := X.K) (t := true) hM
    exact ee_2 (pe_ix ix_tup peb peb hs) ha hb fun x y S1 H1 _ s px py Q q => by
      cases py
      obtain ⟨l, xs, rfl, hl, al⟩ := px
      have hlen := al_len al
      have hi : i < Ps.length := by
        rcases Nat.lt_or_ge i Ps.length with h | h
        · exact h
        · rw [List.getElem?_eq_none h] at he; cases he
      have hx : i < xs.length := by omega
      obtain ⟨P', e1, e2⟩ := al_get al (List.getElem?_eq_getElem hx)
      rw [he] at e1
      obtain rfl := Option.some.inj e1
      exact ⟨l, xs, i, xs[i], rfl, rfl, sqt_up s hl, L2.atI_nat (List.getElem?_eq_getElem hx), q _ S1 H1 (Gr.refl s) e2⟩
/-- a thing of a known kind is a list or a tuple, or not -/
theorem ee_isiLTP {Pa : V → Hp → Prop} [Mn Pa] {k : Bool} (hm : X.mg "isinstance" = none) (h1 : X.mg "list" = none) (h2 : X.mg "tuple" = none) (ha : EE X σ S a Pa)
    (hk : ∀ v S1 H1, Same S1 H1 → Pa v S1 → ∃ t k1 k2, TyX X.K H1 v t ∧ PySem.W.kitOne X.K t (.type "list") = some k1 ∧ PySem.W.kitOne X.K t (.type "tuple") = some k2 ∧ k = (k1 || k2)) {p1 p2 p3 : Pos} {x1} (hg : Gl X "isinstance" := by rfl) (hg1 : Gl X "list" := by rfl) (hg2 : Gl X "tuple" := by rfl)
    (hs : starEach [a, .Tuple [.Name "list" p1, .Name "tuple" p2] x1 p3] X.env = (false, eval a X.env) :: starEach [.Tuple [.Name "list" p1, .Name "tuple" p2] x1 p3] X.env := by rfl) : EE X σ S (.Call (.Name "isinstance" p) [a, .Tuple [.Name "list" p1, .Name "tuple" p2] x1 p3] [] pos) (Dt X.K (.bool k)) := by
  haveI m1 : Mn (fun (w : V) (_ : Hp) => w = .ty "list") := ⟨fun _ h => h⟩
  haveI m2 : Mn (fun (w : V) (_ : Hp) => w = .ty "tuple") := ⟨fun _ h => h⟩
  haveI m3 : Mn (fun (w : V) (S : Hp) => ∃ t, w = .ref t ∧ S t = some (.tup [.ty "list", .ty "tuple"])) := ⟨fun s ⟨t, e, h⟩ => ⟨t, e, s _ _ h⟩⟩
  have ht : EE X σ S (.Tuple [.Name "list" p1, .Name "tuple" p2] x1 p3) (fun (w : V) (S : Hp) => ∃ t, w = .ref t ∧ S t = some (.tup [.ty "list", .ty "tuple"])) :=
    ee_tupA (vsP := fun vs _ => vs = [.ty "list", .ty "tuple"]) (fun H s Q q => (ea_2 (ee_bltn (P := fun w _ => w = .ty "list") (v := .ty "list") (u := .type "list") h1 (by first | rfl | decide +kernel | exact boot_list) rfl rfl hg1 (by decide) (by decide)) (ee_bltn (P := fun w _ => w = .ty "tuple") (v := .ty "tuple") (u := .type "tuple") h2 (by first | rfl | decide +kernel | exact boot_tuple) rfl rfl hg2 (by decide) (by decide)) rfl rfl).2 H s Q fun vs S' H' g al => q vs S' H' g (by
        obtain ⟨v, w, rfl, rfl, rfl⟩ := al.two
        rfl)) (fun vs _ e => by subst e; show 2 ≤ 16777216; decide) (fun vs S' t st ht e => by subst e; exact ⟨t, rfl, upd_same⟩)
  refine ee_callB call_isiT hm boot_isinstance (ea_2 ha ht hs rfl) (fun vs S1 H1 _ s al Q q => ?_) hg (he := hs) (hpl := by rfl)
  obtain ⟨v, w, rfl, pv, t, rfl, pw⟩ := al.two
  obtain ⟨tt, k1, k2, ty, e1, e2, ek⟩ := hk v S1 H1 s pv
  refine ⟨v, t, [.ty "list", .ty "tuple"], tt, [.type "list", .type "tuple"], k, rfl, s _ _ pw, .cons (.ty "list") (.cons (.ty "tuple") .nil), ty, ?_, q _ S1 H1 (Gr.refl s) (.bl k)⟩
  subst ek
  refine kitAny_cons e1 (fun e => kitAny_cons e2 (fun e2 => ?_) (fun e2 => ?_)) (fun e => ?_)
  · rw [e, e2]; exact kitAny_nil
  · rw [e2]; simp
  · rw [e]; simp
end
end Y
namespace Y
open PySem PySem.Spec PyProof.Rows L2 Z
/-! ## sorted(a set of tuples of ints) -/
theorem code_ltL {B : Int} : ∀ {p q : List Int}, p.length = q.length → TS.Bd B p → TS.Bd B q → q < p → TS.code B q < TS.code B p
  | [], [], _, _, _, h => by simp at h
  | x :: p, y :: q, hl, hp, hq, h => by
    have hl' : p.length = q.length := by simpa using hl
    obtain ⟨c0, c1⟩ := TS.code_bd _ hp.tail
    obtain ⟨e0, e1⟩ := TS.code_bd _ hq.tail
    show y * B ^ q.length + TS.code B q < x * B ^ p.length + TS.code B p
    rw [← hl'] at e1 ⊢
    rcases List.cons_lt_cons_iff.mp h with hlt | ⟨rfl, h2⟩
    · have h1 : (y + 1) * B ^ p.length ≤ x * B ^ p.length := Int.mul_le_mul_of_nonneg_right (by omega) (by omega)
      rw [Int.add_mul, Int.one_mul] at h1
      omega
    · have := code_ltL hl' hp.tail hq.tail h2
      omega
theorem code_le {B : Int} {p q : List Int} (hl : p.length = q.length) (hp : TS.Bd B p) (hq : TS.Bd B q) (h : TS.code B p ≤ TS.code B q) : p ≤ q := by
  intro hlt
  have := code_ltL hl hp hq hlt
  omega
/-- a new list: the tuples of ks, ascending, each once -/
def SrtL (K : PySem.W.Frag) (S : Hp) (ks : List (List Int)) (v : V) (S' : Hp) : Prop := ∃ L : List (List Int), (∀ k, k ∈ L ↔ k ∈ ks) ∧ L.Nodup ∧ L.Pairwise (fun a b => a ≤ b) ∧ NewL K S (L.map fun k => PyData.tuple (k.map .int)) v S'
section
variable {X : Cx} {σ : L2.St} {S : Hp} {e : Expr} {ks : List (List Int)} {p pos : Pos}
theorem ee_sortS {d : Nat} {B : Int} (hc : X.calm = true) (hm : X.mg "sorted" = none) (hd : 1 ≤ d) (hk : ∀ k ∈ ks, k.length = d ∧ TS.Bd B k) (he : EE X σ S e (SetD X.prog X.w X.K ks)) (hg : Gl X "sorted" := by rfl) (hs : starEach [e] X.env = (false, eval e X.env) :: starEach [] X.env := by rfl) :
    EE X σ S (.Call (.Name "sorted" p) [e] [] pos) (SrtL X.K S ks) :=
  ee_callB (cr_sortedT hc) hm (by first | rfl | exact boot_sorted) (ea_1 he hs) (fun vs S1 H1 st s al Q q => by
    obtain ⟨v, rfl, a, L, rfl, h1, h2, h3, h4, h5⟩ := al.one
    have hL : ∀ q ∈ L, q.2 ∈ ks := fun q hq => (h3 q.2).mp (List.mem_map_of_mem hq)
    refine ⟨a, L, d, B, rfl, s _ _ h1, fun q hq => sqt_dt ((h2 q hq).up s), hd, fun q hq => hk _ (hL q hq), fun L' p pm nd hf pw hp => q _ _ _ (Gr.new s hp) ⟨L'.map (·.2), fun k => ?_, nd, ?_, p, L'.map fun q => V.ref q.1, rfl, st.free (s.free hp), upd_same, ⟨by rw [List.length_map, List.length_map, List.length_map], fun i x dd hx hdd => ?_⟩, by rw [List.length_map]; show L'.length ≤ 16777216; omega⟩⟩
    · rw [(pm.map (·.2)).mem_iff]; exact h3 k
    · rw [List.pairwise_map]
      refine List.Pairwise.imp_of_mem (fun {a b} ha hb hab => ?_) pw
      have h1' := hk _ (hL a (pm.mem_iff.mp ha))
      have h2' := hk _ (hL b (pm.mem_iff.mp hb))
      exact code_le (by rw [h1'.1, h2'.1]) h1'.2 h2'.2 hab
    · rw [List.getElem?_map] at hx
      rw [List.getElem?_map, List.getElem?_map] at hdd
      cases hLi : L'[i]? with
      | none => rw [hLi] at hx; cases hx
      | some q =>
        rw [hLi] at hx hdd
        cases hx
        cases hdd
        have hq := List.mem_of_getElem? hLi
        exact (h2 q (pm.mem_iff.mp hq)).up (Same.new (s.free hp))) hg (he := hs) (hpl := by rfl)
end
end Y
namespace Y
open PySem PySem.Spec PyProof.Rows L2 Z
section
variable {X : Cx} {σ : L2.St} {S H : Hp} {R P1 P2 : V → Hp → Prop} {pos p : Pos} {k : Nat} {x : Str} {sp : Sp} {C f : Addr} {fd : FuncData} {ps : List Str}
/-- C(k1 = e1, k2 = e2), the names in the other order -/
theorem ee_makeTK2 {k1 k2 : Str} {e1 e2 : Expr} {q1 q2 : Pos} [Mn P1] [Mn P2] {g : List Value → List Value → List Value} {gV : List V → List V → List V} (M : Mk X.K C f) (G : FnOk X.prog X.w X.K X.mg X.base CX0 k f fd ps sp) (hr : Room (k + 1) X.A) (hm : X.mg x = some (.ref C)) (hb : KBn X.K fd ps 1 [k1, k2] g gV) (hgV : ∀ s u v, gV [s] [u, v] = [s, v, u]) (h1 : EE X σ S e1 P1) (h2 : EE X σ S e2 P2) (h : MkSp sp C S [P2, P1] R)
    (hall : (backToKw pos (keywordEach [⟨some k1, e1, q1⟩, ⟨some k2, e2, q2⟩] X.env)).all (·.1.isSome) = true := by rfl) (hks : (backToKw pos (keywordEach [⟨some k1, e1, q1⟩, ⟨some k2, e2, q2⟩] X.env)).filterMap (·.1) = [k1, k2] := by rfl) (hdb : (x == ("__debug__" : Str)) = false := by decide)
    (hpl : ((backTo pos (starEach [] X.env)).any (·.1) || (backToKw pos (keywordEach [⟨some k1, e1, q1⟩, ⟨some k2, e2, q2⟩] X.env)).any (·.1.isNone)) = false := by rfl) (hg : Gl X x := by rfl) : EE X σ S (.Call (.Name x p) [] [⟨some k1, e1, q1⟩, ⟨some k2, e2, q2⟩] pos) R := fun H s Q q =>
  he_of (pe_makeK0 M G hr hg hm hb pass0 (pk_cons (te := bE X e1) peb (pk_cons (te := bE X e2) (t := tNil) peb pk_nil)) hall hks hdb hpl) (h1 H s _ fun u S1 H1 g1 pu => (h2.up g1.st) H1 g1.sub _ fun v S2 H2 g2 pv => ⟨rfl, rfl, fun a dx a1 a2 a3 => by
    rw [hgV]
    exact h [v, u] S2 H2 a dx (g1.st.trans g2.st) g2.sub (.cons pv (.cons (Mn.up g2.st pu) .nil)) a1 a2 a3 _ fun S4 H4 g4 r => q _ S4 H4 ((g1.trans g2).trans g4) r⟩)
end
end Y
namespace Y
open PySem PySem.Spec PyProof.Rows L2 Z
section
variable {X : Cx} {σ : L2.St} {S : Hp} {e : Expr} {p pos : Pos} {m : MapI}
/-- list(d), d a dict with tuples of ints as keys -/
theorem ee_listDP (hc : X.calm = true) (hm : X.mg "list" = none) (hz : ∀ k ∈ keysM m, k.length ≤ sizeLine) (hl : m.length ≤ sizeLine) (he : EE X σ S e (DctP m)) (hg : Gl X "list" := by rfl) (hs : starEach [e] X.env = (false, eval e X.env) :: starEach [] X.env := by rfl) :
    EE X σ S (.Call (.Name "list" p) [e] [] pos) (Dt X.K (.list ((keysM m).map tI'))) := by
  exact ee_callTy (call_list_dT hc) hm (by first | rfl | exact boot_list) (ea_1 he hs) (fun vs S1 H1 s0 s al Q q => by
    obtain ⟨v, rfl, a, rfl, hd⟩ := al.one
    refine ⟨a, kvM m, rfl, .inl (s _ _ hd), fun p bs hp hk => ?_⟩
    have g1 := Gr.learn s
    have g2 := Gr.new (H := H1) (S := learn S1 H1) (o := .lst (bs.map V.ref)) g1.sub hp
    have hy := keys_refs hk
    have hd2 : Dts X.K ((keysM m).map tI') (bs.map V.ref) (learn S1 H1) := dts_of_each (fun v k ⟨b, e, h⟩ => ⟨b, e, learn_tup s h⟩) hy hz
    refine q _ _ _ (g1.trans g2) (Dt.lst_mk upd_same (hd2.up g2.st) ?_)
    rw [hd2.1, List.length_map]
    unfold keysM
    rw [List.length_map]
    exact hl) hg (he := hs) (hpl := by rfl)
end
end Y
namespace Y
open PySem PySem.Spec PyProof.Rows L2 Z
section
variable {X : Cx} {σ : L2.St} {S H : Hp} {o e a : Expr} {rest : List Stmt} {D : Ends} {p pos apos : Pos} {P P2 : V → Hp → Prop} {Ps : List (V → Hp → Prop)}
/-- o.clear(), o a list of any kind -/
theorem hs_clearW (ho : EE X σ S o P) (hP : ∀ w S1, P w S1 → ∃ l xs, w = .ref l ∧ S1 l = some (.lst xs)) (s : Same S H) (q : ∀ l xs S' H', Gr S H S' H' → P (.ref l) S' → S' l = some (.lst xs) → HS X D rest σ (upd H' l (.lst []))) (hbase : attributeBase o "clear" X.env (eval o X.env) = eval o X.env := by rfl) (hline : (apos.endLine == p.line) = true := by rfl) (hs : swapsWith (.Call (.Attribute o "clear" apos) [] [] p) none pos.line X.env = pure false := by rfl) : HS X D (.Expr (.Call (.Attribute o "clear" apos) [] [] p) pos :: rest) σ H :=
  hs_cons (ps_expr (pe_bm0 PySem.F.plainAttrs_list PySem.F.slot_list_clear PySem.F.type_list_clear mt_clear peb hbase hline) hs) (ho H s _ fun w S1 H1 g1 pw => by
    obtain ⟨l, xs, rfl, h1⟩ := hP w S1 pw
    exact ⟨.inl ⟨rfl, _, .inl (.inl (g1.sub _ _ h1))⟩, l, xs, rfl, rfl, g1.sub _ _ h1, q l xs S1 H1 g1 pw h1⟩)
/-- o.append(e), o a list of any kind -/
theorem hs_appW (ho : EE X σ S o P) (hP : ∀ w S1, P w S1 → ∃ l xs, w = .ref l ∧ S1 l = some (.lst xs) ∧ xs.length < 1000) (s : Same S H) [Mn P2] (ha : EE X σ S e P2) (q : ∀ l xs v S1 S' H', Gr S H S' H' → Same S1 S' → P (.ref l) S1 → S1 l = some (.lst xs) → P2 v S' → HS X D rest σ (upd H' l (.lst (xs ++ [v])))) (hbase : attributeBase o "append" X.env (eval o X.env) = eval o X.env := by rfl) (hline : (apos.endLine == p.line) = true := by rfl)
    (hs : swapsWith (.Call (.Attribute o "append" apos) [e] [] p) none pos.line X.env = pure false := by rfl) (hst : starEach [e] X.env = (false, eval e X.env) :: starEach [] X.env := by rfl)
    (hfew : ((backTo p (starEach [e] X.env)).all (fun x => !x.1) && (backToKw p (keywordEach [] X.env)).all (fun x => x.1.isSome) && decide ([e].length + ([] : List Keyword).length + (if ([] : List Keyword).isEmpty then 0 else 1) < 30)) = true := by rfl) : HS X D (.Expr (.Call (.Attribute o "append" apos) [e] [] p) pos :: rest) σ H :=
  hs_cons (ps_expr (pe_bm PySem.F.plainAttrs_list PySem.F.slot_list_append PySem.F.type_list_append mt_append peb (pa_cons (te := bE X e) (t := tNil) peb pa_nil hst) hbase hfew hline hst (by rfl)) hs) (ho H s _ fun w S1 H1 g1 pw => by
    obtain ⟨l, xs, rfl, h1, hz⟩ := hP w S1 pw
    refine ⟨.inl ⟨rfl, _, .inl (.inl (g1.sub _ _ h1))⟩, ?_⟩
    exact (ha.up g1.st) H1 g1.sub _ fun v S2 H2 g2 pv => ⟨l, xs, v, rfl, rfl, g2.sub _ _ (g2.st _ _ h1), by show _ < 16777216; omega, q l xs v S1 S2 H2 (g1.trans g2) g2.st pw h1 pv⟩)
/-- what is known besides -/
theorem EE.known {Q' : V → Hp → Prop} (h : EE X σ S e P) (hh : ∀ v S', Same S S' → P v S' → Q' v S') : EE X σ S e Q' := fun H s Q q => h H s _ fun v S1 H1 g pv => q v S1 H1 g (hh v S1 g.st pv)
theorem al_takeI {S : Hp} : ∀ (i : Nat) {Ps : List (V → Hp → Prop)} {xs : List V}, Al Ps xs S → Al (Ps.take i) (xs.take i) S
  | 0, _, _, _ => by rw [List.take_zero, List.take_zero]; exact .nil
  | i + 1, _, _, .nil => .nil
  | i + 1, _, _, .cons p h => .cons p (al_takeI i h)
theorem cutV_to (xs : List V) (i : Nat) : cutV xs none (some (i : Int)) = xs.take i := by
  unfold cutV
  have e1 : HT.sIx xs.length 0 none = 0 := rfl
  have e2 : HT.sIx xs.length xs.length (some (i : Int)) = min i xs.length := by
    show (if (i : Int) < 0 then ((i : Int) + xs.length).toNat else min (i : Int).toNat xs.length) = _
    rw [if_neg (by omega)]; omega
  rw [e1, e2, List.drop_zero, Nat.sub_zero]
  rcases Nat.le_total i xs.length with h | h
  · rw [Nat.min_eq_left h]
  · rw [Nat.min_eq_right h, List.take_length, List.take_of_length_le h]
theorem cutV_fr (xs : List V) {i : Nat} (h : i ≤ xs.length) : cutV xs (some (i : Int)) none = xs.drop i := by
  unfold cutV
  have e1 : HT.sIx xs.length 0 (some (i : Int)) = i := by
    show (if (i : Int) < 0 then ((i : Int) + xs.length).toNat else min (i : Int).toNat xs.length) = i
    rw [if_neg (by omega)]; omega
  have e2 : HT.sIx xs.length xs.length none = xs.length := rfl
  rw [e1, e2]
  exact List.take_of_length_le (by rw [List.length_drop]; omega)
theorem al_dropJ {S : Hp} : ∀ (i : Nat) {Ps : List (V → Hp → Prop)} {xs : List V}, Al Ps xs S → Al (Ps.drop i) (xs.drop i) S
  | 0, _, _, h => h
  | _ + 1, _, _, .nil => .nil
  | i + 1, _, _, .cons _ h => al_dropJ i h
/-- a[i:], a a list of things -/
theorem ee_slFP {i : Nat} {p2 : Pos} (hM : ∀ P ∈ Ps, Mn P) (hi : i ≤ Ps.length) (ha : EE X σ S a (LstP Ps)) (hl : EE X σ S e (Dt X.K (.int (i : Nat)))) : EE X σ S (.Subscript a (.Slice (some e) none none p2) pos) (LstP (Ps.drop i)) := fun H s Q q =>
  he_of (pe_slice sl_list peb pob pob) (ha H s _ fun v S1 H1 g1 pv => ((eo_some hl).up g1.st) H1 g1.sub _ fun S2 H2 g2 => (EO.up (g1.st.trans g2.st) eo_none) H2 g2.sub _ fun S3 H3 g3 => by
    haveI := lstP_mn hM
    obtain ⟨l, xs, rfl, hl, al⟩ := (Mn.up (g2.st.trans g3.st) pv : LstP Ps v S3)
    have hlen := al_len al
    refine ⟨l, xs, rfl, sql_of (g3.sub _ _ hl), fun t ht => q _ _ _ (((g1.trans g2).trans g3).trans (Gr.new g3.sub ht)) ⟨t, _, rfl, upd_same, ?_⟩⟩
    rw [cutV_fr xs (by omega)]
    exact al_mn (fun P hP => hM P (List.mem_of_mem_drop hP)) (Same.new (g3.sub.free ht)) (al_dropJ i al))
/-- a[:i], a a list of things -/
theorem ee_slTP {i : Nat} {p2 : Pos} (hM : ∀ P ∈ Ps, Mn P) (ha : EE X σ S a (LstP Ps)) (hl : EE X σ S e (Dt X.K (.int (i : Nat)))) : EE X σ S (.Subscript a (.Slice none (some e) none p2) pos) (LstP (Ps.take i)) := fun H s Q q =>
  he_of (pe_slice sl_list peb pob pob) (ha H s _ fun v S1 H1 g1 pv => (EO.up g1.st eo_none) H1 g1.sub _ fun S2 H2 g2 => ((eo_some hl).up (g1.st.trans g2.st)) H2 g2.sub _ fun S3 H3 g3 => by
    haveI := lstP_mn hM
    obtain ⟨l, xs, rfl, hl, al⟩ := (Mn.up (g2.st.trans g3.st) pv : LstP Ps v S3)
    have hlen := al_len al
    refine ⟨l, xs, rfl, sql_of (g3.sub _ _ hl), fun t ht => q _ _ _ (((g1.trans g2).trans g3).trans (Gr.new g3.sub ht)) ⟨t, _, rfl, upd_same, ?_⟩⟩
    rw [cutV_to xs]
    exact al_mn (fun P hP => hM P (List.mem_of_mem_take hP)) (Same.new (g3.sub.free ht)) (al_takeI i al))
end
end Y
namespace K23
open PySem PySem.Spec PyProof.Rows L2 Z Y
abbrev FnT (K : PySem.W.Frag) (x : Str) (st : Stmt) (f : Addr) (fd : FuncData) : Prop := FunD K x x (defArgs st) (defBody st) (defScope st) [] [] f fd
/-! ## data in short -/
def tI (l : List Int) : PyData := .tuple (l.map .int)
def lI (l : List Int) : PyData := .list (l.map .int)
def tP (a b : List Int) : PyData := .tuple [tI a, tI b]
def isNum (d : PyData) (l : Int) : Bool := match d with
  | .int i => decide (l ≤ i)
  | _ => false
def leNum (d : PyData) (m : Int) : Bool := match d with
  | .int i => decide (i ≤ m)
  | _ => false
def isExp (d : PyData) (w : Int) : Bool := match d with
  | .tuple ds => decide ((ds.length : Int) = w) && ds.all fun x => isNum x 0 && leNum x 6
  | _ => false
theorem map_all {α : Type} (f : α → Bool) (l : List α) : (l.map f).all (fun b => b) = l.all f := by
  induction l with
  | nil => rfl
  | cons a l ih => simp [List.map_cons, List.all_cons, ih]
/-- the facts as data; what a row must keep -/
def ruleD (p : List Int × List Int) : PyData := tP p.1 p.2
def kindN : PyData → Nat
  | .none => 0
  | .bool _ => 1
  | .int _ => 2
  | .str _ => 3
  | .list _ => 4
  | .tuple _ => 5
  | .dict _ => 6
def marksL (d : PyData) : List Bool := [decide (kindN d = 0), isD d "bool", isD d "int", isD d "str"] ++ [isD d "list", isD d "tuple", true]
theorem marks_at (d : PyData) : (marksL d)[kindN d]? = some true := by cases d <;> rfl
theorem marks_no (d : PyData) : ∀ m, m < kindN d → (marksL d)[m]? = some false := by
  cases d with
  | none => exact fun m h => absurd h (Nat.not_lt_zero _)
  | bool b => exact fun
    | 0, _ => rfl
    | m + 1, h => absurd (show m + 1 < 1 from h) (by omega)
  | int b => exact fun
    | 0, _ => rfl
    | 1, _ => rfl
    | m + 2, h => absurd (show m + 2 < 2 from h) (by omega)
  | str b => exact fun
    | 0, _ => rfl
    | 1, _ => rfl
    | 2, _ => rfl
    | m + 3, h => absurd (show m + 3 < 3 from h) (by omega)
  | list b => exact fun
    | 0, _ => rfl
    | 1, _ => rfl
    | 2, _ => rfl
    | 3, _ => rfl
    | m + 4, h => absurd (show m + 4 < 4 from h) (by omega)
  | tuple b => exact fun
    | 0, _ => rfl
    | 1, _ => rfl
    | 2, _ => rfl
    | 3, _ => rfl
    | 4, _ => rfl
    | m + 5, h => absurd (show m + 5 < 5 from h) (by omega)
  | dict b => exact fun
    | 0, _ => rfl
    | 1, _ => rfl
    | 2, _ => rfl
    | 3, _ => rfl
    | 4, _ => rfl
    | 5, _ => rfl
    | m + 6, h => absurd (show m + 6 < 6 from h) (by omega)
theorem dt_non {K : PySem.W.Frag} {d : PyData} {v : V} {S : Hp} (h : Dt K d v S) : decide (v = .non) = decide (kindN d = 0) := by
  cases h <;> rfl
/-- data without dicts, at most n deep -/
def Bd : Nat → PyData → Prop
  | _, .none => True
  | _, .bool _ => True
  | _, .int _ => True
  | _, .str _ => True
  | 0, .list _ => False
  | 0, .tuple _ => False
  | n + 1, .list xs => ∀ x ∈ xs, Bd n x
  | n + 1, .tuple xs => ∀ x ∈ xs, Bd n x
  | _, .dict _ => False
theorem zip_self (xs : List PyData) : xs.zip xs = xs.map fun x => (x, x) := by
  induction xs with
  | nil => rfl
  | cons a l ih => simp [ih]
section
variable {P : Program} {w : World} {K : PySem.W.Frag} {mg : Str → Option Value} {base : Heap} {f : Addr} {fd : FuncData}
def FisNumber : List PyData → PyData → Prop := fun ds r => ∃ d l, ds = [d, .int l] ∧ r = .bool (isNum d l)
theorem sc_is_number : FnScope ["value", "least"] ["value", "least"] (defScope sis_number) := ⟨rfl, rfl, rfl, by decide +kernel, rfl, by decide +kernel, by decide +kernel⟩
theorem ok_is_number (F : FnT K "is_number" sis_number f fd) (g1 : mg "isinstance" = none) (g2 : mg "int" = none) (g3 : mg "bool" = none) : FnOk P w K mg base CX0 1 f fd ["value", "least"] (spD K FisNumber) := by
  refine fn_hs F sc_is_number (fun vs H Q E h => ?_) (fun cdv A outer sh H vs Q E hr h => ?_)
  · obtain ⟨S, ds, d, _, hd, ⟨_, _, rfl, _⟩, _⟩ := h
    exact hd.1
  · obtain ⟨S, ds, r, s, hd, ⟨d, l, rfl, rfl⟩, q⟩ := h
    obtain ⟨v1, v2, rfl, p1, p2⟩ := hd.two
    refine hs_ret ((ee_and (ee_isi (isD_ok d (T := "int") (by simp)) g1 g2 boot_int (ee_var 0 rfl p1)) fun h1 =>
      ee_and (ee_not (ee_isi (isD_ok d (T := "bool") (by simp)) g1 g3 boot_bool (ee_var 0 rfl p1))) fun h2 => ee_one (P := Dt K (.bool (isNum d l))) ?_).isd ?_) s q
    · cases d <;> first | (exact ee_ge (ee_var 0 rfl p1) (ee_var 1 rfl p2)) | (exfalso; simp [isDi, isDb] at h1 h2; done)
    · cases d <;> rfl
def FisExp : List PyData → PyData → Prop := fun ds r => ∃ d w, ds = [d, .int w] ∧ r = .bool (isExp d w)
theorem sc_is_exponent : FnScope ["value", "width", "item"] ["value", "width"] (defScope sis_exponent) := ⟨rfl, rfl, rfl, by decide +kernel, rfl, by decide +kernel, by decide +kernel⟩
theorem ok_is_exponent (F : FnT K "is_exponent" sis_exponent f fd) (D1 : KD P w K mg base "is_number" 1 (spD K FisNumber)) (g1 : mg "isinstance" = none) (g2 : mg "tuple" = none) (g3 : mg "len" = none) (g4 : mg "all" = none) (g5 : ∃ t, mg "MOST_EXPONENT" = some (.int 6 t)) : FnOk P w K mg base CX0 2 f fd ["value", "width"] (spD K FisExp) := by
  refine fn_hs F sc_is_exponent (fun vs H Q E h => ?_) (fun cdv A outer sh H vs Q E hr h => ?_)
  · obtain ⟨S, ds, d, _, hd, ⟨_, _, rfl, _⟩, _⟩ := h
    exact hd.1
  · obtain ⟨S, ds, r, s, hd, ⟨d, w', rfl, rfl⟩, q⟩ := h
    obtain ⟨v1, v2, rfl, p1, p2⟩ := hd.two
    obtain ⟨t, g5⟩ := g5
    by_cases hd' : ∃ es, d = .tuple es
    · obtain ⟨es, rfl⟩ := hd'
      refine hs_if (et_w (ew_or (et_not (et_val (ee_isi (isD_ok (.tuple es) (T := "tuple") (by simp)) g1 g2 boot_tuple (ee_var 0 rfl p1)))) fun _ => ew_or1 (et_neI (ee_len g3 rfl (ee_var 0 rfl p1)) (ee_var 1 rfl p2)))) s (fun h1 S1 H1 g => ?_) (fun h1 S1 H1 g => hs_nil ?_)
      · have hl : ¬ ((es.length : Int) = w') := by simpa [isDt] using h1
        refine hs_ret ee_bl g.sub fun v S2 H2 g2 pv => q v S2 H2 (g.trans g2) ?_
        have e : isExp (.tuple es) w' = false := by unfold isExp; simp [hl]
        rw [e]; exact pv
      · have hl : (es.length : Int) = w' := by simpa [isDt] using h1
        have hz : es.length ≤ sizeLine := by obtain ⟨l, xs, _, _, hx, z⟩ := p1.tup_inv; rw [← hx.1]; exact z
        refine hs_ret ((ee_all (bs := es.map fun x => isNum x 0 && leNum x 6) rfl g4 (ee_lc (i := 2) (enc := .bool) (f := fun x => isNum x 0 && leNum x 6) rfl sc_is_exponent.nd (blkOk_by (N := ["value", "width", "item"]) (sc := defScope sis_exponent) (by decide +kernel)) (ei_tup (ee_var 0 rfl (p1.up g.st))) hz ?_)).isd ?_) g.sub fun v S2 H2 g2 pv => q v S2 H2 (g.trans g2) pv
        · intro x hx v S2 s2 pv sh' H0 C cl fp
          refine ee_and (k1 := isNum x 0) (k2 := leNum x 6) (ee_callD D1 hr ⟨x, 0, rfl, rfl⟩ (ea_2 (ee_var 2 rfl pv) ee_int)) fun h2 => ee_one (P := Dt K (.bool (leNum x 6))) ?_
          cases x with
          | int i => exact ee_le (ee_var 2 rfl pv) (ee_globI g5)
          | _ => exfalso; simp [isNum] at h2; done
        · rw [map_all]
          unfold isExp
          simp [hl]
    · refine hs_ifT ((et_w (ew_or (k2 := true) (et_not (et_val (ee_isi (isD_ok d (T := "tuple") (by simp)) g1 g2 boot_tuple (ee_var 0 rfl p1)))) fun h1 => ?_)).is ?_) s fun S1 H1 g => hs_ret ee_bl g.sub fun v S2 H2 g2 pv => q v S2 H2 (g.trans g2) ?_
      · exfalso; cases d <;> first | (simp [isDt] at h1; done) | exact hd' ⟨_, rfl⟩
      · simp
      · have e : isExp d w' = false := by cases d <;> first | rfl | exact absurd ⟨_, rfl⟩ hd'
        rw [e]; exact pv
def spOpen0 (K : PySem.W.Frag) : Sp := fun vs H Q _ => ∃ (a : Addr) (ns : List Int), vs = [.ref a] ∧ SqL K H a (ns.map V.int) ∧ ns.length ≤ 63 ∧ ∀ (b c : Addr) (ms : List Int) (k : Int) (H' : Hp), H b = none → H c = none → b ≠ c → Same H H' → ms.length ≤ 63 → 0 ≤ k → k < 100000 →
  H' c = some (.lst (ms.map V.int)) → H' b = some (.lst [.ref c, .int 0, .int 0, .int k, .int 0]) → Q (.ref b) H'
def spOpen (K : PySem.W.Frag) : Sp := fun vs H Q _ => ∃ (a : Addr) (ns : List Int), vs = [.ref a] ∧ SqL K H a (ns.map V.int) ∧ ns.length ≤ 63 ∧ ∀ v H', Same H H' → BX v H' → Q v H'
theorem scL_open : FnScope ["_law_script"] ["_law_script"] (defScope sL_open) := ⟨rfl, rfl, rfl, by decide +kernel, rfl, by decide +kernel, by decide +kernel⟩
theorem cut_ints (ns : List Int) (k : Nat) : cutV (ns.map V.int) none (some (k : Int)) = (ns.take k).map V.int := by
  unfold cutV
  rw [HT.sIx_none, HT.sIx_nat, List.drop_zero, List.map_take, Nat.sub_zero]
  by_cases h : k ≤ (ns.map V.int).length
  · rw [Nat.min_eq_left h]
  · rw [Nat.min_eq_right (by omega), List.take_of_length_le (Nat.le_refl _), List.take_of_length_le (by omega)]
theorem ok_L_open0 (F : FnT K "_law_open" sL_open f fd) (g1 : mg "list" = none) (g2 : mg "len" = none) : FnOk P w K mg base CX0 1 f fd ["_law_script"] (spOpen0 K) := by
  refine fn_hs F scL_open (fun vs H Q E h => ?_) (fun cdv A outer sh H vs Q E hr h => ?_)
  · obtain ⟨a, ns, rfl, _⟩ := h
    rfl
  · obtain ⟨a, ns, rfl, hS, hl, q⟩ := h
    refine hs_cons (ps_ret (pe_lst (pa_cons (pe_callTy call_list_of (by rfl) g1 boot_list (pa_cons (pe_slice sl_list (pv 0) po_none (po_some pe_int)) pa_nil)) (pa_cons pe_int (pa_cons pe_int (pa_cons (pe_op op_add pe_int (pe_op op_mul pe_int (pe_callB call_len_seq (by rfl) g2 PySem.boot_len (pa_cons (pv 0) pa_nil)))) (pa_cons pe_int pa_nil))))))) ?_
    refine ⟨_, rfl, _, rfl, a, _, rfl, hS, fun p hp => ⟨p, _, rfl, .inl (sql_of upd_same), fun c hc => ?_⟩⟩
    have s1 : Same H (upd H p (.lst (cutV (ns.map V.int) none (some 63)))) := Same.new hp
    have hcp : p ≠ c := ne_of_none upd_same hc
    have hc0 : H c = none := s1.free hc
    have s2 := s1.trans (Same.new (o := .lst (cutV (ns.map V.int) none (some 63))) hc)
    refine ⟨_, rfl, a, _, rfl, .inl (sql_up s2 hS), 7, ((ns.map V.int).length : Int), rfl, rfl, .inl (by decide), 12016, 7 * ((ns.map V.int).length : Int), rfl, rfl, (by show 5 ≤ 16777216; decide), fun b hb => ?_⟩
    have hbc : b ≠ c := (ne_of_none upd_same hb).symm
    rw [List.length_map]
    refine q b c (ns.take 63) _ _ (s2.free hb) hc0 hbc (s2.trans (Same.new hb)) (by rw [List.length_take]; omega) (by omega) (by omega) ?_ upd_same
    rw [upd_ne hbc.symm, upd_same]
    exact congrArg (fun l => some (HO.lst l)) (cut_ints ns 63)
theorem ok_L_open (F : FnT K "_law_open" sL_open f fd) (g1 : mg "list" = none) (g2 : mg "len" = none) : FnOk P w K mg base CX0 1 f fd ["_law_script"] (spOpen K) := by
  refine FnOk.close (ok_L_open0 F g1 g2) (fun vs H Q E h => by obtain ⟨a, ns, rfl, _⟩ := h; rfl) fun vs H Q E h => ?_
  obtain ⟨a, ns, rfl, hS, hl, q⟩ := h
  refine ⟨a, ns, rfl, hS, hl, fun b c ms k H' nb nc nbc sm hm k0 k1 hc hb => ⟨b, _, boxPhi b c, nb, hb, sm, fun h' o => box_of ⟨0, 0, k, 0, rfl, by omega, by omega, k0, by omega, by omega⟩ o, box_stab, ?_⟩⟩
  refine q _ _ (fun x o e => by rw [upd_ne (ne_of_none e nb)]; exact sm _ _ e) ⟨b, c, ms, rfl, nbc, upd_same, by rw [upd_ne nbc.symm]; exact hc, hm⟩
def spTake0 : Sp := fun vs H Q _ => ∃ (b c : Addr) (ns : List Int) (sz : Int) (xs : List V), vs = [.ref b, .int sz] ∧ b ≠ c ∧ H b = some (.lst xs) ∧ BoxV c xs ∧ H c = some (.lst (ns.map V.int)) ∧ ns.length ≤ 63 ∧ 0 < sz ∧ sz < 1073741824 ∧
  ∀ (n : Int) (H' : Hp) (ys : List V), 0 ≤ n → n < sz → (∀ a o, H a = some o → a ≠ b → H' a = some o) → H' b = some (.lst ys) → BoxV c ys → Q (.int n) H'
def Ftake : List PyData → (PyData → Prop) → Prop := fun ds G => ∃ sz, ds = [.int sz] ∧ 0 < sz ∧ sz < 1073741824 ∧ G = fun d => ∃ n, d = .int n ∧ 0 ≤ n ∧ n < sz
theorem scL_take : FnScope ["_law_box", "_law_size", "_law_cell", "_law_digit", "_law_seed"] ["_law_box", "_law_size"] (defScope sL_take) := ⟨rfl, rfl, rfl, by decide +kernel, rfl, by decide +kernel, by decide +kernel⟩
theorem bound_mod {x y : Int} (h : 0 < y) : 0 ≤ x % y ∧ x % y < y := ⟨Int.emod_nonneg x (by omega), Int.emod_lt_of_pos x h⟩
/-- the box at b in H', all else as in H -/
structure TkI (H : Hp) (b c : Addr) (H' : Hp) (i g m k : Int) : Prop where
  hb : H' b = some (.lst [.ref c, .int i, .int g, .int m, .int k])
  ot : ∀ a o, H a = some o → a ≠ b → H' a = some o
  i0 : 0 ≤ i
  g0 : 0 ≤ g
  m0 : 0 ≤ m
  m1 : m < 2147483648
  k0 : 0 ≤ k
theorem TkI.up {H : Hp} {b c : Addr} {H1 H2 : Hp} {i g m k : Int} (t : TkI H b c H1 i g m k) (s : Same H1 H2) : TkI H b c H2 i g m k := ⟨s _ _ t.hb, fun a o h n => s _ _ (t.ot a o h n), t.i0, t.g0, t.m0, t.m1, t.k0⟩
theorem TkI.put {H : Hp} {b c : Addr} {H1 : Hp} {i g m k i' g' m' k' : Int} (t : TkI H b c H1 i g m k) (xs : List V) (e : xs = [.ref c, .int i', .int g', .int m', .int k']) (a0 : 0 ≤ i') (a1 : 0 ≤ g') (a2 : 0 ≤ m') (a3 : m' < 2147483648) (a4 : 0 ≤ k') : TkI H b c (upd H1 b (.lst xs)) i' g' m' k' := by
  subst e
  exact ⟨upd_same, fun a o h n => by rw [upd_ne n]; exact t.ot a o h n, a0, a1, a2, a3, a4⟩
theorem small64' {z : Int} (h0 : 0 ≤ z) (h : z < 2147483648) : -(2 ^ 64) < z ∧ z < 2 ^ 64 := by
  have e : (2 : Int) ^ 64 = 18446744073709551616 := by decide
  omega
theorem ok_L_take0 (F : FnT K "_law_take" sL_take f fd) (g1 : mg "len" = none) (g2 : mg "int" = none) : FnOk P w K mg base CX0 1 f fd ["_law_box", "_law_size"] spTake0 := by
  refine fn_hs F scL_take (fun vs H Q E h => ?_) (fun cdv A outer sh H vs Q E hr h => ?_)
  · obtain ⟨b, c, ns, sz, xs, rfl, _⟩ := h
    rfl
  · obtain ⟨b, c, ns, sz, xs, rfl, hbc, hb, hx, hc, hl, z0, z1, q⟩ := h
    obtain ⟨i, g, m, k, rfl, i0, g0, m0, m1, k0⟩ := hx.ex
    have T0 : TkI H b c H i g m k := ⟨hb, fun a o h _ => h, i0, g0, m0, m1, k0⟩
    have eb : ∀ {σ : L2.St} {S : Hp} {pos : Pos}, σ[0]? = some (some (V.ref b)) → EE (cxOf CX0 P w K mg base ["_law_box", "_law_size", "_law_cell", "_law_digit", "_law_seed"] "_law_take" (defScope sL_take) f cdv A outer sh H E).nox σ S (.Name "_law_box" pos) (fun w _ => w = .ref b) := fun h => ee_var 0 h rfl
    have hnz : ns.length ≤ sizeLine := Nat.le_trans hl (by decide)
    have ec : ∀ {S : Hp} {i g m k : Int} {σ : L2.St} {p1 p2 p3 : Pos} {n : Nat}, TkI H b c S i g m k → σ[0]? = some (some (V.ref b)) → EE (cxOf CX0 P w K mg base ["_law_box", "_law_size", "_law_cell", "_law_digit", "_law_seed"] "_law_take" (defScope sL_take) f cdv A outer sh H E).nox σ S (.Subscript (.Name "_law_box" p1) (.Constant (.int 0) n p2) p3) (Dt K (lI ns)) := fun {S i g m k} _ _ _ _ _ T h =>
      ee_ixB T.hb (eb h) ee_int (v := .ref c) rfl fun S' s => Dt.lst_mk (s _ _ (T.ot _ _ hc hbc.symm)) (int_dts ns S') (by rw [List.length_map]; exact hnz)
    refine hs_ifR (S := H) (fun σ' H' => ∃ (v : Option V) (i g m k : Int), σ' = [some (.ref b), some (.int sz), v, none, none] ∧ TkI H b c H' i g m k)
      (et_w (ew_and (et_eqI (ee_ixB hb (eb rfl) ee_int (v := .int g) rfl fun _ _ => .int g) ee_int) fun _ => ew_and1 (et_lt (ee_ixB hb (eb rfl) ee_int (v := .int i) rfl fun _ _ => .int i) (ee_len g1 (n := ns.length) (by simp [lI, lenD]) (ec T0 rfl))))) (Same.refl H) (fun hk S1 H1 g1' => ?_) (fun hk S1 H1 g1' => hs_nil ⟨none, i, g, m, k, rfl, T0.up g1'.hh⟩) ?_
    · -- a cell is taken
      have hi : i < (ns.length : Int) := by
        have h2 := (Bool.and_eq_true_iff.mp hk).2
        exact of_decide_eq_true h2
      have T1 := T0.up g1'.hh
      have hget : atI (ns.map PyData.int) i = some (.int (ns[i.toNat]'(by omega))) := by
        unfold atI ixN
        rw [if_pos i0, List.length_map, if_pos hi]
        show (ns.map PyData.int)[i.toNat]? = _
        rw [List.getElem?_map, List.getElem?_eq_getElem (by omega)]
        rfl
      refine hs_set (S := H1) (i := 2) (ee_ixL hget (ec T1 rfl) (ee_ixB T1.hb (eb rfl) ee_int (v := .int i) rfl fun _ _ => .int i)) (Same.refl _) scL_take.nd fun v S2 H2 g2' pv => ?_
      cases pv
      have T2 := T1.up g2'.hh
      refine hs_setL (ee_add (ee_ixB T2.hb (eb rfl) ee_int (v := .int i) rfl fun _ _ => .int i) ee_int) (eb rfl) ee_int T2.hb (j := 1) rfl fun v H3 s3 pv => ?_
      cases pv
      have T3 := (T2.up s3).put ([.ref c, .int i, .int g, .int m, .int k].set 1 (.int (i + 1))) rfl (by omega) g0 m0 m1 k0
      refine hs_if (S := _) (et_ge (ee_var 2 rfl (Dt.int (K := K) _)) (ee_pow (by exact ⟨by decide, by decide, by decide⟩) ee_int ee_int)) (Same.refl _) (fun hk4 S4 H4 g4 => ?_) (fun hk4 S4 H4 g4 => ?_)
      · have T4 := T3.up g4.hh
        have hge := of_decide_eq_true hk4
        refine hs_setL (ee_var 2 rfl (Dt.int (K := K) _)) (eb rfl) ee_int T4.hb (j := 2) rfl fun v H5 s5 pv => hs_nil (hs_nil ?_)
        cases pv
        have e18 : (0 : Int) ≤ 10 ^ (18 : Int).toNat := by decide
        exact ⟨_, i + 1, _, m, k, rfl, (T4.up s5).put _ rfl (by omega) (by omega) m0 m1 k0⟩
      · have T4 := T3.up g4.hh
        have b1 := @bound_mod (ns[i.toNat]'(by omega)) 2147483497 (by decide)
        refine hs_setL (ee_mod (by decide) (ee_intOf g2 (ee_add (ee_add (ee_mulS (.inr (by decide)) (ee_ixB T4.hb (eb rfl) ee_int (v := .int m) rfl fun _ _ => .int m) ee_int) (ee_mulS (.inr (by decide)) (ee_mod (by decide) (ee_intOf g2 (ee_var 2 rfl (Dt.int (K := K) _))) ee_int) ee_int)) ee_int)) ee_int) (eb rfl) ee_int T4.hb (j := 3) rfl fun v H5 s5 pv => hs_nil (hs_nil ?_)
        cases pv
        have b2 := @bound_mod (m * 39119 + ns[i.toNat]'(by omega) % 2147483497 * 6143 + 53) 2147483563 (by decide)
        exact ⟨_, i + 1, g, _, k, rfl, (T4.up s5).put _ rfl (by omega) g0 b2.1 (by omega) k0⟩
    · rintro σ' H2 ⟨v, i, g, m, k, rfl, T2⟩
      have g0 := T2.g0
      have m0 := T2.m0
      refine hs_if (S := H2) (et_gt (ee_ixB T2.hb (eb rfl) ee_int (v := .int g) rfl fun _ _ => .int g) ee_int) (Same.refl _) (fun hk S3 H3 g3 => ?_) (fun hk S3 H3 g3 => hs_nil ?_)
      · have T3 := T2.up g3.hh
        refine hs_set (S := H3) (i := 3) (ee_mod z0 (ee_intOf g2 (ee_ixB T3.hb (eb rfl) ee_int (v := .int g) rfl fun _ _ => .int g)) (ee_var 1 rfl (Dt.int (K := K) sz))) (Same.refl _) scL_take.nd fun v S4 H4 g4 pv => ?_
        cases pv
        have T4 := T3.up g4.hh
        have b3 := @bound_mod g sz z0
        refine hs_setL (ee_fdiv (wide_div (b := 31) z0 (by omega) (by decide) (by decide)) (ee_ixB T4.hb (eb rfl) ee_int (v := .int g) rfl fun _ _ => .int g) (ee_var 1 rfl (Dt.int (K := K) sz))) (eb rfl) ee_int T4.hb (j := 2) rfl fun v H5 s5 pv => ?_
        cases pv
        have T5 := (T4.up s5).put ([.ref c, .int i, .int g, .int m, .int k].set 2 (.int (g / sz))) rfl T2.i0 (Int.ediv_nonneg g0 (by omega)) T2.m0 T2.m1 T2.k0
        refine hs_ret (S := _) (ee_var 3 rfl (Dt.int (K := K) _)) (Same.refl _) fun v S6 H6 g6 pv => ?_
        cases pv
        have T6 := T5.up g6.hh
        exact q _ H6 _ b3.1 b3.2 T6.ot T6.hb ⟨i, g / sz, m, k, rfl, T6.i0, T6.g0, T6.m0, T6.m1, T6.k0⟩
      · have T3 := T2.up g3.hh
        refine hs_setL (ee_add (ee_ixB T3.hb (eb rfl) ee_int (v := .int k) rfl fun _ _ => .int k) ee_int) (eb rfl) ee_int T3.hb (j := 4) rfl fun v H4 s4 pv => ?_
        cases pv
        have k0 := T3.k0
        have T4 := (T3.up s4).put ([.ref c, .int i, .int g, .int m, .int k].set 4 (.int (k + 1))) rfl T3.i0 T3.g0 T3.m0 T3.m1 (by omega)
        refine hs_set (S := _) (i := 4) (ee_ixB (P := Dt K (.int m)) T4.hb (eb rfl) ee_int (v := .int m) rfl fun _ _ => .int m) (Same.refl _) scL_take.nd fun v S5 H5 g5 pv => ?_
        cases pv
        have T5 := T4.up g5.hh
        refine hs_setL (ee_mod (by decide) (ee_intOf g2 (ee_add (ee_add (ee_add (ee_mulS (.inl (small64' m0 T2.m1)) (ee_var 4 rfl (Dt.int (K := K) m)) (ee_var 4 rfl (Dt.int (K := K) m))) (ee_mulS (.inr (by decide)) (ee_var 4 rfl (Dt.int (K := K) m)) ee_int)) (ee_mulS (.inr (by decide)) (ee_ixB T5.hb (eb rfl) ee_int (v := .int (k + 1)) rfl fun _ _ => .int (k + 1)) ee_int)) ee_int)) ee_int) (eb rfl) ee_int T5.hb (j := 3) rfl fun v H6 s6 pv => ?_
        cases pv
        have b2 := @bound_mod (m * m + m * 28411 + (k + 1) * 1500007 + 90001) 2147483587 (by decide)
        have T6 := (T5.up s6).put ([.ref c, .int i, .int g, .int m, .int (k + 1)].set 3 (.int ((m * m + m * 28411 + (k + 1) * 1500007 + 90001) % 2147483587))) rfl T5.i0 T5.g0 b2.1 (by omega) (by omega)
        refine hs_ret (S := _) (ee_mod z0 (ee_intOf g2 (ee_add (ee_fdiv (wide_div (b := 31) (by decide) (by decide) (by decide) (by decide)) (ee_ixB T6.hb (eb rfl) ee_int (P := Dt K (.int ((m * m + m * 28411 + (k + 1) * 1500007 + 90001) % 2147483587))) (v := .int ((m * m + m * 28411 + (k + 1) * 1500007 + 90001) % 2147483587)) rfl fun _ _ => .int _) ee_int) (ee_mulS (.inr (by decide)) (ee_mod (by decide) (ee_intOf g2 (ee_ixB T6.hb (eb rfl) ee_int (P := Dt K (.int ((m * m + m * 28411 + (k + 1) * 1500007 + 90001) % 2147483587))) (v := .int ((m * m + m * 28411 + (k + 1) * 1500007 + 90001) % 2147483587)) rfl fun _ _ => .int _)) ee_int) ee_int))) (ee_var 1 rfl (Dt.int (K := K) sz))) (Same.refl _) fun v S7 H7 g7 pv => ?_
        cases pv
        have T7 := T6.up g7.hh
        exact q _ H7 _ (bound_mod z0).1 (bound_mod z0).2 T7.ot T7.hb ⟨_, _, _, _, rfl, T7.i0, T7.g0, T7.m0, T7.m1, T7.k0⟩
theorem ok_L_take (F : FnT K "_law_take" sL_take f fd) (g1 : mg "len" = none) (g2 : mg "int" = none) : FnOk P w K mg base CX0 1 f fd ["_law_box", "_law_size"] (spB K Ftake) := by
  refine FnOk.box (ok_L_take0 F g1 g2) (fun vs H Q E h => ?_) fun vs H Q E h => ?_
  · obtain ⟨S, v, ws, ds, G, rfl, _, _, hd, ⟨sz, rfl, _⟩, _⟩ := h
    have := hd.1
    simp at this
    simp [this]
  · obtain ⟨S, v, ws, ds, G, rfl, s, ⟨b, c, ns, rfl, hbc, hb, hc, hl⟩, hd, ⟨sz, rfl, z0, z1, rfl⟩, q⟩ := h
    obtain ⟨u, rfl, pu⟩ := hd.one
    cases pu
    refine ⟨b, boxPhi b c, s _ _ hb, fun h p => ?_⟩
    obtain ⟨xs, hx, ox⟩ := of_box (P := P) (w := w) (H := H) p
    refine ⟨xs, ox, b, c, ns, sz, xs, rfl, hbc, upd_same, hx, by rw [upd_ne hbc.symm]; exact s _ _ hc, hl, z0, z1, fun n H' ys n0 n1 ot hy hys => ⟨ys, hy, fun h' o => box_of hys o, fun a o e ne => ot a o (by rw [upd_ne ne]; exact e) ne, ?_⟩⟩
    have sm : Same H (upd H' b (.ext (boxPhi b c))) := fun a o e => by
      by_cases ha : a = b
      · subst ha; rw [upd_same]; rw [s _ _ hb] at e; exact e
      · rw [upd_ne ha]; exact ot a o (by rw [upd_ne ha]; exact e) ha
    exact q (.int n) ⟨n, rfl, n0, n1⟩ _ S _ ⟨Same.refl S, s.trans sm, sm, fun _ _ _ _ => rfl⟩ (Dt.int n)
def Fone : List PyData → (PyData → Prop) → Prop := fun ds G => ∃ xs, ds = [.list xs] ∧ 0 < xs.length ∧ xs.length < 1073741824 ∧ G = fun d => d ∈ xs
theorem scL_one : FnScope ["_law_box", "_law_some"] ["_law_box", "_law_some"] (defScope sL_one) := ⟨rfl, rfl, rfl, by decide +kernel, rfl, by decide +kernel, by decide +kernel⟩
theorem ok_L_one (F : FnT K "_law_one" sL_one f fd) (D1 : KD P w K mg base "_law_take" 1 (spB K Ftake)) (g1 : mg "len" = none) : FnOk P w K mg base CX0 2 f fd ["_law_box", "_law_some"] (spB K Fone) := by
  refine fn_hs F scL_one (fun vs H Q E h => ?_) (fun cdv A outer sh H vs Q E hr h => ?_)
  · obtain ⟨S, v, ws, ds, G, rfl, _, _, hd, ⟨xs, rfl, _⟩, _⟩ := h
    have := hd.1
    simp at this
    simp [this]
  · obtain ⟨S, v, ws, ds, G, rfl, s, hb, hd, ⟨xs, rfl, z0, z1, rfl⟩, q⟩ := h
    obtain ⟨u, rfl, pu⟩ := hd.one
    refine hs_ret (ee_ixE (ee_var 1 rfl pu) ((ee_callBx D1 hr ⟨xs.length, rfl, by omega, by omega, rfl⟩ (ea_2 (ee_var 0 rfl hb) (ee_len g1 rfl (ee_var 1 rfl pu)))).exi fun d ⟨n, e, n0, n1⟩ => ⟨n, e, n0, n1⟩)) s ?_
    rintro v S' H' g ⟨d, hd, pd⟩
    exact q d hd v S' H' g pd
def Fexp : List PyData → (PyData → Prop) → Prop := fun ds G => ∃ (n : Nat) (m : Int), ds = [.int n, .int m] ∧ n ≤ 1000 ∧ 0 ≤ m ∧ m < 1000000 ∧ G = fun d => ∃ l : List Int, d = tI l ∧ l.length = n ∧ ∀ x ∈ l, 0 ≤ x ∧ x ≤ m
theorem scL_exp : FnScope ["_law_box", "_law_many", "_law_most", "_law_at"] ["_law_box", "_law_many", "_law_most"] (defScope sL_exp) := ⟨rfl, rfl, rfl, by decide +kernel, rfl, by decide +kernel, by decide +kernel⟩
theorem paired_ints {ds rs : List PyData} {G : Int → Prop} (h : Paired (fun _ d => ∃ i, d = .int i ∧ G i) ds rs) : ∃ l : List Int, rs = l.map .int ∧ l.length = ds.length ∧ ∀ x ∈ l, G x := by
  induction h with
  | nil => exact ⟨[], rfl, rfl, fun _ h => nomatch h⟩
  | cons g _ ih =>
    obtain ⟨i, rfl, gi⟩ := g
    obtain ⟨l, rfl, h2, h3⟩ := ih
    exact ⟨i :: l, rfl, by simp [h2], fun x hx => by
      rcases List.mem_cons.mp hx with rfl | hx
      · exact gi
      · exact h3 x hx⟩
theorem ok_L_exp (F : FnT K "_law_exp" sL_exp f fd) (D1 : KD P w K mg base "_law_take" 1 (spB K Ftake)) (g1 : mg "tuple" = none) (g2 : mg "range" = none) : FnOk P w K mg base CX0 2 f fd ["_law_box", "_law_many", "_law_most"] (spB K Fexp) := by
  refine fn_hs F scL_exp (fun vs H Q E h => ?_) (fun cdv A outer sh H vs Q E hr h => ?_)
  · obtain ⟨S, v, ws, ds, G, rfl, _, _, hd, ⟨n, m, rfl, _⟩, _⟩ := h
    have := hd.1
    simp at this
    simp [this]
  · obtain ⟨S, v, ws, ds, G, rfl, s, hb, hd, ⟨n, m, rfl, hn, m0, m1, rfl⟩, q⟩ := h
    obtain ⟨v1, v2, rfl, p1, p2⟩ := hd.two
    refine hs_ret ((ee_tupleE g1 (ee_lcN (i := 3) rfl scL_exp.nd (blkOk_by (N := ["_law_box", "_law_many", "_law_most", "_law_at"]) (sc := defScope sL_exp) (by decide +kernel)) (ei_range g2 (by omega) (ee_var 1 rfl p1)) (by rw [upto_len]; show _ ≤ 16777216; omega)
      (F := fun _ d => ∃ i, d = .int i ∧ 0 ≤ i ∧ i ≤ m) fun x hx v S2 s2 pv sh' H0 C cl fp => ?_)).exi (G := fun d => ∃ l : List Int, d = tI l ∧ l.length = n ∧ ∀ x ∈ l, 0 ≤ x ∧ x ≤ m) fun d ⟨rs, e, hp⟩ => ?_) s ?_
    · exact (ee_callBx D1 hr ⟨m + 1, rfl, by omega, by omega, rfl⟩ (ea_2 (ee_var 0 rfl (Mn.up s2 hb)) (ee_add (ee_var 2 rfl (p2.up s2)) ee_int))).exi fun d ⟨i, e, i0, i1⟩ => ⟨i, e, i0, by omega⟩
    · obtain ⟨l, rfl, h2, h3⟩ := paired_ints hp
      exact ⟨l, e, by rw [h2, upto_len], h3⟩
    · rintro v S' H' g ⟨d, hd, pd⟩
      exact q d hd v S' H' g pd
def Fkind : List PyData → PyData → Prop := fun ds r => ∃ d, ds = [d] ∧ r = .int (kindN d : Nat)
theorem scL_kind : FnScope ["_law_thing", "_law_marks"] ["_law_thing"] (defScope sL_kind) := ⟨rfl, rfl, rfl, by decide +kernel, rfl, by decide +kernel, by decide +kernel⟩
theorem ok_L_kind (F : FnT K "_law_kind" sL_kind f fd) (g1 : mg "isinstance" = none) (g2 : mg "bool" = none) (g3 : mg "int" = none) (g4 : mg "str" = none) (g5 : mg "list" = none) (g6 : mg "tuple" = none) : FnOk P w K mg base CX0 1 f fd ["_law_thing"] (spD K Fkind) := by
  refine fn_hs F scL_kind (fun vs H Q E h => ?_) (fun cdv A outer sh H vs Q E hr h => ?_)
  · obtain ⟨S, ds, d, _, hd, ⟨_, rfl, _⟩, _⟩ := h
    exact hd.1
  · obtain ⟨S, ds, r, s, hd, ⟨d, rfl, rfl⟩, q⟩ := h
    obtain ⟨v, rfl, p⟩ := hd.one
    refine hs_set (i := 1) (ee_lst (ds := [.bool (decide (kindN d = 0)), .bool (isD d "bool"), .bool (isD d "int"), .bool (isD d "str")]) (ea_cons (by rw [← dt_non p]; exact ee_isN (ee_var 0 rfl rfl)) (ea_cons (ee_isi (isD_ok d (T := "bool") (by simp)) g1 g2 boot_bool (ee_var 0 rfl p)) (ea_cons (ee_isi (isD_ok d (T := "int") (by simp)) g1 g3 boot_int (ee_var 0 rfl p)) (ea_cons (ee_isi (isD_ok d (T := "str") (by simp)) g1 g4 boot_str (ee_var 0 rfl p)) ea_nil))))) s scL_kind.nd fun m1 S1 H1 gr1 pm1 => ?_
    have p1 := p.up gr1.st
    refine hs_set (i := 1) (ee_catL (by show _ ≤ 16777216; exact Nat.le_of_ble_eq_true rfl) (ee_var 1 rfl pm1) (ee_lst (ds := [.bool (isD d "list"), .bool (isD d "tuple"), .bool true]) (ea_cons (ee_isi (isD_ok d (T := "list") (by simp)) g1 g5 boot_list (ee_var 0 rfl p1)) (ea_cons (ee_isi (isD_ok d (T := "tuple") (by simp)) g1 g6 boot_tuple (ee_var 0 rfl p1)) (ea_cons ee_bl ea_nil))))) gr1.sub scL_kind.nd fun m2 S2 H2 gr2 pm2 => ?_
    exact hs_ret (ee_indexT (bs := marksL d) (marks_at d) (marks_no d) (ee_var 1 rfl pm2) ee_bl) gr2.sub fun v S3 H3 gr3 pv => q v S3 H3 (gr1.trans (gr2.trans gr3)) pv
def Fsame (n : Nat) : List PyData → PyData → Prop := fun ds r => ∃ d, ds = [d, d] ∧ Bd n d ∧ r = .bool true
theorem scL_same : FnScope ["_law_found", "_law_due", "_law_a", "_law_b"] ["_law_found", "_law_due"] (defScope sL_same) := ⟨rfl, rfl, rfl, by decide +kernel, rfl, by decide +kernel, by decide +kernel⟩
theorem okL_same_all (xs : List PyData) : ((xs.zip xs).map fun _ => true).all (fun b => b) = true := by
  rw [List.all_eq_true]
  intro b hb
  obtain ⟨_, _, rfl⟩ := List.mem_map.mp hb
  rfl
theorem ok_L_same (F : FnT K "_law_same" sL_same f fd) (hm : mg "_law_same" = some (.ref f)) (hb : Binds K fd ["_law_found", "_law_due"] []) (D1 : KD P w K mg base "_law_kind" 1 (spD K Fkind)) (g1 : mg "len" = none) (g2 : mg "all" = none) (g3 : mg "zip" = none) : ∀ n : Nat, FnOk P w K mg base CX0 (n + 2) f fd ["_law_found", "_law_due"] (spD K (Fsame n)) := by
  have step : ∀ n : Nat, (∀ m, n = m + 1 → FnOk P w K mg base CX0 (m + 2) f fd ["_law_found", "_law_due"] (spD K (Fsame m))) → FnOk P w K mg base CX0 (n + 2) f fd ["_law_found", "_law_due"] (spD K (Fsame n)) := fun n ih => by
    refine fn_hs F scL_same (fun vs H Q E h => ?_) (fun cdv A outer sh H vs Q E hr h => ?_)
    · obtain ⟨S, ds, d, _, hd, ⟨_, rfl, _⟩, _⟩ := h
      exact hd.1
    · obtain ⟨S, ds, r, s, hd, ⟨d, rfl, hbd, rfl⟩, q⟩ := h
      obtain ⟨v1, v2, rfl, p1, p2⟩ := hd.two
      refine hs_ifN ((et_neI (ee_callD D1 (hr.mono (by omega)) ⟨d, rfl, rfl⟩ (ea_1 (ee_var 0 rfl p1))) (ee_callD D1 (hr.mono (by omega)) ⟨d, rfl, rfl⟩ (ea_1 (ee_var 1 rfl p2)))).is (by simp)) s fun S1 H1 g4 => ?_
      have p1 := p1.up g4.st
      have p2 := p2.up g4.st
      refine hs_if (et_inT (ns := [4, 5]) (ee_callD D1 (hr.mono (by omega)) ⟨d, rfl, rfl⟩ (ea_1 (ee_var 1 rfl p2))) (ee_tup (ds := [.int 4, .int 5]) (ea_2 ee_int ee_int))) g4.sub (fun hk S2 H2 g5 => ?_) (fun hk S2 H2 g5 => hs_nil ?_)
      · have p1 := p1.up g5.st
        have p2 := p2.up g5.st
        obtain ⟨m, rfl⟩ : ∃ m, n = m + 1 := by
          cases n with
          | zero => exfalso; cases d <;> first | (simp [kindN] at hk; done) | exact hbd
          | succ m => exact ⟨m, rfl⟩
        have D2 : KD P w K mg base "_law_same" (m + 2) (spD K (Fsame m)) := ⟨f, fd, _, ih m rfl, hm, F.kp, hb⟩
        cases d with
        | list xs =>
          have hz : xs.length ≤ sizeLine := by obtain ⟨l, ys, _, _, hx, z⟩ := p1.lst_inv; rw [← hx.1]; exact z
          refine hs_ret ((ee_and (ee_eqI (ee_len g1 rfl (ee_var 0 rfl p1)) (ee_len g1 rfl (ee_var 1 rfl p2))) fun _ => ee_one (ee_all (bs := (xs.zip xs).map fun _ => true) rfl g2
            (ee_lc2 (i := 2) (j := 3) (enc := .bool) (f := fun _ => true) rfl scL_same.nd (blkOk_by (N := ["_law_found", "_law_due", "_law_a", "_law_b"]) (sc := defScope sL_same) (by decide +kernel)) (by rw [← zipD_eq]; exact ei_zipL g3 (ee_var 0 rfl p1) (ee_var 1 rfl p2)) (by rw [zip_self, List.length_map]; exact hz) ?_))).isd ?_) g5.sub fun v S3 H3 g6 pv => q v S3 H3 (g4.trans (g5.trans g6)) pv
          · intro p hp v u S2 s2 pv pu sh' H0 C cl fp
            rw [zip_self] at hp
            obtain ⟨x, hx, rfl⟩ := List.mem_map.mp hp
            exact ee_callD D2 (hr.mono (by omega)) ⟨x, rfl, hbd x hx, rfl⟩ (ea_2 (ee_var 2 rfl pv) (ee_var 3 rfl pu))
          · rw [okL_same_all]; simp
        | tuple xs =>
          have hz : xs.length ≤ sizeLine := by obtain ⟨l, ys, _, _, hx, z⟩ := p1.tup_inv; rw [← hx.1]; exact z
          refine hs_ret ((ee_and (ee_eqI (ee_len g1 rfl (ee_var 0 rfl p1)) (ee_len g1 rfl (ee_var 1 rfl p2))) fun _ => ee_one (ee_all (bs := (xs.zip xs).map fun _ => true) rfl g2
            (ee_lc2 (i := 2) (j := 3) (enc := .bool) (f := fun _ => true) rfl scL_same.nd (blkOk_by (N := ["_law_found", "_law_due", "_law_a", "_law_b"]) (sc := defScope sL_same) (by decide +kernel)) (by rw [← zipD_eq]; exact ei_zipT g3 (ee_var 0 rfl p1) (ee_var 1 rfl p2)) (by rw [zip_self, List.length_map]; exact hz) ?_))).isd ?_) g5.sub fun v S3 H3 g6 pv => q v S3 H3 (g4.trans (g5.trans g6)) pv
          · intro p hp v u S2 s2 pv pu sh' H0 C cl fp
            rw [zip_self] at hp
            obtain ⟨x, hx, rfl⟩ := List.mem_map.mp hp
            exact ee_callD D2 (hr.mono (by omega)) ⟨x, rfl, hbd x hx, rfl⟩ (ea_2 (ee_var 2 rfl pv) (ee_var 3 rfl pu))
          · rw [okL_same_all]; simp
        | _ => exfalso; simp [kindN] at hk; done
      · have p1 := p1.up g5.st
        have p2 := p2.up g5.st
        have fin : ∀ b : Bool, b = true → ∀ v S3 H3, Gr S2 H2 S3 H3 → Dt K (.bool b) v S3 → Q v H3 := fun b hb v S3 H3 g6 pv => q v S3 H3 (g4.trans (g5.trans g6)) (hb ▸ pv)
        cases d with
        | none => exact hs_ret (ee_eq hr (by decide +kernel) (by decide +kernel) (ee_var 0 rfl p1) (ee_var 1 rfl p2)) g5.sub (fin _ rfl)
        | bool b => exact hs_ret (ee_eq hr (by cases b <;> decide +kernel) (by cases b <;> decide +kernel) (ee_var 0 rfl p1) (ee_var 1 rfl p2)) g5.sub (fin _ (by cases b <;> rfl))
        | int i => exact hs_ret (ee_eqI (ee_var 0 rfl p1) (ee_var 1 rfl p2)) g5.sub (fin _ (by simp))
        | str x => exact hs_ret (ee_eqS (ee_var 0 rfl p1) (ee_var 1 rfl p2)) g5.sub (fin _ (by simp))
        | list xs => exfalso; simp [kindN] at hk; done
        | tuple xs => exfalso; simp [kindN] at hk; done
        | dict xs => exfalso; cases n <;> exact hbd
  intro n
  induction n with
  | zero => exact step 0 fun m h => nomatch h
  | succ n ih => exact step (n + 1) fun m h => by cases h; exact ih
end
end K23
namespace K23
open PySem PySem.Spec PyProof.Rows L2 Z Y
def alpha : Str := "abcdefghijklmnopqrstuvwxyz"
theorem alpha_at : ∀ n : Nat, n < 26 → atI alpha.cps.toList (n : Int) = some (97 + n) := by
  have h : ((List.range 26).all fun n => decide (atI alpha.cps.toList ((n : Nat) : Int) = some (97 + n))) = true := by decide +kernel
  intro n hn
  exact of_decide_eq_true (List.all_eq_true.mp h n (List.mem_range.mpr hn))
theorem alpha_len : alpha.length ≤ sizeLine := by decide +kernel
/-- the columns that a law draws -/
def colCode (a s : Int) (i : Nat) : Nat := 97 + ((a + s * (i : Int)) % 26).toNat
def cols (a s : Int) (n : Nat) : Str := ⟨((List.range n).map (colCode a s)).toArray⟩
def stepOk (s : Int) : Prop := s ∈ ([1, 25, 3, 7, 11] : List Int)
theorem col_range (a s : Int) (i : Nat) : 97 ≤ colCode a s i ∧ colCode a s i ≤ 122 := by
  unfold colCode
  have h1 := Int.emod_nonneg (a + s * (i : Int)) (show (26 : Int) ≠ 0 by decide)
  have h2 := Int.emod_lt_of_pos (a + s * (i : Int)) (show (0 : Int) < 26 by decide)
  omega
theorem col_inj {a s : Int} (hs : stepOk s) {i j : Nat} (hi : i < 3) (hj : j < 3) (h : colCode a s i = colCode a s j) : i = j := by
  unfold colCode at h
  have hs : s = 1 ∨ s = 25 ∨ s = 3 ∨ s = 7 ∨ s = 11 := by simpa [stepOk] using hs
  have hi : i = 0 ∨ i = 1 ∨ i = 2 := by omega
  have hj : j = 0 ∨ j = 1 ∨ j = 2 := by omega
  rcases hs with rfl | rfl | rfl | rfl | rfl <;> rcases hi with rfl | rfl | rfl <;> rcases hj with rfl | rfl | rfl <;> omega
theorem cols_nodup {a s : Int} (hs : stepOk s) {n : Nat} (hn : n ≤ 3) : ((List.range n).map (colCode a s)).Nodup := by
  rw [List.nodup_iff_pairwise_ne, List.pairwise_map]
  refine List.Pairwise.imp_of_mem (fun {x y} hx hy hxy h => hxy ?_) List.nodup_range
  rw [List.mem_range] at hx hy
  exact col_inj hs (by omega) (by omega) h
theorem cols_size (a s : Int) (n : Nat) : (cols a s n).cps.size = n := by unfold cols; simp
theorem joinL_nil : ∀ ps : List (List Nat), TL.joinL [] ps = ps.flatten
  | [] => rfl
  | [p] => by simp [TL.joinL]
  | p :: q :: r => by
    show p ++ ([] ++ TL.joinL [] (q :: r)) = _
    rw [joinL_nil (q :: r), List.nil_append]
    simp
theorem join_signs (cs : List Nat) : Txt.join Str.empty (cs.map fun c => (⟨#[c]⟩ : Str)) = ⟨cs.toArray⟩ := by
  refine TL.ext_tl ?_
  rw [TL.join_eq, TL.tl_join]
  show TL.joinL [] _ = cs
  rw [joinL_nil, List.map_map]
  induction cs with
  | nil => rfl
  | cons c cs ih => rw [List.map_cons, List.flatten_cons, ih]; rfl
section
variable {P : Program} {w : World} {K : PySem.W.Frag} {mg : Str → Option Value} {base : Heap} {f : Addr} {fd : FuncData}
def Fletters : List PyData → (PyData → Prop) → Prop := fun ds G => ∃ n : Nat, ds = [.int n] ∧ n ≤ 1000 ∧ G = fun d => ∃ a st : Int, d = .str (cols a st n) ∧ stepOk st
theorem scL_letters : FnScope ["_law_box", "_law_many", "_law_letters_here", "_law_first", "_law_step", "_law_at"] ["_law_box", "_law_many"] (defScope sL_letters) := ⟨rfl, rfl, rfl, by decide +kernel, rfl, by decide +kernel, by decide +kernel⟩
theorem ok_L_letters (F : FnT K "_law_letters" sL_letters f fd) (D1 : KD P w K mg base "_law_take" 1 (spB K Ftake)) (D2 : KD P w K mg base "_law_one" 2 (spB K Fone)) (g1 : mg "range" = none) (g2 : mg "int" = none) : FnOk P w K mg base CX0 3 f fd ["_law_box", "_law_many"] (spB K Fletters) := by
  refine fn_hs F scL_letters (fun vs H Q E h => ?_) (fun cdv A outer sh H vs Q E hr h => ?_)
  · obtain ⟨S, v, ws, ds, G, rfl, _, _, hd, ⟨n, rfl, _⟩, _⟩ := h
    have := hd.1
    simp at this
    simp [this]
  · obtain ⟨S, v, ws, ds, G, rfl, s, hb, hd, ⟨n, rfl, hn, rfl⟩, q⟩ := h
    obtain ⟨v1, rfl, p1⟩ := hd.one
    refine hs_set (i := 2) ee_str s scL_letters.nd fun w1 S1 H1 gr1 q1 => ?_
    have hb1 : BX v S1 := Mn.up gr1.st hb
    refine hs_unpackE (i := 3) (j := 4) (F := fun d => ∃ a : Int, d = .int a ∧ 0 ≤ a ∧ a < 26) (G := fun d => ∃ a : Int, d = .int a ∧ stepOk a) rfl scL_letters.nd
      (ee_pairE ((ee_callBx D1 (hr.mono (by decide)) ⟨26, rfl, by decide, by decide, rfl⟩ (ea_2 (ee_var 0 rfl hb1) ee_int)).exi fun d h => h)
        ((ee_callBx D2 hr ⟨[.int 1, .int 25, .int 3, .int 7, .int 11], rfl, by decide, by decide, rfl⟩ (ea_2 (ee_var 0 rfl hb1) (ee_lst (ds := [.int 1, .int 25, .int 3, .int 7, .int 11]) (ea_cons ee_int (ea_cons ee_int (ea_cons ee_int (ea_cons ee_int (ea_cons ee_int ea_nil)))))))).exi fun d h => by
          rcases List.mem_cons.mp h with rfl | h
          · exact ⟨1, rfl, by simp [stepOk]⟩
          rcases List.mem_cons.mp h with rfl | h
          · exact ⟨25, rfl, by simp [stepOk]⟩
          rcases List.mem_cons.mp h with rfl | h
          · exact ⟨3, rfl, by simp [stepOk]⟩
          rcases List.mem_cons.mp h with rfl | h
          · exact ⟨7, rfl, by simp [stepOk]⟩
          rcases List.mem_cons.mp h with rfl | h
          · exact ⟨11, rfl, by simp [stepOk]⟩
          cases h)) gr1.sub ?_
    rintro d1 d2 u1 u2 S2 H2 ⟨a, rfl, a0, a1⟩ ⟨st, rfl, hst⟩ gr2 k1 k2
    have p2 := (p1.up gr1.st).up gr2.st
    have q2 : Dt K (.str alpha) w1 S2 := q1.up gr2.st
    let el : PyData → Str := fun d => match d with
      | .int i => ⟨#[colCode a st i.toNat]⟩
      | _ => Str.empty
    have hst' : st = 1 ∨ st = 25 ∨ st = 3 ∨ st = 7 ∨ st = 11 := by simpa [stepOk] using hst
    have e0 : (upto n).map el = ((List.range n).map (colCode a st)).map fun c => (⟨#[c]⟩ : Str) := by
      unfold upto
      rw [List.map_map, List.map_map]
      rfl
    have elen : ∀ z ∈ (upto n).map el, z.length = 1 := fun z hz => by
      rw [e0] at hz
      obtain ⟨c, _, rfl⟩ := List.mem_map.mp hz
      rfl
    have esum : (((upto n).map el).map (·.length)).sum = n := by
      have e1 : ((upto n).map el).map (·.length) = (upto n).map fun _ => 1 := by
        rw [List.map_map]
        refine List.map_congr_left fun d hd => elen (el d) (List.mem_map.mpr ⟨d, hd, rfl⟩)
      rw [e1]
      have : ∀ l : List PyData, (l.map fun _ => 1).sum = l.length := fun l => by
        induction l with
        | nil => rfl
        | cons a l ih => simp [ih]; omega
      rw [this, upto_len]
    refine hs_ret (ee_join (z := Str.empty) (ys := (upto n).map el) (by rw [esum, List.length_map, upto_len]; show n + n * 0 ≤ _; omega) ee_str (ee_lc (i := 5) (enc := .str) (f := el) rfl scL_letters.nd (blkOk_by (N := ["_law_box", "_law_many", "_law_letters_here", "_law_first", "_law_step", "_law_at"]) (sc := defScope sL_letters) (by decide +kernel))
      (ei_range g1 (by omega) (ee_var 1 rfl p2)) (by rw [upto_len]; show _ ≤ 16777216; omega) ?_)) gr2.sub ?_
    · intro d hd v S3 s3 pv sh' H0 C cl fp
      obtain ⟨i, hi, rfl⟩ := List.mem_map.mp hd
      rw [List.mem_range] at hi
      have b := @Int.emod_nonneg (a + st * (i : Nat)) 26 (by decide)
      have b2 := Int.emod_lt_of_pos (a + st * (i : Nat)) (show (0 : Int) < 26 by decide)
      have hat := alpha_at ((a + st * (i : Nat)) % 26).toNat (by omega)
      rw [Int.toNat_of_nonneg b] at hat
      exact ee_ixS alpha_len hat (ee_var 2 rfl (q2.up s3)) (ee_mod (by decide) (ee_intOf g2 (ee_add (ee_var 3 rfl (k1.up s3)) (ee_mulS (.inl (by rcases hst' with rfl | rfl | rfl | rfl | rfl <;> decide)) (ee_var 4 rfl (k2.up s3)) (ee_var 5 rfl pv)))) ee_int)
    · intro u S3 H3 gr3 pu
      rw [e0, join_signs] at pu
      exact q _ ⟨a, st, rfl, hst⟩ u S3 H3 (gr1.trans (gr2.trans gr3)) pu
def Fsome : List PyData → (PyData → Prop) → Prop := fun ds G => ∃ (n : Nat) (m z : Int), ds = [.int n, .int m, .int z] ∧ n ≤ 1000 ∧ 0 ≤ m ∧ m < 1000000 ∧ 0 ≤ z ∧ z < 1000 ∧
  G = fun d => ∃ ps : List (List Int × List Int), d = .list (ps.map ruleD) ∧ (ps.length : Int) ≤ z ∧ ∀ p ∈ ps, (p.1.length = n ∧ ∀ x ∈ p.1, 0 ≤ x ∧ x ≤ m) ∧ (p.2.length = n ∧ ∀ x ∈ p.2, 0 ≤ x ∧ x ≤ m)
theorem scL_some : FnScope ["_law_box", "_law_many", "_law_most", "_law_size", "_law_at"] ["_law_box", "_law_many", "_law_most", "_law_size"] (defScope sL_some_facts) := ⟨rfl, rfl, rfl, by decide +kernel, rfl, by decide +kernel, by decide +kernel⟩
theorem paired_any {α : Type} {enc : α → PyData} {ds rs : List PyData} {G : α → Prop} (h : Paired (fun _ d => ∃ i, d = enc i ∧ G i) ds rs) : ∃ l : List α, rs = l.map enc ∧ l.length = ds.length ∧ ∀ x ∈ l, G x := by
  induction h with
  | nil => exact ⟨[], rfl, rfl, fun _ h => nomatch h⟩
  | cons g _ ih =>
    obtain ⟨i, rfl, gi⟩ := g
    obtain ⟨l, rfl, h2, h3⟩ := ih
    exact ⟨i :: l, rfl, by simp [h2], fun x hx => by
      rcases List.mem_cons.mp hx with rfl | hx
      · exact gi
      · exact h3 x hx⟩
theorem ok_L_some_facts (F : FnT K "_law_some_facts" sL_some_facts f fd) (D1 : KD P w K mg base "_law_take" 1 (spB K Ftake)) (D2 : KD P w K mg base "_law_exp" 2 (spB K Fexp)) (g1 : mg "range" = none) : FnOk P w K mg base CX0 3 f fd ["_law_box", "_law_many", "_law_most", "_law_size"] (spB K Fsome) := by
  refine fn_hs F scL_some (fun vs H Q E h => ?_) (fun cdv A outer sh H vs Q E hr h => ?_)
  · obtain ⟨S, v, ws, ds, G, rfl, _, _, hd, ⟨n, m, z, rfl, _⟩, _⟩ := h
    have := hd.1
    simp at this
    simp [this]
  · obtain ⟨S, v, ws, ds, G, rfl, s, hb, hd, ⟨n, m, z, rfl, hn, m0, m1, z0, z1, rfl⟩, q⟩ := h
    obtain ⟨v1, v2, v3, rfl, p1, p2, p3⟩ := hd.three
    refine hs_ret ((ee_lcW (i := 4) (F := fun _ d => ∃ p : List Int × List Int, d = ruleD p ∧ (p.1.length = n ∧ ∀ x ∈ p.1, 0 ≤ x ∧ x ≤ m) ∧ (p.2.length = n ∧ ∀ x ∈ p.2, 0 ≤ x ∧ x ≤ m)) rfl scL_some.nd (blkOk_by (N := ["_law_box", "_law_many", "_law_most", "_law_size", "_law_at"]) (sc := defScope sL_some_facts) (by decide +kernel))
      (eiw_range (F := fun k => (k : Int) ≤ z) g1 (fun k hk => by omega) ((ee_callBx D1 (hr.mono (by decide)) ⟨z + 1, rfl, by omega, by omega, rfl⟩ (ea_2 (ee_var 0 rfl hb) (ee_add (ee_var 3 rfl p3) ee_int))).exi fun d ⟨i, e, i0, i1⟩ => ⟨i.toNat, by rw [e]; congr 1; omega, by omega⟩)) (fun ds ⟨k, hk, e⟩ => by rw [e, upto_len]; show _ ≤ 16777216; omega) ?_).exi
      (G := fun d => ∃ ps : List (List Int × List Int), d = .list (ps.map ruleD) ∧ (ps.length : Int) ≤ z ∧ ∀ p ∈ ps, (p.1.length = n ∧ ∀ x ∈ p.1, 0 ≤ x ∧ x ≤ m) ∧ (p.2.length = n ∧ ∀ x ∈ p.2, 0 ≤ x ∧ x ≤ m)) fun d ⟨rs, e, ds, ⟨k, hk, e2⟩, hp⟩ => ?_) s ?_
    · intro ds hds d hd v S2 s2 pv sh' H0 C cl fp
      have hb2 : BX _ S2 := Mn.up s2 hb
      refine (ee_pairE (ee_callBx D2 hr ⟨n, m, rfl, hn, m0, m1, rfl⟩ (ea_cons (ee_var 0 rfl hb2) (ea_2 (ee_var 1 rfl (p1.up s2)) (ee_var 2 rfl (p2.up s2))))) (ee_callBx D2 hr ⟨n, m, rfl, hn, m0, m1, rfl⟩ (ea_cons (ee_var 0 rfl hb2) (ea_2 (ee_var 1 rfl (p1.up s2)) (ee_var 2 rfl (p2.up s2)))))).exi ?_
      rintro d ⟨d1, d2, rfl, ⟨l1, rfl, h1⟩, ⟨l2, rfl, h2⟩⟩
      exact ⟨(l1, l2), rfl, h1, h2⟩
    · obtain ⟨l, rfl, h2, h3⟩ := paired_any (enc := ruleD) hp
      exact ⟨l, e, by rw [h2, e2, upto_len]; exact hk, h3⟩
    · rintro v S' H' g ⟨d, hd, pd⟩
      exact q d hd v S' H' g pd
end
abbrev FnM (K : PySem.W.Frag) (x q : Str) (st : Stmt) (f : Addr) (fd : FuncData) : Prop := FunD K x q (defArgs st) (defBody st) (defScope st) [] [] f fd
/-! ## schemas -/
def ColOk (z : Str) : Prop := z.cps.all (· < 128) = true ∧ z.cps.toList.Nodup ∧ 1 ≤ z.cps.size ∧ z.cps.size ≤ 3 ∧ ∀ c ∈ z.cps.toList, 97 ≤ c ∧ c ≤ 122
def RuleOk (n : Nat) (p : List Int × List Int) : Prop := (p.1.length = n ∧ ∀ x ∈ p.1, 0 ≤ x ∧ x ≤ 6) ∧ (p.2.length = n ∧ ∀ x ∈ p.2, 0 ≤ x ∧ x ≤ 6)
abbrev Rules := List (List Int × List Int)
def SchOk (z : Str) (ps : Rules) : Prop := ColOk z ∧ ps.length ≤ 4 ∧ ∀ p ∈ ps, RuleOk z.cps.size p
def schF (z : Str) (l : Addr) : List (Str × V) := [("columns", .str z), ("width", .int z.cps.size), ("_facts", .ref l)]
def SchL (K : PySem.W.Frag) (C : Addr) (z : Str) (ps : Rules) (l : Addr) : V → Hp → Prop := fun v S => ∃ a dx xs, v = .ref a ∧ S a = some (.ins C dx (schF z l)) ∧ S l = some (.lst xs) ∧ Dts K (ps.map ruleD) xs S ∧ xs.length ≤ sizeLine
def SchP (K : PySem.W.Frag) (C : Addr) (z : Str) (ps : Rules) : V → Hp → Prop := fun v S => ∃ l, SchL K C z ps l v S
instance {K : PySem.W.Frag} {C : Addr} {z : Str} {ps : Rules} {l : Addr} : Mn (SchL K C z ps l) := ⟨fun s ⟨a, dx, xs, e, h1, h2, h3, h4⟩ => ⟨a, dx, xs, e, s _ _ h1, s _ _ h2, h3.up s, h4⟩⟩
instance {K : PySem.W.Frag} {C : Addr} {z : Str} {ps : Rules} : Mn (SchP K C z ps) := ⟨fun s ⟨l, h⟩ => ⟨l, Mn.up s h⟩⟩
/-- the width is told -/
def WidP (C : Addr) (w : Int) (P0 : V → Hp → Prop) : Prop := ∀ v S, P0 v S → ∃ a dx fs, v = .ref a ∧ S a = some (.ins C dx fs) ∧ fs.lookup ("width" : Str) = some (.int w)
theorem SchP.ins {K : PySem.W.Frag} {C : Addr} {z : Str} {ps : Rules} : ∀ v S, SchP K C z ps v S → ∃ a dx fs, v = .ref a ∧ S a = some (.ins C dx fs) := fun v S ⟨l, a, dx, xs, e, h, _⟩ => ⟨a, dx, _, e, h⟩
/-- a method that tells data -/
def spO (K : PySem.W.Frag) (F : (V → Hp → Prop) → List PyData → PyData → Prop) : Sp := fun vs H Q _ => ∃ S P0 v ws ds d, vs = v :: ws ∧ Same S H ∧ Mn P0 ∧ P0 v S ∧ Dts K ds ws S ∧ F P0 ds d ∧ ∀ u S' H', Gr S H S' H' → Dt K d u S' → Q u H'
theorem spO_E {K : PySem.W.Frag} {S : Hp} {ds : List PyData} {d : PyData} {P0 : V → Hp → Prop} {F : (V → Hp → Prop) → List PyData → PyData → Prop} [m : Mn P0] (hF : F P0 ds d) : SpE (spO K F) S (P0 :: Ds K ds) (Dt K d) := fun vs S1 H1 _ s al Q q => by
  cases al with
  | cons p r => exact ⟨S1, P0, _, _, ds, d, rfl, s, m, p, al_dts r, hF, q⟩
section
variable {P : Program} {w : World} {K : PySem.W.Frag} {mg : Str → Option Value} {base : Heap} {f : Addr} {fd : FuncData}
def FchkC : List PyData → PyData → Prop := fun ds r => ∃ z, ds = [.str z] ∧ r = .none ∧ ColOk z
theorem sc_check_columns : FnScope ["columns", "letter"] ["columns"] (defScope scheck_columns) := ⟨rfl, rfl, rfl, by decide +kernel, rfl, by decide +kernel, by decide +kernel⟩
theorem abc_mem {c : Nat} (h : 97 ≤ c ∧ c ≤ 122) : c ∈ ("abcdefghijklmnopqrstuvwxyz" : Str).cps.toList := by
  have key : ∀ k, k < 26 → 97 + k ∈ ("abcdefghijklmnopqrstuvwxyz" : Str).cps.toList := by decide +kernel
  have := key (c - 97) (by omega)
  rwa [show 97 + (c - 97) = c by omega] at this
theorem ok_check_columns (F : FnT K "check_columns" scheck_columns f fd) (g1 : mg "isinstance" = none) (g2 : mg "str" = none) (g3 : mg "len" = none) (g4 : mg "set" = none) : FnOk P w K mg base CX0 1 f fd ["columns"] (spD K FchkC) := by
  refine fn_hs F sc_check_columns (fun vs H Q E h => ?_) (fun cdv A outer sh H vs Q E hr h => ?_)
  · obtain ⟨S, ds, d, _, hd, ⟨_, rfl, _⟩, _⟩ := h
    exact hd.1
  · obtain ⟨S, ds, r, s, hd, ⟨z, rfl, rfl, ha, hnd, h1, h3, hc⟩, q⟩ := h
    obtain ⟨v1, rfl, p1⟩ := hd.one
    have hz : z.length ≤ sizeLine := Nat.le_trans h3 (by show 3 ≤ 16777216; decide)
    refine hs_ifN ((et_w (ew_or (et_not (et_val (ee_isi (isD_ok (.str z) (T := "str") (by simp)) g1 g2 boot_str (ee_var 0 rfl p1)))) fun _ => ew_or (et_not (et_chainLE ee_int (ee_len g3 rfl (ee_var 0 rfl p1) (fun x hx => by cases hx; exact hz)) ee_int)) fun _ =>
      ew_or1 (et_neI (ee_lenSetS g3 g4 (ee_var 0 rfl p1) ha hnd (by omega) rfl) (ee_len g3 rfl (ee_var 0 rfl p1) (fun x hx => by cases hx; exact hz))))).is ?_) s fun S1 H1 g => ?_
    · have e1 : ((1 : Int) ≤ (z.length : Int)) := by have : z.length = z.cps.size := rfl; omega
      have e2 : ((z.length : Int) ≤ 3) := by have : z.length = z.cps.size := rfl; omega
      have e3 : ((z.cps.size : Nat) : Int) = (z.length : Int) := rfl
      simp [isDs, e1, e2, e3]
    · refine hs_for (fun i σ S2 => ∃ a, σ = [some (.str z), a]) PassesOwn.never rfl (ei_str (ee_var 0 rfl (p1.up g.st))) g.sub (fun S2 H2 g3 => ⟨none, by cases p1; rfl⟩) ?_ ?_
      · rintro i Pi σ1 S2 H2 x S3 H3 hP g3 ⟨a, rfl⟩ g4 px
        have hi : i < z.cps.toList.length := by
          have := (List.getElem?_eq_some_iff.mp hP).1
          rw [ds_len] at this; unfold strD at this; simpa using this
        have hzi : (strD z)[i]? = some (.str ⟨#[z.cps.toList[i]]⟩) := by unfold strD; rw [List.getElem?_map, List.getElem?_eq_getElem hi]; rfl
        rw [ds_get hzi] at hP
        obtain rfl := Option.some.inj hP
        refine (eg_name (i := 1) sc_check_columns.nd rfl (Or.inl rfl)) H3 g4.sub _ ?_
        have hm := abc_mem (hc _ (List.getElem_mem hi))
        refine hs_ifN ((et_notInC (ee_var 1 rfl px) ee_str).is ?_) g4.sub fun S4 H4 g5 => hs_nil ?_
        · rw [decide_eq_true hm]; rfl
        · exact ⟨S4, g5, _, rfl⟩
      · rintro σ1 S2 H2 g3 ⟨a, rfl⟩
        exact hs_nil (q _ _ _ (g.trans g3) .non)
def Fsch_isExp (C : Addr) : (V → Hp → Prop) → List PyData → PyData → Prop := fun P0 ds d => ∃ x w, WidP C w P0 ∧ ds = [x] ∧ d = .bool (isExp x w)
theorem sc_Sis_exponent : FnScope ["self", "value"] ["self", "value"] (defScope sSchema__is_exponent) := ⟨rfl, rfl, rfl, by decide +kernel, rfl, by decide +kernel, by decide +kernel⟩
theorem ok_Sis_exponent {C : Addr} (F : FnM K "is_exponent" "Schema.is_exponent" sSchema__is_exponent f fd) (D1 : KD P w K mg base "is_exponent_schemas" 2 (spD K FisExp)) (c : Cls K C) (n1 : NoAttr K C "width") : FnOk P w K mg base CX0 3 f fd ["self", "value"] (spO K (Fsch_isExp C)) := by
  refine fn_hs F sc_Sis_exponent (fun vs H Q E h => ?_) (fun cdv A outer sh H vs Q E hr h => ?_)
  · obtain ⟨S, P0, v, ws, ds, d, rfl, _, _, _, hd, ⟨_, _, _, rfl, _⟩, _⟩ := h
    have := hd.1
    simp at this
    simp [this]
  · obtain ⟨S, P0, v, ws, ds, d, rfl, s, m, pv, hd, ⟨x, w', hw, rfl, rfl⟩, q⟩ := h
    obtain ⟨u, rfl, pu⟩ := hd.one
    haveI := m
    exact hs_ret (ee_callD D1 hr ⟨x, w', rfl, rfl⟩ (ea_2 (ee_var 1 rfl pu) (ee_fld (P := Dt K (.int w')) (ee_var 0 rfl pv) (fun v S1 h => by
      obtain ⟨a, dx, fs, e, h1, h2⟩ := hw v S1 h
      exact ⟨a, dx, fs, .int w', e, h1, h2, .int w'⟩) c n1))) s q
theorem SchP.wfld {K : PySem.W.Frag} {C : Addr} {z : Str} {ps : Rules} : ∀ v S1, SchP K C z ps v S1 → ∃ a dx fs u, v = .ref a ∧ S1 a = some (.ins C dx fs) ∧ fs.lookup ("width" : Str) = some u ∧ Dt K (.int z.cps.size) u S1 := fun v S ⟨l, a, dx, xs, e, h, _⟩ => ⟨a, dx, _, _, e, h, rfl, .int _⟩
theorem SchP.cfld {K : PySem.W.Frag} {C : Addr} {z : Str} {ps : Rules} : ∀ v S1, SchP K C z ps v S1 → ∃ a dx fs u, v = .ref a ∧ S1 a = some (.ins C dx fs) ∧ fs.lookup ("columns" : Str) = some u ∧ Dt K (.str z) u S1 := fun v S ⟨l, a, dx, xs, e, h, _⟩ => ⟨a, dx, _, _, e, h, rfl, .str _⟩
theorem SchP.ffld {K : PySem.W.Frag} {C : Addr} {z : Str} {ps : Rules} : ∀ v S1, SchP K C z ps v S1 → ∃ a dx fs u, v = .ref a ∧ S1 a = some (.ins C dx fs) ∧ fs.lookup ("_facts" : Str) = some u ∧ Dt K (.list (ps.map ruleD)) u S1 := fun v S ⟨l, a, dx, xs, e, h, h2, h3, h4⟩ => ⟨a, dx, _, _, e, h, rfl, Dt.lst_mk h2 h3 h4⟩
theorem can_ints : ∀ l : List Int, PyData.canLayAll0 (l.map .int) = true
  | [] => by simp [PyData.canLayAll0]
  | a :: l => by simp [PyData.canLayAll0, PyData.canLay0, can_ints l]
theorem dep_ints : ∀ l : List Int, PyData.depthAll (l.map .int) ≤ 1
  | [] => by simp [PyData.depthAll]
  | a :: l => by have := dep_ints l; simp [PyData.depthAll, PyData.depth]; omega
theorem can_rule (p : List Int × List Int) : PyData.canLay0 (ruleD p) = true := by
  show PyData.canLay0 (.tuple [.tuple (p.1.map .int), .tuple (p.2.map .int)]) = true
  simp [PyData.canLay0, PyData.canLayAll0, can_ints]
theorem dep_rule (p : List Int × List Int) : PyData.depth (ruleD p) ≤ 3 := by
  show PyData.depth (.tuple [.tuple (p.1.map .int), .tuple (p.2.map .int)]) ≤ 3
  have := dep_ints p.1
  have := dep_ints p.2
  simp [PyData.depth, PyData.depthAll]; omega
theorem can_rules : ∀ ps : Rules, PyData.canLayAll0 (ps.map ruleD) = true
  | [] => by simp [PyData.canLayAll0]
  | p :: ps => by simp [PyData.canLayAll0, can_rule, can_rules ps]
theorem dep_rules : ∀ ps : Rules, PyData.depthAll (ps.map ruleD) ≤ 4
  | [] => by simp [PyData.depthAll]
  | p :: ps => by have := dep_rules ps; have := dep_rule p; simp [PyData.depthAll]; omega
theorem shaped_rules (ps : Rules) : SeqAt.shaped (.list (ps.map ruleD)) = true := by
  unfold SeqAt.shaped
  rw [Bool.and_eq_true, decide_eq_true_eq]
  have := dep_rules ps
  refine ⟨by simp [PyData.canLay0, can_rules], by simp [PyData.depth]; omega⟩
def eqvR (p1 p2 : Rules) : Bool := PyData.eqv (.list (p1.map ruleD)) (.list (p2.map ruleD))
theorem eqvR_refl (ps : Rules) : eqvR ps ps = true := SeqAt.eqv_refl _ (by simp [PyData.canLay0, can_rules])
theorem eqvR_len {p1 p2 : Rules} (h : p1.length ≠ p2.length) : eqvR p1 p2 = false := by
  unfold eqvR
  rw [PyData.eqv]
  exact SeqAt.eqvAll_other_length (by rw [List.length_map, List.length_map]; exact h)
def EqR (K : PySem.W.Frag) (C : Addr) (S : Hp) (v w : V) (b : Bool) : Prop := ∃ z1 ps1, SchP K C z1 ps1 v S ∧ ((∃ z2 ps2, SchP K C z2 ps2 w S ∧ b = (decide (z1 = z2) && eqvR ps1 ps2)) ∨ (∃ y, w = .str y ∧ b = false))
def spEqS (K : PySem.W.Frag) (C : Addr) : Sp := fun vs H Q _ => ∃ S v w b, vs = [v, w] ∧ Same S H ∧ EqR K C S v w b ∧ ∀ S' H', Gr S H S' H' → Q (.bl b) H'
structure IsiC (K : PySem.W.Frag) (C : Addr) : Prop where
  cls : PySem.W.findIn K (.ref C) "__class__" = some (some (.builtin "object.__class__"))
  str : PySem.W.kitOne K (.type "str") (.ref C) = some false
  sp : PySem.W.specialIn K (.builtin "object.__class__") "__get__" = some (some (.builtin "getset_descriptor.__get__"))
  tk : PySem.W.takesIn K (.builtin "object.__class__") = some true
  ob : PySem.W.mroIn K C (.type "object") = some true
theorem ee_isiO {X : Cx} {σ : L2.St} {S : Hp} {a : Expr} {p p2 pos : Pos} {cn : Str} {C : Addr} {Pa : V → Hp → Prop} {k : Bool} [Mn Pa] (hm : X.mg "isinstance" = none) (hmC : X.mg cn = some (.ref C)) (ha : EE X σ S a Pa) (ht : ∀ v S1 H1, Same S1 H1 → Pa v S1 → ∃ t, TyX X.K H1 v t ∧ PySem.W.kitOne X.K t (.ref C) = some k)
    (hg : Gl X "isinstance" := by rfl) (hgT : Gl X cn := by rfl) (hn : cn ≠ "__name__" := by decide) (hdb : (cn == ("__debug__" : Str)) = false := by decide)
    (hs : starEach [a, .Name cn p2] X.env = (false, eval a X.env) :: starEach [.Name cn p2] X.env := by rfl) : EE X σ S (.Call (.Name "isinstance" p) [a, .Name cn p2] [] pos) (Dt X.K (.bool k)) := by
  haveI : Mn (fun (w : V) (_ : Hp) => w = .ref C) := ⟨fun _ h => h⟩
  refine ee_callB call_isi hm boot_isinstance (ea_2 ha (ee_glob (P := fun w _ => w = .ref C) (v := .ref C) (u := .ref C) hmC rfl rfl hgT hdb) hs rfl) (fun vs S1 H1 _ s al Q q => ?_) hg (he := hs) (hpl := by rfl)
  obtain ⟨v, w, rfl, pv, rfl⟩ := al.two
  obtain ⟨t, h1, h2⟩ := ht v S1 H1 s pv
  exact ⟨v, .ref C, t, .ref C, k, rfl, .own C, h1, h2, q _ S1 H1 (Gr.refl s) (.bl k)⟩
theorem sc_Seq : FnScope ["self", "other"] ["self", "other"] (defScope sSchema____eq__) := ⟨rfl, rfl, rfl, by decide +kernel, rfl, by decide +kernel, by decide +kernel⟩
theorem ok_Seq {C : Addr} (F : FnM K "__eq__" "Schema.__eq__" sSchema____eq__ f fd) (g1 : mg "isinstance" = none) (gS : mg "Schema" = some (.ref C)) (c : Cls K C) (J : IsiC K C) (n1 : NoAttr K C "columns") (n2 : NoAttr K C "_facts") : FnOk P w K mg base CX0 1 f fd ["self", "other"] (spEqS K C) := by
  refine fn_hs F sc_Seq (fun vs H Q E h => ?_) (fun cdv A outer sh H vs Q E hr h => ?_)
  · obtain ⟨S, v, w, b, rfl, _⟩ := h
    rfl
  · obtain ⟨S, v, w', b, rfl, s, ⟨z1, ps1, pv, h⟩, q⟩ := h
    rcases h with ⟨z2, ps2, pw, rfl⟩ | ⟨y, rfl, rfl⟩
    · refine hs_ret ((ee_and (k1 := true) (k2 := decide (z1 = z2) && eqvR ps1 ps2) (ee_isiO g1 gS (ee_var 1 rfl pw) (fun v S1 H1 s1 p => ?_)) fun _ => ee_and (ee_eqS (ee_fld (ee_var 0 rfl pv) SchP.cfld c n1) (ee_fld (ee_var 1 rfl pw) SchP.cfld c n1)) fun _ => ee_one (ee_eq hr (shaped_rules ps1) (shaped_rules ps2) (ee_fld (ee_var 0 rfl pv) SchP.ffld c n2) (ee_fld (ee_var 1 rfl pw) SchP.ffld c n2)))) s fun v S' H' g p => ?_
      · obtain ⟨a, dx, fs, rfl, e⟩ := SchP.ins _ _ p
        exact ⟨.ref C, .base (.ins (s1 _ _ e) c J.cls J.sp J.tk J.ob), by unfold PySem.W.kitOne; simp⟩
      · cases p
        exact q S' H' g
    · haveI : Mn (fun (w : V) (_ : Hp) => w = .str y) := ⟨fun _ h => h⟩
      refine hs_ret (ee_and (k1 := false) (k2 := true) (ee_isiO g1 gS (ee_var 1 rfl (P := fun w _ => w = .str y) rfl) (fun v S1 H1 s1 p => ?_)) fun h => nomatch h) s fun v S' H' g p => ?_
      · subst p
        exact ⟨.type "str", .base (.str y), J.str⟩
      · cases p
        exact q S' H' g
inductive TD : PyData → Prop
  | int (i : Int) : TD (.int i)
  | tup {ds : List PyData} : (∀ d ∈ ds, TD d) → TD (.tuple ds)
theorem td_ints (l : List Int) : TD (.tuple (l.map .int)) := .tup fun d hd => by
  obtain ⟨i, _, rfl⟩ := List.mem_map.mp hd
  exact .int i
theorem td_rule (p : List Int × List Int) : TD (ruleD p) := .tup (ds := [tI p.1, tI p.2]) fun d hd => by
  rcases List.mem_cons.mp hd with rfl | hd
  · exact td_ints _
  · obtain rfl := List.mem_singleton.mp hd
    exact td_ints _
/-- data of tuples and ints stand where the tuples stand -/
theorem td_keep {K : PySem.W.Frag} {S S' : Hp} (k : ∀ b ys, TuS K S b ys → TuS K S' b ys) {d : PyData} (t : TD d) : ∀ {v : V}, Dt K d v S → Dt K d v S' := by
  induction t with
  | int i => intro v h; obtain rfl := h.int_inv; exact .int i
  | tup _ ih =>
    intro v h
    obtain ⟨a, xs, rfl, ht, hx, z⟩ := h.tup_invS
    exact Dt.tup_mk (k _ _ ht) ⟨hx.1, fun i x d hi hd => ih d (List.mem_of_getElem? hd) (hx.2 i x d hi hd)⟩ z
theorem tds_keep {K : PySem.W.Frag} {S S' : Hp} (k : ∀ b ys, TuS K S b ys → TuS K S' b ys) {ds : List PyData} (t : ∀ d ∈ ds, TD d) {xs : List V} (h : Dts K ds xs S) : Dts K ds xs S' :=
  ⟨h.1, fun i x d hi hd => td_keep k (t d (List.mem_of_getElem? hd)) (h.2 i x d hi hd)⟩
theorem rules_keep {K : PySem.W.Frag} {S S' : Hp} {ps : Rules} {xs : List V} (k : ∀ b ys, TuS K S b ys → TuS K S' b ys) (h : Dts K (ps.map ruleD) xs S) : Dts K (ps.map ruleD) xs S' :=
  tds_keep k (fun d hd => by obtain ⟨p, _, rfl⟩ := List.mem_map.mp hd; exact td_rule p) h
theorem sqt_put0 {K : PySem.W.Frag} {S : Hp} {a : Addr} {o u : HO} (h : S a = some o) (n1 : ∀ xs, o ≠ .tup xs) (n2 : ∀ x y, o ≠ .frz x y) : ∀ b ys, SqT K S b ys → SqT K (upd S a u) b ys := fun b ys q => by
  rcases q with (q | ⟨w, q⟩) | q
  · exact .inl (.inl (by rw [upd_ne (fun z => by subst z; rw [h] at q; cases q; exact n1 _ rfl)]; exact q))
  · exact .inl (.inr ⟨w, by rw [upd_ne (fun z => by subst z; rw [h] at q; cases q; exact n2 _ _ rfl)]; exact q⟩)
  · exact .inr q
theorem sqt_put {K : PySem.W.Frag} {S : Hp} {a : Addr} {o u : HO} (h : S a = some o) (n1 : ∀ xs, o ≠ .tup xs) (n2 : ∀ x y, o ≠ .frz x y) : ∀ b ys, TuS K S b ys → TuS K (upd S a u) b ys := fun b ys q => by
  rcases q with q | ⟨e, q⟩
  · exact .inl (by rw [upd_ne (fun z => by subst z; rw [h] at q; cases q; exact n1 _ rfl)]; exact q)
  · exact .inr ⟨e, sqt_put0 h n1 n2 _ _ q⟩
def Finit (K : PySem.W.Frag) (C : Addr) : List PyData → (Addr → V → Hp → Prop) → Prop := fun ds R => ∃ z d ps, ds = [.str z, d] ∧ (d = .list (ps.map ruleD) ∨ d = .tuple (ps.map ruleD)) ∧ SchOk z ps ∧ R = SchL K C z ps
theorem sc_Sinit : FnScope ["self", "columns", "facts", "at", "fact"] ["self", "columns", "facts"] (defScope sSchema____init__) := ⟨rfl, rfl, rfl, by decide +kernel, rfl, by decide +kernel, by decide +kernel⟩
theorem exp_rule {n : Nat} {l : List Int} (h1 : l.length = n) (h2 : ∀ x ∈ l, 0 ≤ x ∧ x ≤ 6) : isExp (tI l) n = true := by
  show (decide (((l.map PyData.int).length : Int) = n) && (l.map PyData.int).all fun x => isNum x 0 && leNum x 6) = true
  rw [List.length_map, h1, List.all_map, Bool.and_eq_true]
  refine ⟨by simp, ?_⟩
  rw [List.all_eq_true]
  intro x hx
  show (decide (0 ≤ x) && decide (x ≤ 6)) = true
  rw [Bool.and_eq_true, decide_eq_true_eq, decide_eq_true_eq]
  exact h2 x hx
/-- C.f, a constant of the class -/
theorem ee_cval {X : Cx} {σ : L2.St} {S : Hp} {x f : Str} {p pos : Pos} {C : Addr} {mc : Value} {v : V} {u : Value} {P : V → Hp → Prop} (hm : X.mg x = some (.ref C)) (r : ClX.CRead X.K C mc) (k : ClX.CVal X.K C mc f v u) (h : ∀ S1, P v S1) (hg : Gl X x := by rfl) (hd : (x == ("__debug__" : Str)) = false := by decide) (hb : attributeBase (.Name x p) f X.env (eval (.Name x p) X.env) = eval (.Name x p) X.env := by rfl) : EE X σ S (.Attribute (.Name x p) f pos) P := fun H s Q q =>
  he_of (ClX.pe_cval (pe_glob hg hm (v := .ref C) rfl hd) hb) ⟨C, mc, v, u, rfl, r, k, q v S H (Gr.refl s) (h S)⟩
theorem enum_get {ds : List PyData} {i : Nat} {d : PyData} (h : ds[i]? = some d) : (enumD ds)[i]? = some (.tuple [.int i, d]) := by
  unfold enumD
  have hi := (List.getElem?_eq_some_iff.mp h).1
  exact zipD_get (upto_get hi) h
theorem enum_len {K : PySem.W.Frag} {ds : List PyData} : (Ds K (enumD ds)).length = ds.length := by
  rw [ds_len]; unfold enumD zipD; rw [List.length_zipWith, upto_len]; omega
theorem ok_Sinit {C : Addr} {mc : Value} {dvs : List V} {t : Tok} (F : FunD K "__init__" "Schema.__init__" (defArgs sSchema____init__) (defBody sSchema____init__) (defScope sSchema____init__) dvs [] f fd) (D1 : KD P w K mg base "check_columns" 1 (spD K FchkC)) (D2 : KM P w K mg base C "is_exponent" 3 (spO K (Fsch_isExp C))) (c : Cls K C)
    (n1 : NoAttr K C "columns") (n2 : NoAttr K C "width") (n3 : NoAttr K C "_facts") (gS : mg "Schema" = some (.ref C)) (cr : ClX.CRead K C mc) (cv : ClX.CVal K C mc "MOST" (.int 4) (.int 4 t)) (g1 : mg "len" = none) (g2 : mg "isinstance" = none) (g3 : mg "list" = none) (g4 : mg "tuple" = none) (g5 : mg "enumerate" = none) :
    FnOk P w K mg base CX0 4 f fd ["self", "columns", "facts"] (spI C K (Finit K C)) := by
  refine fn_hs F sc_Sinit (fun vs H Q E h => ?_) (fun cdv A outer sh H vs Q E hr h => ?_)
  · obtain ⟨S, a, dx, ws, ds, R, rfl, _, _, _, hd, ⟨_, _, _, rfl, _⟩, _⟩ := h
    have := hd.1
    simp at this
    simp [this]
  · obtain ⟨S, a, dx, ws, ds, R, rfl, s, hSa, hHa, hd, ⟨z, d, ps, rfl, hdd, ho, rfl⟩, q⟩ := h
    obtain ⟨vc, vf, rfl, p1, p2⟩ := hd.two
    obtain rfl := p1.str_inv
    have h3 := ho.1.2.2.2.1
    have i0 := GrI.start (o := .ins C dx []) s hSa hHa
    refine hs_expr (ee_callD D1 (hr.mono (by decide)) ⟨z, rfl, rfl, ho.1⟩ (ea_1 (ee_var 1 rfl (.str z)))) i0.sub fun _ S1 H1 g6 _ => ?_
    have i1 := i0.step g6
    have a1 : S1 a = some (.ins C dx []) := g6.st _ _ upd_same
    refine hs_fld (P := Dt K (.str z)) (r := a) (C := C) (dx := dx) (fs := []) (ee_var 1 rfl (.str z)) i1.sub (fun S2 _ => ee_var 0 rfl rfl) (i1.sub _ _ a1) c n1 (by decide) fun v S2 H2 g7 pv e2 => ?_
    obtain rfl := pv.str_inv
    have i2 := (i1.step g7).put (o := .ins C dx [("columns", .str z)]) hSa
    refine hs_fld (P := Dt K (.int (z.length : Nat))) (r := a) (C := C) (dx := dx) (fs := [("columns", .str z)]) (ee_len g1 rfl (ee_var 1 rfl (.str z)) (fun x hx => by cases hx; exact Nat.le_trans h3 (by show 3 ≤ 16777216; decide))) i2.sub (fun S3 _ => ee_var 0 rfl rfl) upd_same c n2 (show 1 < 1000 by decide) fun v S3 H3 g8 pv e3 => ?_
    obtain rfl := pv.int_inv
    have i3 := (i2.step g8).put (o := .ins C dx [("columns", .str z), ("width", .int (z.length : Nat))]) hSa
    have eH3 : upd H3 a (.ins C dx (putF "width" (.int (z.length : Nat)) [("columns", .str z)])) = upd H3 a (.ins C dx [("columns", .str z), ("width", .int (z.length : Nat))]) := rfl
    rw [eH3]
    have p23 : Dt K d vf (upd S3 a (.ins C dx [("columns", .str z), ("width", .int (z.length : Nat))])) := p2.up i3.st
    generalize hS4 : upd S3 a (.ins C dx [("columns", .str z), ("width", .int (z.length : Nat))]) = S4 at i3 p23
    have a4 : S4 a = some (.ins C dx [("columns", .str z), ("width", .int (z.length : Nat))]) := by rw [← hS4]; exact upd_same
    generalize upd H3 a (.ins C dx [("columns", .str z), ("width", .int (z.length : Nat))]) = H4 at i3
    have hlt : (isD d "list" || isD d "tuple") = true := by rcases hdd with rfl | rfl <;> rfl
    refine hs_ifN ((et_not (et_val (ee_isiLT rfl g2 g3 g4 (ee_var 2 rfl p23)))).is (by rw [hlt]; rfl)) i3.sub fun S5 H5 g9 => ?_
    have i5 := i3.step g9
    have a5 := g9.st _ _ a4
    have p25 := p23.up g9.st
    have hps : ps.length ≤ sizeLine := Nat.le_trans ho.2.1 (by show 4 ≤ 16777216; decide)
    let SP : V → Hp → Prop := fun v S => v = .ref a ∧ S a = some (.ins C dx [("columns", .str z), ("width", .int (z.length : Nat))])
    haveI mSP : Mn SP := ⟨fun s ⟨e, h⟩ => ⟨e, s _ _ h⟩⟩
    have hSPw : WidP C (z.length : Nat) SP := fun v S ⟨e, h⟩ => ⟨a, dx, _, e, h, rfl⟩
    have hSPi : InsP C "is_exponent" SP := fun v S ⟨e, h⟩ => ⟨a, dx, _, e, h, rfl⟩
    refine hs_for (Ps := Ds K (enumD (ps.map ruleD))) (fun i σ S2 => ∃ x y, σ = [some (.ref a), some (.str z), some vf, x, y]) PassesOwn.never rfl (by
      rcases hdd with rfl | rfl
      · exact ei_enumL g5 (ee_var 2 rfl p25)
      · exact ei_enumT g5 (ee_var 2 rfl p25)) i5.sub (fun S2 H2 g3 => ⟨none, none, rfl⟩) ?_ ?_
    · rintro i Pi σ1 S6 H6 x S7 H7 hP g10 ⟨y, y', rfl⟩ g11 px
      have hi : i < ps.length := by
        have := (List.getElem?_eq_some_iff.mp hP).1
        rw [enum_len, List.length_map] at this; exact this
      have hz : (ps.map ruleD)[i]? = some (ruleD ps[i]) := by rw [List.getElem?_map, List.getElem?_eq_getElem hi]; rfl
      rw [ds_get (enum_get hz)] at hP
      obtain rfl := Option.some.inj hP
      have hro := ho.2.2 ps[i] (List.getElem_mem hi)
      obtain ⟨u1, u2, k1, k2, hg⟩ := eg_pair (σ := [some (.ref a), some (.str z), some vf, y, y']) (i := 3) (j := 4) (x := "at") (y := "fact") (kk := _) (px := _) (py := _) (pos := _) (X := (cxOf CX0 P w K mg base ["self", "columns", "facts", "at", "fact"] "Schema.__init__" (defScope sSchema____init__) f cdv A outer sh H E).nox) rfl sc_Sinit.nd rfl rfl (Or.inl rfl) (Or.inl rfl) px
      refine hg H7 g11.sub _ ?_
      have a7 := g11.st _ _ (g10.st _ _ a5)
      refine hs_ifN ((et_w (ew_or (et_not (et_val (ee_isi (isD_ok (ruleD ps[i]) (T := "tuple") (by simp)) g2 g4 boot_tuple (ee_var 4 rfl k2)))) fun _ => ew_or1 (et_neI (ee_len g1 (d := ruleD ps[i]) (n := 2) rfl (ee_var 4 rfl k2)) ee_int))).is (by rfl)) g11.sub fun S8 H8 g12 => ?_
      have k8 := k2.up g12.st
      have a8 : SP (.ref a) S8 := ⟨rfl, g12.st _ _ a7⟩
      refine hs_ifN ((et_w (ew_or (et_not (et_val ((ee_meth D2 c (hr.mono (by decide)) (ee_var (P := SP) 0 rfl a8) hSPi (ea_1 (ee_ixT (ds := [tI ps[i].1, tI ps[i].2]) (d := tI ps[i].1) rfl (ee_var 4 rfl k8) ee_int)) (spO_E (F := Fsch_isExp C) (P0 := SP) (ds := [tI ps[i].1]) (d := .bool (isExp (tI ps[i].1) (z.length : Nat))) ⟨_, _, hSPw, rfl, rfl⟩))))) fun _ =>
        ew_or1 (et_not (et_val ((ee_meth D2 c (hr.mono (by decide)) (ee_var (P := SP) 0 rfl a8) hSPi (ea_1 (ee_ixT (ds := [tI ps[i].1, tI ps[i].2]) (d := tI ps[i].2) rfl (ee_var 4 rfl k8) ee_int)) (spO_E (F := Fsch_isExp C) (P0 := SP) (ds := [tI ps[i].2]) (d := .bool (isExp (tI ps[i].2) (z.length : Nat))) ⟨_, _, hSPw, rfl, rfl⟩))))))).is ?_) g12.sub fun S9 H9 g13 => hs_nil ?_
      · rw [exp_rule (n := z.length) hro.1.1 hro.1.2, exp_rule (n := z.length) hro.2.1 hro.2.2]; rfl
      · exact ⟨S9, g12.trans g13, _, _, rfl⟩
    · rintro σ1 S6 H6 g10 ⟨y, y', rfl⟩
      have i6 := i5.step g10
      have a6 := g10.st _ _ a5
      have p26 := p25.up g10.st
      have hlen : lenD d = some ps.length := by rcases hdd with rfl | rfl <;> (show some (ps.map ruleD).length = _; rw [List.length_map])
      refine hs_ifN ((et_gt (ee_len g1 hlen (ee_var 2 rfl p26) (fun x hx => by rcases hdd with rfl | rfl <;> cases hx)) (ee_cval (P := Dt K (.int 4)) gS cr cv (fun _ => .int 4))).is (by have := ho.2.1; rw [decide_eq_false (by omega)])) i6.sub fun S7 H7 g11 => ?_
      have i7 := i6.step g11
      have a7 := g11.st _ _ a6
      refine hs_fld (r := a) (C := C) (dx := dx) (fs := [("columns", .str z), ("width", .int (z.length : Nat))]) (ee_listN g3 hdd (ee_var 2 rfl (p26.up g11.st))) i7.sub (fun S3 _ => ee_var 0 rfl rfl) (i7.sub _ _ a7) c n3 (show 2 < 1000 by decide) fun v S8 H8 g12 pv e8 => hs_nil ?_
      obtain ⟨l, xs, rfl, h0, hl1, hx, hz⟩ := pv
      have a8 := g12.st _ _ a7
      have i8 := (i7.step g12).put (o := .ins C dx (schF z l)) hSa
      have lne : l ≠ a := fun e => by subst e; rw [a7] at h0; cases h0
      refine q l _ _ i8 (i7.st.free h0) ⟨a, dx, xs, rfl, upd_same, by rw [upd_ne lne]; exact hl1, rules_keep (sqt_put a8 (fun _ z => nomatch z) (fun _ _ z => nomatch z)) hx, hz⟩
/-- Schema is made: by two values, by one, by names -/
structure MkS (P : Program) (w : World) (K : PySem.W.Frag) (mg : Str → Option Value) (base : Heap) (C : Addr) : Prop where
  ex : ∃ fi fdi ps dv, Mk K C fi ∧ FnOk P w K mg base CX0 4 fi fdi ps (spI C K (Finit K C)) ∧ Binds K fdi ps [] ∧ (∃ us, Vals [dv] us ∧ Binds K fdi ps us) ∧ (∀ S, Dt K (.tuple []) dv S) ∧ ∃ g gV, KBn K fdi ps 1 ["facts", "columns"] g gV ∧ ∀ s v w, gV [s] [v, w] = [s, w, v]
section
variable {X : Cx} {σ : L2.St} {S : Hp} {C : Addr} {a b : Expr} {p pos q1 q2 : Pos} {z : Str} {d : PyData} {ps : Rules}
theorem ee_mk2 (M : MkS X.prog X.w X.K X.mg X.base C) (hr : Room 5 X.A) (gS : X.mg "Schema" = some (.ref C)) (ho : SchOk z ps) (hd : d = .list (ps.map ruleD) ∨ d = .tuple (ps.map ruleD)) (ha : EE X σ S a (Dt X.K (.str z))) (hb : EE X σ S b (Dt X.K d)) (hg : Gl X "Schema" := by rfl)
    (he : starEach [a, b] X.env = (false, eval a X.env) :: starEach [b] X.env := by rfl) (he2 : starEach [b] X.env = (false, eval b X.env) :: starEach [] X.env := by rfl) (hpl : (backTo pos (starEach [b] X.env)).any (·.1) = false := by rfl) : EE X σ S (.Call (.Name "Schema" p) [a, b] [] pos) (NewR (SchL X.K C z ps) S) := by
  obtain ⟨fi, fdi, ps', dv, m, G, b3, _, _, _⟩ := M.ex
  exact ee_make (ds := [.str z, d]) (dd := []) m G hr gS b3 .nil (fun _ => .nil) (ea_2 ha hb he he2) ⟨z, d, ps, rfl, hd, ho, rfl⟩ hg (by decide) he hpl
end
theorem newR_sch {K : PySem.W.Frag} {C : Addr} {z : Str} {ps : Rules} {S S' : Hp} {v : V} (h : NewR (SchL K C z ps) S v S') : SchP K C z ps v S' := let ⟨l, _, h⟩ := h; ⟨l, h⟩
end
end K23
namespace K23
open PySem PySem.Spec PyProof.Rows L2 Z Y
/-! ## tables, plainly -/
abbrev Grp := Int × List Int
def totG (gs : List Grp) (r : List Int) : Int := (gs.map fun g => if g.2 = r then g.1 else 0).sum
def accF (m : MapI) (gs : List Grp) : MapI := gs.foldl (fun m g => putM m g.2 ((getM m g.2).getD 0 + g.1)) m
def accM (gs : List Grp) : MapI := accF [] gs
def rowsS (gs : List Grp) : List (List Int) := srt tI' (keysM (accM gs))
def norm (gs : List Grp) : List Grp := (rowsS gs).map fun r => (totG gs r, r)
theorem getM_put (m : MapI) (k j : List Int) (n : Int) : getM (putM m k n) j = if j = k then some n else getM m j := by
  unfold putM
  split
  · rename_i h
    induction m with
    | nil => simp at h
    | cons q m ih =>
      unfold getM at ih ⊢
      rw [List.map_cons, List.find?_cons, List.find?_cons]
      by_cases hq : q.1 = k
      · rw [if_pos hq]
        by_cases hj : j = k
        · subst hj; simp [hq]
        · simp only [hq, if_neg hj]
          have hkj : ¬ k = j := fun e => hj e.symm
          simp only [hkj, decide_false]
          clear ih h
          induction m with
          | nil => rfl
          | cons p m ih2 =>
            rw [List.map_cons, List.find?_cons, List.find?_cons]
            by_cases hp : p.1 = k
            · rw [if_pos hp]; simp only [hp, hkj, decide_false]; exact ih2
            · rw [if_neg hp]
              cases e : decide (p.1 = j) with
              | true => rfl
              | false => exact ih2
      · rw [if_neg hq]
        have h2 : (m.any fun q => decide (q.1 = k)) = true := by simpa [hq] using h
        cases e : decide (q.1 = j) with
        | true =>
          have e2 := of_decide_eq_true e
          have : ¬ j = k := fun z => hq (e2.trans z)
          rw [if_neg this]
        | false => exact ih h2
  · rename_i h
    have h : ∀ q ∈ m, ¬ q.1 = k := fun q hq e => h (List.any_eq_true.mpr ⟨q, hq, decide_eq_true e⟩)
    unfold getM
    rw [List.find?_append]
    by_cases hj : j = k
    · subst hj
      have : m.find? (fun q => decide (q.1 = j)) = none := List.find?_eq_none.mpr fun q hq => by simp [h q hq]
      rw [this]; simp
    · rw [if_neg hj]
      have hkj : ¬ k = j := fun e => hj e.symm
      cases m.find? (fun q => decide (q.1 = j)) with
      | some _ => rfl
      | none => simp [hkj]
theorem keys_put (m : MapI) (k : List Int) (n : Int) : keysM (putM m k n) = if k ∈ keysM m then keysM m else keysM m ++ [k] := by
  have e : (m.any fun q => decide (q.1 = k)) = true ↔ k ∈ keysM m := by
    unfold keysM; simp [List.mem_map]
  unfold putM
  by_cases h : k ∈ keysM m
  · rw [if_pos (e.mpr h), if_pos h]
    unfold keysM
    rw [List.map_map]
    exact List.map_congr_left fun q _ => by
      show (if q.1 = k then (q.1, n) else q).1 = q.1
      split <;> rfl
  · rw [if_neg (fun z => h (e.mp z)), if_neg h]
    unfold keysM
    rw [List.map_append]; rfl
theorem getM_some {m : MapI} {k : List Int} (h : k ∈ keysM m) : ∃ n, getM m k = some n := by
  unfold keysM at h
  obtain ⟨q, hq, rfl⟩ := List.mem_map.mp h
  unfold getM
  cases e : m.find? (fun p => decide (p.1 = q.1)) with
  | some p => exact ⟨p.2, rfl⟩
  | none => exact absurd (List.find?_eq_none.mp e q hq) (by simp)
theorem accF_get : ∀ (gs : List Grp) (m : MapI) (r : List Int), (getM (accF m gs) r).getD 0 = (getM m r).getD 0 + totG gs r
  | [], m, r => by unfold accF totG; simp
  | g :: gs, m, r => by
    show (getM (accF (putM m g.2 ((getM m g.2).getD 0 + g.1)) gs) r).getD 0 = _
    rw [accF_get gs, getM_put]
    unfold totG
    rw [List.map_cons, List.sum_cons]
    by_cases h : r = g.2
    · subst h; rw [if_pos rfl, if_pos rfl]; simp [Int.add_assoc]
    · have h2 : ¬ g.2 = r := fun e => h e.symm
      rw [if_neg h, if_neg h2]; omega
theorem accF_keys : ∀ (gs : List Grp) (m : MapI) (r : List Int), r ∈ keysM (accF m gs) ↔ r ∈ keysM m ∨ r ∈ gs.map (·.2)
  | [], m, r => by simp [accF]
  | g :: gs, m, r => by
    show r ∈ keysM (accF (putM m g.2 ((getM m g.2).getD 0 + g.1)) gs) ↔ _
    rw [accF_keys gs, keys_put, List.map_cons, List.mem_cons]
    split
    · rename_i h
      constructor
      · rintro (a | a)
        · exact .inl a
        · exact .inr (.inr a)
      · rintro (a | rfl | a)
        · exact .inl a
        · exact .inl h
        · exact .inr a
    · rw [List.mem_append, List.mem_singleton, or_assoc]
theorem accF_nodup : ∀ (gs : List Grp) (m : MapI), (keysM m).Nodup → (keysM (accF m gs)).Nodup
  | [], m, h => h
  | g :: gs, m, h => by
    show (keysM (accF (putM m g.2 ((getM m g.2).getD 0 + g.1)) gs)).Nodup
    refine accF_nodup gs _ ?_
    rw [keys_put]
    split
    · exact h
    · rename_i hk
      refine List.nodup_append.mpr ⟨h, by simp, fun a ha b hb => ?_⟩
      rw [List.mem_singleton] at hb
      subst hb
      exact fun e => hk (e ▸ ha)
theorem accF_len : ∀ (gs : List Grp) (m : MapI), (accF m gs).length ≤ m.length + gs.length
  | [], m => Nat.le_refl _
  | g :: gs, m => by
    have := accF_len gs (putM m g.2 ((getM m g.2).getD 0 + g.1))
    have := putM_len m g.2 ((getM m g.2).getD 0 + g.1)
    show (accF (putM m g.2 ((getM m g.2).getD 0 + g.1)) gs).length ≤ _
    rw [List.length_cons]; omega
theorem mem_rowsS {gs : List Grp} {r : List Int} : r ∈ rowsS gs ↔ r ∈ gs.map (·.2) := by
  unfold rowsS accM
  rw [mem_srt, accF_keys]
  simp [keysM]
theorem leR : PySem.W.dataLe false tI' = fun p q => decide (p ≤ q) := PySem.W.dataLe_rows (fun p : List Int => p)
theorem perm_nodup {α : Type} [DecidableEq α] : ∀ {l m : List α}, l.Nodup → m.Nodup → (∀ a, a ∈ l ↔ a ∈ m) → l.Perm m := fun h1 h2 h =>
  List.perm_iff_count.mpr fun a => by
    rw [List.Nodup.count h1, List.Nodup.count h2]
    simp only [h a]
theorem sorted_eq {α : Type} {le : α → α → Bool} (anti : ∀ a b, le a b = true → le b a = true → a = b) : ∀ {l m : List α}, l.Pairwise (fun a b => le a b = true) → m.Pairwise (fun a b => le a b = true) → l.Perm m → l = m
  | [], m, _, _, p => (List.nil_perm.mp p).symm
  | a :: l, [], _, _, p => absurd (List.perm_nil.mp p) (by simp)
  | a :: l, b :: m, h1, h2, p => by
    have e : a = b := by
      have h1' := List.pairwise_cons.mp h1
      have h2' := List.pairwise_cons.mp h2
      rcases List.mem_cons.mp (p.mem_iff.mp (List.mem_cons_self ..)) with e | ha
      · exact e
      · rcases List.mem_cons.mp (p.mem_iff.mpr (List.mem_cons_self ..)) with e | hb
        · exact e.symm
        · exact anti a b (h1'.1 b hb) (h2'.1 a ha)
    subst e
    rw [sorted_eq anti (List.pairwise_cons.mp h1).2 (List.pairwise_cons.mp h2).2 (List.Perm.cons_inv p)]
theorem srt_pw {β : Type} (enc : β → PyData) (l : List β) : (srt enc l).Pairwise fun a b => PySem.W.dataLe false enc a b = true :=
  List.pairwise_mergeSort (le := PySem.W.dataLe false enc) (fun a b c => (PySem.W.sortLe_total (listOrd itemOrd) false fun b => PySem.W.keyToks (enc b)).trans a b c) (fun a b => by
    have := (PySem.W.sortLe_total (listOrd itemOrd) false fun b => PySem.W.keyToks (enc b)).total a b
    unfold PySem.W.dataLe
    rcases this with h | h <;> simp [h]) l
theorem srt_perm {β : Type} {enc : β → PyData} (inj : ∀ a b, PySem.W.keyToks (enc a) = PySem.W.keyToks (enc b) → a = b) {l m : List β} (p : l.Perm m) : srt enc l = srt enc m :=
  sorted_eq (le := PySem.W.dataLe false enc) (fun a b h1 h2 => inj a b ((listOrd itemOrd).total _ _ (by
    have h2 : (!(listOrd itemOrd).blt (PySem.W.keyToks (enc a)) (PySem.W.keyToks (enc b))) = true := h2
    simpa using h2) (by
    have h1 : (!(listOrd itemOrd).blt (PySem.W.keyToks (enc b)) (PySem.W.keyToks (enc a))) = true := h1
    simpa using h1))) (srt_pw enc l) (srt_pw enc m) ((List.mergeSort_perm ..).trans (p.trans (List.mergeSort_perm ..).symm))
theorem kt_ints : ∀ a : List Int, PySem.W.keyToksAll (a.map PyData.int) = (a.flatMap fun x => [Sum.inl 1, Sum.inl x]) ++ [Sum.inl 0]
  | [] => by unfold PySem.W.keyToksAll; rfl
  | x :: a => by
    rw [List.map_cons]
    unfold PySem.W.keyToksAll
    rw [kt_ints a]
    unfold PySem.W.keyToks
    rfl
theorem kt_inj : ∀ {a b : List Int} {t u : List (Int ⊕ List Nat)}, PySem.W.keyToksAll (a.map PyData.int) ++ t = PySem.W.keyToksAll (b.map PyData.int) ++ u → a = b ∧ t = u := by
  intro a
  induction a with
  | nil =>
    intro b t u h
    rw [kt_ints, kt_ints] at h
    cases b with
    | nil => simp at h; exact ⟨rfl, h⟩
    | cons y b => simp at h
  | cons x a ih =>
    intro b t u h
    cases b with
    | nil => rw [kt_ints, kt_ints] at h; simp at h
    | cons y b =>
      rw [kt_ints, kt_ints] at h
      simp only [List.flatMap_cons, List.cons_append, List.nil_append, List.cons.injEq, Sum.inl.injEq, true_and] at h
      have := ih (b := b) (t := t) (u := u) (by rw [kt_ints, kt_ints]; exact h.2)
      exact ⟨by rw [h.1, this.1], this.2⟩
theorem inj_tI (a b : List Int) (h : PySem.W.keyToks (tI' a) = PySem.W.keyToks (tI' b)) : a = b := by
  have h' : PySem.W.keyToksAll (a.map PyData.int) = PySem.W.keyToksAll (b.map PyData.int) := h
  exact (kt_inj (t := []) (u := []) (by rw [List.append_nil, List.append_nil]; exact h')).1
theorem nodup_rowsS (gs : List Grp) : (rowsS gs).Nodup := (List.mergeSort_perm ..).nodup_iff.mpr (accF_nodup gs [] List.nodup_nil)
theorem rowsS_uniq {gs : List Grp} {L : List (List Int)} (h1 : L.Pairwise fun a b => PySem.W.dataLe false tI' a b = true) (h2 : L.Nodup) (h3 : ∀ r, r ∈ L ↔ r ∈ gs.map (·.2)) : rowsS gs = L := by
  have e : srt tI' L = L := List.mergeSort_of_pairwise h1
  rw [← e]
  exact srt_perm inj_tI (perm_nodup (accF_nodup gs [] List.nodup_nil) h2 fun a => by
    rw [h3]
    show a ∈ keysM (accF [] gs) ↔ _
    rw [accF_keys]; simp [keysM])
theorem rowsS_congr {gs hs : List Grp} (h : ∀ r, r ∈ gs.map (·.2) ↔ r ∈ hs.map (·.2)) : rowsS gs = rowsS hs :=
  rowsS_uniq (srt_pw ..) (nodup_rowsS hs) fun r => by rw [mem_rowsS, h]
theorem norm_congr {gs hs : List Grp} (h : ∀ r, r ∈ gs.map (·.2) ↔ r ∈ hs.map (·.2)) (ht : ∀ r, totG gs r = totG hs r) : norm gs = norm hs := by
  unfold norm
  rw [rowsS_congr h]
  exact List.map_congr_left fun r _ => by rw [ht]
theorem norm_rows (gs : List Grp) : (norm gs).map (·.2) = rowsS gs := by
  unfold norm
  rw [List.map_map]
  exact (List.map_congr_left fun _ _ => rfl).trans (List.map_id _)
theorem mem_norm_rows {gs : List Grp} {r : List Int} : r ∈ (norm gs).map (·.2) ↔ r ∈ gs.map (·.2) := by rw [norm_rows, mem_rowsS]
theorem sum_ite (c : Int) (r : List Int) (f : List Int → Int) : ∀ {R : List (List Int)}, R.Nodup → r ∈ R → (R.map fun x => (if r = x then c else 0) * f x).sum = c * f r
  | [], _, h => by cases h
  | x :: R, hn, h => by
    rw [List.map_cons, List.sum_cons]
    have hn' := List.nodup_cons.mp hn
    by_cases e : r = x
    · subst e
      rw [if_pos rfl]
      have : (R.map fun y => (if r = y then c else 0) * f y).sum = 0 := by
        have : ∀ {Q : List (List Int)}, r ∉ Q → (Q.map fun y => (if r = y then c else 0) * f y).sum = 0 := by
          intro Q
          induction Q with
          | nil => intro _; rfl
          | cons y Q ih =>
            intro hq
            rw [List.map_cons, List.sum_cons, ih (fun z => hq (List.mem_cons_of_mem _ z)), if_neg (fun z : r = y => hq (by rw [z]; exact List.mem_cons_self ..))]; simp
        exact this hn'.1
      rw [this]; omega
    · rw [if_neg e, sum_ite c r f hn'.2 ((List.mem_cons.mp h).resolve_left e)]; simp
theorem sum_norm_gen (f : List Int → Int) : ∀ (gs : List Grp) {R : List (List Int)}, R.Nodup → (∀ g ∈ gs, g.2 ∈ R) → (R.map fun r => totG gs r * f r).sum = (gs.map fun g => g.1 * f g.2).sum
  | [], R, _, _ => by
    have : ∀ Q : List (List Int), (Q.map fun r => totG [] r * f r).sum = 0 := fun Q => by
      induction Q with
      | nil => rfl
      | cons q Q ih => rw [List.map_cons, List.sum_cons, ih]; simp [totG]
    rw [this]; rfl
  | g :: gs, R, hn, h => by
    have ih := sum_norm_gen f gs hn fun x hx => h x (List.mem_cons_of_mem _ hx)
    rw [List.map_cons, List.sum_cons, ← ih, ← sum_ite g.1 g.2 f hn (h g (List.mem_cons_self ..))]
    have : ∀ Q : List (List Int), (Q.map fun r => totG (g :: gs) r * f r).sum = (Q.map fun x => (if g.2 = x then g.1 else 0) * f x).sum + (Q.map fun r => totG gs r * f r).sum := fun Q => by
      induction Q with
      | nil => rfl
      | cons q Q ih2 =>
        rw [List.map_cons, List.sum_cons, List.map_cons, List.sum_cons, List.map_cons, List.sum_cons, ih2]
        have : totG (g :: gs) q = (if g.2 = q then g.1 else 0) + totG gs q := by unfold totG; rw [List.map_cons, List.sum_cons]
        rw [this, Int.add_mul]; omega
    exact this R
theorem sum_norm (f : List Int → Int) (gs : List Grp) : ((norm gs).map fun g => g.1 * f g.2).sum = (gs.map fun g => g.1 * f g.2).sum := by
  rw [← sum_norm_gen f gs (nodup_rowsS gs) fun g hg => mem_rowsS.mpr (List.mem_map_of_mem hg)]
  unfold norm
  rw [List.map_map]
  rfl
theorem tot_mul (gs : List Grp) (r : List Int) : totG gs r = (gs.map fun g => g.1 * (if g.2 = r then 1 else 0)).sum := by
  unfold totG
  congr 1
  exact List.map_congr_left fun g _ => by split <;> simp
theorem tot_map (gs : List Grp) (φ : List Int → List Int) (r : List Int) : totG (gs.map fun g => (g.1, φ g.2)) r = (gs.map fun g => g.1 * (if φ g.2 = r then 1 else 0)).sum := by
  rw [tot_mul, List.map_map]; rfl
/-- a table of the groups of a table, the rows changed -/
theorem norm_map (gs : List Grp) (φ : List Int → List Int) : norm ((norm gs).map fun g => (g.1, φ g.2)) = norm (gs.map fun g => (g.1, φ g.2)) := by
  refine norm_congr (fun r => ?_) fun r => ?_
  · rw [List.map_map, List.map_map]
    constructor
    · intro h
      obtain ⟨g, hg, rfl⟩ := List.mem_map.mp h
      obtain ⟨g2, h2, e2⟩ := List.mem_map.mp (mem_norm_rows.mp (List.mem_map_of_mem (f := (·.2)) hg))
      exact List.mem_map.mpr ⟨g2, h2, congrArg φ e2⟩
    · intro h
      obtain ⟨g, hg, rfl⟩ := List.mem_map.mp h
      obtain ⟨g2, h2, e2⟩ := List.mem_map.mp (mem_norm_rows.mpr (List.mem_map_of_mem (f := (·.2)) hg))
      exact List.mem_map.mpr ⟨g2, h2, congrArg φ e2⟩
  · rw [tot_map, tot_map]
    exact sum_norm (fun x => if φ x = r then 1 else 0) gs
theorem norm_norm (gs : List Grp) : norm (norm gs) = norm gs := by
  have h := norm_map gs id
  have e : ∀ l : List Grp, l.map (fun g => (g.1, id g.2)) = l := fun l => (List.map_congr_left fun _ _ => rfl).trans (List.map_id l)
  rw [e, e] at h
  exact h
theorem norm_len (gs : List Grp) : (norm gs).length ≤ gs.length := by
  unfold norm rowsS srt
  rw [List.length_map, List.length_mergeSort]
  unfold keysM accM
  rw [List.length_map]
  have := accF_len gs []
  simpa using this
/-! rows, plainly -/
theorem alike_ints : ∀ a b : List Int, PySem.W.alikeAll (a.map PyData.int) (b.map PyData.int) = true
  | [], b => by simp [PySem.W.alikeAll]
  | _ :: _, [] => by simp [PySem.W.alikeAll]
  | x :: a, y :: b => by simp [PySem.W.alikeAll, PySem.W.alike, alike_ints a b]
theorem sortOk_rows {ks : List (List Int)} {u : Nat} (h : ∀ k ∈ ks, k ≠ []) (hu : u + 8 < cLine) : SortOk tI' ks u := by
  refine ⟨fun d hd d' hd' => ?_, .inl fun d hd => ?_, fun b hb => ?_⟩
  · obtain ⟨k, _, rfl⟩ := List.mem_map.mp hd
    obtain ⟨k', _, rfl⟩ := List.mem_map.mp hd'
    simp only [PySem.W.alike]
    exact alike_ints k k'
  · obtain ⟨k, hk, rfl⟩ := List.mem_map.mp hd
    cases k with
    | nil => exact absurd rfl (h _ hk)
    | cons x k => exact ⟨.int x, k.map .int, rfl⟩
  · have := dep_ints b
    show u + 2 + PyData.depth (.tuple (b.map .int)) < cLine
    simp [PyData.depth]
    omega
theorem room_u1 {k : Nat} {A : Around} (h : Room k A) : A.units + 1 < cLine := by have := h.un; omega
theorem room_u8 {k : Nat} {A : Around} (h : Room k A) : A.units + 8 < cLine := by have := h.un; omega
theorem accF_snoc (m : MapI) (gs : List Grp) (g : Grp) : accF m (gs ++ [g]) = putM (accF m gs) g.2 ((getM (accF m gs) g.2).getD 0 + g.1) := by
  unfold accF
  rw [List.foldl_append]; rfl
theorem take_snocG {α : Type} {l : List α} {i : Nat} (h : i < l.length) : l.take (i + 1) = l.take i ++ [l[i]] := by
  rw [List.take_succ, List.getElem?_eq_getElem h]; rfl
/-- b is new behind H2; then S3 H3; then T -/
theorem GrI.after {b : Addr} {S2 H2 S3 H3 T H' : Hp} {o : HO} (e : Gr S2 (upd H2 b o) S3 H3) (j : GrI b S3 H3 T H') (hb : H2 b = none) (hS : S2 b = none) : GrI b S2 (upd H2 b o) T H' :=
  ⟨e.st.trans j.st, j.sub, fun z u n h => j.hh z u n (e.hh _ _ h), fun z u n h m => (j.old z u n (e.hh _ _ h) m).trans (e.old z u h m)⟩
theorem eqvAll_ints : ∀ a b : List Int, PyData.eqvAll (a.map .int) (b.map .int) = decide (a = b)
  | [], [] => by simp [PyData.eqvAll]
  | [], _ :: _ => by simp [PyData.eqvAll]
  | _ :: _, [] => by simp [PyData.eqvAll]
  | x :: a, y :: b => by
    rw [List.map_cons, List.map_cons]
    unfold PyData.eqvAll
    rw [eqvAll_ints a b]
    simp [PyData.eqv, Bool.decide_and]
    rfl
theorem eqv_tI (a b : List Int) : PyData.eqv (tI a) (tI b) = decide (a = b) := by
  show PyData.eqv (.tuple (a.map .int)) (.tuple (b.map .int)) = _
  rw [PyData.eqv]
  exact eqvAll_ints a b
/-! ## products, plainly: a factor is a pair (power, exponent), put together as the groups of a table are -/
def pairD (g : Grp) : PyData := .tuple [tI g.2, .int g.1]
def mpG (gs : List Grp) : MapI := gs.map fun g => (g.2, g.1)
theorem mpG_kvD (gs : List Grp) : (mpG gs).map kvD = gs.map pairD := by unfold mpG; rw [List.map_map]; rfl
theorem putM_new {m : MapI} {k : List Int} {n : Int} (h : k ∉ keysM m) : putM m k n = m ++ [(k, n)] := by
  unfold putM
  rw [if_neg]
  intro e
  obtain ⟨q, hq, e⟩ := List.any_eq_true.mp e
  exact h (List.mem_map.mpr ⟨q, hq, of_decide_eq_true e⟩)
theorem mkM_nodupA : ∀ (ps m : MapI), (m.map (·.1) ++ ps.map (·.1)).Nodup → ps.foldl (fun m p => putM m p.1 p.2) m = m ++ ps
  | [], m, _ => by simp
  | p :: ps, m, h => by
    have h1 : p.1 ∉ keysM m := fun z => by
      have h2 := (List.nodup_append.mp h).2.2 _ z p.1 (by simp)
      exact h2 rfl
    show ps.foldl _ (putM m p.1 p.2) = _
    rw [putM_new h1, mkM_nodupA ps (m ++ [(p.1, p.2)]) (by simpa using h)]
    simp
theorem mkM_nodup {ps : MapI} (h : (ps.map (·.1)).Nodup) : mkM ps = ps := by
  have h1 := mkM_nodupA ps [] (by simpa using h)
  rw [List.nil_append] at h1
  exact h1
/-- the dict of a product -/
theorem mkM_norm (gs : List Grp) : mkM ((rowsS gs).map fun r => (r, totG gs r)) = mpG (norm gs) := by
  rw [mkM_nodup]
  · unfold mpG norm
    rw [List.map_map]; rfl
  · rw [List.map_map]
    exact (List.map_id (rowsS gs)).symm ▸ nodup_rowsS gs
theorem norm_nodup (gs : List Grp) : ((norm gs).map (·.2)).Nodup := by rw [norm_rows]; exact nodup_rowsS gs
/-- the law's sorted pairs -/
theorem pw_pairs (gs : List Grp) : (norm gs).Pairwise fun a b => PySem.W.dataLe false pairD a b = true := by
  have h1 : (norm gs).Pairwise fun a b => PySem.W.dataLe false tI' a.2 b.2 = true := by
    have h : ((norm gs).map (·.2)).Pairwise fun a b => PySem.W.dataLe false tI' a b = true := by rw [norm_rows]; exact srt_pw ..
    rwa [List.pairwise_map] at h
  have h2 : (norm gs).Pairwise fun a b => a.2 ≠ b.2 := by
    have h := norm_nodup gs
    rwa [List.Nodup, List.pairwise_map] at h
  refine (h1.and h2).imp fun {a b} ⟨ha, hb⟩ => ?_
  show (!PySem.W.dataLt (.tuple [tI b.2, .int b.1]) (.tuple [tI a.2, .int a.1])) = true
  rw [PySem.W.dataLt_pair (by show PySem.W.alike (.tuple (b.2.map .int)) (.tuple (a.2.map .int)) = true; simp only [PySem.W.alike]; exact alike_ints _ _) (by simp [PySem.W.alike]), eqv_tI, decide_eq_false (fun e => hb e.symm)]
  exact ha
def prs (gs : List Grp) : List Grp := (keysM (accM gs)).map fun r => (totG gs r, r)
theorem prs_perm (gs : List Grp) : (norm gs).Perm (prs gs) := (List.mergeSort_perm ..).map _
theorem kt_pair (g : Grp) : PySem.W.keyToks (pairD g) = Sum.inl 1 :: (PySem.W.keyToksAll (g.2.map .int) ++ [Sum.inl 1, Sum.inl g.1, Sum.inl 0]) := by
  show PySem.W.keyToks (.tuple [.tuple (g.2.map .int), .int g.1]) = _
  simp [PySem.W.keyToks, PySem.W.keyToksAll]
theorem inj_pair (a b : Grp) (h : PySem.W.keyToks (pairD a) = PySem.W.keyToks (pairD b)) : a = b := by
  rw [kt_pair, kt_pair] at h
  have h2 := kt_inj (List.cons.inj h).2
  obtain ⟨x, r⟩ := a
  obtain ⟨y, r'⟩ := b
  simp at h2
  rw [h2.1, h2.2]
theorem put_norm (gs : List Grp) : srt pairD (prs gs) = norm gs := by
  rw [← srt_perm inj_pair (prs_perm gs)]
  exact List.mergeSort_of_pairwise (pw_pairs gs)
/-! ## plain facts about tuples of ints (of more_math) -/
theorem shaped_tI (l : List Int) : SeqAt.shaped (tI l) = true := by
  show SeqAt.shaped (.tuple (l.map .int)) = true
  unfold SeqAt.shaped
  rw [Bool.and_eq_true, decide_eq_true_eq]
  have := dep_ints l
  exact ⟨by simp [PyData.canLay0, can_ints], by simp [PyData.depth]; omega⟩
theorem can_tI (l : List Int) : PyData.canLay0 (tI l) = true := by
  show PyData.canLay0 (.tuple (l.map .int)) = true
  simp [PyData.canLay0, can_ints]
theorem dep_tI (l : List Int) : PyData.depth (tI l) ≤ 2 := by
  show PyData.depth (.tuple (l.map .int)) ≤ 2
  have := dep_ints l
  simp [PyData.depth]; omega
theorem shaped_tIs (ls : List (List Int)) : SeqAt.shaped (.list (ls.map tI)) = true := by
  have c : ∀ ps : List (List Int), PyData.canLayAll0 (ps.map tI) = true := fun ps => by
    induction ps with
    | nil => simp [PyData.canLayAll0]
    | cons p ps ih => simp [PyData.canLayAll0, can_tI, ih]
  have d : ∀ ps : List (List Int), PyData.depthAll (ps.map tI) ≤ 3 := fun ps => by
    induction ps with
    | nil => simp [PyData.depthAll]
    | cons p ps ih => have := dep_tI p; simp [PyData.depthAll]; omega
  unfold SeqAt.shaped
  rw [Bool.and_eq_true, decide_eq_true_eq]
  have := d ls
  refine ⟨by simp [PyData.canLay0, c], by simp [PyData.depth]; omega⟩
theorem any_tI (ls : List (List Int)) (r : List Int) : ((ls.map tI).any fun z => PyData.eqv z (tI r)) = decide (r ∈ ls) := by
  rw [List.any_map]
  induction ls with
  | nil => rfl
  | cons l ls ih =>
    rw [List.any_cons, ih]
    simp only [Function.comp_def, eqv_tI, List.mem_cons, Bool.decide_or]
    congr 1
    exact decide_eq_decide.mpr ⟨Eq.symm, Eq.symm⟩
theorem room_u65 {k : Nat} {A : Around} (h : Room k A) : A.units + 65 < cLine := by have := h.un; omega
section
variable {P : Program} {w : World} {K : PySem.W.Frag} {mg : Str → Option Value} {base : Heap} {f : Addr} {fd : FuncData}
def FchkW : List PyData → PyData → Prop := fun ds r => ∃ i : Int, ds = [.int i] ∧ r = .none ∧ 1 ≤ i ∧ i ≤ 3
theorem sc_chkW : FnScope ["width"] ["width"] (defScope scheck_width) := ⟨rfl, rfl, rfl, by decide +kernel, rfl, by decide +kernel, by decide +kernel⟩
theorem isNum_t {n l : Int} (h : l ≤ n) : isNum (.int n) l = true := decide_eq_true h
theorem ok_chkW (F : FnT K "check_width" scheck_width f fd) (D1 : KD P w K mg base "is_number" 1 (spD K FisNumber)) : FnOk P w K mg base CX0 2 f fd ["width"] (spD K FchkW) := by
  refine fn_hs F sc_chkW (fun vs H Q E h => ?_) (fun cdv A outer sh H vs Q E hr h => ?_)
  · obtain ⟨S, ds, d, _, hd, ⟨_, rfl, _⟩, _⟩ := h
    exact hd.1
  · obtain ⟨S, ds, r, s, hd, ⟨i, rfl, rfl, i1, i3⟩, q⟩ := h
    obtain ⟨v, rfl, p⟩ := hd.one
    refine hs_ifN ((et_w (ew_or (et_not (et_val (ee_callD D1 hr ⟨.int i, 1, rfl, rfl⟩ (ea_2 (ee_var 0 rfl p) ee_int)))) fun _ => ew_or1 (et_gt (ee_var 0 rfl p) ee_int))).is (by rw [isNum_t i1, decide_eq_false (by omega)]; rfl)) s fun S1 H1 g => hs_nil (q _ S1 H1 g .non)
/-! ### Product.__init__ -/
def PrOk (n : Nat) (gs : List Grp) : Prop := 1 ≤ n ∧ n ≤ 3 ∧ gs.length ≤ 1000 ∧ (norm gs).length ≤ 12 ∧ ∀ g ∈ gs, 1 ≤ g.1 ∧ g.2.length = n ∧ ∀ x ∈ g.2, 0 ≤ x ∧ x ≤ 6
def prdF (n : Nat) (l : Addr) : List (Str × V) := [("width", .int n), ("_powers", .ref l)]
def PrdL (C : Addr) (n : Nat) (gs : List Grp) (l : Addr) : V → Hp → Prop := fun v S => ∃ a dx, v = .ref a ∧ S a = some (.ins C dx (prdF n l)) ∧ DcO (mpG gs) l S
def PrdP (C : Addr) (n : Nat) (gs : List Grp) : V → Hp → Prop := fun v S => ∃ l, PrdL C n gs l v S
instance {C : Addr} {n : Nat} {gs : List Grp} {l : Addr} : Mn (PrdL C n gs l) := ⟨fun s ⟨a, dx, e, h1, h2⟩ => ⟨a, dx, e, s _ _ h1, h2.up s⟩⟩
instance {C : Addr} {n : Nat} {gs : List Grp} : Mn (PrdP C n gs) := ⟨fun s ⟨l, h⟩ => ⟨l, Mn.up s h⟩⟩
theorem newR_prd {C : Addr} {n : Nat} {gs : List Grp} {S S' : Hp} {v : V} (h : NewR (PrdL C n gs) S v S') : PrdP C n gs v S' := let ⟨l, _, h⟩ := h; ⟨l, h⟩
def Fprd (C : Addr) : List PyData → (Addr → V → Hp → Prop) → Prop := fun ds R => ∃ n d gs, ds = [.int (n : Nat), d] ∧ (d = .list (gs.map pairD) ∨ d = .tuple (gs.map pairD)) ∧ PrOk n gs ∧ R = PrdL C n (norm gs)
theorem sc_Pinit : FnScope ["self", "width", "factors", "powers", "at", "factor", "exponent", "power"] ["self", "width", "factors"] (defScope sProduct____init__) := ⟨rfl, rfl, rfl, by decide +kernel, rfl, by decide +kernel, by decide +kernel⟩
/-- a thing that the heap did not know is told from now on -/
theorem GrI.frz {a d : Addr} {o : HO} {S H S1 H1 : Hp} (i : GrI a S H S1 H1) (s : S d = none) (hd : H d = none) (hn : d ≠ a) : GrI a S H (upd S1 d o) (upd H1 d o) := by
  refine ⟨fun z u e => ?_, fun z u e => ?_, fun z u n e => ?_, fun z u n e m => ?_⟩
  · rw [upd_ne (fun q => by rw [q, s] at e; cases e)]; exact i.st _ _ e
  · by_cases h : z = d
    · subst h; rw [upd_same] at e ⊢; exact e
    · rw [upd_ne h] at e ⊢; exact i.sub _ _ e
  · rw [upd_ne (fun q => by rw [q, hd] at e; cases e)]; exact i.hh _ _ n e
  · rw [upd_ne (fun q => by rw [q, hd] at e; cases e)]; exact i.old _ _ n e m
theorem ok_Pinit {C : Addr} {mc : Value} {t : Tok} {dV : V} (F : FunD K "__init__" "Product.__init__" (defArgs sProduct____init__) (defBody sProduct____init__) (defScope sProduct____init__) [dV] [] f fd) (D1 : KD P w K mg base "check_width" 2 (spD K FchkW)) (D2 : KD P w K mg base "is_number" 1 (spD K FisNumber)) (D3 : KD P w K mg base "is_exponent_schemas" 2 (spD K FisExp)) (c : Cls K C)
    (n1 : NoAttr K C "width") (n2 : NoAttr K C "_powers") (gS : mg "Product" = some (.ref C)) (cr : ClX.CRead K C mc) (cv : ClX.CVal K C mc "MOST" (.int 12) (.int 12 t)) (g1 : mg "len" = none) (g2 : mg "isinstance" = none) (g3 : mg "list" = none) (g4 : mg "tuple" = none) (g5 : mg "enumerate" = none) (g7 : mg "sorted" = none) :
    FnOk P w K mg base CX0 3 f fd ["self", "width", "factors"] (spI C K (Fprd C)) := by
  refine fn_hs F sc_Pinit (fun vs H Q E h => ?_) (fun cdv A outer sh H vs Q E hr h => ?_)
  · obtain ⟨S, a, dx, ws, ds, R, rfl, _, _, _, hd, ⟨_, _, _, rfl, _⟩, _⟩ := h
    have := hd.1
    simp at this
    simp [this]
  · obtain ⟨S, a, dx, ws, ds, R, rfl, s, hSa, hHa, hd, ⟨n, d, gs, rfl, hdd, ho, rfl⟩, q⟩ := h
    obtain ⟨vn, vg, rfl, p1, p2⟩ := hd.two
    obtain ⟨o1, o3, ol, o12, oall⟩ := ho
    have i0 := GrI.start (o := .ins C dx []) s hSa hHa
    refine hs_expr (ee_callD D1 hr ⟨(n : Int), rfl, rfl, by omega, by omega⟩ (ea_1 (ee_var 1 rfl (p1.up i0.st)))) i0.sub fun _ S1 H1 e1 _ => ?_
    have i1 := i0.step e1
    have a1 : S1 a = some (.ins C dx []) := e1.st _ _ upd_same
    have hlt : (isD d "list" || isD d "tuple") = true := by rcases hdd with rfl | rfl <;> rfl
    refine hs_ifN ((et_not (et_val (ee_isiLT rfl g2 g3 g4 (ee_var 2 rfl (p2.up i1.st))))).is (by rw [hlt]; rfl)) i1.sub fun S2 H2 e2 => ?_
    have i2 := i1.step e2
    have a2 := e2.st _ _ a1
    have p12 := p1.up i2.st
    have p22 := p2.up i2.st
    refine hs_dnew (j := 3) sc_Pinit.nd fun b hb => ?_
    refine hs_forH (Ps := Ds K (enumD (gs.map pairD))) PassesOwn.never rfl (by
      rcases hdd with rfl | rfl
      · exact ei_enumL g5 (ee_var 2 rfl p22)
      · exact ei_enumT g5 (ee_var 2 rfl p22)) (sub_new i2.sub hb) fun S3 H3 e3 => ?_
    have hS2b : S2 b = none := i2.sub.free hb
    have hS3b : S3 b = none := (e3.old b _ upd_same (by intro xs z; cases z)).trans hS2b
    have hH3b : H3 b = some (.dT (kvM [])) := e3.hh _ _ upd_same
    have p13 := p12.up e3.st
    refine ⟨fun i σ' H' => ∃ T x4 x5 x6 x7, σ' = [some (.ref a), some vn, some vg, some (.ref b), x4, x5, x6, x7] ∧ GrI b S3 H3 T H' ∧ T b = some (.dT (kvM (accF [] (gs.take i)))), ⟨_, none, none, none, none, rfl, GrI.start e3.sub hS3b hH3b, upd_same⟩, fun i σ' H' ⟨T, _, _, _, _, _, j, _⟩ => j.st.trans j.sub, ?_, ?_⟩
    · rintro i Pi σ1 H4 x H5 hP ⟨T, x4, x5, x6, x7, rfl, j, hT⟩ y
      obtain ⟨T5, e5, px⟩ := y T j.st j.sub
      have hi : i < gs.length := by
        have := (List.getElem?_eq_some_iff.mp hP).1
        rw [enum_len, List.length_map] at this; exact this
      have hz : (gs.map pairD)[i]? = some (pairD gs[i]) := by rw [List.getElem?_map, List.getElem?_eq_getElem hi]; rfl
      rw [ds_get (enum_get hz)] at hP
      obtain rfl := Option.some.inj hP
      obtain ⟨c1, clen, crng⟩ := oall gs[i] (List.getElem_mem hi)
      have hne : gs[i].2 ≠ [] := fun e => by rw [e] at clen; simp at clen; omega
      obtain ⟨u1, u2, k1, k2, hg⟩ := eg_pair (σ := [some (.ref a), some vn, some vg, some (.ref b), x4, x5, x6, x7]) (i := 4) (j := 5) (x := "at") (y := "factor") (kk := _) (px := _) (py := _) (pos := _) (X := (cxOf CX0 P w K mg base ["self", "width", "factors", "powers", "at", "factor", "exponent", "power"] "Product.__init__" (defScope sProduct____init__) f cdv A outer sh H E).nox) rfl sc_Pinit.nd rfl rfl (Or.inl rfl) (Or.inl rfl) px
      refine hg H5 e5.sub _ ?_
      have j5 := j.step e5
      refine hs_ifN ((et_w (ew_or (et_not (et_val (ee_isi (isD_ok (pairD gs[i]) (T := "tuple") (by simp)) g2 g4 boot_tuple (ee_var 5 rfl k2)))) fun _ => ew_or1 (et_neI (ee_len g1 (d := pairD gs[i]) (n := 2) rfl (ee_var 5 rfl k2)) ee_int))).is (by rfl)) j5.sub fun S6 H6 e6 => ?_
      have j6 := j5.step e6
      refine hs_unpack (i := 6) (j := 7) (d1 := tI gs[i].2) (d2 := .int gs[i].1) rfl sc_Pinit.nd (ee_var 5 rfl (k2.up e6.st)) j6.sub fun v w S7 H7 e7 pv pw => ?_
      have j7 := j6.step e7
      refine hs_ifN ((et_w (ew_or (et_not (et_val (ee_callD D3 hr ⟨tI gs[i].2, (n : Int), rfl, rfl⟩ (ea_2 (ee_var 6 rfl pv) (ee_var 1 rfl (p13.up j7.st)))))) fun _ => ew_or1 (et_not (et_val (ee_callD D2 (hr.mono (by decide)) ⟨.int gs[i].1, 1, rfl, rfl⟩ (ea_2 (ee_var 7 rfl pw) ee_int)))))).is ?bb) j7.sub fun S8 H8 e8 => ?_
      case bb => rw [exp_rule clen crng, isNum_t c1]; rfl
      have j8 := j7.step e8
      have hT8 : S8 b = some (.dT (kvM (accF [] (gs.take i)))) := e8.st _ _ (e7.st _ _ (e6.st _ _ (e5.st _ _ hT)))
      have hml : (accF [] (gs.take i)).length < 16777216 := by
        have h1 := accF_len (gs.take i) []
        have h2 : (gs.take i).length ≤ gs.length := by rw [List.length_take]; omega
        simp only [List.length_nil] at h1
        omega
      refine hs_dputS (r := b) (n := (getM (accF [] (gs.take i)) gs[i].2).getD 0 + gs[i].1) (k := gs[i].2) (m := accF [] (gs.take i)) (room_u1 hr) (ee_add (ee_dget2 (room_u1 hr) hT8 (ee_var 3 rfl rfl) (EE.ky (ee_var 6 rfl (pv.up e8.st)) hne) ee_int) (ee_var 7 rfl (pw.up e8.st))) (ee_var 3 rfl rfl) (EE.ky (ee_var 6 rfl (pv.up e8.st)) hne) j8.sub hT8 hml fun S9 H9 e9 => hs_nil ?_
      refine ⟨_, _, _, _, _, rfl, (j8.step e9).put hS3b, ?_⟩
      rw [take_snocG hi, accF_snoc]
      exact upd_same
    · rintro σ1 H4 ⟨T, x4, x5, x6, x7, rfl, j, hT⟩
      have hlen : (Ds K (enumD (gs.map pairD))).length = gs.length := by rw [enum_len, List.length_map]
      rw [hlen, List.take_length] at hT
      have i4 := i2.under hb (GrI.after e3 j hb hS2b)
      have a4 : T a = some (.ins C dx []) := j.st _ _ (e3.st _ _ a2)
      have hmem : ∀ r ∈ keysM (accF [] gs), r.length = n := fun r hr' => by
        rcases (accF_keys gs [] r).mp hr' with h | h
        · cases h
        · obtain ⟨g, hg, rfl⟩ := List.mem_map.mp h
          exact (oall g hg).2.1
      have hkl : (accF [] gs).length ≤ 12 := by
        have : (norm gs).length = (accF [] gs).length := by
          unfold norm rowsS srt accM
          rw [List.length_map, List.length_mergeSort]
          unfold keysM
          rw [List.length_map]
        omega
      refine hs_ifN ((et_gt (ee_dlen g1 hT (ee_var 3 rfl rfl)) (ee_cval (P := Dt K (.int 12)) gS cr cv (fun _ => .int 12))).is (by rw [decide_eq_false (by omega)])) i4.sub fun S5 H5 e5 => ?_
      have i5 := i4.step e5
      have a5 := e5.st _ _ a4
      have hT5 := e5.st _ _ hT
      refine hs_fld (P := Dt K (.int (n : Nat))) (r := a) (C := C) (dx := dx) (fs := []) (ee_var 1 rfl (p1.up i5.st)) i5.sub (fun S6 _ => ee_var 0 rfl rfl) (i5.sub _ _ a5) c n1 (by decide) fun v S6 H6 e6 pv e0 => ?_
      obtain rfl := pv.int_inv
      have a6 := e6.st _ _ a5
      have i6 := (i5.step e6).put (o := .ins C dx [("width", .int (n : Nat))]) hSa
      have hne : b ≠ a := fun e => by subst e; rw [a2] at hS2b; cases hS2b
      have hT6 : upd S6 a (.ins C dx [("width", .int (n : Nat))]) b = some (.dT (kvM (accF [] gs))) := by rw [upd_ne hne]; exact e6.st _ _ hT5
      refine hs_fld (P := NewM (upd S6 a (.ins C dx [("width", .int (n : Nat))])) (mpG (norm gs))) (r := a) (C := C) (dx := dx) (fs := [("width", .int (n : Nat))]) ?_ i6.sub (fun S7 _ => ee_var 0 rfl rfl) upd_same c n2 (show 1 < 1000 by decide) fun v S7 H7 e7 pv e0 => ?_
      · refine (ee_dcT (own := [("exponent", 6)]) (as := srt tI' (keysM (accF [] gs))) (enc := tI') (kf := fun r => r) (vf := fun r => totG gs r) (Nat.lt_of_succ_lt (room_u1 hr)) rfl sc_Pinit.nd (blkOk_by (N := ["self", "width", "factors", "powers", "at", "factor", "exponent", "power"]) (sc := defScope sProduct____init__) (by decide +kernel)) (ei_list (ee_sortDT rfl g7 (sortOk_rows (fun k hk e => by have := hmem k hk; rw [e] at this; simp at this; omega) (room_u8 hr)) (fun k hk => by rw [hmem k hk]; show _ ≤ 16777216; omega) hT6 (ee_var 3 rfl rfl))) (by unfold srt; rw [List.length_mergeSort]; unfold keysM; rw [List.length_map]; omega) ?_).imp fun v S' h => (show mkM ((srt tI' (keysM (accF [] gs))).map fun a => (a, totG gs a)) = mpG (norm gs) from mkM_norm gs) ▸ h
        intro r hr' v S8 s8 pv
        have hr2 := mem_srt.mp hr'
        have hne : r ≠ [] := fun e => by have := hmem r hr2; rw [e] at this; simp at this; omega
        obtain ⟨z, hz⟩ := getM_some hr2
        have hzt : z = totG gs r := by
          have := accF_get gs [] r
          rw [hz] at this
          simpa [getM] using this
        subst hzt
        refine ⟨_, wipe1, fun sh' H0 C' cl fp => ⟨eg_name (i := 6) sc_Pinit.nd rfl (Or.inl rfl), EE.ky (ee_var (P := Dt K (tI r)) 6 rfl pv) hne, ee_dix (room_u1 hr) (s8 _ _ hT6) hz (ee_var 3 rfl rfl) (EE.ky (ee_var (P := Dt K (tI r)) 6 rfl pv) hne)⟩⟩
      · obtain ⟨l, rfl, h0, hl1⟩ := pv
        have a7 := e7.st _ _ (upd_same (H := S6) (a := a) (o := .ins C dx [("width", .int (n : Nat))]))
        have i8 := (i6.step e7).put (o := .ins C dx (prdF n l)) hSa
        have lne : l ≠ a := fun e => by subst e; rw [upd_same] at h0; cases h0
        have hH6 : (upd H6 a (.ins C dx [("width", .int (n : Nat))])) l = none := gr_none e7 h0 hl1 (by intro xs z; cases z)
        have hHl : H l = none := by
          cases e : H l with
          | none => rfl
          | some u =>
            have := i6.hh l u lne e
            rw [hH6] at this; cases this
        have hl8 : (upd H7 a (.ins C dx (prdF n l))) l = some (.dT (kvM (mpG (norm gs)))) := by rw [upd_ne lne]; exact e7.sub _ _ hl1
        refine hs_freeze hl8 True.intro fun o => hs_nil ?_
        have i9 := GrI.frz (o := .frz o (.dT (kvM (mpG (norm gs))))) i8 (s.free hHl) hHl lne
        exact q l _ _ i9 (s.free hHl) ⟨a, dx, rfl, by rw [upd_ne (Ne.symm lne), upd_same], o, upd_same⟩
/-! ## Product: what is read of it -/
section
variable {C : Addr} {n : Nat} {gs : List Grp}
theorem PrdP.ins : ∀ v S, PrdP C n gs v S → ∃ a dx fs, v = .ref a ∧ S a = some (.ins C dx fs) := fun v S ⟨l, a, dx, e, h, _⟩ => ⟨a, dx, _, e, h⟩
theorem PrdP.wid : ∀ v S1, PrdP C n gs v S1 → ∃ a dx fs u, v = .ref a ∧ S1 a = some (.ins C dx fs) ∧ fs.lookup ("width" : Str) = some u ∧ Dt K (.int (n : Nat)) u S1 := fun v S ⟨l, a, dx, e, h, _⟩ => ⟨a, dx, _, _, e, h, rfl, .int _⟩
theorem PrdP.pow : ∀ v S1, PrdP C n gs v S1 → ∃ a dx fs u, v = .ref a ∧ S1 a = some (.ins C dx fs) ∧ fs.lookup ("_powers" : Str) = some u ∧ DcV (mpG gs) u S1 := fun v S ⟨l, a, dx, e, h, h2⟩ => ⟨a, dx, _, _, e, h, rfl, l, rfl, h2⟩
theorem PrdP.insP {m : Str} (h : ∀ l, (prdF n l).lookup m = none := by intro _; rfl) : InsP C m (PrdP C n gs) := fun v S ⟨l, a, dx, e, q, _⟩ => ⟨a, dx, _, e, q, h l⟩
end
/-- Product is made -/
structure MkP (P : Program) (w : World) (K : PySem.W.Frag) (mg : Str → Option Value) (base : Heap) (C : Addr) : Prop where
  ex : ∃ fi fdi ps dv, Mk K C fi ∧ FnOk P w K mg base CX0 3 fi fdi ps (spI C K (Fprd C)) ∧ Binds K fdi ps [] ∧ (∃ us, Vals [dv] us ∧ Binds K fdi ps us) ∧ (∀ S, Dt K (.tuple []) dv S) ∧ ∃ g gV, KBn K fdi ps 1 ["factors", "width"] g gV ∧ ∀ s v w, gV [s] [v, w] = [s, w, v]
section
variable {X : Cx} {σ : L2.St} {S : Hp} {C : Addr} {a b : Expr} {p pos q1 q2 : Pos} {n : Nat} {d : PyData} {gs : List Grp}
theorem ee_mkP (M : MkP X.prog X.w X.K X.mg X.base C) (hr : Room 4 X.A) (gS : X.mg "Product" = some (.ref C)) (ho : PrOk n gs) (hd : d = .list (gs.map pairD) ∨ d = .tuple (gs.map pairD)) (ha : EE X σ S a (Dt X.K (.int (n : Nat)))) (hb : EE X σ S b (Dt X.K d)) (hg : Gl X "Product" := by rfl)
    (he : starEach [a, b] X.env = (false, eval a X.env) :: starEach [b] X.env := by rfl) (he2 : starEach [b] X.env = (false, eval b X.env) :: starEach [] X.env := by rfl) (hpl : (backTo pos (starEach [b] X.env)).any (·.1) = false := by rfl) : EE X σ S (.Call (.Name "Product" p) [a, b] [] pos) (NewR (PrdL C n (norm gs)) S) := by
  obtain ⟨fi, fdi, ps', dv, m, G, b2, _⟩ := M.ex
  exact ee_make (ds := [.int (n : Nat), d]) (dd := []) m G hr gS b2 .nil (fun _ => .nil) (ea_2 ha hb he he2) ⟨n, d, gs, rfl, hd, ho, rfl⟩ hg (by decide) he hpl
theorem norm_nilP : norm [] = [] := List.eq_nil_of_length_eq_zero (by unfold norm rowsS srt; rw [List.length_map, List.length_mergeSort]; rfl)
theorem prOk_nil {n : Nat} (h1 : 1 ≤ n) (h3 : n ≤ 3) : PrOk n [] := ⟨h1, h3, by decide, by rw [norm_nilP]; decide, fun g hg => nomatch hg⟩
theorem ee_mkP1 (M : MkP X.prog X.w X.K X.mg X.base C) (hr : Room 4 X.A) (gS : X.mg "Product" = some (.ref C)) (h1 : 1 ≤ n) (h3 : n ≤ 3) (ha : EE X σ S a (Dt X.K (.int (n : Nat)))) (hg : Gl X "Product" := by rfl)
    (he : starEach [a] X.env = (false, eval a X.env) :: starEach [] X.env := by rfl) (hpl : (backTo pos (starEach [] X.env)).any (·.1) = false := by rfl) : EE X σ S (.Call (.Name "Product" p) [a] [] pos) (NewR (PrdL C n []) S) := by
  obtain ⟨fi, fdi, ps', dv, m, G, _, ⟨us, hu, b2⟩, hdv, _⟩ := M.ex
  exact ee_make (ds := [.int (n : Nat)]) (dd := [.tuple []]) m G hr gS b2 hu (fun S => Dts.cons (hdv S) .nil) (ea_1 ha he) ⟨n, .tuple [], [], rfl, .inr rfl, prOk_nil h1 h3, by rw [norm_nilP]⟩ hg (by decide) he hpl
end
/-! ### factors, power, in, len, bool, repr -/
def PrdW (n : Nat) (gs : List Grp) : Prop := gs.length ≤ 12 ∧ ∀ g ∈ gs, g.2.length = n
theorem PrdW.z {n : Nat} {gs : List Grp} (h : PrdW n gs) (h3 : n ≤ 3) : ∀ q ∈ mpG gs, q.1.length ≤ sizeLine := fun q hq => by
  obtain ⟨g, hg, rfl⟩ := List.mem_map.mp hq
  have := h.2 g hg
  show g.2.length ≤ 16777216
  omega
def spPfa (K : PySem.W.Frag) (C : Addr) : Sp := fun vs H Q _ => ∃ S n gs v, vs = [v] ∧ Same S H ∧ PrdP C n gs v S ∧ PrdW n gs ∧ n ≤ 3 ∧ ∀ u S' H', Gr S H S' H' → NewL K S (gs.map pairD) u S' → Q u H'
theorem spPfa_E {K : PySem.W.Frag} {C : Addr} {S : Hp} {n : Nat} {gs : List Grp} (hw : PrdW n gs) (h3 : n ≤ 3) : SpE (spPfa K C) S [PrdP C n gs] (NewL K S (gs.map pairD)) := fun vs S1 H1 st s al Q q => by
  obtain ⟨v, rfl, pv⟩ := al.one
  exact ⟨S1, n, gs, v, rfl, s, pv, hw, h3, fun u S' H' g nn => q u S' H' g (nn.dn st)⟩
theorem sc_Pfactors : FnScope ["self"] ["self"] (defScope sProduct__factors) := ⟨rfl, rfl, rfl, by decide +kernel, rfl, by decide +kernel, by decide +kernel⟩
theorem ok_Pfactors {C : Addr} (F : FnM K "factors" "Product.factors" sProduct__factors f fd) (g1 : mg "list" = none) (c : Cls K C) (n2 : NoAttr K C "_powers") : FnOk P w K mg base CX0 1 f fd ["self"] (spPfa K C) := by
  refine fn_hs F sc_Pfactors (fun vs H Q E h => ?_) (fun cdv A outer sh H vs Q E hr h => ?_)
  · obtain ⟨S, n, gs, v, rfl, _⟩ := h
    rfl
  · obtain ⟨S, n, gs, v, rfl, s, pv, hw, h3, q⟩ := h
    exact hs_ret (ee_listIt (m := mpG gs) rfl g1 (hw.z h3) (ee_itv (ee_fld (ee_var 0 rfl pv) PrdP.pow c n2))) s fun u S' H' g nn => q u S' H' g (by rw [mpG_kvD] at nn; exact nn)
theorem eg_two {K : PySem.W.Frag} {d1 d2 : PyData} {v : V} {S : Hp} (h : Dt K (.tuple [d1, d2]) v S) : ∃ v1 v2, Dt K d1 v1 S ∧ Dt K d2 v2 S ∧ ∀ (X : Cx) (σ : L2.St) (i j : Nat) (x y : Str) (px py tp : Pos) (kk : Nat), X.K = K → X.calm = true → X.N.Nodup → X.N[i]? = some x → X.N[j]? = some y → Loc X.env.scope x → Loc X.env.scope y → (X.fn x = true ∨ X.env.scope.names.lookup x = some .local) → (X.fn y = true ∨ X.env.scope.names.lookup y = some .local) →
    (assignEach [.Name x px, .Name y py] X.env).length = 2 → (assignEach [.Name x px, .Name y py] X.env).findIdx? (·.1) = none → (assignEach [.Name x px, .Name y py] X.env).map (·.2) = assign (.Name x px) X.env :: (assignEach [.Name y py] X.env).map (·.2) → (assignEach [.Name y py] X.env).map (·.2) = assign (.Name y py) X.env :: (assignEach [] X.env).map (·.2) → EG X S (.Tuple [.Name x px, .Name y py] kk tp) v σ ((σ.set i (some v1)).set j (some v2)) := by
  obtain ⟨l, xs, rfl, hl, hx', _⟩ := Dt.tup_inv (ds := [d1, d2]) h
  obtain ⟨v1, e1, p1⟩ := hx'.get (i := 0) (d := d1) rfl
  obtain ⟨v2, e2, p2⟩ := hx'.get (i := 1) (d := d2) rfl
  have hxs : xs = [v1, v2] := by
    have hl2 := hx'.1
    match xs, hl2 with
    | [u, w], _ => simp at e1 e2; rw [e1, e2]
  subst hxs
  refine ⟨v1, v2, p1, p2, fun X σ i j x y px py tp kk hK hc hN hix hjy k1 k3 k2 k4 a1 a2 a3 a4 H s2 Q qq => ?_⟩
  subst hK
  exact hg_of (pg_tup hc (pgs_cons (pg_name hN hix k1 k2) (pgs_cons (pg_name hN hjy k3 k4) pgs_nil a4) a3) a1 a2) ⟨l, _, rfl, sqt_up s2 hl, rfl, _, _, rfl, _, _, rfl, rfl, qq⟩
end
end K23
namespace K23
open PySem PySem.Spec PyProof.Rows L2 Z Y
section
variable {P : Program} {w : World} {K : PySem.W.Frag} {mg : Str → Option Value} {base : Heap} {f : Addr} {fd : FuncData}
/-! ## the law's own exponents, factors, worths and texts -/
def ExpsOk (n : Nat) (m : Int) (es : List (List Int)) : Prop := es.Nodup ∧ ∀ e ∈ es, e.length = n ∧ ∀ x ∈ e, 0 ≤ x ∧ x ≤ m
def Fexps : List PyData → (PyData → Prop) → Prop := fun ds G => ∃ (n sz : Nat) (m : Int), ds = [.int n, .int m, .int sz] ∧ n ≤ 1000 ∧ 0 ≤ m ∧ m < 1000000 ∧ 1 ≤ sz ∧ sz ≤ 50 ∧ G = fun d => ∃ es : List (List Int), d = .list (es.map tI) ∧ es.length ≤ sz ∧ es ≠ [] ∧ ExpsOk n m es
abbrev NExps : List Str := ["_law_box", "_law_many", "_law_most", "_law_size", "_law_found", "_law_at", "_law_late"]
theorem scL_exps : FnScope NExps ["_law_box", "_law_many", "_law_most", "_law_size"] (defScope sL_exps) := ⟨rfl, rfl, rfl, by decide +kernel, rfl, by decide +kernel, by decide +kernel⟩
theorem ok_L_exps (F : FnT K "_law_exps" sL_exps f fd) (D1 : KD P w K mg base "_law_exp" 2 (spB K Fexp)) (g1 : mg "range" = none) : FnOk P w K mg base CX0 3 f fd ["_law_box", "_law_many", "_law_most", "_law_size"] (spB K Fexps) := by
  refine fn_hs F scL_exps (fun vs H Q E h => ?_) (fun cdv A outer sh H vs Q E hr h => ?_)
  · obtain ⟨S, v, ws, ds, G, rfl, _, _, hd, ⟨n, sz, m, rfl, _⟩, _⟩ := h
    have := hd.1
    simp at this
    simp [this]
  · obtain ⟨S, v, ws, ds, G, rfl, s, hb, hd, ⟨n, sz, m, rfl, hn, m0, m1, z1, z2, rfl⟩, q⟩ := h
    obtain ⟨v1, v2, v3, rfl, p1, p2, p3⟩ := hd.three
    refine hs_acc0 (i := 4) s scL_exps.nd fun l H1 a1 => ?_
    refine hs_forRE (W := fun k => k = sz) PassesOwn.never rfl g1 (fun k hk => by omega) ((ee_var 3 rfl p3).ex ⟨sz, rfl, rfl⟩) a1.g.sub fun k S2 H2 hk g2 => ?_
    subst hk
    refine ⟨fun i σ H' => ∃ (S' : Hp) (es : List (List Int)) (a5 a6 : Option V), Same S2 S' ∧ Acc K S H l (es.map tI) S' H' ∧ es.length ≤ i ∧ (0 < i → es ≠ []) ∧ ExpsOk n m es ∧ σ = [some v, some v1, some v2, some v3, some (.ref l), a5, a6], ⟨S2, [], none, none, Same.refl _, a1.gr g2, Nat.le_refl _, (fun h => absurd h (by omega)), ⟨List.nodup_nil, fun _ h => nomatch h⟩, rfl⟩, ?_, ?_⟩
    · rintro i σ1 H3 hi ⟨S3, es, a5, a6, s3, a3, hel, hne, ⟨hnd, hall⟩, rfl⟩
      refine (eg_name (S := S3) (i := 5) scL_exps.nd rfl (Or.inl rfl)) H3 a3.g.sub _ ?_
      have s03 := g2.st.trans s3
      refine hs_set (i := 6) (P := Ex K fun d => ∃ l : List Int, d = tI l ∧ l.length = n ∧ ∀ x ∈ l, 0 ≤ x ∧ x ≤ m) (ee_callBx D1 (hr.mono (by decide)) ⟨n, m, rfl, hn, m0, m1, rfl⟩ (ea_cons (ee_var 0 rfl (Mn.up s03 hb)) (ea_2 (ee_var 1 rfl (p1.up s03)) (ee_var 2 rfl (p2.up s03))))) a3.g.sub scL_exps.nd fun v6 S4 H4 g4 pe => ?_
      obtain ⟨_, ⟨e, rfl, he1, he2⟩, pe⟩ := pe
      have a4 := a3.gr g4
      obtain ⟨S5, G5, s5, pf, back⟩ := a4.full
      refine hs_if (k := !decide (e ∈ es)) ((et_notInD (room_u65 hr) (shaped_tI _) (shaped_tIs _) (ee_var 6 rfl (pe.up s5)) (ee_var 4 rfl pf)).is ?eb) G5.sub (fun hk S6 H6 g6 => ?_) (fun hk S6 H6 g6 => ?_)
      case eb => rw [any_tI]
      all_goals obtain ⟨a6', s6⟩ := back S6 H6 g6
      · have hm : ¬ e ∈ es := by simpa using hk
        refine hs_accApp a6' (by rw [List.length_map]; omega) (ee_var (P := fun w _ => w = .ref l) 4 rfl rfl) (ee_var 6 rfl (pe.up s6)) fun S7 H7 s7 a7 => hs_nil (hs_nil ?_)
        refine ⟨S7, es ++ [e], _, _, ((s3.trans g4.st).trans s6).trans s7, by rw [List.map_append]; exact a7, by rw [List.length_append]; simp; omega, (fun _ h => by simp at h), ⟨?_, fun e' he' => ?_⟩, rfl⟩
        · rw [List.nodup_append]
          exact ⟨hnd, by simp, fun a ha b hb' => by rw [List.mem_singleton.mp hb']; exact fun z => hm (z ▸ ha)⟩
        · rcases List.mem_append.mp he' with h | h
          · exact hall e' h
          · rw [List.mem_singleton.mp h]; exact ⟨he1, he2⟩
      · have hm : e ∈ es := by simpa using hk
        exact hs_nil (hs_nil ⟨_, es, _, _, (s3.trans g4.st).trans s6, a6', by omega, (fun _ h => by rw [h] at hm; cases hm), ⟨hnd, hall⟩, rfl⟩)
    · rintro σ1 H3 ⟨S3, es, a5, a6, s3, a3, hel, hne, hok, rfl⟩
      obtain ⟨S5, G5, s5, pf, _⟩ := a3.full
      exact hs_ret (ee_var 4 rfl pf) G5.sub fun r S' H' g pr => q _ ⟨es, rfl, hel, hne (by omega), hok⟩ r S' H' (G5.trans g) pr
/-- factors with different exponents, ascending -/
def PartsOk (n : Nat) (m hp : Int) (gs : List Grp) : Prop := norm gs = gs ∧ ∀ g ∈ gs, 1 ≤ g.1 ∧ g.1 ≤ hp ∧ g.2.length = n ∧ ∀ x ∈ g.2, 0 ≤ x ∧ x ≤ m
theorem prs_nodup : ∀ {gs : List Grp}, (gs.map (·.2)).Nodup → prs gs = gs := fun {gs} h => by
  unfold prs
  have hk : ∀ (hs : List Grp) (m : MapI), (keysM m ++ hs.map (·.2)).Nodup → keysM (accF m hs) = keysM m ++ hs.map (·.2) := fun hs => by
    induction hs with
    | nil => intro m _; simp [accF]
    | cons g hs ih =>
      intro m hm
      have e : accF m (g :: hs) = accF (putM m g.2 ((getM m g.2).getD 0 + g.1)) hs := rfl
      have hg : ¬ g.2 ∈ keysM m := fun hx => by
        rw [List.map_cons] at hm
        exact (List.nodup_append.mp hm).2.2 _ hx _ List.mem_cons_self rfl
      have hkp : keysM (putM m g.2 ((getM m g.2).getD 0 + g.1)) = keysM m ++ [g.2] := by rw [keys_put, if_neg hg]
      rw [e, ih _ (by rw [hkp, List.append_assoc]; exact hm), hkp, List.append_assoc]; rfl
  have e0 := hk gs [] (by simpa [keysM] using h)
  have e : keysM (accM gs) = gs.map (·.2) := by unfold accM; rw [e0]; simp [keysM]
  rw [e, List.map_map]
  refine (List.map_congr_left fun g hg => ?_).trans (List.map_id gs)
  show (totG gs g.2, g.2) = g
  have ht : totG gs g.2 = g.1 := by
    clear e hk e0
    induction gs with
    | nil => cases hg
    | cons x gs ih =>
      rw [List.map_cons, List.nodup_cons] at h
      unfold totG
      rw [List.map_cons, List.sum_cons]
      rcases List.mem_cons.mp hg with rfl | hg'
      · rw [if_pos rfl]
        have z : (gs.map fun y => if y.2 = g.2 then y.1 else 0).sum = 0 := by
          have key : ∀ l : List Grp, (∀ y ∈ l, y.2 ≠ g.2) → (l.map fun y => if y.2 = g.2 then y.1 else 0).sum = 0 := fun l => by
            induction l with
            | nil => intro _; rfl
            | cons y l ih2 => intro hy; rw [List.map_cons, List.sum_cons, if_neg (hy y List.mem_cons_self), ih2 fun w hw => hy w (List.mem_cons_of_mem _ hw)]; rfl
          exact key gs fun y hy e => h.1 (by rw [← e]; exact List.mem_map.mpr ⟨y, hy, rfl⟩)
        rw [z]; omega
      · have hne : x.2 ≠ g.2 := fun e => h.1 (by rw [e]; exact List.mem_map.mpr ⟨g, hg', rfl⟩)
        rw [if_neg hne]
        have := ih h.2 hg'
        unfold totG at this
        rw [this]; omega
  rw [ht]
def Fparts (none_ : Bool) : List PyData → (PyData → Prop) → Prop := fun ds G => ∃ (n sz : Nat) (m hp : Int), ds = [.int n, .int m, .int sz, .int hp] ∧ 1 ≤ n ∧ n ≤ 1000 ∧ 0 ≤ m ∧ m < 1000000 ∧ 1 ≤ sz ∧ sz ≤ 50 ∧ 1 ≤ hp ∧ hp < 1000000 ∧ G = fun d => ∃ gs : List Grp, d = .list (gs.map pairD) ∧ gs.length ≤ sz ∧ (none_ = false → gs ≠ []) ∧ PartsOk n m hp gs
theorem sortOk_pairsU {gs : List Grp} {u : Nat} (hu : u + 8 < cLine) : SortOk pairD gs u := by
  refine ⟨fun d hd d' hd' => ?_, .inl fun d hd => ?_, fun b hb => ?_⟩
  · obtain ⟨g, _, rfl⟩ := List.mem_map.mp hd
    obtain ⟨h, _, rfl⟩ := List.mem_map.mp hd'
    show PySem.W.alike (.tuple [.tuple (g.2.map .int), .int g.1]) (.tuple [.tuple (h.2.map .int), .int h.1]) = true
    simp [PySem.W.alike, PySem.W.alikeAll, alike_ints]
  · obtain ⟨g, _, rfl⟩ := List.mem_map.mp hd
    exact ⟨tI g.2, [.int g.1], rfl⟩
  · have := dep_ints b.2
    show u + 2 + PyData.depth (.tuple [.tuple (b.2.map .int), .int b.1]) < cLine
    simp [PyData.depth, PyData.depthAll]
    omega
abbrev NParts : List Str := ["_law_box", "_law_many", "_law_most", "_law_size", "_law_high_p", "_law_exp_z"]
theorem scL_parts : FnScope NParts ["_law_box", "_law_many", "_law_most", "_law_size", "_law_high_p"] (defScope sL_parts) := ⟨rfl, rfl, rfl, by decide +kernel, rfl, by decide +kernel, by decide +kernel⟩
theorem paired_parts {hp : Int} : ∀ {es : List (List Int)} {rs : List PyData}, Paired (fun d r => ∃ l k : PyData, r = .tuple [l, k] ∧ l = d ∧ ∃ i : Int, k = .int i ∧ 1 ≤ i ∧ i ≤ hp) (es.map tI) rs → ∃ gs : List Grp, rs = gs.map pairD ∧ gs.map (·.2) = es ∧ ∀ g ∈ gs, 1 ≤ g.1 ∧ g.1 ≤ hp
  | [], rs, h => by cases h; exact ⟨[], rfl, rfl, fun _ z => nomatch z⟩
  | e :: es, rs, h => by
    cases h with
    | cons a t =>
      obtain ⟨gs, rfl, h2, h3⟩ := paired_parts t
      obtain ⟨l, k, rfl, rfl, i, rfl, i1, i2⟩ := a
      exact ⟨(i, e) :: gs, rfl, by rw [List.map_cons, h2], fun g hg => by
        rcases List.mem_cons.mp hg with rfl | hg
        · exact ⟨i1, i2⟩
        · exact h3 g hg⟩
theorem ok_L_parts (F : FnT K "_law_parts" sL_parts f fd) (D0 : KD P w K mg base "_law_take" 1 (spB K Ftake)) (D1 : KD P w K mg base "_law_exps" 3 (spB K Fexps)) (g1 : mg "sorted" = none) : FnOk P w K mg base CX0 4 f fd ["_law_box", "_law_many", "_law_most", "_law_size", "_law_high_p"] (spB K (Fparts false)) := by
  refine fn_hs F scL_parts (fun vs H Q E h => ?_) (fun cdv A outer sh H vs Q E hr h => ?_)
  · obtain ⟨S, v, ws, ds, G, rfl, _, _, hd, ⟨n, sz, m, hp, rfl, _⟩, _⟩ := h
    have := hd.1
    simp at this
    simp [this]
  · obtain ⟨S, v, ws, ds, G, rfl, s, hb, hd, ⟨n, sz, m, hp, rfl, hn1, hn, m0, m1, z1, z2, h1, h2, rfl⟩, q⟩ := h
    obtain ⟨v1, v2, v3, v4, rfl, p1, p2, p3, p4⟩ : ∃ v1 v2 v3 v4, ws = [v1, v2, v3, v4] ∧ Dt K (.int n) v1 S ∧ Dt K (.int m) v2 S ∧ Dt K (.int sz) v3 S ∧ Dt K (.int hp) v4 S := by
      have hl := hd.1
      match ws, hl with
      | [a, b, c, d], _ => exact ⟨a, b, c, d, rfl, hd.2 0 a _ rfl rfl, hd.2 1 b _ rfl rfl, hd.2 2 c _ rfl rfl, hd.2 3 d _ rfl rfl⟩
    refine hs_ret (ee_sortLE (enc := pairD) (W := fun gs : List Grp => gs.length ≤ sz ∧ gs ≠ [] ∧ (gs.map (·.2)).Nodup ∧ ∀ g ∈ gs, 1 ≤ g.1 ∧ g.1 ≤ hp ∧ g.2.length = n ∧ ∀ x ∈ g.2, 0 ≤ x ∧ x ≤ m) g1 (fun gs _ => sortOk_pairsU (room_u8 hr)) ((ee_lcW (i := 5) (F := fun d r => ∃ l k : PyData, r = .tuple [l, k] ∧ l = d ∧ ∃ i : Int, k = .int i ∧ 1 ≤ i ∧ i ≤ hp) (W := fun ds => ∃ es : List (List Int), ds = es.map tI ∧ es.length ≤ sz ∧ es ≠ [] ∧ ExpsOk n m es) rfl scL_parts.nd (blkOk_by (N := NParts) (sc := defScope sL_parts) (by decide +kernel))
      (eiw_list ((ee_callBx D1 (hr.mono (by decide)) ⟨n, sz, m, rfl, hn, m0, m1, z1, z2, rfl⟩ (ea_cons (ee_var 0 rfl hb) (ea_cons (ee_var 1 rfl p1) (ea_2 (ee_var 2 rfl p2) (ee_var 3 rfl p3))))).exi fun d ⟨es, e, h⟩ => ⟨_, e, es, rfl, h⟩)) (fun ds ⟨es, e, hl, _⟩ => by rw [e, List.length_map]; show _ ≤ 16777216; omega) ?el).exi ?ex)) s ?fin
    case el =>
      rintro ds ⟨es, rfl, _⟩ d hd' w5 S2 s2 pw sh' H0 C cl fp
      obtain ⟨e, he, rfl⟩ := List.mem_map.mp hd'
      have pw : Dt K (tI e) w5 S2 := pw
      have hb2 : BX v S2 := Mn.up s2 hb
      have p42 : Dt K (.int hp) v4 S2 := p4.up s2
      refine EE.exi (F := fun d => ∃ d1 d2, d = .tuple [d1, d2] ∧ d1 = tI e ∧ ∃ i : Int, d2 = .int i ∧ 1 ≤ i ∧ i ≤ hp) ?_ ?_
      · refine ee_pairE ?_ ?_
        · exact (ee_var 5 rfl pw).ex rfl
        · refine EE.exi (F := fun d => ∃ i, d = .int i ∧ ∃ x y, x = 1 ∧ (0 ≤ y ∧ y < hp) ∧ i = x + y) ?_ ?_
          · refine ee_addE (F := fun i => i = 1) (G := fun i => 0 ≤ i ∧ i < hp) ?_ ?_
            · exact ee_int.ex ⟨1, rfl, rfl⟩
            · exact ee_callBx D0 (hr.mono (by decide)) ⟨hp, rfl, by omega, by omega, rfl⟩ (ea_2 (ee_var 0 rfl hb2) (ee_var 4 rfl p42))
          · rintro d ⟨i, rfl, x, y, rfl, hy, rfl⟩
            exact ⟨1 + y, rfl, by omega, by omega⟩
      · rintro d ⟨d1, d2, rfl, h1', h2'⟩
        exact ⟨d1, d2, rfl, h1', h2'⟩
    case ex =>
      rintro d ⟨rs, rfl, ds, ⟨es, rfl, hl, hne, hnd, hall⟩, hp'⟩
      obtain ⟨gs, rfl, e2, h3⟩ := paired_parts hp'
      have hlen : gs.length = es.length := by rw [← e2, List.length_map]
      refine ⟨gs, rfl, by omega, (fun e => hne (by rw [← e2, e]; rfl)), by rw [e2]; exact hnd, fun g hg => ?_⟩
      have := hall g.2 (by rw [← e2]; exact List.mem_map.mpr ⟨g, hg, rfl⟩)
      exact ⟨(h3 g hg).1, (h3 g hg).2, this.1, this.2⟩
    case fin =>
      rintro r S' H' g ⟨d, ⟨gs, rfl, hl, hne, hnd, hall⟩, pd⟩
      have e : srt pairD gs = norm gs := by
        have := put_norm gs
        rw [prs_nodup hnd] at this
        exact this
      rw [e] at pd
      refine q _ ⟨norm gs, rfl, by have := norm_len gs; omega, (fun _ e' => hne ?_), ⟨norm_norm gs, fun x hx => ?_⟩⟩ r S' H' g pd
      · cases gs with
        | nil => rfl
        | cons g0 gs =>
          have : g0.2 ∈ (norm (g0 :: gs)).map (·.2) := by rw [mem_norm_rows]; exact List.mem_map.mpr ⟨g0, List.mem_cons_self, rfl⟩
          rw [e'] at this; cases this
      · have hx' : x ∈ gs := by rw [← e] at hx; exact mem_srt.mp hx
        exact hall x hx'
theorem scL_sparts : FnScope ["_law_box", "_law_many", "_law_most", "_law_size", "_law_high_p"] ["_law_box", "_law_many", "_law_most", "_law_size", "_law_high_p"] (defScope sL_some_parts) := ⟨rfl, rfl, rfl, by decide +kernel, rfl, by decide +kernel, by decide +kernel⟩
theorem norm_nilG : norm ([] : List Grp) = [] := List.eq_nil_of_length_eq_zero (by have := norm_len ([] : List Grp); simp at this; simp [this])
theorem ok_L_sparts (F : FnT K "_law_some_parts" sL_some_parts f fd) (D0 : KD P w K mg base "_law_take" 1 (spB K Ftake)) (D1 : KD P w K mg base "_law_parts" 4 (spB K (Fparts false))) : FnOk P w K mg base CX0 5 f fd ["_law_box", "_law_many", "_law_most", "_law_size", "_law_high_p"] (spB K (Fparts true)) := by
  refine fn_hs F scL_sparts (fun vs H Q E h => ?_) (fun cdv A outer sh H vs Q E hr h => ?_)
  · obtain ⟨S, v, ws, ds, G, rfl, _, _, hd, ⟨n, sz, m, hp, rfl, _⟩, _⟩ := h
    have := hd.1
    simp at this
    simp [this]
  · obtain ⟨S, v, ws, ds, G, rfl, s, hb, hd, ⟨n, sz, m, hp, rfl, hn1, hn, m0, m1, z1, z2, h1, h2, rfl⟩, q⟩ := h
    obtain ⟨v1, v2, v3, v4, rfl, p1, p2, p3, p4⟩ : ∃ v1 v2 v3 v4, ws = [v1, v2, v3, v4] ∧ Dt K (.int n) v1 S ∧ Dt K (.int m) v2 S ∧ Dt K (.int sz) v3 S ∧ Dt K (.int hp) v4 S := by
      have hl := hd.1
      match ws, hl with
      | [a, b, c, d], _ => exact ⟨a, b, c, d, rfl, hd.2 0 a _ rfl rfl, hd.2 1 b _ rfl rfl, hd.2 2 c _ rfl rfl, hd.2 3 d _ rfl rfl⟩
    let G : PyData → Prop := fun d => ∃ gs : List Grp, d = .list (gs.map pairD) ∧ gs.length ≤ sz ∧ (true = false → gs ≠ []) ∧ PartsOk n m hp gs
    refine hs_ret (P := Ex K G) (ee_ifX (F := fun i => 0 ≤ i ∧ i < 8) (ee_callBx D0 (hr.mono (by decide)) ⟨8, rfl, by decide, by decide, rfl⟩ (ea_2 (ee_var 0 rfl hb) ee_int)) (fun S' s' => (ee_callBx D1 (hr.mono (by decide)) ⟨n, sz, m, hp, rfl, hn1, hn, m0, m1, z1, z2, h1, h2, rfl⟩ (ea_cons (ee_var 0 rfl (Mn.up s' hb)) (ea_cons (ee_var 1 rfl (p1.up s')) (ea_cons (ee_var 2 rfl (p2.up s')) (ea_2 (ee_var 3 rfl (p3.up s')) (ee_var 4 rfl (p4.up s'))))))).exi fun d ⟨gs, e, a, b, c⟩ => ⟨gs, e, a, (fun z => nomatch z), c⟩) (fun S' s' => (ee_lst (ds := []) ea_nil).ex ⟨[], rfl, Nat.zero_le _, (fun z => nomatch z), norm_nilG, fun _ z => nomatch z⟩)) s fun r S' H' g ⟨d, hd', pd⟩ => q d hd' r S' H' g pd
/-! ## claims -/
def clmF (s l h : V) : List (Str × V) := [("schema", s), ("low", l), ("high", h)]
def ClmP (K : PySem.W.Frag) (CC CS CP : Addr) (z : Str) (ps : Rules) (g1 g2 : List Grp) : V → Hp → Prop := fun v S => ∃ a dx s l h, v = .ref a ∧ S a = some (.ins CC dx (clmF s l h)) ∧ SchP K CS z ps s S ∧ PrdP CP z.cps.size g1 l S ∧ PrdP CP z.cps.size g2 h S
instance {K : PySem.W.Frag} {CC CS CP : Addr} {z : Str} {ps : Rules} {g1 g2 : List Grp} : Mn (ClmP K CC CS CP z ps g1 g2) := ⟨fun st ⟨a, dx, s, l, h, e, h0, h1, h2, h3⟩ => ⟨a, dx, s, l, h, e, st _ _ h0, Mn.up st h1, Mn.up st h2, Mn.up st h3⟩⟩
section
variable {K : PySem.W.Frag} {CC CS CP : Addr} {z : Str} {ps : Rules} {g1 g2 : List Grp}
theorem ClmP.ins : ∀ v S, ClmP K CC CS CP z ps g1 g2 v S → ∃ a dx fs, v = .ref a ∧ S a = some (.ins CC dx fs) := fun v S ⟨a, dx, s, l, h, e, h0, _⟩ => ⟨a, dx, _, e, h0⟩
theorem ClmP.sch : ∀ v S, ClmP K CC CS CP z ps g1 g2 v S → ∃ a dx fs u, v = .ref a ∧ S a = some (.ins CC dx fs) ∧ fs.lookup ("schema" : Str) = some u ∧ SchP K CS z ps u S := fun v S ⟨a, dx, s, l, h, e, h0, h1, _⟩ => ⟨a, dx, _, s, e, h0, rfl, h1⟩
theorem ClmP.low : ∀ v S, ClmP K CC CS CP z ps g1 g2 v S → ∃ a dx fs u, v = .ref a ∧ S a = some (.ins CC dx fs) ∧ fs.lookup ("low" : Str) = some u ∧ PrdP CP z.cps.size g1 u S := fun v S ⟨a, dx, s, l, h, e, h0, _, h2, _⟩ => ⟨a, dx, _, l, e, h0, rfl, h2⟩
theorem ClmP.high : ∀ v S, ClmP K CC CS CP z ps g1 g2 v S → ∃ a dx fs u, v = .ref a ∧ S a = some (.ins CC dx fs) ∧ fs.lookup ("high" : Str) = some u ∧ PrdP CP z.cps.size g2 u S := fun v S ⟨a, dx, s, l, h, e, h0, _, _, h3⟩ => ⟨a, dx, _, h, e, h0, rfl, h3⟩
end
def spICl (K : PySem.W.Frag) (CC CS CP : Addr) : Sp := fun vs H Q _ => ∃ S a dx s l h z ps g1 g2, vs = [.ref a, s, l, h] ∧ Same S H ∧ S a = none ∧ H a = some (.ins CC dx []) ∧ SchP K CS z ps s S ∧ PrdP CP z.cps.size g1 l S ∧ PrdP CP z.cps.size g2 h S ∧ ∀ S' H', GrI a S H S' H' → ClmP K CC CS CP z ps g1 g2 (.ref a) S' → Q .non H'
theorem spICl_mk {K : PySem.W.Frag} {CC CS CP : Addr} {S : Hp} {z : Str} {ps : Rules} {g1 g2 : List Grp} : MkSp (spICl K CC CS CP) CC S [SchP K CS z ps, PrdP CP z.cps.size g1, PrdP CP z.cps.size g2] (ClmP K CC CS CP z ps g1 g2) := fun vs S1 H1 a dx st s al ha hdx hne Q q => by
  obtain ⟨s0, l, h, rfl, p1, p2, p3⟩ := al.three
  exact ⟨S1, a, dx, s0, l, h, z, ps, g1, g2, rfl, mk_same s ha hdx hne, s.free ha, upd_same, p1, p2, p3, fun S' H' g r => ⟨rfl, q S' H' (mk_grI ha hdx hne g) r⟩⟩
theorem sc_Cinit : FnScope ["self", "schema", "low", "high", "product"] ["self", "schema", "low", "high"] (defScope sClaim____init__) := ⟨rfl, rfl, rfl, by decide +kernel, rfl, by decide +kernel, by decide +kernel⟩
section
variable {P : Program} {w : World} {K : PySem.W.Frag} {mg : Str → Option Value} {base : Heap} {f : Addr} {fd : FuncData} {CC CS CP CT : Addr}
theorem ok_Cinit (F : FunD K "__init__" "Claim.__init__" (defArgs sClaim____init__) (defBody sClaim____init__) (defScope sClaim____init__) [] [] f fd) (c : Cls K CC) (cP : Cls K CP) (cS : Cls K CS) (nS : NoAttr K CS "width") (nP : NoAttr K CP "width") (n1 : NoAttr K CC "schema") (n2 : NoAttr K CC "low") (n3 : NoAttr K CC "high") : FnOk P w K mg base CX0 1 f fd ["self", "schema", "low", "high"] (spICl K CC CS CP) := by
  refine fn_hs F sc_Cinit (fun vs H Q E h => ?_) (fun cdv A outer sh H vs Q E hr h => ?_)
  · obtain ⟨S, a, dx, s0, l, h, z, ps, g1, g2, rfl, _⟩ := h
    rfl
  · obtain ⟨S, a, dx, s0, l, h0, z, ps, g1, g2, rfl, s, ha, hHa, p1, p2, p3, q⟩ := h
    have i0 : GrI a S H (upd S a (.ins CC dx [])) H := GrI.start s ha hHa
    have p1' : SchP K CS z ps s0 (upd S a (.ins CC dx [])) := Mn.up i0.st p1
    have p2' : PrdP CP z.cps.size g1 l (upd S a (.ins CC dx [])) := Mn.up i0.st p2
    have p3' : PrdP CP z.cps.size g2 h0 (upd S a (.ins CC dx [])) := Mn.up i0.st p3
    have mnP : ∀ Q ∈ [PrdP CP z.cps.size g1, PrdP CP z.cps.size g2], Mn Q := fun Q hQ => by
      simp only [List.mem_cons, List.not_mem_nil, or_false] at hQ
      rcases hQ with rfl | rfl <;> infer_instance
    refine hs_for (Ps := [PrdP CP z.cps.size g1, PrdP CP z.cps.size g2]) (fun i σ S' => ∃ x4, σ = [some (.ref a), some s0, some l, some h0, x4]) PassesOwn.never rfl (ei_tupP mnP (ee_tupP (ea_2 (ee_var 2 rfl p2') (ee_var 3 rfl p3')))) i0.sub (fun S' H' g => ⟨none, rfl⟩) ?_ ?_
    · rintro i Pi σ1 S1 H1 x S2 H2 hP g1' ⟨x4, rfl⟩ g2' px
      refine (eg_name (i := 4) sc_Cinit.nd rfl (Or.inl rfl)) H2 g2'.sub _ ?_
      obtain ⟨gg, px⟩ : ∃ gg, PrdP CP z.cps.size gg x S2 := by
        match i, hP with
        | 0, hP => cases hP; exact ⟨_, px⟩
        | 1, hP => cases hP; exact ⟨_, px⟩
        | i + 2, hP => cases hP
      have ps2 : SchP K CS z ps s0 S2 := Mn.up (g1'.st.trans g2'.st) p1'
      exact hs_ifN ((et_neI (ee_fld (ee_var 4 rfl px) PrdP.wid cP nP) (ee_fld (ee_var 1 rfl ps2) SchP.wfld cS nS)).is (by simp)) g2'.sub fun S3 H3 g3 => hs_nil ⟨S3, g3, _, rfl⟩
    · rintro σ1 S1 H1 g1' ⟨x4, rfl⟩
      have i1 := i0.step g1'
      have h1 : H1 a = some (.ins CC dx []) := g1'.hh _ _ hHa
      haveI := mn_eq (v := s0)
      haveI := mn_eq (v := l)
      haveI := mn_eq (v := h0)
      refine hs_fld (P := fun w _ => w = s0) (r := a) (C := CC) (dx := dx) (fs := []) (ee_var 1 rfl rfl) i1.sub (fun S7 _ => ee_var 0 rfl rfl) h1 c n1 (by decide) fun v S2 H2 e2 pv e0 => ?_
      subst pv
      have i2 := (i1.step e2).put (o := .ins CC dx [("schema", v)]) ha
      refine hs_fld (P := fun w _ => w = l) (r := a) (C := CC) (dx := dx) (fs := [("schema", v)]) (ee_var 2 rfl rfl) i2.sub (fun S7 _ => ee_var 0 rfl rfl) upd_same c n2 (by show 1 < 1000; decide) fun v2 S3 H3 e3 pv e0 => ?_
      subst pv
      have i3 := (i2.step e3).put (o := .ins CC dx [("schema", v), ("low", v2)]) ha
      refine hs_fld (P := fun w _ => w = h0) (r := a) (C := CC) (dx := dx) (fs := [("schema", v), ("low", v2)]) (ee_var 3 rfl rfl) i3.sub (fun S7 _ => ee_var 0 rfl rfl) upd_same c n3 (by show 2 < 1000; decide) fun v3 S4 H4 e4 pv e0 => ?_
      subst pv
      have i4 := (i3.step e4).put (o := .ins CC dx (clmF v v2 v3)) ha
      exact hs_nil (q _ _ i4 ⟨a, dx, v, v2, v3, rfl, upd_same, Mn.up i4.st p1, Mn.up i4.st p2, Mn.up i4.st p3⟩)
/-- Claim(s, l, h) can be made -/
structure MkC (P : Program) (w : World) (K : PySem.W.Frag) (mg : Str → Option Value) (base : Heap) (CC CS CP : Addr) : Prop where
  ex : ∃ fi fdi ps, Mk K CC fi ∧ FnOk P w K mg base CX0 1 fi fdi ps (spICl K CC CS CP) ∧ Binds K fdi ps [] ∧ ∃ g gV, KBn K fdi ps 1 ["schema", "high", "low"] g gV ∧ ∀ s u v w, gV [s] [u, v, w] = [s, u, w, v]
end
section
variable {X : Cx} {σ : L2.St} {S : Hp} {a b c : Expr} {p pos q1 q2 q3 : Pos} {CC CS CP : Addr} {z : Str} {ps : Rules} {g1 g2 : List Grp}
theorem ee_mkC (M : MkC X.prog X.w X.K X.mg X.base CC CS CP) (hr : Room 2 X.A) (gC : X.mg "Claim" = some (.ref CC)) (ha : EE X σ S a (SchP X.K CS z ps)) (hb : EE X σ S b (PrdP CP z.cps.size g1)) (hc : EE X σ S c (PrdP CP z.cps.size g2)) (hg : Gl X "Claim" := by rfl)
    (he : starEach [a, b, c] X.env = (false, eval a X.env) :: starEach [b, c] X.env := by rfl) (he2 : starEach [b, c] X.env = (false, eval b X.env) :: starEach [c] X.env := by rfl) (he3 : starEach [c] X.env = (false, eval c X.env) :: starEach [] X.env := by rfl) (hpl : (backTo pos (starEach [b, c] X.env)).any (·.1) = false := by rfl) : EE X σ S (.Call (.Name "Claim" p) [a, b, c] [] pos) (ClmP X.K CC CS CP z ps g1 g2) := by
  obtain ⟨fi, fdi, ps', m, G, hb', _⟩ := M.ex
  exact ee_makeT m G hr gC hb' (ea_cons ha (ea_2 hb hc he2 he3) he) spICl_mk hg (by decide) he hpl
end
section
variable {K : PySem.W.Frag} {CS : Addr}
theorem cmp_SS {S : Hp} {z1 z2 : Str} {p1 p2 : Rules} : CmpP (spEqS K CS) S (SchP K CS z1 p1) (SchP K CS z2 p2) (decide (z1 = z2) && eqvR p1 p2) := fun v w S1 H1 st s pv pw Q q => ⟨S1, v, w, _, rfl, s, ⟨z1, p1, pv, .inl ⟨z2, p2, pw, rfl⟩⟩, q⟩
theorem notC_S {z : Str} {ps : Rules} : ∀ w S1, SchP K CS z ps w S1 → NotC K CS w S1 := fun w S1 h => by
  obtain ⟨a, dx, fs, e, h⟩ := SchP.ins w S1 h
  exact ⟨.inl ⟨a, dx, fs, e, h⟩⟩
end
def LcOk (z : Str) (g1 g2 : List Grp) : Prop := PrOk z.cps.size g1 ∧ PrOk z.cps.size g2
def spLc (K : PySem.W.Frag) (CC CS CP : Addr) : Sp := fun vs H Q _ => ∃ S z ps g1 g2 s l h, vs = [s, l, h] ∧ Same S H ∧ SchP K CS z ps s S ∧ Dt K (.list (g1.map pairD)) l S ∧ Dt K (.list (g2.map pairD)) h S ∧ LcOk z g1 g2 ∧ ∀ r S' H', Gr S H S' H' → ClmP K CC CS CP z ps (norm g1) (norm g2) r S' → Q r H'
theorem spLc_E {K : PySem.W.Frag} {CC CS CP : Addr} {S : Hp} {z : Str} {ps : Rules} {g1 g2 : List Grp} (ho : LcOk z g1 g2) : SpE (spLc K CC CS CP) S [SchP K CS z ps, Dt K (.list (g1.map pairD)), Dt K (.list (g2.map pairD))] (ClmP K CC CS CP z ps (norm g1) (norm g2)) := fun vs S1 H1 _ s al Q q => by
  obtain ⟨a, b, c, rfl, p1, p2, p3⟩ := al.three
  exact ⟨S1, z, ps, g1, g2, a, b, c, rfl, s, p1, p2, p3, ho, q⟩
theorem scL_cl : FnScope ["_law_schema_z", "_law_left", "_law_right"] ["_law_schema_z", "_law_left", "_law_right"] (defScope sL_claim) := ⟨rfl, rfl, rfl, by decide +kernel, rfl, by decide +kernel, by decide +kernel⟩
theorem ok_L_cl {P : Program} {w : World} {K : PySem.W.Frag} {mg : Str → Option Value} {base : Heap} {f : Addr} {fd : FuncData} {CC CS CP : Addr} (F : FnT K "_law_claim" sL_claim f fd) (MC : MkC P w K mg base CC CS CP) (MP : MkP P w K mg base CP) (gC : mg "Claim" = some (.ref CC)) (gP : mg "Product" = some (.ref CP)) (cS : Cls K CS) (nS : NoAttr K CS "width") : FnOk P w K mg base CX0 7 f fd ["_law_schema_z", "_law_left", "_law_right"] (spLc K CC CS CP) := by
  refine fn_hs F scL_cl (fun vs H Q E h => ?_) (fun cdv A outer sh H vs Q E hr h => ?_)
  · obtain ⟨S, z, ps, g1, g2, a, b, c, rfl, _⟩ := h
    rfl
  · obtain ⟨S, z, ps, g1, g2, a, b, c, rfl, s, p1, p2, p3, ⟨o1, o2⟩, q⟩ := h
    exact hs_ret (ee_mkC MC (hr.mono (by decide)) gC (ee_var 0 rfl p1) ((ee_mkP MP (hr.mono (by decide)) gP o1 (.inl rfl) (ee_fld (ee_var 0 rfl p1) SchP.wfld cS nS) (ee_var 1 rfl p2)).imp fun v S' h => newR_prd h) ((ee_mkP MP (hr.mono (by decide)) gP o2 (.inl rfl) (ee_fld (ee_var 0 rfl p1) SchP.wfld cS nS) (ee_var 2 rfl p3)).imp fun v S' h => newR_prd h)) s q
end
end K23
namespace K23
open PySem PySem.Spec PyProof.Rows L2 Z Y
section
variable {P : Program} {w : World} {K : PySem.W.Frag} {mg : Str → Option Value} {base : Heap} {f : Addr} {fd : FuncData}
/-! ## lists of claims, checked -/
/-- a claim, or a thing that is none -/
abbrev CIt := Option ((Str × Rules) × (List Grp × List Grp))
/-- no instance of the class at C: what it is stands in the heap -/
def NotI (K : PySem.W.Frag) (C : Addr) (v : V) (S : Hp) : Prop := (∀ T ∈ (["NoneType", "int", "str", "list", "tuple"] : List String), PySem.W.kitOne K (.type T) (.ref C) = some false) ∧
  (v = .non ∨ (∃ i, v = .int i) ∨ (∃ x, v = .str x) ∨ (∃ l ys, v = .ref l ∧ S l = some (.lst ys)) ∨ (∃ l ys, v = .ref l ∧ S l = some (.tup ys)) ∨ ∃ a D dx fs, v = .ref a ∧ S a = some (.ins D dx fs) ∧ Cls K D ∧ IsiC K D ∧ PySem.W.kitOne K (.ref D) (.ref C) = some false)
instance {K : PySem.W.Frag} {C : Addr} : Mn (NotI K C) := ⟨fun s ⟨hk, h⟩ => ⟨hk, by
  rcases h with h | h | h | ⟨l, ys, e, h⟩ | ⟨l, ys, e, h⟩ | ⟨a, D, dx, fs, e, h, r⟩
  · exact .inl h
  · exact .inr (.inl h)
  · exact .inr (.inr (.inl h))
  · exact .inr (.inr (.inr (.inl ⟨l, ys, e, s _ _ h⟩)))
  · exact .inr (.inr (.inr (.inr (.inl ⟨l, ys, e, s _ _ h⟩))))
  · exact .inr (.inr (.inr (.inr (.inr ⟨a, D, dx, fs, e, s _ _ h, r⟩))))⟩⟩
theorem NotI.ty {K : PySem.W.Frag} {C : Addr} {v : V} {S H : Hp} (h : NotI K C v S) (s : Same S H) : ∃ t, TyX K H v t ∧ PySem.W.kitOne K t (.ref C) = some false := by
  obtain ⟨hk, h⟩ := h
  rcases h with rfl | ⟨i, rfl⟩ | ⟨x, rfl⟩ | ⟨l, ys, rfl, h⟩ | ⟨l, ys, rfl, h⟩ | ⟨a, D, dx, fs, rfl, h, c, J, e⟩
  · exact ⟨_, .base .non, hk "NoneType" (by decide)⟩
  · exact ⟨_, .base (.int i), hk "int" (by decide)⟩
  · exact ⟨_, .base (.str x), hk "str" (by decide)⟩
  · exact ⟨_, .base (.lst (s _ _ h)), hk "list" (by decide)⟩
  · exact ⟨_, .base (.tup (s _ _ h)), hk "tuple" (by decide)⟩
  · exact ⟨_, .base (.ins (s _ _ h) c J.cls J.sp J.tk J.ob), e⟩
def CItP (K : PySem.W.Frag) (CC CS CP : Addr) : CIt → V → Hp → Prop
  | some r => ClmP K CC CS CP r.1.1 r.1.2 r.2.1 r.2.2
  | none => NotI K CC
instance citP_mn {K : PySem.W.Frag} {CC CS CP : Addr} {it : CIt} : Mn (CItP K CC CS CP it) := by
  cases it with
  | none => exact inferInstanceAs (Mn (NotI K CC))
  | some r => exact inferInstanceAs (Mn (ClmP K CC CS CP r.1.1 r.1.2 r.2.1 r.2.2))
/-- claims as they are: these very things -/
def itPs (K : PySem.W.Frag) (CC CS CP : Addr) (xs : List V) (its : List CIt) : List (V → Hp → Prop) := List.zipWith (fun x it => PinP x (CItP K CC CS CP it)) xs its
theorem itPs_mn {K : PySem.W.Frag} {CC CS CP : Addr} {xs : List V} {its : List CIt} : ∀ P ∈ itPs K CC CS CP xs its, Mn P := fun P hP => by
  unfold itPs at hP
  obtain ⟨i, hi, rfl⟩ := List.mem_iff_getElem.mp hP
  rw [List.getElem_zipWith]
  infer_instance
theorem itPs_get {K : PySem.W.Frag} {CC CS CP : Addr} {xs : List V} {its : List CIt} {i : Nat} {P : V → Hp → Prop} (h : (itPs K CC CS CP xs its)[i]? = some P) : ∃ x it, xs[i]? = some x ∧ its[i]? = some it ∧ P = PinP x (CItP K CC CS CP it) := by
  unfold itPs at h
  rw [List.getElem?_zipWith] at h
  revert h
  cases hx : xs[i]? <;> cases hy : its[i]? <;> intro h <;> first | (cases h; done) | exact ⟨_, _, rfl, rfl, (Option.some.inj h).symm⟩
theorem itPs_at {K : PySem.W.Frag} {CC CS CP : Addr} {xs : List V} {its : List CIt} {i : Nat} {x : V} {it : CIt} (h1 : xs[i]? = some x) (h2 : its[i]? = some it) : (itPs K CC CS CP xs its)[i]? = some (PinP x (CItP K CC CS CP it)) := by
  unfold itPs
  rw [List.getElem?_zipWith, h1, h2]
theorem itPs_len {K : PySem.W.Frag} {CC CS CP : Addr} {xs : List V} {its : List CIt} (h : xs.length = its.length) : (itPs K CC CS CP xs its).length = its.length := by
  unfold itPs; rw [List.length_zipWith, h, Nat.min_self]
/-- what is handed over as claims -/
inductive CA where
  | odd (d : PyData)
  | seq (t : Bool) (xs : List V) (its : List CIt)
def CAP (K : PySem.W.Frag) (CC CS CP : Addr) : CA → V → Hp → Prop
  | .odd d => fun v S => Dt K d v S ∧ (isD d "list" || isD d "tuple") = false
  | .seq t xs its => fun v S => xs.length = its.length ∧ SqP K t (itPs K CC CS CP xs its) v S
instance cap_mn {K : PySem.W.Frag} {CC CS CP : Addr} {a : CA} : Mn (CAP K CC CS CP a) := by
  cases a with
  | odd d => exact ⟨fun s ⟨h, e⟩ => ⟨h.up s, e⟩⟩
  | seq t xs its => exact ⟨fun s ⟨e, h⟩ => ⟨e, (sqP_mn itPs_mn).up s h⟩⟩
def FstP (K : PySem.W.Frag) (CC CS CP : Addr) : Option (Str × Rules) → V → Hp → Prop
  | none => fun v _ => v = .non
  | some r => fun v S => ∃ g1 g2, ClmP K CC CS CP r.1 r.2 g1 g2 v S
instance fstP_mn {K : PySem.W.Frag} {CC CS CP : Addr} {r : Option (Str × Rules)} : Mn (FstP K CC CS CP r) := by
  cases r with
  | none => exact ⟨fun _ h => h⟩
  | some r => exact ⟨fun s ⟨g1, g2, h⟩ => ⟨g1, g2, Mn.up s h⟩⟩
def schOf (it : CIt) : Str × Rules := match it with
  | some r => r.1
  | none => (Str.empty, [])
def neSch (r : Str × Rules) (it : CIt) : Bool := !(decide ((schOf it).1 = r.1) && eqvR (schOf it).2 r.2)
def refOf (f : Option (Str × Rules)) (its : List CIt) : Str × Rules := match f with
  | some r => r
  | none => match its with
    | it :: _ => schOf it
    | [] => (Str.empty, [])
/-- what check_claims says: none, or the kind (true: InvalidClaim, false: WrongSchema) and the place -/
def chkC (least : Nat) (f : Option (Str × Rules)) : CA → Option (Bool × Int)
  | .odd _ => some (true, -1)
  | .seq _ _ its => if ¬ (least ≤ its.length ∧ its.length ≤ 4) then some (true, -1) else
    match its.findIdx? (fun it => it.isNone) with
    | some i => some (true, (i : Int))
    | none => (its.findIdx? (neSch (refOf f its))).map fun i => (false, (i : Int))
theorem chk_bad {least : Nat} {f : Option (Str × Rules)} {t : Bool} {xs : List V} {its : List CIt} (h : ¬ (least ≤ its.length ∧ its.length ≤ 4)) : chkC least f (.seq t xs its) = some (true, -1) := by
  show (if ¬ (least ≤ its.length ∧ its.length ≤ 4) then some (true, (-1 : Int)) else _) = _
  rw [if_pos h]
theorem chk_none {least : Nat} {f : Option (Str × Rules)} {t : Bool} {xs : List V} {its : List CIt} {i : Nat} (h : least ≤ its.length ∧ its.length ≤ 4) (hf : its.findIdx? (fun it => it.isNone) = some i) : chkC least f (.seq t xs its) = some (true, (i : Int)) := by
  show (if ¬ (least ≤ its.length ∧ its.length ≤ 4) then some (true, (-1 : Int)) else _) = _
  rw [if_neg (fun k => k h), hf]
theorem chk_all {least : Nat} {f : Option (Str × Rules)} {t : Bool} {xs : List V} {its : List CIt} (h : least ≤ its.length ∧ its.length ≤ 4) (hf : its.findIdx? (fun it => it.isNone) = none) : chkC least f (.seq t xs its) = (its.findIdx? (neSch (refOf f its))).map fun i => (false, (i : Int)) := by
  show (if ¬ (least ≤ its.length ∧ its.length ≤ 4) then some (true, (-1 : Int)) else _) = _
  rw [if_neg (fun k => k h), hf]
def kOf (kI kW : EK) (b : Bool) : EK := if b = true then kI else kW
def spChk (K : PySem.W.Frag) (CC CS CP : Addr) (kI kW : EK) : Sp := fun vs H Q E => ∃ S a, ∃ least : Nat, ∃ f v u w, vs = [v, u, w] ∧ Same S H ∧ CAP K CC CS CP a v S ∧ Dt K (.int (least : Nat)) u S ∧ FstP K CC CS CP f w S ∧
  ((chkC least f a = none ∧ ∀ S' H', Gr S H S' H' → Q .non H') ∨ ∃ b i, chkC least f a = some (b, i) ∧ XErr K (kOf kI kW b) (.int i) S H E)
theorem sc_check_claims : FnScope ["claims", "least", "first", "at", "claim"] ["claims", "least", "first"] (defScope scheck_claims) := ⟨rfl, rfl, rfl, by decide +kernel, rfl, by decide +kernel, by decide +kernel⟩
theorem findIdx_none {α : Type} {p : α → Bool} {l : List α} (h : l.findIdx? p = none) : ∀ (i : Nat) (x : α), l[i]? = some x → p x = false := fun i x hx => by
  have := List.findIdx?_eq_none_iff.mp h x (List.mem_of_getElem? hx)
  simpa using this
theorem tyX_sq {K : PySem.W.Frag} {S H : Hp} {t : Bool} {Ps : List (V → Hp → Prop)} {v : V} (s : Same S H) (h : SqP K t Ps v S) : TyX K H v (.type (if t = true then "tuple" else "list")) := by
  obtain ⟨l, xs, rfl, hl, _⟩ := h
  cases t with
  | false => exact .base (.lst (s _ _ hl))
  | true =>
    rcases hl with (h | ⟨o, h⟩) | ⟨o, its, n, h1, h2, _⟩
    · exact .base (.tup (s _ _ h))
    · exact .fTuple (s _ _ h)
    · exact .kTuple h1 h2
/-- at, x from a pair of a place and a thing -/
theorem eg_enP {X : Cx} {σ : L2.St} {S : Hp} {v1 v2 : V} {l : Addr} {i j : Nat} {x y : Str} {px py pos : Pos} {kk : Nat} (hc : X.calm = true) (hN : X.N.Nodup) (hi : X.N[i]? = some x) (hj : X.N[j]? = some y) (hx : Loc X.env.scope x) (hy : Loc X.env.scope y) (hl : S l = some (.tup [v1, v2]))
    (hfx : X.fn x = true ∨ X.env.scope.names.lookup x = some .local := by first | exact .inl rfl | exact .inr rfl) (hfy : X.fn y = true ∨ X.env.scope.names.lookup y = some .local := by first | exact .inl rfl | exact .inr rfl)
    (hn : (assignEach [.Name x px, .Name y py] X.env).length = 2 := by rfl) (hst : (assignEach [.Name x px, .Name y py] X.env).findIdx? (·.1) = none := by rfl)
    (q1 : (assignEach [.Name x px, .Name y py] X.env).map (·.2) = assign (.Name x px) X.env :: (assignEach [.Name y py] X.env).map (·.2) := by rfl) (q2 : (assignEach [.Name y py] X.env).map (·.2) = assign (.Name y py) X.env :: (assignEach [] X.env).map (·.2) := by rfl) :
    EG X S (.Tuple [.Name x px, .Name y py] kk pos) (.ref l) σ ((σ.set i (some v1)).set j (some v2)) := fun H s Q q =>
  hg_of (pg_tup hc (pgs_cons (pg_name hN hi hx hfx) (pgs_cons (pg_name hN hj hy hfy) pgs_nil q2) q1) hn hst) ⟨l, _, rfl, sqt_up s (sqt_of hl), rfl, _, _, rfl, _, _, rfl, rfl, q⟩
theorem isi_sq {K : PySem.W.Frag} {t : Bool} {Ps : List (V → Hp → Prop)} : ∀ v S1 H1, Same S1 H1 → SqP K t Ps v S1 → ∃ ty k1 k2, TyX K H1 v ty ∧ PySem.W.kitOne K ty (.type "list") = some k1 ∧ PySem.W.kitOne K ty (.type "tuple") = some k2 ∧ true = (k1 || k2) := fun v S1 H1 s1 p => by
  have h := tyX_sq s1 p
  cases t with
  | false => exact ⟨_, true, false, h, kit_ty (by decide +kernel), kit_ty (by decide +kernel), rfl⟩
  | true => exact ⟨_, false, true, h, kit_ty (by decide +kernel), kit_ty (by decide +kernel), rfl⟩
theorem isi_citS {K : PySem.W.Frag} {CC CS CP : Addr} (c : Cls K CC) (J : IsiC K CC) {it : CIt} : ∀ v S1 H1, Same S1 H1 → CItP K CC CS CP it v S1 → ∃ t, TyX K H1 v t ∧ PySem.W.kitOne K t (.ref CC) = some it.isSome := fun v S1 H1 s1 p => by
  cases it with
  | none => exact p.ty s1
  | some r =>
    obtain ⟨a, dx, s0, l, h0, rfl, e, _⟩ := p
    exact ⟨.ref CC, .base (.ins (s1 _ _ e) c J.cls J.sp J.tk J.ob), by unfold PySem.W.kitOne; simp⟩
theorem enP_get {Ps : List (V → Hp → Prop)} {i : Nat} {P : V → Hp → Prop} (h : (Ps.mapIdx EnP)[i]? = some P) : ∃ Q, Ps[i]? = some Q ∧ P = EnP i Q := by
  rw [List.getElem?_mapIdx] at h
  cases hq : Ps[i]? with
  | none => rw [hq] at h; cases h
  | some Q => rw [hq] at h; cases h; exact ⟨Q, rfl, rfl⟩
section
variable {P : Program} {w : World} {K : PySem.W.Frag} {mg : Str → Option Value} {base : Heap} {f0 : Addr} {fd : FuncData} {CC CS CP : Addr} {kI kW : EK}
theorem ok_check_claims (F : FnT K "check_claims" scheck_claims f0 fd) (RI : Err P w K mg base "InvalidClaim" kI.C "at" kI.code) (hI : kI.fn = some "at") (RS : Err P w K mg base "WrongSchema" kW.C "at" kW.code) (hS : kW.fn = some "at") (DS : KM P w K mg base CS "__eq__" 1 (spEqS K CS)) (NS : NeC K CS) (g1 : mg "isinstance" = none) (g2 : mg "list" = none) (g3 : mg "tuple" = none) (g4 : mg "len" = none) (g5 : mg "enumerate" = none) (gM : ∃ t, mg "MOST_CLAIMS" = some (.int 4 t)) (gC : mg "Claim" = some (.ref CC)) (c : Cls K CC) (J : IsiC K CC) (n1 : NoAttr K CC "schema") : FnOk P w K mg base (L2.CX P w) 3 f0 fd ["claims", "least", "first"] (spChk K CC CS CP kI kW) := by
  refine fn_hsX F sc_check_claims (fun vs H Q E h => ?_) (fun cdv A outer sh H vs Q E hr h tk => ?_)
  · obtain ⟨S, a, least, f, v, u, w, rfl, _⟩ := h
    rfl
  · obtain ⟨S, a, least, f, v, u, w0, rfl, s, pv, pu, pw, hb⟩ := h
    have bad : chkC least f a = some (true, -1) → XErr K kI (.int (-1)) S H E := fun hc => by
      rcases hb with ⟨hn, _⟩ | ⟨b, i, he, hx⟩
      · rw [hn] at hc; cases hc
      · rw [hc] at he
        cases he
        exact hx
    cases a with
    | odd d =>
      obtain ⟨pd, ho⟩ := pv
      refine hs_ifT ((et_w (ew_or (k2 := true) (et_not (et_val (ee_isiLT rfl g1 g2 g3 (ee_var 0 rfl pd)))) fun h => ?_)).is (by simp)) s fun S1 H1 e1 => hs_raise1 rfl tk RI hI (by decide) (hr.mono (by decide)) (ee_neg ee_int) e1.sub ((bad rfl).up e1)
      rw [ho] at h; cases h
    | seq t xs its =>
      obtain ⟨hlen, pv⟩ := pv
      have hPl := itPs_len (K := K) (CC := CC) (CS := CS) (CP := CP) hlen
      have mnP := itPs_mn (K := K) (CC := CC) (CS := CS) (CP := CP) (xs := xs) (its := its)
      haveI : Mn (SqP K t (itPs K CC CS CP xs its)) := sqP_mn mnP
      obtain ⟨tM, gM⟩ := gM
      have hif : ET (cxOf (L2.CX P w) P w K mg base ["claims", "least", "first", "at", "claim"] "check_claims" (defScope scheck_claims) f0 cdv A outer sh H E) [some v, some u, some w0, none, none] S (match defBody scheck_claims with | .If c _ _ _ :: _ => c | _ => .Constant .none 0 ⟨0, 0, 0, 0⟩) (!decide (least ≤ its.length ∧ its.length ≤ 4)) := by
        refine ET.is (et_w (ew_or (et_not (et_val (ee_isiLTP (k := true) g1 g2 g3 (ee_var 0 rfl pv) isi_sq))) fun _ => ew_or1 (et_not (et_chainLE (ee_var 1 rfl pu) (ee_lenSq mnP g4 (ee_var 0 rfl pv) hPl) (ee_globI gM))))) ?_
        have e1 : ((least : Nat) : Int) ≤ ((its.length : Nat) : Int) ↔ least ≤ its.length := by omega
        have e2 : ((its.length : Nat) : Int) ≤ 4 ↔ its.length ≤ 4 := by omega
        simp only [e1, e2]
        by_cases h1 : least ≤ its.length <;> by_cases h2 : its.length ≤ 4 <;> simp [h1, h2]
      by_cases hok : least ≤ its.length ∧ its.length ≤ 4
      case neg =>
        refine hs_ifT (hif.is (by rw [decide_eq_false hok]; rfl)) s fun S1 H1 e1 => hs_raise1 rfl tk RI hI (by decide) (hr.mono (by decide)) (ee_neg ee_int) e1.sub ((bad (chk_bad hok)).up e1)
      refine hs_ifN (hif.is (by rw [decide_eq_true hok]; rfl)) s fun S1 H1 e1 => ?_
      have pv1 : SqP K t (itPs K CC CS CP xs its) v S1 := Mn.up e1.st pv
      refine hs_for (fun i σ S2 => (∃ a3 a4, σ = [some v, some u, some w0, a3, a4]) ∧ ∀ j it, j < i → its[j]? = some it → it.isNone = false) (passes_of rfl) rfl (ei_enumSq mnP g5 (ee_var 0 rfl pv1)) e1.sub (fun S2 H2 g3 => ⟨⟨none, none, rfl⟩, fun j it h => absurd h (Nat.not_lt_zero _)⟩) ?_ ?_
      · rintro i Pi σ1 S2 H2 x S3 H3 hP g3 ⟨⟨a3, a4, rfl⟩, hall⟩ g4 px
        obtain ⟨Q0, hQ, rfl⟩ := enP_get hP
        obtain ⟨x0, it, hx0, hit, rfl⟩ := itPs_get hQ
        obtain ⟨l, y, rfl, hl, py⟩ := px
        refine (eg_enP (i := 3) (j := 4) rfl sc_check_claims.nd rfl rfl (Or.inl rfl) (Or.inl rfl) hl) H3 g4.sub _ ?_
        have g13 := (e1.trans g3).trans g4
        cases hn : it.isNone with
        | true =>
          refine hs_ifT ((et_not (et_val (ee_isiO (Pa := CItP K CC CS CP it) (k := it.isSome) g1 gC (ee_var 4 rfl py.2) (isi_citS c J)))).is (by cases it <;> first | rfl | cases hn)) g4.sub fun S4 H4 e4 => ?_
          have hfi : its.findIdx? (fun it => it.isNone) = some i := by
            rw [List.findIdx?_eq_some_iff_getElem]
            have hi : i < its.length := (List.getElem?_eq_some_iff.mp hit).1
            refine ⟨hi, ?_, fun j hj => ?_⟩
            · have := (List.getElem?_eq_some_iff.mp hit).2
              rw [this]; exact hn
            · have := hall j _ hj (List.getElem?_eq_getElem (by omega))
              simp [this]
          have hc : chkC least f (.seq t xs its) = some (true, (i : Int)) := chk_none hok hfi
          rcases hb with ⟨hz, _⟩ | ⟨b, i', he, hx⟩
          · rw [hz] at hc; cases hc
          · rw [hc] at he
            cases he
            exact hs_raise1 rfl tk RI hI (by decide) (hr.mono (by decide)) (ee_var (P := Dt K (.int (i : Nat))) 3 rfl (.int _)) e4.sub (hx.up (g13.trans e4))
        | false =>
          refine hs_ifN ((et_not (et_val (ee_isiO (Pa := CItP K CC CS CP it) (k := it.isSome) g1 gC (ee_var 4 rfl py.2) (isi_citS c J)))).is (by cases it <;> first | rfl | cases hn)) g4.sub fun S4 H4 e4 => hs_nil ⟨S4, e4, ⟨_, _, rfl⟩, fun j it' hj hj2 => ?_⟩
          rcases Nat.lt_or_ge j i with h | h
          · exact hall j it' h hj2
          · obtain rfl : j = i := by omega
            rw [hit] at hj2
            cases hj2
            exact hn
      · rintro σ1 S2 H2 g3 ⟨⟨a3, a4, rfl⟩, hall⟩
        rw [List.length_mapIdx, hPl] at hall
        have hfi : its.findIdx? (fun it => it.isNone) = none := by
          rw [List.findIdx?_eq_none_iff]
          intro it hit
          obtain ⟨j, hj, rfl⟩ := List.mem_iff_getElem.mp hit
          exact hall j _ hj (List.getElem?_eq_getElem hj)
        have hcc : chkC least f (.seq t xs its) = (its.findIdx? (neSch (refOf f its))).map fun i => (false, (i : Int)) := chk_all hok hfi
        have g12 := e1.trans g3
        have pv2 : SqP K t (itPs K CC CS CP xs its) v S2 := Mn.up g12.st pv
        have pw2 : FstP K CC CS CP f w0 S2 := Mn.up g12.st pw
        refine hs_for (fun i σ S3 => (∃ a3 a4, σ = [some v, some u, some w0, a3, a4]) ∧ ∀ j it, j < i → its[j]? = some it → neSch (refOf f its) it = false) (passes_of rfl) rfl (ei_enumSq mnP g5 (ee_var 0 rfl pv2)) g3.sub (fun S3 H3 g3 => ⟨⟨a3, a4, rfl⟩, fun j it h => absurd h (Nat.not_lt_zero _)⟩) ?_ ?_
        · rintro i Pi σ1 S3 H3 x S4 H4 hP g5 ⟨⟨a5, a6, rfl⟩, hall2⟩ g6 px
          obtain ⟨Q0, hQ, rfl⟩ := enP_get hP
          obtain ⟨x0, it, hx0, hit, rfl⟩ := itPs_get hQ
          obtain ⟨l, y, rfl, hl, py⟩ := px
          refine (eg_enP (i := 3) (j := 4) rfl sc_check_claims.nd rfl rfl (Or.inl rfl) (Or.inl rfl) hl) H4 g6.sub _ ?_
          have g24 := g5.trans g6
          have g14 := g12.trans g24
          have hi : i < its.length := (List.getElem?_eq_some_iff.mp hit).1
          obtain ⟨r, rfl⟩ : ∃ r, it = some r := by
            have := hall i it hi hit
            cases it with
            | none => cases this
            | some r => exact ⟨r, rfl⟩
          have pv4 : SqP K t (itPs K CC CS CP xs its) v S4 := Mn.up g14.st pv
          have pw4 : FstP K CC CS CP f w0 S4 := Mn.up g14.st pw
          have py4 : ClmP K CC CS CP r.1.1 r.1.2 r.2.1 r.2.2 y S4 := py.2
          let X2 := cxOf (L2.CX P w) P w K mg base ["claims", "least", "first", "at", "claim"] "check_claims" (defScope scheck_claims) f0 cdv A outer sh H E
          let σ2 : L2.St := [some v, some u, some w0, some (.int (i : Nat)), some y]
          have href : ∃ b1 b2, EE X2 σ2 S4 (match defBody scheck_claims with | _ :: _ :: .For _ _ (.If (.Compare _ _ [.Attribute e _ _] _) _ _ _ :: _) _ _ :: _ => e | _ => .Constant .none 0 ⟨0, 0, 0, 0⟩) (ClmP K CC CS CP (refOf f its).1 (refOf f its).2 b1 b2) := by
            cases f with
            | none =>
              obtain ⟨x1, it1, h1, h2⟩ : ∃ x1 it1, xs[0]? = some x1 ∧ its[0]? = some it1 := ⟨xs[0], its[0], List.getElem?_eq_getElem (by omega), List.getElem?_eq_getElem (by omega)⟩
              obtain ⟨r1, rfl⟩ : ∃ r1, it1 = some r1 := by
                have := hall 0 it1 (by omega) h2
                cases it1 with
                | none => cases this
                | some r => exact ⟨r, rfl⟩
              have er : refOf none its = r1.1 := by
                cases its with
                | nil => cases h2
                | cons a l => cases h2; rfl
              rw [er]
              refine ⟨r1.2.1, r1.2.2, ee_if (k := true) ((et_isN (ee_var (P := fun w _ => w = .non) 2 rfl pw4)).is rfl) (fun _ => ?_) (fun h => nomatch h)⟩
              exact (ee_ixSq (i := 0) mnP (itPs_at h1 h2) (ee_var 0 rfl pv4) ee_int).imp fun _ _ h => h.2
            | some r0 =>
              obtain ⟨b1, b2, pw5⟩ := pw4
              refine ⟨b1, b2, ee_if (k := false) ((et_isN (ee_var (P := fun w _ => w = w0) 2 rfl rfl)).is ?_) (fun h => nomatch h) (fun _ => ee_var 2 rfl pw5)⟩
              obtain ⟨a, dx, s1, l1, h1, rfl, _⟩ := pw5
              rfl
          obtain ⟨b1, b2, href⟩ := href
          cases hn : neSch (refOf f its) (some r) with
          | true =>
            refine hs_ifT ((et_neO (X := X2) (σ := σ2) (S := S4) (Pa := SchP K CS r.1.1 r.1.2) (Pb := SchP K CS (refOf f its).1 (refOf f its).2) (bo := (decide (r.1.1 = (refOf f its).1) && eqvR r.1.2 (refOf f its).2)) DS NS (hr.mono (by decide)) (ee_fld (ee_var 4 rfl py4) ClmP.sch c n1) (ee_fld href ClmP.sch c n1) (fun w S1 h => SchP.ins w S1 h) notC_S cmp_SS).is hn) g6.sub fun S5 H5 e5 => ?_
            have hfi2 : its.findIdx? (neSch (refOf f its)) = some i := by
              rw [List.findIdx?_eq_some_iff_getElem]
              refine ⟨hi, ?_, fun j hj => ?_⟩
              · have := (List.getElem?_eq_some_iff.mp hit).2
                rw [this]; exact hn
              · have := hall2 j _ hj (List.getElem?_eq_getElem (by omega))
                simp [this]
            rw [hfi2] at hcc
            rcases hb with ⟨hz, _⟩ | ⟨b, i', he, hx⟩
            · rw [hz] at hcc; cases hcc
            · rw [hcc] at he
              cases he
              exact hs_raise1 rfl tk RS hS (by decide) (hr.mono (by decide)) (ee_var (P := Dt K (.int (i : Nat))) 3 rfl (.int _)) e5.sub (hx.up (g14.trans e5))
          | false =>
            refine hs_ifN ((et_neO (X := X2) (σ := σ2) (S := S4) (Pa := SchP K CS r.1.1 r.1.2) (Pb := SchP K CS (refOf f its).1 (refOf f its).2) (bo := (decide (r.1.1 = (refOf f its).1) && eqvR r.1.2 (refOf f its).2)) DS NS (hr.mono (by decide)) (ee_fld (ee_var 4 rfl py4) ClmP.sch c n1) (ee_fld href ClmP.sch c n1) (fun w S1 h => SchP.ins w S1 h) notC_S cmp_SS).is hn) g6.sub fun S5 H5 e5 => hs_nil ⟨S5, e5, ⟨_, _, rfl⟩, fun j it' hj hj2 => ?_⟩
            rcases Nat.lt_or_ge j i with h | h
            · exact hall2 j it' h hj2
            · obtain rfl : j = i := by omega
              rw [hit] at hj2
              cases hj2
              exact hn
        · rintro σ1 S3 H3 g5 ⟨_, hall2⟩
          rw [List.length_mapIdx, hPl] at hall2
          have hfi2 : its.findIdx? (neSch (refOf f its)) = none := by
            rw [List.findIdx?_eq_none_iff]
            intro it hit
            obtain ⟨j, hj, rfl⟩ := List.mem_iff_getElem.mp hit
            exact hall2 j _ hj (List.getElem?_eq_getElem hj)
          rw [hfi2] at hcc
          rcases hb with ⟨_, q⟩ | ⟨b, i', he, hx⟩
          · exact hs_nil (q _ _ (g12.trans g5))
          · rw [hcc] at he; cases he
end
end
end K23
namespace K23
open PySem PySem.Spec PyProof.Rows L2 Z Y
section
variable {P : Program} {w : World} {K : PySem.W.Frag} {mg : Str → Option Value} {base : Heap} {f : Addr} {fd : FuncData}
/-! ## Verdict -/
/-- a claim's columns and facts, and its two sides -/
abbrev CR := (Str × Rules) × (List Grp × List Grp)
def verF (c p : V) : List (Str × V) := [("_claims", c), ("_premises", p)]
/-- a verdict over these very claims and premises -/
def VerV (CV : Addr) (xs ys : List V) : V → Hp → Prop := fun v S => ∃ a dx l1 l2, v = .ref a ∧ S a = some (.ins CV dx (verF (.ref l1) (.ref l2))) ∧ S l1 = some (.lst xs) ∧ S l2 = some (.lst ys)
instance {CV : Addr} {xs ys : List V} : Mn (VerV CV xs ys) := ⟨fun s ⟨a, dx, l1, l2, e, h0, h1, h2⟩ => ⟨a, dx, l1, l2, e, s _ _ h0, s _ _ h1, s _ _ h2⟩⟩
/-- the same, its own objects new -/
def VerQ (CV : Addr) (S0 : Hp) (xs ys : List V) : V → Hp → Prop := fun v S => ∃ a dx l1 l2, v = .ref a ∧ S0 a = none ∧ S0 l1 = none ∧ S0 l2 = none ∧ S a = some (.ins CV dx (verF (.ref l1) (.ref l2))) ∧ S l1 = some (.lst xs) ∧ S l2 = some (.lst ys)
instance {CV : Addr} {S0 : Hp} {xs ys : List V} : Mn (VerQ CV S0 xs ys) := ⟨fun s ⟨a, dx, l1, l2, e, n0, n1, n2, h0, h1, h2⟩ => ⟨a, dx, l1, l2, e, n0, n1, n2, s _ _ h0, s _ _ h1, s _ _ h2⟩⟩
theorem VerQ.v {CV : Addr} {S0 : Hp} {xs ys : List V} {v : V} {S : Hp} (h : VerQ CV S0 xs ys v S) : VerV CV xs ys v S := let ⟨a, dx, l1, l2, e, _, _, _, h0, h1, h2⟩ := h; ⟨a, dx, l1, l2, e, h0, h1, h2⟩
theorem VerQ.del {CV : Addr} {S0 : Hp} {xs ys : List V} {v : V} {S : Hp} {l : Addr} {o : HO} (hl : S0 l = some o) (h : VerQ CV S0 xs ys v S) : VerQ CV S0 xs ys v (Y.del S l) := by
  obtain ⟨a, dx, l1, l2, e, n0, n1, n2, h0, h1, h2⟩ := h
  have ne : ∀ z, S0 z = none → z ≠ l := fun z hz e => by subst e; rw [hz] at hl; cases hl
  exact ⟨a, dx, l1, l2, e, n0, n1, n2, by rw [Y.del_ne (ne _ n0)]; exact h0, by rw [Y.del_ne (ne _ n1)]; exact h1, by rw [Y.del_ne (ne _ n2)]; exact h2⟩
theorem VerV.ins {CV : Addr} {xs ys : List V} : ∀ v S, VerV CV xs ys v S → ∃ a dx fs, v = .ref a ∧ S a = some (.ins CV dx fs) := fun v S ⟨a, dx, l1, l2, e, h0, _⟩ => ⟨a, dx, _, e, h0⟩
theorem VerV.insP {CV : Addr} {xs ys : List V} {m : Str} (hm : ∀ c p, (verF c p).lookup m = none := by intro _ _; rfl) : InsP CV m (VerV CV xs ys) := fun v S ⟨a, dx, l1, l2, e, h0, _⟩ => ⟨a, dx, _, e, h0, hm _ _⟩
theorem VerV.clm {CV : Addr} {xs ys : List V} : ∀ v S, VerV CV xs ys v S → ∃ a dx fs u, v = .ref a ∧ S a = some (.ins CV dx fs) ∧ fs.lookup ("_claims" : Str) = some u ∧ Pins xs u S := fun v S ⟨a, dx, l1, l2, e, h0, h1, _⟩ => ⟨a, dx, _, .ref l1, e, h0, rfl, l1, rfl, h1⟩
theorem VerV.prm {CV : Addr} {xs ys : List V} : ∀ v S, VerV CV xs ys v S → ∃ a dx fs u, v = .ref a ∧ S a = some (.ins CV dx fs) ∧ fs.lookup ("_premises" : Str) = some u ∧ Pins ys u S := fun v S ⟨a, dx, l1, l2, e, h0, _, h2⟩ => ⟨a, dx, _, .ref l2, e, h0, rfl, l2, rfl, h2⟩
/-- a list of these very things is told as claims -/
theorem pins_lst {K : PySem.W.Frag} {CC CS CP : Addr} {xs : List V} {its : List CIt} {v : V} {S : Hp} (hl : xs.length = its.length) (al : Al (itPs K CC CS CP xs its) xs S) (h : Pins xs v S) : LstP (itPs K CC CS CP xs its) v S := let ⟨l, e, h1⟩ := h; ⟨l, xs, e, h1, al⟩
theorem itPs_pin {K : PySem.W.Frag} {CC CS CP : Addr} {S : Hp} : ∀ {xs ys : List V} {its : List CIt}, xs.length = its.length → Al (itPs K CC CS CP xs its) ys S → ys = xs
  | [], ys, [], _, h => by cases h; rfl
  | x :: xs, ys, it :: its, hl, h => by
    cases h with
    | cons p h => rw [p.1, itPs_pin (by simpa using hl) h]
def PinsN (S0 : Hp) (xs : List V) (v : V) (S : Hp) : Prop := ∃ l, v = .ref l ∧ S0 l = none ∧ S l = some (.lst xs)
instance {S0 : Hp} {xs : List V} : Mn (PinsN S0 xs) := ⟨fun s ⟨l, e, n, h⟩ => ⟨l, e, n, s _ _ h⟩⟩
theorem PinsN.p {S0 : Hp} {xs : List V} {v : V} {S : Hp} (h : PinsN S0 xs v S) : Pins xs v S := let ⟨l, e, _, h⟩ := h; ⟨l, e, h⟩
theorem PinsN.dn {S0 S1 : Hp} {xs : List V} {v : V} {S : Hp} (s : Same S0 S1) (h : PinsN S1 xs v S) : PinsN S0 xs v S := let ⟨l, e, n, h⟩ := h; ⟨l, e, s.free n, h⟩
section
variable {X : Cx} {σ : L2.St} {S : Hp} {a : Expr} {p pos : Pos} {CC CS CP : Addr}
theorem ee_listPin {xs : List V} (hm : X.mg "list" = none) (ha : EE X σ S a (Pins xs)) (hg : Gl X "list" := by rfl)
    (hs : starEach [a] X.env = (false, eval a X.env) :: starEach [] X.env := by rfl) : EE X σ S (.Call (.Name "list" p) [a] [] pos) (PinsN S xs) :=
  ee_callTy call_list_of hm boot_list (ea_1 ha hs) (fun vs S1 H1 st s al Q q => by
    obtain ⟨v, rfl, l, rfl, h⟩ := al.one
    exact ⟨l, xs, rfl, .inl (sql_of (s _ _ h)), fun t ht => q _ _ _ (Gr.new s ht) ⟨t, rfl, st.free (s.free ht), upd_same⟩⟩) hg (he := hs) (hpl := by rfl)
theorem ee_listSqN {xs : List V} {its : List CIt} {t : Bool} (hl : xs.length = its.length) (hm : X.mg "list" = none) (ha : EE X σ S a (SqP X.K t (itPs X.K CC CS CP xs its))) (hg : Gl X "list" := by rfl)
    (hs : starEach [a] X.env = (false, eval a X.env) :: starEach [] X.env := by rfl) : EE X σ S (.Call (.Name "list" p) [a] [] pos) (PinsN S xs) :=
  (ee_listSq itPs_mn hm ha hg hs).imp fun v S' ⟨l, ys, e, n, h1, al⟩ => by
    have := itPs_pin hl al
    subst this
    exact ⟨l, e, n, h1⟩
end
/-! ### the promise of __init__ -/
def okV (xs ys : List V) (t1 t2 : Bool) (is js : List CIt) : Prop := chkC 1 none (.seq t1 xs is) = none ∧ chkC 0 (some (refOf none is)) (.seq t2 ys js) = none
def spIV (K : PySem.W.Frag) (CV CC CS CP : Addr) : Sp := fun vs H Q _ => ∃ S a dx u1 u2 t1 t2 xs ys is js, vs = [.ref a, u1, u2] ∧ Same S H ∧ S a = none ∧ H a = some (.ins CV dx []) ∧ CAP K CC CS CP (.seq t1 xs is) u1 S ∧ CAP K CC CS CP (.seq t2 ys js) u2 S ∧ okV xs ys t1 t2 is js ∧ ∀ S' H', GrI a S H S' H' → VerQ CV S xs ys (.ref a) S' → Q .non H'
theorem spIV_mk {K : PySem.W.Frag} {CV CC CS CP : Addr} {S : Hp} {t1 t2 : Bool} {xs ys : List V} {is js : List CIt} (ho : okV xs ys t1 t2 is js) : MkSp (spIV K CV CC CS CP) CV S [CAP K CC CS CP (.seq t1 xs is), CAP K CC CS CP (.seq t2 ys js)] (VerQ CV S xs ys) := fun vs S1 H1 a dx st s al ha hdx hne Q q => by
  obtain ⟨u1, u2, rfl, p1, p2⟩ := al.two
  refine ⟨S1, a, dx, u1, u2, t1, t2, xs, ys, is, js, rfl, mk_same s ha hdx hne, s.free ha, upd_same, p1, p2, ho, fun S' H' g r => ⟨rfl, q S' H' (mk_grI ha hdx hne g) ?_⟩⟩
  obtain ⟨a, dx, l1, l2, e, n0, n1, n2, h0, h1, h2⟩ := r
  exact ⟨a, dx, l1, l2, e, st.free n0, st.free n1, st.free n2, h0, h1, h2⟩
def spChkC (K : PySem.W.Frag) (CC CS CP : Addr) : Sp := fun vs H Q _ => ∃ S a, ∃ least : Nat, ∃ f v u w, vs = [v, u, w] ∧ Same S H ∧ CAP K CC CS CP a v S ∧ Dt K (.int (least : Nat)) u S ∧ FstP K CC CS CP f w S ∧ chkC least f a = none ∧ ∀ S' H', Gr S H S' H' → Q .non H'
theorem spChkC_of {K : PySem.W.Frag} {CC CS CP : Addr} {kI kW : EK} : ∀ vs H Q E, spChkC K CC CS CP vs H Q E → spChk K CC CS CP kI kW vs H Q (fun _ _ _ => False) := fun vs H Q E ⟨S, a, least, f, v, u, w, e, s, p1, p2, p3, hn, q⟩ => ⟨S, a, least, f, v, u, w, e, s, p1, p2, p3, .inl ⟨hn, q⟩⟩
theorem spChkC_E {K : PySem.W.Frag} {CC CS CP : Addr} {S : Hp} {a : CA} {least : Nat} {f : Option (Str × Rules)} (hn : chkC least f a = none) : SpE (spChkC K CC CS CP) S [CAP K CC CS CP a, Dt K (.int (least : Nat)), FstP K CC CS CP f] (fun v _ => v = .non) := fun vs S1 H1 _ s al Q q => by
  obtain ⟨v, u, w, rfl, p1, p2, p3⟩ := al.three
  exact ⟨S1, a, least, f, v, u, w, rfl, s, p1, p2, p3, hn, fun S' H' g => q _ S' H' g rfl⟩
theorem chk_fst {t : Bool} {xs : List V} {is : List CIt} (h : chkC 1 none (.seq t xs is) = none) : 1 ≤ is.length ∧ is.length ≤ 4 ∧ (∀ (i : Nat) (it : CIt), is[i]? = some it → it.isNone = false) := by
  by_cases hc : 1 ≤ is.length ∧ is.length ≤ 4
  · refine ⟨hc.1, hc.2, ?_⟩
    cases hf : is.findIdx? (fun it => it.isNone) with
    | some i => rw [chk_none hc hf] at h; cases h
    | none => exact findIdx_none hf
  · rw [chk_bad hc] at h; cases h
theorem sc_Vinit : FnScope ["self", "claims", "premises"] ["self", "claims", "premises"] (defScope sVerdict____init__) := ⟨rfl, rfl, rfl, by decide +kernel, rfl, by decide +kernel, by decide +kernel⟩
section
variable {P : Program} {w : World} {K : PySem.W.Frag} {mg : Str → Option Value} {base : Heap} {f : Addr} {fd : FuncData} {CV CC CS CP : Addr} {dvs : List V}
theorem fst_ix {X : Cx} {σ : L2.St} {S : Hp} {a : Expr} {pos p2 : Pos} {t : Bool} {xs : List V} {is : List CIt} (hl : xs.length = is.length) (h : 1 ≤ is.length) (hs : ∀ (i : Nat) (it : CIt), is[i]? = some it → it.isNone = false) (ha : EE X σ S a (SqP X.K t (itPs X.K CC CS CP xs is))) : EE X σ S (.Subscript a (.Constant (.int 0) 0 p2) pos) (FstP X.K CC CS CP (some (refOf none is))) := by
  obtain ⟨x, it, h1, h2⟩ : ∃ x it, xs[0]? = some x ∧ is[0]? = some it := ⟨xs[0], is[0], List.getElem?_eq_getElem (by omega), List.getElem?_eq_getElem (by omega)⟩
  obtain ⟨r, rfl⟩ : ∃ r, it = some r := by
    have := hs 0 it h2
    cases it with
    | none => cases this
    | some r => exact ⟨r, rfl⟩
  have er : refOf none is = r.1 := by
    cases is with
    | nil => cases h2
    | cons a l => cases h2; rfl
  rw [er]
  exact (ee_ixSq (i := 0) itPs_mn (itPs_at h1 h2) ha ee_int).imp fun _ _ h => ⟨r.2.1, r.2.2, h.2⟩
theorem ok_Vinit (F : FunD K "__init__" "Verdict.__init__" (defArgs sVerdict____init__) (defBody sVerdict____init__) (defScope sVerdict____init__) dvs [] f fd) (D1 : KD P w K mg base "check_claims" 3 (spChkC K CC CS CP)) (g2 : mg "list" = none) (c : Cls K CV) (n1 : NoAttr K CV "_claims") (n2 : NoAttr K CV "_premises") : FnOk P w K mg base CX0 4 f fd ["self", "claims", "premises"] (spIV K CV CC CS CP) := by
  refine fn_hs F sc_Vinit (fun vs H Q E h => ?_) (fun cdv A outer sh H vs Q E hr h => ?_)
  · obtain ⟨S, a, dx, u1, u2, t1, t2, xs, ys, is, js, rfl, _⟩ := h
    rfl
  · obtain ⟨S, a, dx, u1, u2, t1, t2, xs, ys, is, js, rfl, s, ha, hHa, p1, p2, ⟨ho1, ho2⟩, q⟩ := h
    obtain ⟨k1, k2, k3⟩ := chk_fst ho1
    have i0 : GrI a S H (upd S a (.ins CV dx [])) H := GrI.start s ha hHa
    have p1' : CAP K CC CS CP (.seq t1 xs is) u1 (upd S a (.ins CV dx [])) := Mn.up i0.st p1
    have p2' : CAP K CC CS CP (.seq t2 ys js) u2 (upd S a (.ins CV dx [])) := Mn.up i0.st p2
    refine hs_expr (ee_call D1 (hr.mono (by decide)) (ea_cons (ee_var 1 rfl p1') (ea_2 ee_int (EE.imp ee_non fun v S h => (by cases h; rfl : FstP K CC CS CP none v S)))) (spChkC_E (f := none) ho1)) i0.sub fun v1 S1 H1 g1 _ => ?_
    have p1a : CAP K CC CS CP (.seq t1 xs is) u1 S1 := Mn.up g1.st p1'
    have p2a : CAP K CC CS CP (.seq t2 ys js) u2 S1 := Mn.up g1.st p2'
    refine hs_expr (ee_call D1 (hr.mono (by decide)) (ea_cons (ee_var 2 rfl p2a) (ea_2 ee_int (fst_ix p1.1 k1 k3 (ee_var 1 rfl p1a.2)))) (spChkC_E (f := some (refOf none is)) ho2)) g1.sub fun v2 S2 H2 g2' _ => ?_
    have i2 := i0.step (g1.trans g2')
    have p1b : CAP K CC CS CP (.seq t1 xs is) u1 S2 := Mn.up g2'.st p1a
    have h2 : H2 a = some (.ins CV dx []) := (g1.trans g2').hh _ _ hHa
    refine hs_fld (r := a) (C := CV) (dx := dx) (fs := []) (ee_listSqN p1.1 g2 (ee_var 1 rfl p1b.2)) i2.sub (fun S7 _ => ee_var 0 rfl rfl) h2 c n1 (by decide) fun v3 S3 H3 e3 pv3 e0 => ?_
    obtain ⟨l1, rfl, nl1, hl1⟩ := pv3
    have hSa : (upd S a (.ins CV dx [])) a = some (.ins CV dx []) := upd_same
    have st02 : Same (upd S a (.ins CV dx [])) S2 := g1.st.trans g2'.st
    have hne1 : l1 ≠ a := fun e => by subst e; rw [st02 _ _ hSa] at nl1; cases nl1
    have nS1 : S l1 = none := by
      have := st02.free nl1
      rwa [upd_ne hne1] at this
    have i3 := (i2.step e3).put (o := .ins CV dx [("_claims", .ref l1)]) ha
    have p2c : CAP K CC CS CP (.seq t2 ys js) u2 (upd S3 a (.ins CV dx [("_claims", .ref l1)])) := Mn.up i3.st p2
    refine hs_fld (r := a) (C := CV) (dx := dx) (fs := [("_claims", .ref l1)]) (ee_listSqN p2c.1 g2 (ee_var 2 rfl p2c.2)) i3.sub (fun S7 _ => ee_var 0 rfl rfl) upd_same c n2 (by show 1 < 1000; decide) fun v4 S4 H4 e4 pv4 e0 => ?_
    obtain ⟨l2, rfl, nl2, hl2⟩ := pv4
    have hne2 : l2 ≠ a := fun e => by subst e; rw [upd_same] at nl2; cases nl2
    have nS2 : S l2 = none := i3.st.free nl2
    have hl1' : S4 l1 = some (.lst xs) := e4.st _ _ (by rw [upd_ne hne1]; exact hl1)
    have i4 := (i3.step e4).put (o := .ins CV dx (verF (.ref l1) (.ref l2))) ha
    exact hs_nil (q _ _ i4 ⟨a, dx, l1, l2, rfl, ha, nS1, nS2, upd_same, by rw [upd_ne hne1]; exact hl1', by rw [upd_ne hne2]; exact hl2⟩)
/-- Verdict(a, b) can be made -/
structure MkV (P : Program) (w : World) (K : PySem.W.Frag) (mg : Str → Option Value) (base : Heap) (CV CC CS CP : Addr) : Prop where
  ex : ∃ fi fdi ps, Mk K CV fi ∧ FnOk P w K mg base CX0 4 fi fdi ps (spIV K CV CC CS CP) ∧ Binds K fdi ps [] ∧ ∃ g gV, KBn K fdi ps 1 ["premises", "claims"] g gV ∧ ∀ s u v, gV [s] [u, v] = [s, v, u]
end
section
variable {X : Cx} {σ : L2.St} {S : Hp} {a b : Expr} {p pos q1 q2 : Pos} {CV CC CS CP : Addr} {t1 t2 : Bool} {xs ys : List V} {is js : List CIt}
theorem ee_mkV (M : MkV X.prog X.w X.K X.mg X.base CV CC CS CP) (hr : Room 5 X.A) (gV : X.mg "Verdict" = some (.ref CV)) (ho : okV xs ys t1 t2 is js) (ha : EE X σ S a (CAP X.K CC CS CP (.seq t1 xs is))) (hb : EE X σ S b (CAP X.K CC CS CP (.seq t2 ys js))) (hg : Gl X "Verdict" := by rfl)
    (he : starEach [a, b] X.env = (false, eval a X.env) :: starEach [b] X.env := by rfl) (he2 : starEach [b] X.env = (false, eval b X.env) :: starEach [] X.env := by rfl) (hpl : (backTo pos (starEach [b] X.env)).any (·.1) = false := by rfl) : EE X σ S (.Call (.Name "Verdict" p) [a, b] [] pos) (VerQ CV S xs ys) := by
  obtain ⟨fi, fdi, ps', m, G, hb', _⟩ := M.ex
  exact ee_makeT m G hr gV hb' (ea_2 ha hb he he2) (spIV_mk ho) hg (by decide) he hpl
theorem ee_mkVK (M : MkV X.prog X.w X.K X.mg X.base CV CC CS CP) (hr : Room 5 X.A) (gV : X.mg "Verdict" = some (.ref CV)) (ho : okV xs ys t1 t2 is js) (ha : EE X σ S a (CAP X.K CC CS CP (.seq t2 ys js))) (hb : EE X σ S b (CAP X.K CC CS CP (.seq t1 xs is))) (hg : Gl X "Verdict" := by rfl)
    (hall : (backToKw pos (keywordEach [⟨some "premises", a, q1⟩, ⟨some "claims", b, q2⟩] X.env)).all (·.1.isSome) = true := by rfl) (hks : (backToKw pos (keywordEach [⟨some "premises", a, q1⟩, ⟨some "claims", b, q2⟩] X.env)).filterMap (·.1) = (["premises", "claims"] : List Str) := by rfl)
    (hpl : ((backTo pos (starEach [] X.env)).any (·.1) || (backToKw pos (keywordEach [⟨some "premises", a, q1⟩, ⟨some "claims", b, q2⟩] X.env)).any (·.1.isNone)) = false := by rfl) : EE X σ S (.Call (.Name "Verdict" p) [] [⟨some "premises", a, q1⟩, ⟨some "claims", b, q2⟩] pos) (VerQ CV S xs ys) := by
  obtain ⟨fi, fdi, ps', m, G, _, g, gV', kb, hgV⟩ := M.ex
  exact ee_makeTK2 m G hr gV kb hgV ha hb (spIV_mk ho) hall hks (by decide) hpl hg
end
/-! ### the methods -/
section
variable {P : Program} {w : World} {K : PySem.W.Frag} {mg : Str → Option Value} {base : Heap} {f : Addr} {fd : FuncData} {CV CC CS CP : Addr}
def spVl (CV : Addr) (second : Bool) : Sp := fun vs H Q _ => ∃ S xs ys v, vs = [v] ∧ Same S H ∧ VerV CV xs ys v S ∧ ∀ u S' H', Gr S H S' H' → PinsN S (if second = true then ys else xs) u S' → Q u H'
theorem spVl_E {S : Hp} {second : Bool} {xs ys : List V} : SpE (spVl CV second) S [VerV CV xs ys] (PinsN S (if second = true then ys else xs)) := fun vs S1 H1 st s al Q q => by
  obtain ⟨v, rfl, pv⟩ := al.one
  exact ⟨S1, xs, ys, v, rfl, s, pv, fun u S' H' g nn => q u S' H' g (nn.dn st)⟩
theorem sc_Vcl : FnScope ["self"] ["self"] (defScope sVerdict__claims) := ⟨rfl, rfl, rfl, by decide +kernel, rfl, by decide +kernel, by decide +kernel⟩
theorem ok_Vcl (F : FnM K "claims" "Verdict.claims" sVerdict__claims f fd) (g1 : mg "list" = none) (c : Cls K CV) (n1 : NoAttr K CV "_claims") : FnOk P w K mg base CX0 1 f fd ["self"] (spVl CV false) := by
  refine fn_hs F sc_Vcl (fun vs H Q E h => ?_) (fun cdv A outer sh H vs Q E hr h => ?_)
  · obtain ⟨S, xs, ys, v, rfl, _⟩ := h
    rfl
  · obtain ⟨S, xs, ys, v, rfl, s, pv, q⟩ := h
    exact hs_ret (ee_listPin g1 (ee_fld (ee_var 0 rfl pv) VerV.clm c n1)) s q
theorem sc_Vpr : FnScope ["self"] ["self"] (defScope sVerdict__premises) := ⟨rfl, rfl, rfl, by decide +kernel, rfl, by decide +kernel, by decide +kernel⟩
theorem ok_Vpr (F : FnM K "premises" "Verdict.premises" sVerdict__premises f fd) (g1 : mg "list" = none) (c : Cls K CV) (n2 : NoAttr K CV "_premises") : FnOk P w K mg base CX0 1 f fd ["self"] (spVl CV true) := by
  refine fn_hs F sc_Vpr (fun vs H Q E h => ?_) (fun cdv A outer sh H vs Q E hr h => ?_)
  · obtain ⟨S, xs, ys, v, rfl, _⟩ := h
    rfl
  · obtain ⟨S, xs, ys, v, rfl, s, pv, q⟩ := h
    exact hs_ret (ee_listPin g1 (ee_fld (ee_var 0 rfl pv) VerV.prm c n2)) s q
/-- told, holds, bool: constants -/
def FVc (CV : Addr) (d : PyData) : (V → Hp → Prop) → List PyData → PyData → Prop := fun P0 ds r => ∃ xs ys, P0 = VerV CV xs ys ∧ ds = [] ∧ r = d
theorem sc_Vto : FnScope ["self"] ["self"] (defScope sVerdict__told) := ⟨rfl, rfl, rfl, by decide +kernel, rfl, by decide +kernel, by decide +kernel⟩
theorem ok_Vto (F : FnM K "told" "Verdict.told" sVerdict__told f fd) : FnOk P w K mg base CX0 1 f fd ["self"] (spO K (FVc CV (.str "open"))) := by
  refine fn_hs F sc_Vto (fun vs H Q E h => ?_) (fun cdv A outer sh H vs Q E hr h => ?_)
  · obtain ⟨S, P0, v, ws, ds, d, rfl, _, _, _, hd, ⟨_, _, _, rfl, _⟩, _⟩ := h
    have := hd.1
    simp at this
    simp [this]
  · obtain ⟨S, P0, v, ws, ds, r, rfl, s, m, pv, hd, ⟨xs, ys, rfl, rfl, rfl⟩, q⟩ := h
    obtain rfl : ws = [] := List.eq_nil_of_length_eq_zero hd.1
    exact hs_ret ee_str s q
theorem sc_Vho : FnScope ["self"] ["self"] (defScope sVerdict__holds) := ⟨rfl, rfl, rfl, by decide +kernel, rfl, by decide +kernel, by decide +kernel⟩
theorem ok_Vho (F : FnM K "holds" "Verdict.holds" sVerdict__holds f fd) : FnOk P w K mg base CX0 1 f fd ["self"] (spO K (FVc CV (.bool false))) := by
  refine fn_hs F sc_Vho (fun vs H Q E h => ?_) (fun cdv A outer sh H vs Q E hr h => ?_)
  · obtain ⟨S, P0, v, ws, ds, d, rfl, _, _, _, hd, ⟨_, _, _, rfl, _⟩, _⟩ := h
    have := hd.1
    simp at this
    simp [this]
  · obtain ⟨S, P0, v, ws, ds, r, rfl, s, m, pv, hd, ⟨xs, ys, rfl, rfl, rfl⟩, q⟩ := h
    obtain rfl : ws = [] := List.eq_nil_of_length_eq_zero hd.1
    exact hs_ret ee_bl s q
theorem sc_Vbo : FnScope ["self"] ["self"] (defScope sVerdict____bool__) := ⟨rfl, rfl, rfl, by decide +kernel, rfl, by decide +kernel, by decide +kernel⟩
theorem ok_Vbo (F : FnM K "__bool__" "Verdict.__bool__" sVerdict____bool__ f fd) : FnOk P w K mg base CX0 1 f fd ["self"] (spO K (FVc CV (.bool false))) := by
  refine fn_hs F sc_Vbo (fun vs H Q E h => ?_) (fun cdv A outer sh H vs Q E hr h => ?_)
  · obtain ⟨S, P0, v, ws, ds, d, rfl, _, _, _, hd, ⟨_, _, _, rfl, _⟩, _⟩ := h
    have := hd.1
    simp at this
    simp [this]
  · obtain ⟨S, P0, v, ws, ds, r, rfl, s, m, pv, hd, ⟨xs, ys, rfl, rfl, rfl⟩, q⟩ := h
    obtain rfl : ws = [] := List.eq_nil_of_length_eq_zero hd.1
    exact hs_ret ee_bl s q
theorem sc_Vre : FnScope ["self"] ["self"] (defScope sVerdict____repr__) := ⟨rfl, rfl, rfl, by decide +kernel, rfl, by decide +kernel, by decide +kernel⟩
theorem ok_Vre (F : FnM K "__repr__" "Verdict.__repr__" sVerdict____repr__ f fd) (D1 : KM P w K mg base CV "told" 1 (spO K (FVc CV (.str "open")))) (c : Cls K CV) : FnOk P w K mg base CX0 2 f fd ["self"] (spO K (FVc CV (.str "Verdict(open)"))) := by
  refine fn_hs F sc_Vre (fun vs H Q E h => ?_) (fun cdv A outer sh H vs Q E hr h => ?_)
  · obtain ⟨S, P0, v, ws, ds, d, rfl, _, _, _, hd, ⟨_, _, _, rfl, _⟩, _⟩ := h
    have := hd.1
    simp at this
    simp [this]
  · obtain ⟨S, P0, v, ws, ds, r, rfl, s, m, pv, hd, ⟨xs, ys, rfl, rfl, rfl⟩, q⟩ := h
    obtain rfl : ws = [] := List.eq_nil_of_length_eq_zero hd.1
    have e1 : Str.length ("open" : Str) = 4 := by decide +kernel
    have e2 : Str.length ("Verdict(" : Str) = 8 := by decide +kernel
    have e3 : Str.length (")" : Str) = 1 := by decide +kernel
    refine hs_ret (EE.isd (ee_joined (ys := [("Verdict(" : Str), ("open" : Str), (")" : Str)]) (.cons ee_str (.cons (ee_fmtS (by rw [e1]; show 4 ≤ 16777216; decide) (ee_meth0 D1 c hr (ee_var 0 rfl pv) VerV.insP (spO_E (F := FVc CV (.str "open")) (P0 := VerV CV xs ys) (ds := []) (d := .str "open") ⟨_, _, rfl, rfl, rfl⟩))) (.cons ee_str .nil))) ?_) (congrArg PyData.str (by decide +kernel))) s q
    simp only [List.map_cons, List.map_nil, List.sum_cons, List.sum_nil, e1, e2, e3]
    show _ ≤ 16777216
    omega
end
end
end K23
namespace K23
open PySem PySem.Spec PyProof.Rows L2 Z Y
section
variable {P : Program} {w : World} {K : PySem.W.Frag} {mg : Str → Option Value} {base : Heap} {f : Addr} {fd : FuncData}
/-! ## sums_of, small_sums, great_sums -/
def PG (CP : Addr) (a : Nat × List Grp) : V → Hp → Prop := PrdP CP a.1 a.2
instance {CP : Addr} {a : Nat × List Grp} : Mn (PG CP a) := inferInstanceAs (Mn (PrdP CP a.1 a.2))
def gsOf (as : List (Nat × List Grp)) : List Grp := as.flatMap fun a => a.2
/-- the exponents of products, ascending, each once -/
def sumsD (as : List (Nat × List Grp)) : List PyData := (rowsS (gsOf as)).map tI
def SumsOk (n : Nat) (as : List (Nat × List Grp)) : Prop := 1 ≤ n ∧ n ≤ 3 ∧ as.length ≤ 1000 ∧ (gsOf as).length < 63 ∧ ∀ a ∈ as, a.1 = n ∧ PrdW n a.2 ∧ ∀ g ∈ a.2, ∀ x ∈ g.2, 0 ≤ x ∧ x < 64
def expOf (d : PyData) : List Int := match d with
  | .tuple (.tuple xs :: _) => xs.map fun x => match x with
    | .int i => i
    | _ => 0
  | _ => []
theorem expOf_pair (g : Grp) : expOf (pairD g) = g.2 := by
  show ((g.2.map PyData.int).map fun x => match x with | .int i => i | _ => 0) = g.2
  rw [List.map_map]
  exact (List.map_congr_left fun x _ => rfl).trans (List.map_id _)
def spSums (K : PySem.W.Frag) (CP : Addr) : Sp := fun vs H Q _ => ∃ S as bs u v, ∃ n : Nat, vs = [u, v] ∧ Same S H ∧ LstP (as.map (PG CP)) u S ∧ LstP (bs.map (PG CP)) v S ∧ SumsOk n (as ++ bs) ∧ ∀ r S' H', Gr S H S' H' → NewL K S (sumsD (as ++ bs)) r S' → Q r H'
theorem spSums_E {K : PySem.W.Frag} {CP : Addr} {S : Hp} {as bs : List (Nat × List Grp)} {n : Nat} (ho : SumsOk n (as ++ bs)) : SpE (spSums K CP) S [LstP (as.map (PG CP)), LstP (bs.map (PG CP))] (NewL K S (sumsD (as ++ bs))) := fun vs S1 H1 st s al Q q => by
  obtain ⟨u, v, rfl, p1, p2⟩ := al.two
  exact ⟨S1, as, bs, u, v, n, rfl, s, p1, p2, ho, fun r S' H' g nn => q r S' H' g (nn.dn st)⟩
theorem pg_mn {CP : Addr} {as : List (Nat × List Grp)} : ∀ P ∈ as.map (PG CP), Mn P := fun P h => by
  obtain ⟨a, _, rfl⟩ := List.mem_map.mp h
  infer_instance
instance pgL_mn {CP : Addr} {as : List (Nat × List Grp)} : Mn (LstP (as.map (PG CP))) := lstP_mn pg_mn
theorem srtL_rows {K : PySem.W.Frag} {S S' : Hp} {gs : List Grp} {v : V} (h : SrtL K S (gs.map (·.2)) v S') : NewL K S ((rowsS gs).map tI) v S' := by
  obtain ⟨L, h1, h2, h3, h4⟩ := h
  have e : rowsS gs = L := rowsS_uniq (h3.imp fun {a b} hab => by rw [leR]; exact decide_eq_true hab) h2 h1
  rw [e]
  exact h4
theorem sc_sums : FnScope ["one_side", "other_side", "product", "exponent", "_"] ["one_side", "other_side"] (defScope ssums_of) := ⟨rfl, rfl, rfl, by decide +kernel, rfl, by decide +kernel, by decide +kernel⟩
section
variable {P : Program} {w : World} {K : PySem.W.Frag} {mg : Str → Option Value} {base : Heap} {f : Addr} {fd : FuncData} {CV CC CS CP : Addr}
theorem ok_sums (F : FnT K "sums_of" ssums_of f fd) (D1 : KM P w K mg base CP "factors" 1 (spPfa K CP)) (g1 : mg "sorted" = none) (cP : Cls K CP) : FnOk P w K mg base CX0 2 f fd ["one_side", "other_side"] (spSums K CP) := by
  refine fn_hs F sc_sums (fun vs H Q E h => ?_) (fun cdv A outer sh H vs Q E hr h => ?_)
  · obtain ⟨S, as, bs, u, v, n, rfl, _⟩ := h
    rfl
  · obtain ⟨S, as, bs, u, v, n, rfl, s, p1, p2, ⟨n1, n3, hc, hz, hw⟩, q⟩ := h
    have hln : ∀ cs : List (Nat × List Grp), cs.flatMap (fun a => a.2.map pairD) = (gsOf cs).map pairD := fun cs => by unfold gsOf; rw [List.map_flatMap]
    have hkeys : ((as ++ bs).flatMap fun a => a.2.map pairD).map expOf = (gsOf (as ++ bs)).map (·.2) := by
      rw [hln, List.map_map]
      exact List.map_congr_left fun g _ => expOf_pair g
    have mA := pg_mn (CP := CP) (as := as)
    have mB := pg_mn (CP := CP) (as := bs)
    refine hs_ret (EE.imp (ee_sortS (d := n) (B := 64) (ks := (gsOf (as ++ bs)).map (·.2)) rfl g1 n1 ?hk (EE.imp (ee_scT22 (R := PG CP) (ds := as ++ bs) (es := fun a => a.2.map pairD) (f := expOf) (own := [("product", 2), ("exponent", 3), ("_", 4)]) (vs1 := [3, 4]) (Nat.lt_of_succ_lt (room_u65 hr)) rfl sc_sums.nd (blkOk_by (N := ["one_side", "other_side", "product", "exponent", "_"]) (sc := defScope ssums_of) (by decide +kernel)) (by decide) (ei_lstP ?mn (EE.imp (ee_lst2P mA mB ?sz (ee_var 0 rfl p1) (ee_var 1 rfl p2)) fun _ _ h => by rw [List.map_append]; exact h)) ?ln ?el) fun _ _ h => by rw [hkeys] at h; exact h)) fun _ _ h => srtL_rows h) s q
    case hk =>
      intro k hk
      obtain ⟨g, hg, rfl⟩ := List.mem_map.mp hk
      obtain ⟨a, ha, hga⟩ := List.mem_flatMap.mp hg
      obtain ⟨e, w1, w2⟩ := hw a ha
      exact ⟨w1.2 g hga, w2 g hga⟩
    case mn => exact pg_mn
    case sz =>
      rw [List.length_append] at hc
      rw [List.length_map, List.length_map]
      show _ ≤ 16777216
      omega
    case ln => rw [hln, List.length_map]; exact hz
    case el =>
      intro a ha x S3 s3 px
      obtain ⟨e, w1, w2⟩ := hw a ha
      have px : PrdP CP a.1 a.2 x S3 := px
      refine ⟨[some u, some v, some x, none, none], rfl, fun sh' H0 C' cl fp => ⟨eg_name (i := 2) sc_sums.nd rfl (Or.inl rfl), ei_list (EE.imp (ee_meth0 D1 cP (hr.mono (by decide)) (ee_var (P := PrdP CP a.1 a.2) 2 rfl px) PrdP.insP (spPfa_E (by rw [e]; exact w1) (by omega))) fun _ _ h => h.dt), fun d hd y S4 s4 py => ?_⟩⟩
      obtain ⟨g, hg, rfl⟩ := List.mem_map.mp hd
      obtain ⟨v3, v4, q3, q4, heg⟩ := eg_two (d1 := tI g.2) (d2 := .int g.1) py
      refine ⟨[some u, some v, some x, some v3, some v4], rfl, fun sh2 H02 C2 cl2 fp2 => ⟨heg _ _ 3 4 "exponent" "_" _ _ _ _ (by rfl) (by rfl) (by exact sc_sums.nd) (by rfl) (by rfl) (by exact Or.inl rfl) (by exact Or.inl rfl) (by exact .inr rfl) (by exact .inr rfl) (by rfl) (by rfl) (by rfl) (by rfl), ?_⟩⟩
      rw [expOf_pair]
      exact ee_var 3 rfl q3
/-! ### the sums of a verdict -/
/-- the sides: of the claims (hi = false: low), of the premises the other one -/
def sideOf (hi : Bool) (r : CR) : Nat × List Grp := (r.1.1.cps.size, if hi = true then r.2.2 else r.2.1)
def sidesOf (hi : Bool) (rs qs : List CR) : List (Nat × List Grp) := rs.map (sideOf hi) ++ qs.map (sideOf (!hi))
/-- a verdict over claims that are told -/
def VerP (K : PySem.W.Frag) (CV CC CS CP : Addr) (xs ys : List V) (rs qs : List CR) : V → Hp → Prop := fun v S => VerV CV xs ys v S ∧ xs.length = rs.length ∧ ys.length = qs.length ∧ Al (itPs K CC CS CP xs (rs.map some)) xs S ∧ Al (itPs K CC CS CP ys (qs.map some)) ys S
instance {xs ys : List V} {rs qs : List CR} : Mn (VerP K CV CC CS CP xs ys rs qs) := ⟨fun s ⟨h, e1, e2, a1, a2⟩ => ⟨Mn.up s h, e1, e2, al_mn itPs_mn s a1, al_mn itPs_mn s a2⟩⟩
theorem VerP.clm {xs ys : List V} {rs qs : List CR} : ∀ v S, VerP K CV CC CS CP xs ys rs qs v S → ∃ a dx fs u, v = .ref a ∧ S a = some (.ins CV dx fs) ∧ fs.lookup ("_claims" : Str) = some u ∧ LstP (itPs K CC CS CP xs (rs.map some)) u S := fun v S ⟨h, e1, e2, a1, a2⟩ => by
  obtain ⟨a, dx, fs, u, e, h0, hl, hp⟩ := VerV.clm v S h
  exact ⟨a, dx, fs, u, e, h0, hl, pins_lst (by rw [List.length_map]; exact e1) a1 hp⟩
theorem VerP.prm {xs ys : List V} {rs qs : List CR} : ∀ v S, VerP K CV CC CS CP xs ys rs qs v S → ∃ a dx fs u, v = .ref a ∧ S a = some (.ins CV dx fs) ∧ fs.lookup ("_premises" : Str) = some u ∧ LstP (itPs K CC CS CP ys (qs.map some)) u S := fun v S ⟨h, e1, e2, a1, a2⟩ => by
  obtain ⟨a, dx, fs, u, e, h0, hl, hp⟩ := VerV.prm v S h
  exact ⟨a, dx, fs, u, e, h0, hl, pins_lst (by rw [List.length_map]; exact e2) a2 hp⟩
theorem VerP.insP {xs ys : List V} {rs qs : List CR} {m : Str} (hm : ∀ c p, (verF c p).lookup m = none := by intro _ _; rfl) : InsP CV m (VerP K CV CC CS CP xs ys rs qs) := fun v S h => VerV.insP hm v S h.1
def spVs (K : PySem.W.Frag) (CV CC CS CP : Addr) (hi : Bool) : Sp := fun vs H Q _ => ∃ S xs ys rs qs v, ∃ n : Nat, vs = [v] ∧ Same S H ∧ VerP K CV CC CS CP xs ys rs qs v S ∧ SumsOk n (sidesOf hi rs qs) ∧ ∀ u S' H', Gr S H S' H' → NewL K S (sumsD (sidesOf hi rs qs)) u S' → Q u H'
theorem spVs_E {S : Hp} {hi : Bool} {xs ys : List V} {rs qs : List CR} {n : Nat} (ho : SumsOk n (sidesOf hi rs qs)) : SpE (spVs K CV CC CS CP hi) S [VerP K CV CC CS CP xs ys rs qs] (NewL K S (sumsD (sidesOf hi rs qs))) := fun vs S1 H1 st s al Q q => by
  obtain ⟨v, rfl, pv⟩ := al.one
  exact ⟨S1, xs, ys, rs, qs, v, n, rfl, s, pv, ho, fun u S' H' g nn => q u S' H' g (nn.dn st)⟩
theorem itPs_zip {xs : List V} {rs : List CR} : itPs K CC CS CP xs (rs.map some) = (xs.zip rs).map fun p => PinP p.1 (ClmP K CC CS CP p.2.1.1 p.2.1.2 p.2.2.1 p.2.2.2) := by
  unfold itPs
  rw [List.zipWith_map_right, List.zip, List.map_zipWith]
  rfl
theorem zip_side {hi : Bool} : ∀ {xs : List V} {rs : List CR}, xs.length = rs.length → (xs.zip rs).map (fun p => PG CP (sideOf hi p.2)) = (rs.map (sideOf hi)).map (PG CP)
  | [], [], _ => rfl
  | x :: xs, r :: rs, h => by
    rw [List.zip_cons_cons, List.map_cons, List.map_cons, List.map_cons, zip_side (by simpa using h)]
theorem sc_Vsm : FnScope ["self", "claim"] ["self"] (defScope sVerdict__small_sums) := ⟨rfl, rfl, rfl, by decide +kernel, rfl, by decide +kernel, by decide +kernel⟩
theorem ok_Vsm (F : FnM K "small_sums" "Verdict.small_sums" sVerdict__small_sums f fd) (D1 : KD P w K mg base "sums_of" 2 (spSums K CP)) (c : Cls K CV) (cC : Cls K CC) (n1 : NoAttr K CV "_claims") (n2 : NoAttr K CV "_premises") (m1 : NoAttr K CC "low") (m2 : NoAttr K CC "high") : FnOk P w K mg base CX0 3 f fd ["self"] (spVs K CV CC CS CP false) := by
  refine fn_hs F sc_Vsm (fun vs H Q E h => ?_) (fun cdv A outer sh H vs Q E hr h => ?_)
  · obtain ⟨S, xs, ys, rs, qs, v, n, rfl, _⟩ := h
    rfl
  · obtain ⟨S, xs, ys, rs, qs, v, n, rfl, s, pv, ho, q⟩ := h
    have hl1 := pv.2.1
    have hl2 := pv.2.2.1
    have hz : rs.length + qs.length ≤ 1000 := by
      have := ho.2.2.1
      unfold sidesOf at this
      rwa [List.length_append, List.length_map, List.length_map] at this
    have hzip : ∀ {as : List V} {bs : List CR}, as.length = bs.length → (as.zip bs).length = bs.length := fun {as bs} h => by rw [List.length_zip, h, Nat.min_self]
    refine hs_ret (ee_call D1 (hr.mono (by decide)) (ea_2 (EE.imp (ee_lcB (G := fun p : V × CR => PG CP (sideOf false p.2)) (ds := xs.zip rs) (R := fun p : V × CR => PinP p.1 (ClmP K CC CS CP p.2.1.1 p.2.1.2 p.2.2.1 p.2.2.2)) (own := [("claim", 1)]) (fun _ _ => inferInstance) rfl sc_Vsm.nd (blkOk_by (N := ["self", "claim"]) (sc := defScope sVerdict__small_sums) (by decide +kernel)) (ei_lstP (fun P hP => itPs_mn (K := K) (CC := CC) (CS := CS) (CP := CP) (xs := xs) (its := rs.map some) P (by rw [itPs_zip]; exact hP)) (EE.imp (ee_fld (ee_var 0 rfl pv) VerP.clm c n1) fun _ _ h => by rw [itPs_zip] at h; exact h)) (by rw [hzip hl1]; show _ ≤ 16777216; omega) ?e1) fun _ _ h => by rw [zip_side hl1] at h; exact h)
      (EE.imp (ee_lcB (G := fun p : V × CR => PG CP (sideOf true p.2)) (ds := ys.zip qs) (R := fun p : V × CR => PinP p.1 (ClmP K CC CS CP p.2.1.1 p.2.1.2 p.2.2.1 p.2.2.2)) (own := [("claim", 1)]) (fun _ _ => inferInstance) rfl sc_Vsm.nd (blkOk_by (N := ["self", "claim"]) (sc := defScope sVerdict__small_sums) (by decide +kernel)) (ei_lstP (fun P hP => itPs_mn (K := K) (CC := CC) (CS := CS) (CP := CP) (xs := ys) (its := qs.map some) P (by rw [itPs_zip]; exact hP)) (EE.imp (ee_fld (ee_var 0 rfl pv) VerP.prm c n2) fun _ _ h => by rw [itPs_zip] at h; exact h)) (by rw [hzip hl2]; show _ ≤ 16777216; omega) ?e2) fun _ _ h => by rw [zip_side hl2] at h; exact h)) (spSums_E ho)) s q
    case e1 =>
      intro p _ x S3 s3 px
      refine ⟨[some v, some x], rfl, fun sh' H0 C' cl fp => ⟨eg_name (i := 1) sc_Vsm.nd rfl (Or.inl rfl), ets_nil, ?_⟩⟩
      exact ee_fld (ee_var 1 rfl px.2) ClmP.low cC m1
    case e2 =>
      intro p _ x S3 s3 px
      refine ⟨[some v, some x], rfl, fun sh' H0 C' cl fp => ⟨eg_name (i := 1) sc_Vsm.nd rfl (Or.inl rfl), ets_nil, ?_⟩⟩
      exact ee_fld (ee_var 1 rfl px.2) ClmP.high cC m2
theorem sc_Vgr : FnScope ["self", "claim"] ["self"] (defScope sVerdict__great_sums) := ⟨rfl, rfl, rfl, by decide +kernel, rfl, by decide +kernel, by decide +kernel⟩
theorem ok_Vgr (F : FnM K "great_sums" "Verdict.great_sums" sVerdict__great_sums f fd) (D1 : KD P w K mg base "sums_of" 2 (spSums K CP)) (c : Cls K CV) (cC : Cls K CC) (n1 : NoAttr K CV "_claims") (n2 : NoAttr K CV "_premises") (m1 : NoAttr K CC "low") (m2 : NoAttr K CC "high") : FnOk P w K mg base CX0 3 f fd ["self"] (spVs K CV CC CS CP true) := by
  refine fn_hs F sc_Vgr (fun vs H Q E h => ?_) (fun cdv A outer sh H vs Q E hr h => ?_)
  · obtain ⟨S, xs, ys, rs, qs, v, n, rfl, _⟩ := h
    rfl
  · obtain ⟨S, xs, ys, rs, qs, v, n, rfl, s, pv, ho, q⟩ := h
    have hl1 := pv.2.1
    have hl2 := pv.2.2.1
    have hz : rs.length + qs.length ≤ 1000 := by
      have := ho.2.2.1
      unfold sidesOf at this
      rwa [List.length_append, List.length_map, List.length_map] at this
    have hzip : ∀ {as : List V} {bs : List CR}, as.length = bs.length → (as.zip bs).length = bs.length := fun {as bs} h => by rw [List.length_zip, h, Nat.min_self]
    refine hs_ret (ee_call D1 (hr.mono (by decide)) (ea_2 (EE.imp (ee_lcB (G := fun p : V × CR => PG CP (sideOf true p.2)) (ds := xs.zip rs) (R := fun p : V × CR => PinP p.1 (ClmP K CC CS CP p.2.1.1 p.2.1.2 p.2.2.1 p.2.2.2)) (own := [("claim", 1)]) (fun _ _ => inferInstance) rfl sc_Vgr.nd (blkOk_by (N := ["self", "claim"]) (sc := defScope sVerdict__great_sums) (by decide +kernel)) (ei_lstP (fun P hP => itPs_mn (K := K) (CC := CC) (CS := CS) (CP := CP) (xs := xs) (its := rs.map some) P (by rw [itPs_zip]; exact hP)) (EE.imp (ee_fld (ee_var 0 rfl pv) VerP.clm c n1) fun _ _ h => by rw [itPs_zip] at h; exact h)) (by rw [hzip hl1]; show _ ≤ 16777216; omega) ?e1) fun _ _ h => by rw [zip_side hl1] at h; exact h)
      (EE.imp (ee_lcB (G := fun p : V × CR => PG CP (sideOf false p.2)) (ds := ys.zip qs) (R := fun p : V × CR => PinP p.1 (ClmP K CC CS CP p.2.1.1 p.2.1.2 p.2.2.1 p.2.2.2)) (own := [("claim", 1)]) (fun _ _ => inferInstance) rfl sc_Vgr.nd (blkOk_by (N := ["self", "claim"]) (sc := defScope sVerdict__great_sums) (by decide +kernel)) (ei_lstP (fun P hP => itPs_mn (K := K) (CC := CC) (CS := CS) (CP := CP) (xs := ys) (its := qs.map some) P (by rw [itPs_zip]; exact hP)) (EE.imp (ee_fld (ee_var 0 rfl pv) VerP.prm c n2) fun _ _ h => by rw [itPs_zip] at h; exact h)) (by rw [hzip hl2]; show _ ≤ 16777216; omega) ?e2) fun _ _ h => by rw [zip_side hl2] at h; exact h)) (spSums_E ho)) s q
    case e1 =>
      intro p _ x S3 s3 px
      refine ⟨[some v, some x], rfl, fun sh' H0 C' cl fp => ⟨eg_name (i := 1) sc_Vgr.nd rfl (Or.inl rfl), ets_nil, ?_⟩⟩
      exact ee_fld (ee_var 1 rfl px.2) ClmP.high cC m2
    case e2 =>
      intro p _ x S3 s3 px
      refine ⟨[some v, some x], rfl, fun sh' H0 C' cl fp => ⟨eg_name (i := 1) sc_Vgr.nd rfl (Or.inl rfl), ets_nil, ?_⟩⟩
      exact ee_fld (ee_var 1 rfl px.2) ClmP.low cC m1
end
end
end K23
namespace K23
open PySem PySem.Spec PyProof.Rows L2 Z Y
section
variable {P : Program} {w : World} {K : PySem.W.Frag} {mg : Str → Option Value} {base : Heap} {f : Addr} {fd : FuncData}
/-! ## Verdict refused -/
theorem spChk_O {K : PySem.W.Frag} {CC CS CP : Addr} {kI kW : EK} {S : Hp} {a : CA} {least : Nat} {f : Option (Str × Rules)} : SpO K (spChk K CC CS CP kI kW) S [CAP K CC CS CP a, Dt K (.int (least : Nat)), FstP K CC CS CP f] (fun _ _ => chkC least f a = none) (fun k g => ∃ b i, chkC least f a = some (b, i) ∧ k = kOf kI kW b ∧ g = .int i) := fun vs S1 H1 st s al Q E q hx => by
  obtain ⟨v, u, w, rfl, p1, p2, p3⟩ := al.three
  refine ⟨S1, a, least, f, v, u, w, rfl, s, p1, p2, p3, ?_⟩
  cases hc : chkC least f a with
  | none => exact .inl ⟨rfl, fun S' H' g => q _ S' H' g hc⟩
  | some p => exact .inr ⟨p.1, p.2, rfl, hx _ _ ⟨p.1, p.2, hc, rfl, rfl⟩⟩
/-- what Verdict(a, b) raises -/
def GVi (K : PySem.W.Frag) (CC CS CP : Addr) (kI kW : EK) : List V → Hp → EK → PyData → Prop := fun ws S k g => ∃ a1 u1 u2 b i, ws = [u1, u2] ∧ CAP K CC CS CP a1 u1 S ∧ (chkC 1 none a1 = some (b, i) ∨ ∃ t xs is a2, a1 = .seq t xs is ∧ chkC 1 none a1 = none ∧ CAP K CC CS CP a2 u2 S ∧ chkC 0 (some (refOf none is)) a2 = some (b, i)) ∧ k = kOf kI kW b ∧ g = .int i
section
variable {P : Program} {w : World} {K : PySem.W.Frag} {mg : Str → Option Value} {base : Heap} {f : Addr} {fd : FuncData} {CV CC CS CP : Addr} {dvs : List V} {kI kW : EK}
theorem ok_VinitX (F : FunD K "__init__" "Verdict.__init__" (defArgs sVerdict____init__) (defBody sVerdict____init__) (defScope sVerdict____init__) dvs [] f fd) (D1 : KDX P w K mg base "check_claims" 3 (spChk K CC CS CP kI kW)) : FnOk P w K mg base (L2.CX P w) 4 f fd ["self", "claims", "premises"] (spXI' CV K (GVi K CC CS CP kI kW)) := by
  refine fn_hsX F sc_Vinit (fun vs H Q E h => ?_) (fun cdv A outer sh H vs Q E hr h tk => ?_)
  · obtain ⟨S, a, dx, ws, k, g, rfl, _, _, _, ⟨a1, u1, u2, b, i, rfl, _⟩, _⟩ := h
    rfl
  · obtain ⟨S, a, dx, ws, k, g, rfl, s, ha, hHa, ⟨a1, u1, u2, b, i, rfl, p1, hb, rfl, rfl⟩, hx⟩ := h
    refine hs_exprX (er_call tk D1 (hr.mono (by decide)) (ea_cons (ee_var 1 rfl p1) (ea_2 ee_int (EE.imp ee_non fun v S h => (by cases h; rfl : FstP K CC CS CP none v S)))) (spChk_O (f := none))) s (fun k g ⟨b', i', hc, e1, e2⟩ => ?_) fun v1 S1 H1 g1 hn => ?_
    · subst e1
      subst e2
      rcases hb with h | ⟨_, _, _, _, _, h, _⟩
      · rw [hc] at h; cases h; exact hx
      · rw [hc] at h; cases h
    · rcases hb with h | ⟨t, xs, is, a2, rfl, h, p2, h2⟩
      · rw [hn] at h; cases h
      · obtain ⟨k1, k2, k3⟩ := chk_fst h
        have p1a : CAP K CC CS CP (.seq t xs is) u1 S1 := Mn.up g1.st p1
        have p2a : CAP K CC CS CP a2 u2 S1 := Mn.up g1.st p2
        refine hs_exprX (er_call tk D1 (hr.mono (by decide)) (ea_cons (ee_var 2 rfl p2a) (ea_2 ee_int (fst_ix p1.1 k1 k3 (ee_var 1 rfl p1a.2)))) (spChk_O (f := some (refOf none is)))) g1.sub (fun k g ⟨b', i', hc, e1, e2⟩ => ?_) fun v2 S2 H2 g2 hn2 => ?_
        · subst e1
          subst e2
          rw [hc] at h2; cases h2; exact hx.up g1
        · rw [hn2] at h2; cases h2
/-- Verdict(..) that raises -/
structure MkVX (P : Program) (w : World) (K : PySem.W.Frag) (mg : Str → Option Value) (base : Heap) (CV CC CS CP : Addr) (kI kW : EK) : Prop where
  ex : ∃ fi fdi ps, Mk K CV fi ∧ FnOk P w K mg base (L2.CX P w) 4 fi fdi ps (spXI' CV K (GVi K CC CS CP kI kW)) ∧ Binds K fdi ps [] ∧ ∃ dv dV, Binds K fdi ps [dv] ∧ Vals [dV] [dv]
end
section
variable {X : Cx} {E : XK} {σ : L2.St} {S : Hp} {a b : Expr} {p pos : Pos} {CV CC CS CP : Addr} {kI kW : EK} {R : V → Hp → Prop} {O : EK → PyData → Prop}
/-- Verdict(a) refused for its claims -/
theorem er_mkV1 (tk : Takes X (fun cls d _ H => E cls d H)) (M : MkVX X.prog X.w X.K X.mg X.base CV CC CS CP kI kW) (hr : Room 5 X.A) (gV : X.mg "Verdict" = some (.ref CV)) {Pa : V → Hp → Prop} [Mn Pa] (ha : EE X σ S a Pa) (h : ∀ v S1, Pa v S1 → ∃ a1 b i, CAP X.K CC CS CP a1 v S1 ∧ chkC 1 none a1 = some (b, i) ∧ O (kOf kI kW b) (.int i)) (hg : Gl X "Verdict" := by rfl) (he : starEach [a] X.env = (false, eval a X.env) :: starEach [] X.env := by rfl) (hpl : (backTo pos (starEach [] X.env)).any (·.1) = false := by rfl) : ER X E σ S (.Call (.Name "Verdict" p) [a] [] pos) R O := by
  obtain ⟨fi, fdi, ps', m, G, _, dv, dV, hb, hv⟩ := M.ex
  refine er_make (Pd := []) tk m G hr gV hb hv (ea_1 ha he) (fun ws S1 _ al => ?_) hg (by decide) he hpl
  obtain ⟨v, rfl, pv⟩ := al.one
  obtain ⟨a1, b, i, p1, hc, ho⟩ := h v S1 pv
  exact ⟨_, _, ⟨a1, v, dV, b, i, rfl, p1, .inl hc, rfl, rfl⟩, ho⟩
/-- Verdict(a, b) refused for its claims -/
theorem er_mkV2 (tk : Takes X (fun cls d _ H => E cls d H)) (M : MkVX X.prog X.w X.K X.mg X.base CV CC CS CP kI kW) (hr : Room 5 X.A) (gV : X.mg "Verdict" = some (.ref CV)) {Pa Pb : V → Hp → Prop} [Mn Pa] [Mn Pb] (ha : EE X σ S a Pa) (hb : EE X σ S b Pb) (h : ∀ v S1, Pa v S1 → ∃ a1 b i, CAP X.K CC CS CP a1 v S1 ∧ chkC 1 none a1 = some (b, i) ∧ O (kOf kI kW b) (.int i)) (hg : Gl X "Verdict" := by rfl) (he : starEach [a, b] X.env = (false, eval a X.env) :: starEach [b] X.env := by rfl) (he2 : starEach [b] X.env = (false, eval b X.env) :: starEach [] X.env := by rfl) (hpl : (backTo pos (starEach [b] X.env)).any (·.1) = false := by rfl) : ER X E σ S (.Call (.Name "Verdict" p) [a, b] [] pos) R O := by
  obtain ⟨fi, fdi, ps', m, G, hb0, _⟩ := M.ex
  refine er_make (Pd := []) tk m G hr gV hb0 .nil (ea_2 ha hb he he2) (fun ws S1 _ al => ?_) hg (by decide) he hpl
  obtain ⟨v, u, rfl, pv, pu⟩ := al.two
  obtain ⟨a1, b, i, p1, hc, ho⟩ := h v S1 pv
  exact ⟨_, _, ⟨a1, v, u, b, i, rfl, p1, .inl hc, rfl, rfl⟩, ho⟩
/-- Verdict(a, b) refused for its premises -/
theorem er_mkV3 (tk : Takes X (fun cls d _ H => E cls d H)) (M : MkVX X.prog X.w X.K X.mg X.base CV CC CS CP kI kW) (hr : Room 5 X.A) (gV : X.mg "Verdict" = some (.ref CV)) {Pb : V → Hp → Prop} [Mn Pb] {t : Bool} {xs : List V} {is : List CIt} (h0 : chkC 1 none (.seq t xs is) = none) (ha : EE X σ S a (CAP X.K CC CS CP (.seq t xs is))) (hb : EE X σ S b Pb) (h : ∀ v S1, Pb v S1 → ∃ a2 b i, CAP X.K CC CS CP a2 v S1 ∧ chkC 0 (some (refOf none is)) a2 = some (b, i) ∧ O (kOf kI kW b) (.int i)) (hg : Gl X "Verdict" := by rfl) (he : starEach [a, b] X.env = (false, eval a X.env) :: starEach [b] X.env := by rfl) (he2 : starEach [b] X.env = (false, eval b X.env) :: starEach [] X.env := by rfl) (hpl : (backTo pos (starEach [b] X.env)).any (·.1) = false := by rfl) : ER X E σ S (.Call (.Name "Verdict" p) [a, b] [] pos) R O := by
  obtain ⟨fi, fdi, ps', m, G, hb0, _⟩ := M.ex
  refine er_make (Pd := []) tk m G hr gV hb0 .nil (ea_2 ha hb he he2) (fun ws S1 _ al => ?_) hg (by decide) he hpl
  obtain ⟨v, u, rfl, pv, pu⟩ := al.two
  obtain ⟨a2, b, i, p2, hc, ho⟩ := h u S1 pu
  exact ⟨_, _, ⟨.seq t xs is, v, u, b, i, rfl, pv, .inr ⟨t, xs, is, a2, rfl, h0, p2, hc⟩, rfl, rfl⟩, ho⟩
end
end
end K23
namespace K23
open PySem PySem.Spec PyProof.Rows L2 Z Y
section
variable {P : Program} {w : World} {K : PySem.W.Frag} {mg : Str → Option Value} {base : Heap} {f : Addr} {fd : FuncData}
/-! ## _law_field: any kind -/
theorem sc_law_field : FnScope ["_law_e"] ["_law_e"] (defScope sL_field) := ⟨rfl, rfl, rfl, by decide +kernel, rfl, by decide +kernel, by decide +kernel⟩
theorem ok_law_fieldG {tup : List Value} (F : FnT K "_law_field" sL_field f fd) : FnP P w K mg base 1 f fd ["_law_e"] (spFieldG K tup) := by
  refine fn_hsP F sc_law_field (fun p vs H Q h => ?_) (fun cdv A outer sh H vs Q p hr h => ?_)
  · obtain ⟨S, k, g, _, rfl, _⟩ := h
    rfl
  · obtain ⟨S, k, g, s, rfl, ok, px, q⟩ := h
    have hp : p ∈ [p] := List.mem_cons_self
    have hfld := ok.fld
    have fin : ∀ {S1 H1 : Hp} {v : V} {S' H' : Hp}, Gr S H S1 H1 → Gr S1 H1 S' H' → Dt K g v S' → Q v H' := fun a b c => q _ _ _ (a.trans b) c
    refine hs_if (et_inLs (ns := fldAt) (ee_codeG hp px ok (ee_var 0 rfl rfl)) (ee_lst (ds := fldAt.map .str) (by repeat (first | exact ea_nil | refine ea_cons ee_str ?_)))) s (fun hk S1 H1 g1 => ?_) (fun hk S1 H1 g1 => hs_nil ?_)
    · unfold fieldOf at hfld
      rw [if_pos hk] at hfld
      exact hs_ret (ee_keptG hp (px.up g1.st) ok hfld (ee_var 0 rfl rfl)) g1.sub fun v S' H' g' pv => fin g1 g' pv
    unfold fieldOf at hfld
    rw [if_neg (by rw [hk]; exact Bool.false_ne_true)] at hfld
    have px := px.up g1.st
    refine hs_if (et_inLs (ns := fldNm) (ee_codeG hp px ok (ee_var 0 rfl rfl)) (ee_lst (ds := fldNm.map .str) (by repeat (first | exact ea_nil | refine ea_cons ee_str ?_)))) g1.sub (fun hk S2 H2 g2 => ?_) (fun hk S2 H2 g2 => hs_nil ?_)
    · rw [if_pos hk] at hfld
      exact hs_ret (ee_keptG hp (px.up g2.st) ok hfld (ee_var 0 rfl rfl)) g2.sub fun v S' H' g' pv => fin (g1.trans g2) g' pv
    rw [if_neg (by rw [hk]; exact Bool.false_ne_true)] at hfld
    have px := px.up g2.st
    have g12 := g1.trans g2
    refine hs_if (et_inLs (ns := fldNo) (ee_codeG hp px ok (ee_var 0 rfl rfl)) (ee_lst (ds := fldNo.map .str) (by repeat (first | exact ea_nil | refine ea_cons ee_str ?_)))) g2.sub (fun hk S3 H3 g3 => ?_) (fun hk S3 H3 g3 => hs_nil ?_)
    · rw [if_pos hk] at hfld
      obtain ⟨dd, fs, _, _, _, _, _, h6, _⟩ := px
      have e := h6 hfld
      subst e
      exact hs_ret (P := Dt K .none) ee_non g3.sub fun v S' H' g' pv => fin (g12.trans g3) g' pv
    rw [if_neg (by rw [hk]; exact Bool.false_ne_true)] at hfld
    have px := px.up g3.st
    have g13 := g12.trans g3
    refine hs_if (et_eqS (ee_codeG hp px ok (ee_var 0 rfl rfl)) ee_str) g3.sub (fun hk S4 H4 g4 => ?_) (fun hk S4 H4 g4 => hs_nil ?_)
    · rw [if_pos hk] at hfld
      exact hs_ret (ee_keptG hp (px.up g4.st) ok hfld (ee_var 0 rfl rfl)) g4.sub fun v S' H' g' pv => fin (g13.trans g4) g' pv
    rw [if_neg (by rw [hk]; exact Bool.false_ne_true)] at hfld
    have px := px.up g4.st
    have g14 := g13.trans g4
    refine hs_if (et_eqS (ee_codeG hp px ok (ee_var 0 rfl rfl)) ee_str) g4.sub (fun hk S5 H5 g5 => ?_) (fun hk S5 H5 g5 => hs_nil ?_)
    · rw [if_pos hk] at hfld
      exact hs_ret (ee_keptG hp (px.up g5.st) ok hfld (ee_var 0 rfl rfl)) g5.sub fun v S' H' g' pv => fin (g14.trans g5) g' pv
    rw [if_neg (by rw [hk]; exact Bool.false_ne_true)] at hfld
    have px := px.up g5.st
    have g15 := g14.trans g5
    refine hs_if (et_eqS (ee_codeG hp px ok (ee_var 0 rfl rfl)) ee_str) g5.sub (fun hk S6 H6 g6 => ?_) (fun hk S6 H6 g6 => hs_nil ?_)
    · rw [if_pos hk] at hfld
      exact hs_ret (ee_keptG hp (px.up g6.st) ok hfld (ee_var 0 rfl rfl)) g6.sub fun v S' H' g' pv => fin (g15.trans g6) g' pv
    rw [if_neg (by rw [hk]; exact Bool.false_ne_true)] at hfld
    have px := px.up g6.st
    have g16 := g15.trans g6
    refine hs_ifN ((et_eqS (ee_codeG hp px ok (ee_var 0 rfl rfl)) ee_str).is ok.nt) g6.sub fun S7 H7 g7 => ?_
    have px := px.up g7.st
    refine hs_ifN ((et_eqS (ee_codeG hp px ok (ee_var 0 rfl rfl)) ee_str).is ok.nb) g7.sub fun S8 H8 g8 => ?_
    have px := px.up g8.st
    have g18 := (g16.trans g7).trans g8
    refine hs_ret (ee_if (Q' := Dt K g) (et_eqS (ee_codeG hp px ok (ee_var 0 rfl rfl)) ee_str) (fun hk => ?_) fun hk => ?_) g8.sub fun v S' H' g' pv => fin g18 g' pv
    · rw [if_pos hk] at hfld
      exact ee_keptG hp px ok hfld (ee_var 0 rfl rfl)
    · rw [if_neg (by rw [hk]; exact Bool.false_ne_true)] at hfld
      exact ee_keptG hp px ok hfld (ee_var 0 rfl rfl)
/-! ## _law_try, _law_tries: asks of any kind -/
theorem sc_law_try : FnScope ["_law_ask", "_law_e"] ["_law_ask"] (defScope sL_try) := ⟨rfl, rfl, rfl, by decide +kernel, rfl, by decide +kernel, by decide +kernel⟩
theorem ok_law_try {C1 C2 C3 : Addr} {k : Nat} (F : FnT K "_law_try" sL_try f fd) (D1 : ∃ f fd, FnP P w K mg base 1 f fd ["_law_e"] (spFieldG K [.ref C1, .ref C2, .ref C3]) ∧ mg "_law_field" = some (.ref f) ∧ PySem.W.keepIn K (.ref f) = true ∧ Binds K fd ["_law_e"] [])
    (m1 : mg "DealError" = some (.ref C1)) (m2 : mg "Missing" = some (.ref C2)) (m3 : mg "NothingLeft" = some (.ref C3)) (hk : 1 ≤ k) : FnOk P w K mg base CX0 (k + 1) f fd ["_law_ask"] (spTry P w K mg base [.ref C1, .ref C2, .ref C3] k) := by
  refine fn_hs F sc_law_try (fun vs H Q E h => ?_) (fun cdv A outer sh H vs Q E hr h => ?_)
  · obtain ⟨S, f', F', fr, dvs, ws, L, sp, Od, O, rfl, _⟩ := h
    rfl
  · obtain ⟨S, f', F', fr, dvs, ws, L, sp, Od, O, rfl, LO, KH, s, hok, hR, q⟩ := h
    obtain ⟨fF, fdF, FP, hmF, hkF, hbF⟩ := D1
    refine hs_tryAs (Wout := fun _ _ _ _ => False) (i := 1) (n := "_law_e") rfl rfl (show (["_law_ask", "_law_e"] : List Str).Nodup by decide) rfl rfl LamX.takes0 fun pn xe tk _ => ?_
    refine hs_cons (ps_ret (pe_tup (pa_cons (te := tC (.str "")) pe_str (pa_cons (te := bE _ _) peb pa_nil)))) ?_
    refine he_callLam (i := 0) (E := fun cls d H' => ∀ σ', WAs _ _ 1 _ (fun _ _ _ _ => False) _ cls d σ' H') tk (fun cls d σ' H' h => h σ') LO hr rfl KH (hR _ _ (fun v S1 H1 g1 ⟨d, hd, pv⟩ hL => ?_) fun e g ho => ?_) rfl (Or.inl rfl)
    · -- a value
      have g2 : Gr S H S1 (shownL H1 L) := Y.Gr.shownL g1 hL KH.shw KH.nd
      refine ⟨by show 2 ≤ 16777216; omega, fun p hp => ?_⟩
      exact q _ _ _ (g2.trans (Gr.new g2.sub hp)) ⟨_, .inl ⟨d, hd, rfl⟩, Dt.tup_mk (tus_of upd_same) (al_dts (ds := [.str "", d]) (.cons (.str _) (.cons (pv.up (Same.new (g2.sub.free hp))) .nil))) (by show 2 ≤ 16777216; omega)⟩
    · intro d fs S3 H3 g1 hd hxd hcode hnone hat hL σ' hlen
      have ok := hok e g ho
      have g2 : Gr S H S3 (shownL H3 L) := Y.Gr.shownL g1 hL KH.shw KH.nd
      refine ⟨true, tst3 ⟨rfl, by decide, .inl m1⟩ ⟨rfl, by decide, .inl m2⟩ ⟨rfl, by decide, .inl m3⟩ ok.ex, fun _ a oe pn na nb hz hf => ?_, fun z => nomatch z⟩
      have px : ExcG K e g (a, oe) S3 := ⟨d, fs, hz.1, hz.2, hf, hxd, hcode, hnone, hat⟩
      have hσ : (σ'.set 1 (some (V.ref a)))[1]? = some (some (V.ref a)) := by
        have z : σ'.length = 2 := hlen
        rw [List.getElem?_set_self (by omega)]
      refine hs_cons (ps_ret (pe_tup (pa_cons (te := bE _ _) peb (pa_cons (te := bE _ _) peb pa_nil)))) ?_
      refine (ee_codeG (p := (a, oe)) List.mem_cons_self px ok (ee_var (P := fun w _ => w = .ref a) 1 hσ rfl)) _ g2.sub _ fun x S4 H4 g4 px4 => ?_
      cases px4
      refine he_callP FP ⟨(L2H.roomH_of (hr.mono hk)).dp, (L2H.roomH_of (hr.mono hk)).un⟩ hmF hkF hbF (he_of (pv 1 rfl (Or.inl rfl) (by decide) (by decide)) ⟨.ref a, hσ, rfl, rfl⟩) ⟨S4, e, g, g4.sub, rfl, ok, px.up g4.st, fun v S5 H5 g5 pv5 => ⟨by show 2 ≤ 16777216; omega, fun p hp => ?_⟩⟩
      refine q _ _ _ (((g2.trans g4).trans g5).trans (Gr.new g5.sub hp)) ⟨_, .inr ⟨e, g, ho, rfl⟩, Dt.tup_mk (tus_of upd_same) (al_dts (ds := [.str e.code, g]) (.cons (.str _) (.cons (pv5.up (Same.new (g5.sub.free hp))) .nil))) (by show 2 ≤ 16777216; omega)⟩
theorem sc_law_tries : FnScope ["_law_asks", "_law_ask"] ["_law_asks"] (defScope sL_tries) := ⟨rfl, rfl, rfl, by decide +kernel, rfl, by decide +kernel, by decide +kernel⟩
theorem ok_law_tries {tup : List Value} {k : Nat} (F : FnT K "_law_tries" sL_tries f fd) (D1 : KD P w K mg base "_law_try" (k + 1) (spTry P w K mg base tup k)) : FnOk P w K mg base CX0 (k + 3) f fd ["_law_asks"] (spTries P w K mg base tup k) := by
  refine fn_hs F sc_law_tries (fun vs H Q E h => ?_) (fun cdv A outer sh H vs Q E hr h => ?_)
  · obtain ⟨S, its, l, _, rfl, _⟩ := h
    rfl
  · obtain ⟨S, its, l, s, rfl, hl, hz, q⟩ := h
    refine hs_ret (ee_lcA (R := AskJ) (ds := its) (own := [("_law_ask", 1)]) (p := fun _ => true) (G := fun it r => RtD it.Od it.O r) rfl sc_law_tries.nd (blkOk_by (N := ["_law_asks", "_law_ask"]) (sc := defScope sL_tries) (by decide +kernel)) (ei_lstP (fun P hP => ?_) (ee_var 0 rfl hl)) (Nat.le_trans hz (by show 1000 ≤ 16777216; omega)) fun it _ v S' s' pv => ⟨_, wipe1, fun sh' H0 C' cl fp => ⟨eg_name (i := 1) sc_law_tries.nd rfl (by first | exact Or.inl rfl | exact Or.inr rfl) (by first | exact .inl rfl | exact .inr rfl), ets_nil, fun _ => ?_⟩⟩) s fun u S1 H1 g h => ?_
    · obtain ⟨it, _, rfl⟩ := List.mem_map.mp hP
      exact askMn
    · exact ee_call D1 (hr.mono (by omega)) (ea_1 (ee_var 1 rfl pv)) (try_E it)
    · obtain ⟨rs, h1, h2⟩ := h
      rw [filter_true] at h1
      exact q u S1 H1 g ⟨rs, h1, h2⟩
end
end K23
namespace K23
open PySem PySem.Spec PyProof.Rows L2 Z Y
section
variable {P : Program} {w : World} {K : PySem.W.Frag} {mg : Str → Option Value} {base : Heap} {f : Addr} {fd : FuncData}
/-! ## the law's own sums, claims and pairs -/
theorem mkM_keysA : ∀ (ps m : MapI) (k : List Int), k ∈ keysM (ps.foldl (fun m p => putM m p.1 p.2) m) ↔ k ∈ keysM m ∨ k ∈ ps.map (·.1)
  | [], m, k => by simp
  | p :: ps, m, k => by
    show k ∈ keysM (ps.foldl (fun m p => putM m p.1 p.2) (putM m p.1 p.2)) ↔ _
    rw [mkM_keysA ps, keys_put, List.map_cons, List.mem_cons]
    by_cases h : p.1 ∈ keysM m
    · rw [if_pos h]
      constructor
      · rintro (a | a)
        · exact .inl a
        · exact .inr (.inr a)
      · rintro (a | rfl | a)
        · exact .inl a
        · exact .inl h
        · exact .inr a
    · rw [if_neg h, List.mem_append, List.mem_singleton, or_assoc]
theorem mkM_keys {ps : MapI} {k : List Int} : k ∈ keysM (mkM ps) ↔ k ∈ ps.map (·.1) := by
  have := mkM_keysA ps [] k
  unfold mkM
  rw [this]
  simp [keysM]
theorem mkM_ndA : ∀ (ps m : MapI), (keysM m).Nodup → (keysM (ps.foldl (fun m p => putM m p.1 p.2) m)).Nodup
  | [], m, h => h
  | p :: ps, m, h => by
    refine mkM_ndA ps _ ?_
    rw [keys_put]
    split
    · exact h
    · rename_i hk
      refine List.nodup_append.mpr ⟨h, by simp, fun a ha b hb => ?_⟩
      rw [List.mem_singleton] at hb
      subst hb
      exact fun e => hk (e ▸ ha)
/-- the keys of a dict made of rows, sorted: the rows, ascending, each once -/
theorem srt_keys {ps : MapI} {gs : List Grp} (h : ps.map (·.1) = gs.map (·.2)) : srt tI' (keysM (mkM ps)) = rowsS gs := by
  refine (rowsS_uniq (srt_pw ..) ((List.mergeSort_perm ..).nodup_iff.mpr (mkM_ndA ps [] List.nodup_nil)) fun r => ?_).symm
  rw [← h, ← mkM_keys]
  exact mem_srt
theorem room_u2 {k : Nat} {A : Around} (h : Room k A) : A.units + 2 < cLine := by have := h.un; omega
def sideD (gs : List Grp) : PyData := .list (gs.map pairD)
def Fexof : List PyData → PyData → Prop := fun ds r => ∃ ls : List (List Grp), ds = [.list (ls.map sideD)] ∧ ls.length ≤ 1000 ∧ ls.flatten.length ≤ 1000 ∧ (∀ gs ∈ ls, ∀ g ∈ gs, g.2 ≠ [] ∧ g.2.length ≤ 1000) ∧ r = .list ((rowsS ls.flatten).map tI)
theorem scL_exof : FnScope ["_law_sides_z", "_law_found", "_law_parts_here", "_law_pair", "_law_exp_z"] ["_law_sides_z"] (defScope sL_exps_of) := ⟨rfl, rfl, rfl, by decide +kernel, rfl, by decide +kernel, by decide +kernel⟩
section
variable {P : Program} {w : World} {K : PySem.W.Frag} {mg : Str → Option Value} {base : Heap} {f : Addr} {fd : FuncData} {CC CS CP : Addr}
theorem flat_take {ls : List (List Grp)} {i : Nat} (hi : i < ls.length) : (ls.take (i + 1)).flatten = (ls.take i).flatten ++ ls[i] := by
  rw [take_snocG hi, List.flatten_append]; simp
theorem ok_L_exof (F : FnT K "_law_exps_of" sL_exps_of f fd) (g1 : mg "sorted" = none) (g2 : mg "list" = none) (g3 : mg "dict" = none) : FnOk P w K mg base CX0 1 f fd ["_law_sides_z"] (spD K Fexof) := by
  refine fn_hs F scL_exof (fun vs H Q E h => ?_) (fun cdv A outer sh H vs Q E hr h => ?_)
  · obtain ⟨S, ds, r, _, hd, ⟨ls, rfl, _⟩, _⟩ := h
    exact hd.1
  · obtain ⟨S, ds, r, s, hd, ⟨ls, rfl, hl, hfl, hw, rfl⟩, q⟩ := h
    obtain ⟨v1, rfl, p1⟩ := hd.one
    have hlen : (Ds K (ls.map sideD)).length = ls.length := by rw [ds_len, List.length_map]
    have hft : ∀ i, ((ls.take i).flatten).length ≤ ls.flatten.length := fun i => by
      have : ls.flatten = (ls.take i).flatten ++ (ls.drop i).flatten := by rw [← List.flatten_append, List.take_append_drop]
      rw [this, List.length_append]; omega
    refine hs_set (i := 1) (ee_lst (ds := []) ea_nil) s scL_exof.nd fun v2 S1 H1 e1 p2 => ?_
    refine hs_for (fun i σ S' => ∃ w2 a3 a4 a5, σ = [some v1, some w2, a3, a4, a5] ∧ Dt K (.list (((ls.take i).flatten).map fun (g : Grp) => tI g.2)) w2 S') PassesOwn.never rfl (ei_list (ee_var 0 rfl (p1.up e1.st))) e1.sub (fun S' H' g => ⟨v2, none, none, none, rfl, p2.up g.st⟩) ?_ ?_
    · rintro i Pi σ1 S2 H2 x S3 H3 hP g1' ⟨w2, a3, a4, a5, rfl, pw⟩ g2' px
      have hi : i < ls.length := by
        have h2 : i < (Ds K (ls.map sideD)).length := (List.getElem?_eq_some_iff.mp hP).1
        rwa [hlen] at h2
      have hzi : (ls.map sideD)[i]? = some (sideD ls[i]) := by rw [List.getElem?_map, List.getElem?_eq_getElem hi]; rfl
      rw [ds_get hzi] at hP
      obtain rfl := Option.some.inj hP
      refine (eg_name (i := 2) scL_exof.nd rfl (Or.inl rfl)) H3 g2'.sub _ ?_
      have hmem : ls[i] ∈ ls := List.getElem_mem hi
      refine hs_set (i := 1) (P := Dt K (.list (((ls.take (i + 1)).flatten).map fun (g : Grp) => tI g.2))) (EE.isd (ee_catL (ds1 := ((ls.take i).flatten).map fun (g : Grp) => tI g.2) (ds2 := (ls[i].map fun (g : Grp) => tI g.2)) ?sz (ee_var 1 rfl (pw.up g2'.st)) (EE.isd (ee_lc (i := 3) (enc := id) (f := fun d => tI (expOf d)) rfl scL_exof.nd (blkOk_by (N := ["_law_sides_z", "_law_found", "_law_parts_here", "_law_pair", "_law_exp_z"]) (sc := defScope sL_exps_of) (by decide +kernel)) (ei_list (ee_var 2 rfl px)) ?sz2 ?el) ?e1)) ?e2) g2'.sub scL_exof.nd fun v4 S4 H4 e4 p4 => hs_nil ⟨S4, e4, v4, _, _, _, rfl, p4⟩
      case sz =>
        rw [List.length_map, List.length_map]
        have h1 := hft (i + 1)
        rw [flat_take hi, List.length_append] at h1
        show _ ≤ 16777216
        omega
      case sz2 =>
        rw [List.length_map]
        have h1 := hft (i + 1)
        rw [flat_take hi, List.length_append] at h1
        show _ ≤ 16777216
        omega
      case e1 =>
        rw [List.map_map, List.map_map]
        exact congrArg PyData.list (List.map_congr_left fun g _ => by show tI (expOf (pairD g)) = tI g.2; rw [expOf_pair])
      case e2 => rw [flat_take hi, List.map_append]
      case el =>
        intro d hd v S5 s5 pv sh' H0 C cl fp
        obtain ⟨g, hg, rfl⟩ := List.mem_map.mp hd
        have pv : Dt K (pairD g) v S5 := pv
        show EE _ _ _ _ (Dt K (tI (expOf (pairD g))))
        rw [expOf_pair]
        exact ee_ixT (ds := [tI g.2, .int g.1]) rfl (ee_var 3 rfl pv) ee_int
    · rintro σ1 S2 H2 g1' ⟨w2, a3, a4, a5, rfl, pw⟩
      have pw : Dt K (.list (((ls.take (Ds K (ls.map sideD)).length).flatten).map fun (g : Grp) => tI g.2)) w2 S2 := pw
      rw [hlen, List.take_length] at pw
      have hne : ∀ g ∈ ls.flatten, g.2 ≠ [] ∧ g.2.length ≤ 1000 := fun g hg => by
        obtain ⟨gs, h1, h2⟩ := List.mem_flatten.mp hg
        exact hw gs h1 g h2
      let ps : MapI := ls.flatten.map fun g => (g.2, 1)
      have hps : ps.map (·.1) = ls.flatten.map (·.2) := by show (ls.flatten.map fun g => (g.2, (1 : Int))).map (·.1) = _; rw [List.map_map]; rfl
      have hkey : ∀ k ∈ keysM (mkM ps), k ≠ [] ∧ k.length ≤ 1000 := fun k hk => by
        have := mkM_keys.mp hk
        rw [hps] at this
        obtain ⟨g, hg, rfl⟩ := List.mem_map.mp this
        exact hne g hg
      refine hs_ret (EE.isd (ee_sortL (enc := tI') (bs := keysM (mkM ps)) g1 (sortOk_rows (fun k hk => (hkey k hk).1) (room_u8 hr)) (ee_listDP (m := mkM ps) rfl g2 (fun k hk => Nat.le_trans (hkey k hk).2 (by show 1000 ≤ 16777216; decide)) (Nat.le_trans (mkM_len ps) (by rw [List.length_map]; show _ ≤ 16777216; omega)) (ee_dictP (ps := ps) (room_u2 hr) rfl g3 (fun q hq => ?ne) (EE.isd (ee_lc (i := 4) (enc := id) (f := fun d => .tuple [d, .int 1]) rfl scL_exof.nd (blkOk_by (N := ["_law_sides_z", "_law_found", "_law_parts_here", "_law_pair", "_law_exp_z"]) (sc := defScope sL_exps_of) (by decide +kernel)) (ei_list (ee_var 1 rfl pw)) ?sz3 ?el2) ?e3)))) ?e4) g1'.sub fun r S' H' g pr => q r S' H' ((e1.trans g1').trans g) pr
      case ne =>
        obtain ⟨g, hg, rfl⟩ := List.mem_map.mp hq
        exact (hne g hg).1
      case sz3 => rw [List.length_map]; show _ ≤ 16777216; omega
      case e3 =>
        rw [List.map_map, List.map_map, List.map_map]
        rfl
      case e4 => rw [srt_keys hps]; rfl
      case el2 =>
        intro d hd v S5 s5 pv sh' H0 C cl fp
        have pv : Dt K d v S5 := pv
        exact ee_tup (ds := [d, .int 1]) (ea_2 (ee_var 4 rfl pv) ee_int)
/-- pairs of sides -/
def prD (p : List Grp × List Grp) : PyData := .tuple [sideD p.1, sideD p.2]
def PrW (n : Nat) (m hp : Int) (sz : Nat) (p : List Grp × List Grp) : Prop := (p.1.length ≤ sz ∧ PartsOk n m hp p.1) ∧ (p.2.length ≤ sz ∧ PartsOk n m hp p.2)
def lsOf (hi : Bool) (ps qs : List (List Grp × List Grp)) : List (List Grp) := (ps.map fun p => if hi = true then p.2 else p.1) ++ (qs.map fun p => if hi = true then p.1 else p.2)
def Fsum (hi : Bool) : List PyData → PyData → Prop := fun ds r => ∃ ps qs : List (List Grp × List Grp), ds = [.list (ps.map prD), .list (qs.map prD)] ∧ ps.length + qs.length ≤ 1000 ∧ (lsOf hi ps qs).flatten.length ≤ 1000 ∧ (∀ gs ∈ lsOf hi ps qs, ∀ g ∈ gs, g.2 ≠ [] ∧ g.2.length ≤ 1000) ∧ r = .list ((rowsS (lsOf hi ps qs).flatten).map tI)
def fstD (d : PyData) : PyData := match d with
  | .tuple [a, _] => a
  | _ => .none
def sndD (d : PyData) : PyData := match d with
  | .tuple [_, b] => b
  | _ => .none
theorem scL_small : FnScope ["_law_pairs", "_law_others", "_law_pair"] ["_law_pairs", "_law_others"] (defScope sL_small) := ⟨rfl, rfl, rfl, by decide +kernel, rfl, by decide +kernel, by decide +kernel⟩
theorem ok_L_small (F : FnT K "_law_small" sL_small f fd) (D1 : KD P w K mg base "_law_exps_of" 1 (spD K Fexof)) : FnOk P w K mg base CX0 2 f fd ["_law_pairs", "_law_others"] (spD K (Fsum false)) := by
  refine fn_hs F scL_small (fun vs H Q E h => ?_) (fun cdv A outer sh H vs Q E hr h => ?_)
  · obtain ⟨S, ds, r, _, hd, ⟨ps, qs, rfl, _⟩, _⟩ := h
    exact hd.1
  · obtain ⟨S, ds, r, s, hd, ⟨ps, qs, rfl, hl, hfl, hw, rfl⟩, q⟩ := h
    obtain ⟨v1, v2, rfl, p1, p2⟩ := hd.two
    refine hs_ret (ee_call D1 (hr.mono (by decide)) (ea_1 (EE.isd (ee_catL (ds1 := (ps.map prD).map fstD) (ds2 := (qs.map prD).map sndD) ?sz ?l1 ?l2) ?e)) (spD_E (F := Fexof) (ds := [.list ((lsOf false ps qs).map sideD)]) (d := .list ((rowsS (lsOf false ps qs).flatten).map tI)) ⟨lsOf false ps qs, rfl, ?n1, hfl, hw, rfl⟩)) s q
    case sz => rw [List.length_map, List.length_map, List.length_map, List.length_map]; show _ ≤ 16777216; omega
    case n1 => unfold lsOf; rw [List.length_append, List.length_map, List.length_map]; exact hl
    case e =>
      unfold lsOf
      rw [List.map_append, List.map_map, List.map_map, List.map_map, List.map_map]
      rfl
    case l1 =>
      refine EE.isd (ee_lc (i := 2) (enc := id) (f := fstD) rfl scL_small.nd (blkOk_by (N := ["_law_pairs", "_law_others", "_law_pair"]) (sc := defScope sL_small) (by decide +kernel)) (ei_list (ee_var 0 rfl p1)) (by rw [List.length_map]; show _ ≤ 16777216; omega) ?el) (by rw [List.map_id])
      intro d hd v S5 s5 pv sh' H0 C cl fp
      obtain ⟨p, hp, rfl⟩ := List.mem_map.mp hd
      have pv : Dt K (prD p) v S5 := pv
      exact ee_ixT (ds := [sideD p.1, sideD p.2]) rfl (ee_var 2 rfl pv) ee_int
    case l2 =>
      refine EE.isd (ee_lc (i := 2) (enc := id) (f := sndD) rfl scL_small.nd (blkOk_by (N := ["_law_pairs", "_law_others", "_law_pair"]) (sc := defScope sL_small) (by decide +kernel)) (ei_list (ee_var 1 rfl p2)) (by rw [List.length_map]; show _ ≤ 16777216; omega) ?el2) (by rw [List.map_id])
      intro d hd v S5 s5 pv sh' H0 C cl fp
      obtain ⟨p, hp, rfl⟩ := List.mem_map.mp hd
      have pv : Dt K (prD p) v S5 := pv
      exact ee_ixT (ds := [sideD p.1, sideD p.2]) rfl (ee_var 2 rfl pv) ee_int
theorem scL_great : FnScope ["_law_pairs", "_law_others", "_law_pair"] ["_law_pairs", "_law_others"] (defScope sL_great) := ⟨rfl, rfl, rfl, by decide +kernel, rfl, by decide +kernel, by decide +kernel⟩
theorem ok_L_great (F : FnT K "_law_great" sL_great f fd) (D1 : KD P w K mg base "_law_exps_of" 1 (spD K Fexof)) : FnOk P w K mg base CX0 2 f fd ["_law_pairs", "_law_others"] (spD K (Fsum true)) := by
  refine fn_hs F scL_great (fun vs H Q E h => ?_) (fun cdv A outer sh H vs Q E hr h => ?_)
  · obtain ⟨S, ds, r, _, hd, ⟨ps, qs, rfl, _⟩, _⟩ := h
    exact hd.1
  · obtain ⟨S, ds, r, s, hd, ⟨ps, qs, rfl, hl, hfl, hw, rfl⟩, q⟩ := h
    obtain ⟨v1, v2, rfl, p1, p2⟩ := hd.two
    refine hs_ret (ee_call D1 (hr.mono (by decide)) (ea_1 (EE.isd (ee_catL (ds1 := (ps.map prD).map sndD) (ds2 := (qs.map prD).map fstD) ?sz ?l1 ?l2) ?e)) (spD_E (F := Fexof) (ds := [.list ((lsOf true ps qs).map sideD)]) (d := .list ((rowsS (lsOf true ps qs).flatten).map tI)) ⟨lsOf true ps qs, rfl, ?n1, hfl, hw, rfl⟩)) s q
    case sz => rw [List.length_map, List.length_map, List.length_map, List.length_map]; show _ ≤ 16777216; omega
    case n1 => unfold lsOf; rw [List.length_append, List.length_map, List.length_map]; exact hl
    case e =>
      unfold lsOf
      rw [List.map_append, List.map_map, List.map_map, List.map_map, List.map_map]
      rfl
    case l1 =>
      refine EE.isd (ee_lc (i := 2) (enc := id) (f := sndD) rfl scL_great.nd (blkOk_by (N := ["_law_pairs", "_law_others", "_law_pair"]) (sc := defScope sL_great) (by decide +kernel)) (ei_list (ee_var 0 rfl p1)) (by rw [List.length_map]; show _ ≤ 16777216; omega) ?el) (by rw [List.map_id])
      intro d hd v S5 s5 pv sh' H0 C cl fp
      obtain ⟨p, hp, rfl⟩ := List.mem_map.mp hd
      have pv : Dt K (prD p) v S5 := pv
      exact ee_ixT (ds := [sideD p.1, sideD p.2]) rfl (ee_var 2 rfl pv) ee_int
    case l2 =>
      refine EE.isd (ee_lc (i := 2) (enc := id) (f := fstD) rfl scL_great.nd (blkOk_by (N := ["_law_pairs", "_law_others", "_law_pair"]) (sc := defScope sL_great) (by decide +kernel)) (ei_list (ee_var 1 rfl p2)) (by rw [List.length_map]; show _ ≤ 16777216; omega) ?el2) (by rw [List.map_id])
      intro d hd v S5 s5 pv sh' H0 C cl fp
      obtain ⟨p, hp, rfl⟩ := List.mem_map.mp hd
      have pv : Dt K (prD p) v S5 := pv
      exact ee_ixT (ds := [sideD p.1, sideD p.2]) rfl (ee_var 2 rfl pv) ee_int
/-- _law_made -/
def spMade (K : PySem.W.Frag) (CC CS CP : Addr) : Sp := fun vs H Q _ => ∃ S z ps, ∃ prs : List (List Grp × List Grp), ∃ u v, vs = [u, v] ∧ Same S H ∧ SchP K CS z ps u S ∧ Dt K (.list (prs.map prD)) v S ∧ prs.length ≤ 1000 ∧ (∀ p ∈ prs, LcOk z p.1 p.2) ∧ ∀ r S' H', Gr S H S' H' → LstP (prs.map fun p => ClmP K CC CS CP z ps (norm p.1) (norm p.2)) r S' → Q r H'
theorem spMade_E {S : Hp} {z : Str} {ps : Rules} {prs : List (List Grp × List Grp)} (hl : prs.length ≤ 1000) (ho : ∀ p ∈ prs, LcOk z p.1 p.2) : SpE (spMade K CC CS CP) S [SchP K CS z ps, Dt K (.list (prs.map prD))] (LstP (prs.map fun p => ClmP K CC CS CP z ps (norm p.1) (norm p.2))) := fun vs S1 H1 st s al Q q => by
  obtain ⟨u, v, rfl, p1, p2⟩ := al.two
  exact ⟨S1, z, ps, prs, u, v, rfl, s, p1, p2, hl, ho, q⟩
theorem scL_made : FnScope ["_law_schema_z", "_law_pairs", "_law_pair"] ["_law_schema_z", "_law_pairs"] (defScope sL_made) := ⟨rfl, rfl, rfl, by decide +kernel, rfl, by decide +kernel, by decide +kernel⟩
theorem ok_L_made (F : FnT K "_law_made" sL_made f fd) (D1 : KD P w K mg base "_law_claim" 7 (spLc K CC CS CP)) : FnOk P w K mg base CX0 8 f fd ["_law_schema_z", "_law_pairs"] (spMade K CC CS CP) := by
  refine fn_hs F scL_made (fun vs H Q E h => ?_) (fun cdv A outer sh H vs Q E hr h => ?_)
  · obtain ⟨S, z, ps, prs, u, v, rfl, _⟩ := h
    rfl
  · obtain ⟨S, z, ps, prs, u, v, rfl, s, p1, p2, hl, ho, q⟩ := h
    have e0 : Ds K (prs.map prD) = prs.map fun p => Dt K (prD p) := by unfold Ds; rw [List.map_map]; rfl
    refine hs_ret (ee_lcB (G := fun p : List Grp × List Grp => ClmP K CC CS CP z ps (norm p.1) (norm p.2)) (ds := prs) (R := fun p => Dt K (prD p)) (own := [("_law_pair", 2)]) (fun _ _ => inferInstance) rfl scL_made.nd (blkOk_by (N := ["_law_schema_z", "_law_pairs", "_law_pair"]) (sc := defScope sL_made) (by decide +kernel)) (by rw [← e0]; exact ei_list (ee_var 1 rfl p2)) (by show _ ≤ 16777216; omega) ?el) s q
    intro p hp x S3 s3 px
    have px : Dt K (prD p) x S3 := px
    refine ⟨[some u, some v, some x], rfl, fun sh' H0 C' cl fp => ⟨eg_name (i := 2) scL_made.nd rfl (Or.inl rfl), ets_nil, ?_⟩⟩
    exact ee_call D1 (hr.mono (by decide)) (ea_cons (ee_var 0 rfl (P := SchP K CS z ps) (Mn.up s3 p1)) (ea_2 (ee_ixT (ds := [sideD p.1, sideD p.2]) rfl (ee_var 2 rfl px) ee_int) (ee_ixT (ds := [sideD p.1, sideD p.2]) rfl (ee_var 2 rfl px) ee_int))) (spLc_E (z := z) (ps := ps) (g1 := p.1) (g2 := p.2) (ho p hp))
/-- _law_some_pairs -/
def Fspr : List PyData → (PyData → Prop) → Prop := fun ds G => ∃ (n sz c : Nat) (m : Int), ds = [.int n, .int m, .int sz, .int c] ∧ 1 ≤ n ∧ n ≤ 3 ∧ 0 ≤ m ∧ m ≤ 6 ∧ 1 ≤ sz ∧ sz ≤ 12 ∧ c ≤ 1000 ∧
  G = fun d => ∃ ps : List (List Grp × List Grp), d = .list (ps.map prD) ∧ ps.length = c ∧ ∀ p ∈ ps, PrW n m 2 sz p
theorem scL_spr : FnScope ["_law_box", "_law_many", "_law_most", "_law_size", "_law_count_z", "_law_at"] ["_law_box", "_law_many", "_law_most", "_law_size", "_law_count_z"] (defScope sL_some_pairs) := ⟨rfl, rfl, rfl, by decide +kernel, rfl, by decide +kernel, by decide +kernel⟩
theorem ok_L_spr (F : FnT K "_law_some_pairs" sL_some_pairs f fd) (D1 : KD P w K mg base "_law_some_parts" 5 (spB K (Fparts true))) (g1 : mg "range" = none) : FnOk P w K mg base CX0 6 f fd ["_law_box", "_law_many", "_law_most", "_law_size", "_law_count_z"] (spB K Fspr) := by
  refine fn_hs F scL_spr (fun vs H Q E h => ?_) (fun cdv A outer sh H vs Q E hr h => ?_)
  · obtain ⟨S, v, ws, ds, G, rfl, _, _, hd, ⟨n, sz, c, m, rfl, _⟩, _⟩ := h
    have := hd.1
    simp at this
    simp [this]
  · obtain ⟨S, v, ws, ds, G, rfl, s, hb, hd, ⟨n, sz, c, m, rfl, n1, n3, m0, m1, z1, z2, hc, rfl⟩, q⟩ := h
    obtain ⟨v1, v2, v3, v4, rfl, p1, p2, p3, p4⟩ : ∃ v1 v2 v3 v4, ws = [v1, v2, v3, v4] ∧ Dt K (.int n) v1 S ∧ Dt K (.int m) v2 S ∧ Dt K (.int sz) v3 S ∧ Dt K (.int c) v4 S := by
      have hl := hd.1
      match ws, hl with
      | [a, b, c, d], _ => exact ⟨a, b, c, d, rfl, hd.2 0 a _ rfl rfl, hd.2 1 b _ rfl rfl, hd.2 2 c _ rfl rfl, hd.2 3 d _ rfl rfl⟩
    refine hs_ret ((ee_lcW (i := 5) (F := fun _ d => ∃ p : List Grp × List Grp, d = prD p ∧ PrW n m 2 sz p) rfl scL_spr.nd (blkOk_by (N := ["_law_box", "_law_many", "_law_most", "_law_size", "_law_count_z", "_law_at"]) (sc := defScope sL_some_pairs) (by decide +kernel))
      (eiw_range (F := fun k => k = c) g1 (fun k hk => by omega) ((ee_var 4 rfl p4).ex ⟨c, rfl, rfl⟩)) (fun ds ⟨k, hk, e⟩ => by rw [e, upto_len]; show _ ≤ 16777216; omega) ?_).exi
      (G := fun d => ∃ ps : List (List Grp × List Grp), d = .list (ps.map prD) ∧ ps.length = c ∧ ∀ p ∈ ps, PrW n m 2 sz p) fun d ⟨rs, e, ds, ⟨k, hk, e2⟩, hp⟩ => ?_) s ?_
    · intro ds hds d hd v S2 s2 pv sh' H0 C cl fp
      have hb2 : BX _ S2 := Mn.up s2 hb
      have F0 : Fparts true [.int n, .int m, .int sz, .int 2] fun d => ∃ gs : List Grp, d = .list (gs.map pairD) ∧ gs.length ≤ sz ∧ (true = false → gs ≠ []) ∧ PartsOk n m 2 gs := ⟨n, sz, m, 2, rfl, by omega, by omega, m0, by omega, by omega, by omega, by decide, by decide, rfl⟩
      refine (ee_pairE (ee_callBx D1 (hr.mono (by decide)) F0 (ea_cons (ee_var 0 rfl hb2) (ea_cons (ee_var 1 rfl (p1.up s2)) (ea_cons (ee_var 2 rfl (p2.up s2)) (ea_2 (ee_var 3 rfl (p3.up s2)) ee_int))))) (ee_callBx D1 (hr.mono (by decide)) F0 (ea_cons (ee_var 0 rfl hb2) (ea_cons (ee_var 1 rfl (p1.up s2)) (ea_cons (ee_var 2 rfl (p2.up s2)) (ea_2 (ee_var 3 rfl (p3.up s2)) ee_int)))))).exi ?_
      rintro d ⟨d1, d2, rfl, ⟨l1, rfl, a1, _, b1⟩, ⟨l2, rfl, a2, _, b2⟩⟩
      exact ⟨(l1, l2), rfl, ⟨a1, b1⟩, ⟨a2, b2⟩⟩
    · obtain ⟨l, rfl, h2, h3⟩ := paired_any (enc := prD) hp
      exact ⟨l, e, by rw [h2, e2, upto_len]; exact hk, h3⟩
    · rintro v S' H' g ⟨d, hd, pd⟩
      exact q d hd v S' H' g pd
end
end
end K23
namespace K23
open PySem PySem.Spec PyProof.Rows L2 Z Y LamX NdefX
section
variable {P : Program} {w : World} {K : PySem.W.Frag} {mg : Str → Option Value} {base : Heap} {f : Addr} {fd : FuncData}
/-! ## _law_one of things -/
def spOneP (P : V → Hp → Prop) : Sp := fun vs H Q _ => ∃ S, ∃ k : Nat, ∃ v u, vs = [v, u] ∧ Same S H ∧ BX v S ∧ LstP (List.replicate k P) u S ∧ 1 ≤ k ∧ k < 1000 ∧ ∀ w S' H', Gr S H S' H' → P w S' → Q w H'
theorem spOneP_E {P : V → Hp → Prop} {S : Hp} {k : Nat} (h1 : 1 ≤ k) (h2 : k < 1000) : SpE (spOneP P) S [BX, LstP (List.replicate k P)] P := fun vs S1 H1 st s al Q q => by
  obtain ⟨v, u, rfl, p1, p2⟩ := al.two
  exact ⟨S1, k, v, u, rfl, s, p1, p2, h1, h2, q⟩
theorem rep_mn {P : V → Hp → Prop} [m : Mn P] {k : Nat} : ∀ Q ∈ List.replicate k P, Mn Q := fun Q hQ => by
  rw [List.eq_of_mem_replicate hQ]; exact m
section
variable {P : Program} {w : World} {K : PySem.W.Frag} {mg : Str → Option Value} {base : Heap} {f : Addr} {fd : FuncData}
theorem ok_L_oneP {Pp : V → Hp → Prop} [mp : Mn Pp] (F : FnT K "_law_one" sL_one f fd) (D1 : KD P w K mg base "_law_take" 1 (spB K Ftake)) (g1 : mg "len" = none) : FnOk P w K mg base CX0 2 f fd ["_law_box", "_law_some"] (spOneP Pp) := by
  refine fn_hs F scL_one (fun vs H Q E h => ?_) (fun cdv A outer sh H vs Q E hr h => ?_)
  · obtain ⟨S, k, v, u, rfl, _⟩ := h
    rfl
  · obtain ⟨S, k, v, u, rfl, s, hb, pu, k1, k2, q⟩ := h
    have mnP := rep_mn (P := Pp) (k := k)
    haveI := lstP_mn mnP
    refine hs_ret (P := Pp) ?_ s q
    refine ee_2 (pe_ix ix_list peb peb (fun _ _ => rfl)) (ee_var 1 rfl pu) ((ee_callBx D1 hr ⟨(k : Nat), rfl, by omega, by omega, rfl⟩ (ea_2 (ee_var 0 rfl hb) (ee_lenSq (t := false) mnP g1 (ee_var 1 rfl pu) (by rw [List.length_replicate])))).exi (G := fun d => ∃ n : Int, d = .int n ∧ 0 ≤ n ∧ n < k) fun d ⟨n, e, n0, n1⟩ => ⟨n, e, n0, n1⟩) fun x y S1 H1 _ s px py Q q => ?_
    obtain ⟨d, ⟨n, rfl, n0, n1⟩, py⟩ := py
    cases py
    obtain ⟨l, xs, rfl, hl, al⟩ := px
    have hlen := al_len al
    rw [List.length_replicate] at hlen
    obtain ⟨m, rfl⟩ : ∃ m : Nat, n = (m : Int) := ⟨n.toNat, by omega⟩
    have hx : m < xs.length := by omega
    obtain ⟨P', e1, e2⟩ := al_get al (List.getElem?_eq_getElem hx)
    have hP' : P' = Pp := List.eq_of_mem_replicate (List.mem_of_getElem? e1)
    subst hP'
    exact ⟨l, xs, (m : Int), xs[m], rfl, rfl, sql_of (s _ _ hl), L2.atI_nat (List.getElem?_eq_getElem hx), q _ S1 H1 (Gr.refl s) e2⟩
end
abbrev kICl (C : Addr) : EK := ⟨C, "InvalidClaim", some "at"⟩
abbrev kWS (C : Addr) : EK := ⟨C, "WrongSchema", some "at"⟩
/-- what is refused as claims for its kind or its length -/
def BadCl (K : PySem.W.Frag) (CC CS CP : Addr) (v : V) (S : Hp) : Prop := ∃ a, CAP K CC CS CP a v S ∧ chkC 1 none a = some (true, -1)
instance {K : PySem.W.Frag} {CC CS CP : Addr} : Mn (BadCl K CC CS CP) := ⟨fun s ⟨a, h, e⟩ => ⟨a, Mn.up s h, e⟩⟩
/-- what stands around the law -/
structure LE (P : Program) (w : World) (K : PySem.W.Frag) (mg : Str → Option Value) (base : Heap) (CV CC CS CP CI CZ : Addr) (tup : List Value) (c Pt : Addr) : Prop where
  openD : KD P w K mg base "_law_open" 1 (spOpen K)
  take : KD P w K mg base "_law_take" 1 (spB K Ftake)
  one : KD P w K mg base "_law_one" 2 (spB K Fone)
  oneC : KD P w K mg base "_law_one" 2 (spOneP (NotI K CC))
  oneN : KD P w K mg base "_law_one" 2 (spOneP (BadCl K CC CS CP))
  letters : KD P w K mg base "_law_letters" 3 (spB K Fletters)
  sfacts : KD P w K mg base "_law_some_facts" 3 (spB K Fsome)
  spairs : KD P w K mg base "_law_some_pairs" 6 (spB K Fspr)
  small : KD P w K mg base "_law_small" 2 (spD K (Fsum false))
  great : KD P w K mg base "_law_great" 2 (spD K (Fsum true))
  made : KD P w K mg base "_law_made" 8 (spMade K CC CS CP)
  claim : KD P w K mg base "_law_claim" 7 (spLc K CC CS CP)
  same : ∀ n, KD P w K mg base "_law_same" (n + 2) (spD K (Fsame n))
  tries : KD P w K mg base "_law_tries" 11 (spTries P w K mg base tup 8)
  mkS : MkS P w K mg base CS
  mkP : MkP P w K mg base CP
  mkV : MkV P w K mg base CV CC CS CP
  mkVX : MkVX P w K mg base CV CC CS CP (kICl CI) (kWS CZ)
  gS : mg "Schema" = some (.ref CS)
  gP : mg "Product" = some (.ref CP)
  gV : mg "Verdict" = some (.ref CV)
  cS : Cls K CS
  cP : Cls K CP
  cC : Cls K CC
  cV : Cls K CV
  isS : IsiC K CS
  isP : IsiC K CP
  clms : KM P w K mg base CV "claims" 1 (spVl CV false)
  prms : KM P w K mg base CV "premises" 1 (spVl CV true)
  smal : KM P w K mg base CV "small_sums" 3 (spVs K CV CC CS CP false)
  grea : KM P w K mg base CV "great_sums" 3 (spVs K CV CC CS CP true)
  told : KM P w K mg base CV "told" 1 (spO K (FVc CV (.str "open")))
  holds : KM P w K mg base CV "holds" 1 (spO K (FVc CV (.bool false)))
  boo : KM P w K mg base CV "__bool__" 1 (spO K (FVc CV (.bool false)))
  rep : KM P w K mg base CV "__repr__" 2 (spO K (FVc CV (.str "Verdict(open)")))
  okI : KOk K tup (kICl CI)
  okZ : KOk K tup (kWS CZ)
  tab : TabB base mg c Pt
  kit : ∀ T ∈ (["NoneType", "int", "str", "list", "tuple"] : List String), PySem.W.kitOne K (.type T) (.ref CC) = some false
  kitS : PySem.W.kitOne K (.ref CS) (.ref CC) = some false
  kitP : PySem.W.kitOne K (.ref CP) (.ref CC) = some false
  flist : mg "list" = none
  fint : mg "int" = none
  flen : mg "len" = none
  ftuple : mg "tuple" = none
  frange : mg "range" = none
  fbool : mg "bool" = none
  frepr : mg "repr" = none
abbrev NL : List Str := ["_law_script", "_law_box", "_law_turn", "_law_many", "_law_letters_here", "_law_rules", "_law_schema_z", "_law_pairs", "_law_others", "_law_one_z", "_law_two_z", "_law_handed", "_law_made_here", "_law_told", "_law_spot", "_law_wrong", "_law_late", "_law_bent", "_law_other", "_law_none", "_law_asks", "_law_at", "_law_due"]
theorem sc_law : FnScope NL ["_law_script"] (defScope slaw) := ⟨rfl, rfl, rfl, by decide +kernel, rfl, by decide +kernel, by decide +kernel⟩
def forBody (s : Stmt) : List Stmt := match s with
  | .For _ _ b _ _ => b
  | _ => []
def stAt (l : List Stmt) (i : Nat) : Stmt := l.getD i (.Pass ⟨0, 0, 0, 0⟩)
def turnBody : List Stmt := forBody (stAt (defBody slaw) 1)
def asksL (s : Stmt) : List Expr := match s with
  | .Assign _ (.List es _) _ => es
  | .Assign _ (.BinOp _ _ (.List es _) _) _ => es
  | _ => []
def lamOf (s : Stmt) (i : Nat) : Expr := (asksL s).getD i (.Constant .none 0 ⟨0, 0, 0, 0⟩)
def lamQ : Str := (envOfC "law" (defScope slaw) 0 0 .none).qual ++ "<lambda>"
abbrev LX (P : Program) (w : World) (K : PySem.W.Frag) (mg : Str → Option Value) (base : Heap) (f c : Addr) (A : Around) (outer : List Env) (sh : Shared) (H0 : Hp) (E : XK) : Cx := (cxOf CX0 P w K mg base NL "law" (defScope slaw) f (.ref c) A outer sh H0 E).nox
theorem LE.U {CV CC CS CP CI CZ : Addr} {tup : List Value} {c Pt : Addr} (L : LE P w K mg base CV CC CS CP CI CZ tup c Pt) {A : Around} {outer : List Env} {sh : Shared} {H0 : Hp} {E : XK} : TabU (LX P w K mg base f c A outer sh H0 E) c Pt lamQ := ⟨L.tab, rfl, rfl⟩
theorem tab_step {S H Hf : Hp} (s : Same S H) (nT : ∀ a ps, S a ≠ some (.tbl ps)) (x : ExtN H Hf) : Same S (Y.noTab Hf) := fun a o e => noTab_at (x a o (s a o e) fun ps z => nT a ps (by rw [e, z])) fun ps z => nT a ps (by rw [e, z])
theorem sch_noTab {C : Addr} {z : Str} {ps : Rules} {v : V} {S : Hp} (h : SchP K C z ps v S) : SchP K C z ps v (Y.noTab S) := by
  obtain ⟨l, a, dx, xs, e, h1, h2, h3, h4⟩ := h
  exact ⟨l, a, dx, xs, e, noTab_at h1 (fun _ z => nomatch z), noTab_at h2 (fun _ z => nomatch z), ⟨h3.1, fun i x d hx hd => dt_noTab (h3.2 i x d hx hd)⟩, h4⟩
theorem prd_noTab {C : Addr} {n : Nat} {gs : List Grp} {v : V} {S : Hp} (h : PrdP C n gs v S) : PrdP C n gs v (Y.noTab S) := by
  obtain ⟨l, a, dx, e, h1, o, h2⟩ := h
  exact ⟨l, a, dx, e, noTab_at h1 (fun _ z => nomatch z), o, noTab_at h2 (fun _ z => nomatch z)⟩
theorem clm_noTab {K : PySem.W.Frag} {CC CS CP : Addr} {z : Str} {ps : Rules} {g1 g2 : List Grp} {v : V} {S : Hp} (h : ClmP K CC CS CP z ps g1 g2 v S) : ClmP K CC CS CP z ps g1 g2 v (Y.noTab S) := by
  obtain ⟨a, dx, s, l, h, e, h0, h1, h2, h3⟩ := h
  exact ⟨a, dx, s, l, h, e, noTab_at h0 (fun _ z => nomatch z), sch_noTab h1, prd_noTab h2, prd_noTab h3⟩
/-- the names that the lambdas capture -/
abbrev capN : List Str := ["_law_box", "_law_one_z", "_law_two_z", "_law_wrong", "_law_late", "_law_bent", "_law_other", "_law_none"]
theorem cap_cells {c : Addr} {A : Around} {outer : List Env} {sh : Shared} {H0 : Hp} {E : XK} : ∀ y ∈ capN, (LX P w K mg base f c A outer sh H0 E).env.scope.names.lookup y = some .cell ∧ (LX P w K mg base f c A outer sh H0 E).fn y = true := fun y hy => by
  simp only [capN, List.mem_cons, List.not_mem_nil, or_false] at hy
  rcases hy with rfl | rfl | rfl | rfl | rfl | rfl | rfl | rfl <;> exact ⟨rfl, rfl⟩
def lamB (e : Expr) : Bool := (LamSc e).names.all fun y => !decide (y.2 = .free) || (decide ((defScope slaw).names.lookup y.1 = some .cell) && decide (y.1 ∈ capN))
theorem lamB_free {e : Expr} (h : lamB e = true) : ∀ y ∈ (LamSc e).names, y.2 = .free → (defScope slaw).names.lookup y.1 = some .cell ∨ (defScope slaw).names.lookup y.1 = some .free := fun y hy hf => by
  have := List.all_eq_true.mp h y hy
  rw [hf] at this
  simp only [decide_true, Bool.not_true, Bool.false_or, Bool.and_eq_true, decide_eq_true_eq] at this
  exact .inl this.1
theorem lamB_sub {e : Expr} (h : lamB e = true) : ∀ y ∈ (LamSc e).names, y.2 = .free → y.1 ∈ capN := fun y hy hf => by
  have := List.all_eq_true.mp h y hy
  rw [hf] at this
  simp only [decide_true, Bool.not_true, Bool.false_or, Bool.and_eq_true, decide_eq_true_eq] at this
  exact this.2
def NoD : PyData → Prop := fun _ => False
theorem ok_one {K : PySem.W.Frag} {tup : List Value} {k : EK} {g : PyData} (h : KOk K tup k) : ∀ e g', O1 k g e g' → KOk K tup e := fun e g' ⟨a, _⟩ => by subst a; exact h
/-! ### the columns -/
theorem col_ok {a st : Int} {n : Nat} (hs : stepOk st) (n1 : 1 ≤ n) (n3 : n ≤ 3) : ColOk (cols a st n) := by
  have e : (cols a st n).cps.toList = (List.range n).map (colCode a st) := by unfold cols; simp
  refine ⟨?_, ?_, ?_, ?_, fun c hc => ?_⟩
  · rw [← Array.all_toList, e, List.all_eq_true]
    intro c hc
    obtain ⟨i, _, rfl⟩ := List.mem_map.mp hc
    have := col_range a st i
    exact decide_eq_true (by omega)
  · rw [e]; exact cols_nodup hs n3
  · rw [cols_size]; exact n1
  · rw [cols_size]; exact n3
  · rw [e] at hc
    obtain ⟨i, _, rfl⟩ := List.mem_map.mp hc
    exact col_range a st i
end
end K23
namespace K23
open PySem PySem.Spec PyProof.Rows L2 Z Y LamX NdefX
section
variable {P : Program} {w : World} {K : PySem.W.Frag} {mg : Str → Option Value} {base : Heap} {f : Addr} {fd : FuncData}
/-! ## the law's turn: what is built -/
/-- the pairs as they are drawn -/
def PsOk (n sz : Nat) (ps : List (List Grp × List Grp)) : Prop := ∀ p ∈ ps, PrW n 3 2 sz p
theorem PrW.lc {n sz : Nat} {z : Str} {p : List Grp × List Grp} (h : PrW n 3 2 sz p) (n1 : 1 ≤ n) (n3 : n ≤ 3) (hz : z.cps.size = n) (hs : sz ≤ 3) : LcOk z p.1 p.2 := by
  have key : ∀ gs : List Grp, gs.length ≤ sz → PartsOk n 3 2 gs → PrOk n gs := fun gs h1 h2 => ⟨n1, n3, by omega, by rw [h2.1]; omega, fun g hg => by
    obtain ⟨a, b, c, d⟩ := h2.2 g hg
    exact ⟨a, c, fun x hx => by have := d x hx; omega⟩⟩
  unfold LcOk
  rw [hz]
  exact ⟨key _ h.1.1 h.1.2, key _ h.2.1 h.2.2⟩
/-- the claims of the pairs -/
def crOf (z : Str) (ps : Rules) (p : List Grp × List Grp) : CR := ((z, ps), (norm p.1, norm p.2))
/-- claims: these very things -/
def ClsL (K : PySem.W.Frag) (CC CS CP : Addr) (xs : List V) (rs : List CR) (v : V) (S : Hp) : Prop := xs.length = rs.length ∧ Pins xs v S ∧ Al (itPs K CC CS CP xs (rs.map some)) xs S
instance {K : PySem.W.Frag} {CC CS CP : Addr} {xs : List V} {rs : List CR} : Mn (ClsL K CC CS CP xs rs) := ⟨fun s ⟨e, h, a⟩ => ⟨e, Mn.up s h, al_mn itPs_mn s a⟩⟩
theorem ClsL.cap {K : PySem.W.Frag} {CC CS CP : Addr} {xs : List V} {rs : List CR} {v : V} {S : Hp} (h : ClsL K CC CS CP xs rs v S) : CAP K CC CS CP (.seq false xs (rs.map some)) v S := ⟨by rw [List.length_map]; exact h.1, pins_lst (by rw [List.length_map]; exact h.1) h.2.2 h.2.1⟩
def clmOf (K : PySem.W.Frag) (CC CS CP : Addr) (z : Str) (ps : Rules) (p : List Grp × List Grp) : V → Hp → Prop := ClmP K CC CS CP z ps (norm p.1) (norm p.2)
instance clmL_mn {K : PySem.W.Frag} {CC CS CP : Addr} {z : Str} {ps : Rules} {prs : List (List Grp × List Grp)} : Mn (LstP (prs.map (clmOf K CC CS CP z ps))) := lstP_mn fun P hP => by
  obtain ⟨p, _, rfl⟩ := List.mem_map.mp hP
  exact inferInstanceAs (Mn (ClmP K CC CS CP z ps (norm p.1) (norm p.2)))
theorem al_crs {K : PySem.W.Frag} {CC CS CP : Addr} {z : Str} {ps : Rules} {S : Hp} : ∀ {prs : List (List Grp × List Grp)} {xs : List V}, Al (prs.map fun p => ClmP K CC CS CP z ps (norm p.1) (norm p.2)) xs S → xs.length = (prs.map (crOf z ps)).length ∧ Al (itPs K CC CS CP xs ((prs.map (crOf z ps)).map some)) xs S
  | [], _, .nil => ⟨rfl, .nil⟩
  | p :: prs, _, .cons h t => ⟨by rw [List.length_cons, (al_crs t).1]; simp, .cons ⟨rfl, h⟩ (al_crs t).2⟩
theorem cls_of {K : PySem.W.Frag} {CC CS CP : Addr} {z : Str} {ps : Rules} {S : Hp} {prs : List (List Grp × List Grp)} {v : V} (h : LstP (prs.map fun p => ClmP K CC CS CP z ps (norm p.1) (norm p.2)) v S) : ∃ xs, ClsL K CC CS CP xs (prs.map (crOf z ps)) v S := by
  obtain ⟨l, xs, e, h1, al⟩ := h
  obtain ⟨a, b⟩ := al_crs al
  exact ⟨xs, a, ⟨l, e, h1⟩, b⟩
section
variable {CV CC CS CP CI CZ : Addr} {tup : List Value} {c Pt : Addr} {A : Around} {outer : List Env} {sh : Shared} {H0 : Hp} {E : XK} {vs vb : V} {S H : Hp} {D : Ends} {rest : List Stmt}
variable {n : Nat} {z : Str} {ps : Rules} {p1 p2 : List (List Grp × List Grp)} {v3 v4 v5 v6 v7 v8 v9 v10 v11 v12 v13 v14 v15 v16 v17 v18 v19 v20 v21 : V}
theorem turn_a (L : LE P w K mg base CV CC CS CP CI CZ tup c Pt) (hr : Room 12 (LX P w K mg base f c A outer sh H0 E).A) {a2 a3 a4 a5 a6 a7 a8 a9 a10 a11 a12 a13 a14 a15 a16 a17 a18 a19 a20 a21 a22 : Option V} (s : Same S H) (hb : BX vb S)
    (nx : ∀ n z ps p1 p2 xs ys v3 v4 v5 v6 v7 v8 v9 v10 S' H', Gr S H S' H' → 1 ≤ n → n ≤ 2 → z.cps.size = n → SchOk z ps → ps.length ≤ 2 → 1 ≤ p1.length → p1.length ≤ 4 → p2.length ≤ 4 → PsOk n 3 p1 → PsOk n 2 p2 → Dt K (.int (n : Nat)) v3 S' → Dt K (.str z) v4 S' → Dt K (.list (ps.map ruleD)) v5 S' → SchP K CS z ps v6 S' → Dt K (.list (p1.map prD)) v7 S' → Dt K (.list (p2.map prD)) v8 S' → ClsL K CC CS CP xs (p1.map (crOf z ps)) v9 S' → ClsL K CC CS CP ys (p2.map (crOf z ps)) v10 S' →
      HS (LX P w K mg base f c A outer sh H0 E) D rest [some vs, some vb, a2, some v3, some v4, some v5, some v6, some v7, some v8, some v9, some v10, a11, a12, a13, a14, a15, a16, a17, a18, a19, a20, a21, a22] H') :
    HS (LX P w K mg base f c A outer sh H0 E) D (stAt turnBody 0 :: stAt turnBody 1 :: stAt turnBody 2 :: stAt turnBody 3 :: stAt turnBody 4 :: rest) [some vs, some vb, a2, a3, a4, a5, a6, a7, a8, a9, a10, a11, a12, a13, a14, a15, a16, a17, a18, a19, a20, a21, a22] H := by
  refine hs_set (i := 3) (P := Ex K fun d => ∃ n : Nat, d = .int n ∧ 1 ≤ n ∧ n ≤ 2) ((ee_addE (F := fun i => i = 1) (G := fun i => 0 ≤ i ∧ i < 2) (ee_int.ex ⟨1, rfl, rfl⟩) (ee_callBx L.take (hr.mono (by decide)) ⟨2, rfl, by decide, by decide, rfl⟩ (ea_2 (ee_var 1 rfl hb) ee_int))).exi fun d ⟨i, e, x, y, hx, hy, hi⟩ => ⟨(1 + y).toNat, by rw [e]; congr 1; omega, by omega, by omega⟩) s sc_law.nd fun v3 S1 H1 g1 pm => ?_
  obtain ⟨_, ⟨n, rfl, n1, n3⟩, pm⟩ := pm
  have hb1 : BX vb S1 := Mn.up g1.st hb
  refine hs_par (i := 4) (j := 5) (Pa := Ex K fun d => ∃ a st : Int, d = .str (cols a st n) ∧ stepOk st) (Pb := Ex K fun d => ∃ ps : List (List Int × List Int), d = .list (ps.map ruleD) ∧ (ps.length : Int) ≤ 2 ∧ ∀ p ∈ ps, (p.1.length = n ∧ ∀ x ∈ p.1, 0 ≤ x ∧ x ≤ 2) ∧ (p.2.length = n ∧ ∀ x ∈ p.2, 0 ≤ x ∧ x ≤ 2)) rfl sc_law.nd (ee_callBx L.letters (hr.mono (by decide)) ⟨n, rfl, by omega, rfl⟩ (ea_2 (ee_var 1 rfl hb1) (ee_var 3 rfl pm))) (ee_callBx L.sfacts (hr.mono (by decide)) ⟨n, 2, 2, rfl, by omega, by decide, by decide, by decide, by decide, rfl⟩ (ea_cons (ee_var 1 rfl hb1) (ea_cons (ee_var 3 rfl pm) (ea_2 ee_int ee_int)))) g1.sub fun v4 v5 S2 H2 pz pr g2 => ?_
  obtain ⟨_, ⟨a, st, rfl, hst⟩, pz⟩ := pz
  obtain ⟨_, ⟨ps, rfl, hpl, hps⟩, pr⟩ := pr
  have hz : (cols a st n).cps.size = n := cols_size a st n
  have ho : SchOk (cols a st n) ps := ⟨col_ok hst n1 (by omega), by omega, fun p hp => by
    rw [hz]
    obtain ⟨⟨h1, h2⟩, ⟨h3, h4⟩⟩ := hps p hp
    exact ⟨⟨h1, fun x hx => by have := h2 x hx; omega⟩, ⟨h3, fun x hx => by have := h4 x hx; omega⟩⟩⟩
  have G2 := g1.trans g2
  have hb2 : BX vb S2 := Mn.up G2.st hb
  have pm2 := pm.up g2.st
  refine hs_set (i := 6) (P := SchP K CS (cols a st n) ps) ((ee_mk2 L.mkS (hr.mono (by decide)) L.gS ho (.inl rfl) (ee_var 4 rfl pz) (ee_var 5 rfl pr)).imp fun _ _ h => newR_sch h) g2.sub sc_law.nd fun v6 S3 H3 g3 p6 => ?_
  have hb3 : BX vb S3 := Mn.up g3.st hb2
  have pm3 := pm2.up g3.st
  have one : ∀ (sz c0 : Nat) (e : Expr), 1 ≤ sz → sz ≤ 12 → 1 ≤ c0 → c0 ≤ 1000 → True := fun _ _ _ _ _ _ _ => trivial
  refine hs_par (i := 7) (j := 8) (Pa := Ex K fun d => ∃ ps : List (List Grp × List Grp), d = .list (ps.map prD) ∧ 1 ≤ ps.length ∧ ps.length ≤ 4 ∧ PsOk n 3 ps) (Pb := Ex K fun d => ∃ ps : List (List Grp × List Grp), d = .list (ps.map prD) ∧ ps.length ≤ 4 ∧ PsOk n 2 ps) rfl sc_law.nd
    (ee_callBG (Ws := [fun d => d = .int (n : Nat), fun d => d = .int 3, fun d => d = .int 3, fun d => ∃ c : Nat, d = .int c ∧ 1 ≤ c ∧ c ≤ 4]) L.spairs (hr.mono (by decide)) ?f1 (ea_cons (ee_var 1 rfl hb3) (ea_cons ((ee_var 3 rfl pm3).ex rfl) (ea_cons (ee_int.ex rfl) (ea_2 (ee_int.ex rfl) ?c1)))))
    (ee_callBG (Ws := [fun d => d = .int (n : Nat), fun d => d = .int 3, fun d => d = .int 2, fun d => ∃ c : Nat, d = .int c ∧ c ≤ 4]) L.spairs (hr.mono (by decide)) ?f2 (ea_cons (ee_var 1 rfl hb3) (ea_cons ((ee_var 3 rfl pm3).ex rfl) (ea_cons (ee_int.ex rfl) (ea_2 (ee_int.ex rfl) ?c2))))) g3.sub fun v7 v8 S4 H4 q7 q8 g4 => ?_
  case f1 =>
    intro ds hp
    cases hp with
    | cons e1 hp => cases hp with
      | cons e2 hp => cases hp with
        | cons e3 hp => cases hp with
          | cons e4 hp => cases hp with
            | nil =>
              obtain ⟨c0, rfl, c1, c4⟩ := e4
              subst e1; subst e2; subst e3
              exact ⟨_, ⟨n, 3, c0, 3, rfl, n1, by omega, by decide, by decide, by decide, by decide, by omega, rfl⟩, fun r ⟨ps, e, h1, h2⟩ => ⟨ps, e, by omega, by omega, h2⟩⟩
  case f2 =>
    intro ds hp
    cases hp with
    | cons e1 hp => cases hp with
      | cons e2 hp => cases hp with
        | cons e3 hp => cases hp with
          | cons e4 hp => cases hp with
            | nil =>
              obtain ⟨c0, rfl, c4⟩ := e4
              subst e1; subst e2; subst e3
              exact ⟨_, ⟨n, 2, c0, 3, rfl, n1, by omega, by decide, by decide, by decide, by decide, by omega, rfl⟩, fun r ⟨ps, e, h1, h2⟩ => ⟨ps, e, by omega, h2⟩⟩
  case c1 =>
    exact (ee_addE (F := fun i => i = 1) (G := fun i => 0 ≤ i ∧ i < 4) (ee_int.ex ⟨1, rfl, rfl⟩) (ee_callBx L.take (hr.mono (by decide)) ⟨4, rfl, by decide, by decide, rfl⟩ (ea_2 (ee_var 1 rfl hb3) ee_int))).exi fun d ⟨i, e, x, y, hx, hy, hi⟩ => ⟨(1 + y).toNat, by rw [e]; congr 1; omega, by omega, by omega⟩
  case c2 =>
    exact (ee_callBx L.take (hr.mono (by decide)) ⟨5, rfl, by decide, by decide, rfl⟩ (ea_2 (ee_var 1 rfl hb3) ee_int)).exi fun d ⟨i, e, h0, h1⟩ => ⟨i.toNat, by rw [e]; congr 1; omega, by omega⟩
  obtain ⟨_, ⟨p1, rfl, k1, k4, kp⟩, q7⟩ := q7
  obtain ⟨_, ⟨p2, rfl, l4, lp⟩, q8⟩ := q8
  have p6' : SchP K CS (cols a st n) ps v6 S4 := Mn.up g4.st p6
  refine hs_unp2 (i := 9) (j := 10) (Pa := LstP (p1.map (clmOf K CC CS CP (cols a st n) ps))) (Pb := LstP (p2.map (clmOf K CC CS CP (cols a st n) ps))) rfl sc_law.nd
    (ee_call L.made (hr.mono (by decide)) (ea_2 (ee_var 6 rfl p6') (ee_var 7 rfl q7)) (spMade_E (by omega) fun p hp => (kp p hp).lc n1 (by omega) hz (by decide)))
    (ee_call L.made (hr.mono (by decide)) (ea_2 (ee_var 6 rfl p6') (ee_var 8 rfl q8)) (spMade_E (by omega) fun p hp => (lp p hp).lc n1 (by omega) hz (by decide))) g4.sub fun v9 v10 S5 H5 q9 q10 g5 => ?_
  obtain ⟨xs, q9⟩ := cls_of q9
  obtain ⟨ys, q10⟩ := cls_of q10
  have G5 := (g3.trans g4).trans g5
  exact nx n _ ps p1 p2 xs ys v3 v4 v5 v6 v7 v8 v9 v10 S5 H5 (G2.trans G5) n1 n3 hz ho (by omega) k1 k4 l4 kp lp (pm2.up G5.st) (pz.up G5.st) (pr.up G5.st) (Mn.up g5.st p6') (q7.up g5.st) (q8.up g5.st) q9 q10
end
end
end K23
namespace K23
open PySem PySem.Spec PyProof.Rows L2 Z Y LamX NdefX
section
variable {P : Program} {w : World} {K : PySem.W.Frag} {mg : Str → Option Value} {base : Heap} {f : Addr} {fd : FuncData}
/-! ## the lists handed over, the verdict, the lists emptied -/
theorem del_updL {S H : Hp} {l : Addr} {o : HO} (s : Same S H) : Same (Y.del S l) (upd H l o) := fun z o' e => by
  by_cases h : z = l
  · subst h; rw [Y.del_self] at e; cases e
  · rw [Y.del_ne h] at e; rw [upd_ne h]; exact s z o' e
theorem same_delL {S0 S : Hp} {l : Addr} (h : S0 l = none) (s : Same S0 S) : Same S0 (Y.del S l) := fun z o e => by
  have hz : z ≠ l := fun he => by subst he; rw [h] at e; cases e
  rw [Y.del_ne hz]; exact s z o e
theorem tabs_upd {T : List NTab} {H : Hp} {l : Addr} {xs ys : List V} (t : TabsN T H) (h : H l = some (.lst xs)) : TabsN T (upd H l (.lst ys)) := fun p hp => by
  obtain ⟨ps, h1, h2, h3⟩ := t p hp
  have n1 : p.1 ≠ l := fun e => by rw [e, h] at h1; cases h1
  refine ⟨ps, by rw [upd_ne n1]; exact h1, h2, fun pos cv hc => ?_⟩
  obtain ⟨c, e, h4⟩ := h3 pos cv hc
  have n2 : c ≠ l := fun e => by rw [e, h] at h4; cases h4
  exact ⟨c, e, by rw [upd_ne n2]; exact h4⟩
/-- two new lists in a new list -/
def Hnd (K : PySem.W.Frag) (CC CS CP : Addr) (S0 : Hp) (xs ys : List V) (rs qs : List CR) (v : V) (S : Hp) : Prop := ∃ lh l1 l2, v = .ref lh ∧ S0 lh = none ∧ S0 l1 = none ∧ S0 l2 = none ∧ l1 ≠ l2 ∧ lh ≠ l1 ∧ lh ≠ l2 ∧ S lh = some (.lst [.ref l1, .ref l2]) ∧ S l1 = some (.lst xs) ∧ S l2 = some (.lst ys)
section
variable {CV CC CS CP CI CZ : Addr} {tup : List Value} {c Pt : Addr} {A : Around} {outer : List Env} {sh : Shared} {H0 : Hp} {E : XK} {vs vb : V} {S H : Hp} {D : Ends} {rest : List Stmt}
variable {n : Nat} {z : Str} {ps : Rules} {p1 p2 : List (List Grp × List Grp)} {xs ys : List V} {rs qs : List CR} {v3 v4 v5 v6 v7 v8 v9 v10 v11 v12 v13 v14 v15 v16 v17 v18 v19 v20 v21 : V}
theorem ee_hnd {X : Cx} {σ : L2.St} {S : Hp} {a b : Expr} {pa pb p1 p2 pos : Pos} {xs ys : List V} {rs qs : List CR} (hm : X.mg "list" = none) (ha : EE X σ S a (Pins xs)) (hb : EE X σ S b (Pins ys)) (hg : Gl X "list" := by rfl)
    (hs1 : starEach [a] X.env = (false, eval a X.env) :: starEach [] X.env := by rfl) (hs2 : starEach [b] X.env = (false, eval b X.env) :: starEach [] X.env := by rfl) (hs : starEach [.Call (.Name "list" pa) [a] [] p1, .Call (.Name "list" pb) [b] [] p2] X.env = (false, eval (.Call (.Name "list" pa) [a] [] p1) X.env) :: starEach [.Call (.Name "list" pb) [b] [] p2] X.env := by rfl) (hs3 : starEach [.Call (.Name "list" pb) [b] [] p2] X.env = (false, eval (.Call (.Name "list" pb) [b] [] p2) X.env) :: starEach [] X.env := by rfl) :
    EE X σ S (.List [.Call (.Name "list" pa) [a] [] p1, .Call (.Name "list" pb) [b] [] p2] pos) (Hnd X.K CC CS CP S xs ys rs qs) := by
  refine ee_lstA (vsP := fun vs S' => ∃ l1 l2, vs = [.ref l1, .ref l2] ∧ S l1 = none ∧ S l2 = none ∧ l1 ≠ l2 ∧ S' l1 = some (.lst xs) ∧ S' l2 = some (.lst ys)) (fun H s Q q => ?_) (fun vs S' ⟨l1, l2, e, _⟩ => by rw [e]; show 2 ≤ 16777216; decide) (fun vs S' p st hp ⟨l1, l2, e, n1, n2, ne, h1, h2⟩ => ?_)
  · refine ha_of (pa_cons (te := bE X _) (t := tCons (bE X _) tNil) peb (pa_cons (te := bE X _) (t := tNil) peb pa_nil hs3) hs) ?_
    refine (ee_listPin hm ha hg hs1) H s _ fun v S1 H1 g1 pv => ?_
    obtain ⟨l1, rfl, n1, h1⟩ := pv
    refine (ee_listPin hm (hb.up g1.st) hg hs2) H1 g1.sub _ fun w S2 H2 g2 pw => ?_
    obtain ⟨l2, rfl, n2, h2⟩ := pw
    have ne : l1 ≠ l2 := fun e => by subst e; rw [h1] at n2; cases n2
    exact q _ S2 H2 (g1.trans g2) ⟨l1, l2, rfl, n1, g1.st.free n2, ne, g2.st _ _ h1, h2⟩
  · have e1 : p ≠ l1 := fun e => by subst e; rw [hp] at h1; cases h1
    have e2 : p ≠ l2 := fun e => by subst e; rw [hp] at h2; cases h2
    exact ⟨p, l1, l2, rfl, st.free hp, n1, n2, ne, e1, e2, by rw [upd_same, e], by rw [upd_ne e1.symm]; exact h1, by rw [upd_ne e2.symm]; exact h2⟩
theorem okV_of (h1 : 1 ≤ rs.length) (h4 : rs.length ≤ 4) (h2 : qs.length ≤ 4) {w : Str × Rules} (hr : ∀ r ∈ rs, r.1 = w) (hq : ∀ r ∈ qs, r.1 = w) {t1 t2 : Bool} : okV xs ys t1 t2 (rs.map some) (qs.map some) := by
  have none_ : ∀ l : List CR, (l.map some).findIdx? (fun it : CIt => it.isNone) = none := fun l => by
    rw [List.findIdx?_eq_none_iff]
    intro it hit
    obtain ⟨r, _, rfl⟩ := List.mem_map.mp hit
    rfl
  have eqn : ∀ l : List CR, (∀ r ∈ l, r.1 = w) → (l.map some).findIdx? (neSch w) = none := fun l hl => by
    rw [List.findIdx?_eq_none_iff]
    intro it hit
    obtain ⟨r, hr', rfl⟩ := List.mem_map.mp hit
    show (!(decide (r.1.1 = w.1) && eqvR r.1.2 w.2)) = false
    rw [hl r hr', eqvR_refl, decide_eq_true rfl]
    rfl
  have href : refOf none (rs.map some) = w := by
    cases rs with
    | nil => simp at h1
    | cons r l => exact hr r (List.mem_cons_self ..)
  refine ⟨?_, ?_⟩
  · rw [chk_all (by rw [List.length_map]; exact ⟨h1, h4⟩) (none_ rs), href, eqn rs hr]; rfl
  · rw [href, chk_all (by rw [List.length_map]; exact ⟨Nat.zero_le _, h2⟩) (none_ qs)]
    have h9 : (qs.map some).findIdx? (neSch (refOf (some w) (qs.map some))) = none := eqn qs hq
    rw [h9]; rfl
theorem turn_b (L : LE P w K mg base CV CC CS CP CI CZ tup c Pt) (hr : Room 12 (LX P w K mg base f c A outer sh H0 E).A) {a2 a11 a12 a13 a14 a15 a16 a17 a18 a19 a20 a21 a22 : Option V} (s : Same S H) (hT : TabsN (TabQ Pt lamQ) H) (h1 : 1 ≤ rs.length) (h4 : rs.length ≤ 4) (h2 : qs.length ≤ 4) {w0 : Str × Rules} (hrs : ∀ r ∈ rs, r.1 = w0) (hqs : ∀ r ∈ qs, r.1 = w0) (q9 : ClsL K CC CS CP xs rs v9 S) (q10 : ClsL K CC CS CP ys qs v10 S)
    (nx : ∀ v11 v12 S' H', Same S S' → Same S' H' → TabsN (TabQ Pt lamQ) H' → VerV CV xs ys v12 S' →
      HS (LX P w K mg base f c A outer sh H0 E) D rest [some vs, some vb, a2, some v3, some v4, some v5, some v6, some v7, some v8, some v9, some v10, some v11, some v12, a13, a14, a15, a16, a17, a18, a19, a20, a21, a22] H') :
    HS (LX P w K mg base f c A outer sh H0 E) D (stAt turnBody 5 :: stAt turnBody 6 :: stAt turnBody 7 :: stAt turnBody 8 :: rest) [some vs, some vb, a2, some v3, some v4, some v5, some v6, some v7, some v8, some v9, some v10, a11, a12, a13, a14, a15, a16, a17, a18, a19, a20, a21, a22] H := by
  refine hs_set (i := 11) (ee_hnd (CC := CC) (CS := CS) (CP := CP) (rs := rs) (qs := qs) L.flist (ee_var 9 rfl q9.2.1) (ee_var 10 rfl q10.2.1)) s sc_law.nd fun v11 S1 H1 g1 hd => ?_
  obtain ⟨lh, l1, l2, rfl, n0, n1, n2, ne, e1, e2, k0, k1, k2⟩ := hd
  have hT1 : TabsN (TabQ Pt lamQ) H1 := hT.ext g1.hh
  have a1 : Al (itPs K CC CS CP xs (rs.map some)) xs S1 := al_mn itPs_mn g1.st q9.2.2
  have a2' : Al (itPs K CC CS CP ys (qs.map some)) ys S1 := al_mn itPs_mn g1.st q10.2.2
  have hlst : ∀ {S' : Hp}, Same S1 S' → LstP [ClsL K CC CS CP xs rs, ClsL K CC CS CP ys qs] (.ref lh) S' := fun {S'} s' => ⟨lh, [.ref l1, .ref l2], rfl, s' _ _ k0, .cons ⟨q9.1, ⟨l1, rfl, s' _ _ k1⟩, al_mn itPs_mn s' a1⟩ (.cons ⟨q10.1, ⟨l2, rfl, s' _ _ k2⟩, al_mn itPs_mn s' a2'⟩ .nil)⟩
  have mnL : ∀ P ∈ [ClsL K CC CS CP xs rs, ClsL K CC CS CP ys qs], Mn P := fun P hP => by
    simp only [List.mem_cons, List.not_mem_nil, or_false] at hP
    rcases hP with rfl | rfl <;> infer_instance
  refine hs_set (i := 12) (P := VerQ CV S1 xs ys) (ee_mkV L.mkV (hr.mono (by decide)) L.gV (okV_of (t1 := false) (t2 := false) h1 h4 h2 hrs hqs) (EE.imp (ee_ixLP (i := 0) mnL rfl (ee_var 11 rfl (hlst (Same.refl S1))) ee_int) fun _ _ h => h.cap) (EE.imp (ee_ixLP (i := 1) mnL rfl (ee_var 11 rfl (hlst (Same.refl S1))) ee_int) fun _ _ h => h.cap)) g1.sub sc_law.nd fun v12 S2 H2 g2 hv => ?_
  have hT2 : TabsN (TabQ Pt lamQ) H2 := hT1.ext g2.hh
  -- the first list is emptied
  have rd : ∀ {S' : Hp} (i : Nat) (l : Addr), ([V.ref l1, V.ref l2] : List V)[i]? = some (.ref l) → S' lh = some (.lst [.ref l1, .ref l2]) → LstP [fun w _ => w = V.ref l1, fun w _ => w = V.ref l2] (.ref lh) S' := fun _ _ _ h => ⟨lh, _, rfl, h, .cons rfl (.cons rfl .nil)⟩
  have mnE : ∀ P ∈ [(fun (w : V) (_ : Hp) => w = V.ref l1), (fun (w : V) (_ : Hp) => w = V.ref l2)], Mn P := fun P hP => by
    simp only [List.mem_cons, List.not_mem_nil, or_false] at hP
    rcases hP with rfl | rfl <;> exact mn_eq
  have j0 : S2 lh = some (.lst [.ref l1, .ref l2]) := g2.st _ _ k0
  have j1 : S2 l1 = some (.lst xs) := g2.st _ _ k1
  have j2 : S2 l2 = some (.lst ys) := g2.st _ _ k2
  refine hs_clearW (P := fun w S' => w = V.ref l1 ∧ S' l1 = some (.lst xs)) (EE.known (ee_ixLP (i := 0) mnE rfl (ee_var 11 rfl (rd 0 l1 rfl j0)) ee_int) fun v S' s' e => ⟨e, s' _ _ j1⟩) (fun w S' ⟨e, h⟩ => ⟨l1, xs, e, h⟩) g2.sub fun l xs' S3 H3 g3 pl hl => ?_
  obtain ⟨el, hl1⟩ := pl
  cases el
  have hT3 : TabsN (TabQ Pt lamQ) (upd H3 l1 (.lst [])) := tabs_upd (hT2.ext g3.hh) (g3.sub _ _ hl1)
  have s3 : Same (Y.del S3 l1) (upd H3 l1 (.lst [])) := del_updL g3.sub
  have m0 : (Y.del S3 l1) lh = some (.lst [.ref l1, .ref l2]) := by rw [Y.del_ne e1]; exact g3.st _ _ j0
  have m2 : (Y.del S3 l1) l2 = some (.lst ys) := by rw [Y.del_ne ne.symm]; exact g3.st _ _ j2
  have hv3 : VerQ CV S1 xs ys v12 (Y.del S3 l1) := VerQ.del k1 (Mn.up g3.st hv)
  have st3 : Same S (Y.del S3 l1) := same_delL n1 (g1.st.trans (g2.st.trans g3.st))
  -- the second
  refine hs_clearW (P := fun w S' => w = V.ref l2 ∧ S' l2 = some (.lst ys)) (EE.known (ee_ixLP (i := 1) mnE rfl (ee_var 11 rfl (rd 1 l2 rfl m0)) ee_int) fun v S' s' e => ⟨e, s' _ _ m2⟩) (fun w S' ⟨e, h⟩ => ⟨l2, ys, e, h⟩) s3 fun l' ys' S4 H4 g4 pl hl' => ?_
  obtain ⟨el, hl2⟩ := pl
  cases el
  exact nx (.ref lh) v12 (Y.del S4 l2) (upd H4 l2 (.lst [])) (same_delL n2 (st3.trans g4.st)) (del_updL g4.sub) (tabs_upd (hT3.ext g4.hh) (g4.sub _ _ hl2)) (VerQ.del k2 (Mn.up g4.st hv3)).v
end
end
end K23
namespace K23
open PySem PySem.Spec PyProof.Rows L2 Z Y LamX NdefX
section
variable {P : Program} {w : World} {K : PySem.W.Frag} {mg : Str → Option Value} {base : Heap} {f : Addr} {fd : FuncData}
/-! ## what the verdict tells -/
theorem gs_side {hi : Bool} {z : Str} {ps : Rules} : ∀ {l : List (List Grp × List Grp)} {n sz : Nat}, PsOk n sz l → gsOf ((l.map (crOf z ps)).map (sideOf hi)) = (l.map fun p => if hi = true then p.2 else p.1).flatten
  | [], _, _, _ => rfl
  | p :: l, n, sz, h => by
    have h0 := h p (List.mem_cons_self ..)
    have ih := gs_side (hi := hi) (z := z) (ps := ps) (l := l) (n := n) (sz := sz) (fun q hq => h q (List.mem_cons_of_mem _ hq))
    show (if hi = true then norm p.2 else norm p.1) ++ gsOf ((l.map (crOf z ps)).map (sideOf hi)) = (if hi = true then p.2 else p.1) ++ (l.map fun p => if hi = true then p.2 else p.1).flatten
    rw [ih, h0.1.2.1, h0.2.2.1]
theorem gs_app (a b : List (Nat × List Grp)) : gsOf (a ++ b) = gsOf a ++ gsOf b := List.flatMap_append ..
theorem sides_ls {hi : Bool} {z : Str} {ps : Rules} {p1 p2 : List (List Grp × List Grp)} {n a b : Nat} (h1 : PsOk n a p1) (h2 : PsOk n b p2) : gsOf (sidesOf hi (p1.map (crOf z ps)) (p2.map (crOf z ps))) = (lsOf hi p1 p2).flatten := by
  unfold sidesOf lsOf
  rw [gs_app, gs_side h1, gs_side h2, List.flatten_append]
  cases hi <;> rfl
theorem flat_le {l : List (List Grp × List Grp)} {n sz : Nat} {hi : Bool} (h : PsOk n sz l) : ((l.map fun p => if hi = true then p.2 else p.1).flatten).length ≤ l.length * sz := by
  induction l with
  | nil => simp
  | cons p l ih =>
    have h0 := h p (List.mem_cons_self ..)
    have := ih fun q hq => h q (List.mem_cons_of_mem _ hq)
    rw [List.map_cons, List.flatten_cons, List.length_append, List.length_cons, Nat.succ_mul]
    have : (if hi = true then p.2 else p.1).length ≤ sz := by cases hi <;> simp [h0.1.1, h0.2.1]
    omega
theorem ls_len {p1 p2 : List (List Grp × List Grp)} {n : Nat} {hi : Bool} (k4 : p1.length ≤ 4) (l4 : p2.length ≤ 4) (h1 : PsOk n 3 p1) (h2 : PsOk n 2 p2) : (lsOf hi p1 p2).flatten.length ≤ 20 := by
  unfold lsOf
  rw [List.flatten_append, List.length_append]
  have a := flat_le (hi := hi) h1
  have b : (p2.map fun p => if hi = true then p.1 else p.2).flatten.length ≤ p2.length * 2 := by
    have := flat_le (hi := !hi) h2
    cases hi <;> exact this
  omega
theorem ls_mem {p1 p2 : List (List Grp × List Grp)} {n : Nat} {hi : Bool} (h1 : PsOk n 3 p1) (h2 : PsOk n 2 p2) : ∀ gs ∈ lsOf hi p1 p2, gs.length ≤ 3 ∧ PartsOk n 3 2 gs := fun gs hgs => by
  unfold lsOf at hgs
  rcases List.mem_append.mp hgs with h | h
  · obtain ⟨p, hp, rfl⟩ := List.mem_map.mp h
    have := h1 p hp
    cases hi
    · exact ⟨this.1.1, this.1.2⟩
    · exact ⟨this.2.1, this.2.2⟩
  · obtain ⟨p, hp, rfl⟩ := List.mem_map.mp h
    have := h2 p hp
    cases hi
    · exact ⟨by have := this.2.1; simp only [Bool.false_eq_true, if_false]; omega, this.2.2⟩
    · exact ⟨by have := this.1.1; simp only [if_true]; omega, this.1.2⟩
theorem sums_ok {p1 p2 : List (List Grp × List Grp)} {n : Nat} {hi : Bool} {z : Str} {ps : Rules} (hz : z.cps.size = n) (n1 : 1 ≤ n) (n3 : n ≤ 3) (k4 : p1.length ≤ 4) (l4 : p2.length ≤ 4) (h1 : PsOk n 3 p1) (h2 : PsOk n 2 p2) : SumsOk n (sidesOf hi (p1.map (crOf z ps)) (p2.map (crOf z ps))) := by
  refine ⟨n1, n3, by unfold sidesOf; rw [List.length_append, List.length_map, List.length_map, List.length_map, List.length_map]; omega, ?_, fun a ha => ?_⟩
  · rw [sides_ls h1 h2]
    have := ls_len (hi := hi) k4 l4 h1 h2
    omega
  · have key : ∀ gs, gs.length ≤ 3 → PartsOk n 3 2 gs → PrdW n gs ∧ ∀ g ∈ gs, ∀ x ∈ g.2, 0 ≤ x ∧ x < 64 := fun gs hl hp => ⟨⟨by omega, fun g hg => (hp.2 g hg).2.2.1⟩, fun g hg x hx => by have := (hp.2 g hg).2.2.2 x hx; omega⟩
    have side : ∀ (hj : Bool) {l : List (List Grp × List Grp)} {sz : Nat}, sz ≤ 3 → PsOk n sz l → a ∈ (l.map (crOf z ps)).map (sideOf hj) → a.1 = n ∧ PrdW n a.2 ∧ ∀ g ∈ a.2, ∀ x ∈ g.2, 0 ≤ x ∧ x < 64 := fun hj {l sz} hs hl hm => by
      obtain ⟨r, hr, rfl⟩ := List.mem_map.mp hm
      obtain ⟨p, hp, rfl⟩ := List.mem_map.mp hr
      have h0 := hl p hp
      refine ⟨hz, ?_⟩
      cases hj
      · have e : (sideOf false (crOf z ps p)).2 = p.1 := h0.1.2.1
        rw [e]
        exact key _ (by have := h0.1.1; omega) h0.1.2
      · have e : (sideOf true (crOf z ps p)).2 = p.2 := h0.2.2.1
        rw [e]
        exact key _ (by have := h0.2.1; omega) h0.2.2
    unfold sidesOf at ha
    rcases List.mem_append.mp ha with h | h
    · exact side hi (by decide) h1 h
    · exact side (!hi) (by decide) h2 h
theorem fsum_ok {p1 p2 : List (List Grp × List Grp)} {n : Nat} {hi : Bool} (n1 : 1 ≤ n) (n3 : n ≤ 3) (k4 : p1.length ≤ 4) (l4 : p2.length ≤ 4) (h1 : PsOk n 3 p1) (h2 : PsOk n 2 p2) : Fsum hi [.list (p1.map prD), .list (p2.map prD)] (.list ((rowsS (lsOf hi p1 p2).flatten).map tI)) :=
  ⟨p1, p2, rfl, by omega, by have := ls_len (hi := hi) k4 l4 h1 h2; omega, fun gs hgs g hg => by
    have := (ls_mem (hi := hi) h1 h2 gs hgs).2.2 g hg
    exact ⟨fun e => by rw [e] at this; have := this.2.2.1; simp at this; omega, by omega⟩, rfl⟩
def rowsD (hi : Bool) (p1 p2 : List (List Grp × List Grp)) : PyData := .list ((rowsS (lsOf hi p1 p2).flatten).map tI)
theorem bd_rows {hi : Bool} {p1 p2 : List (List Grp × List Grp)} : Bd 2 (rowsD hi p1 p2) := fun x hx => by
  obtain ⟨l, _, rfl⟩ := List.mem_map.mp hx
  exact fun y hy => by
    obtain ⟨i, _, rfl⟩ := List.mem_map.mp hy
    trivial
/-- what is told -/
def toldD (p1 p2 : List (List Grp × List Grp)) : List PyData := [rowsD false p1 p2, rowsD true p1 p2, .str "open", .bool false, .bool false, .str "Verdict(open)", .int (p1.length : Nat), .int (p2.length : Nat)]
theorem bd_told {p1 p2 : List (List Grp × List Grp)} : Bd 3 (.list (toldD p1 p2)) := fun x hx => by
  simp only [toldD, List.mem_cons, List.not_mem_nil, or_false] at hx
  rcases hx with rfl | rfl | rfl | rfl | rfl | rfl | rfl | rfl <;> first | exact bd_rows | trivial
section
variable {CV CC CS CP CI CZ : Addr} {tup : List Value} {c Pt : Addr} {A : Around} {outer : List Env} {sh : Shared} {H0 : Hp} {E : XK} {vs vb : V} {S H : Hp} {D : Ends} {rest : List Stmt}
variable {n : Nat} {z : Str} {ps : Rules} {p1 p2 : List (List Grp × List Grp)} {xs ys : List V} {rs qs : List CR} {v3 v4 v5 v6 v7 v8 v9 v10 v11 v12 v13 v14 v15 v16 v17 v18 v19 v20 v21 : V}
theorem refs_cls {xs : List V} {rs : List CR} {v : V} {S : Hp} (h : ClsL K CC CS CP xs rs v S) : RefsV xs := fun x hx => by
  obtain ⟨i, hi, rfl⟩ := List.mem_iff_getElem.mp hx
  obtain ⟨P, e1, e2⟩ := al_get h.2.2 (List.getElem?_eq_getElem hi)
  obtain ⟨x', it, h1, h2, rfl⟩ := itPs_get e1
  rw [List.getElem?_map] at h2
  cases hr : rs[i]? with
  | none => rw [hr] at h2; cases h2
  | some r =>
    rw [hr] at h2
    cases h2
    obtain ⟨a, dx, _, _, _, e, _⟩ := e2.2
    exact ⟨a, e⟩
/-- small_sums() of the verdict, told as new -/
theorem ee_sm {X : Cx} {σ : L2.St} {S : Hp} {o : Expr} {apos pos : Pos} {hi : Bool} {m : Str} (D1 : KM X.prog X.w X.K X.mg X.base CV m 3 (spVs X.K CV CC CS CP hi)) (c : Cls X.K CV) (hm : ∀ a b, (verF a b).lookup m = none) (hr : Room 3 X.A) (h1 : PsOk n 3 p1) (h2 : PsOk n 2 p2) (hs : SumsOk n (sidesOf hi (p1.map (crOf z ps)) (p2.map (crOf z ps)))) (ho : EE X σ S o (VerP X.K CV CC CS CP xs ys (p1.map (crOf z ps)) (p2.map (crOf z ps)))) {pl : Sem Bool}
    (ht : eval (.Call (.Attribute o m apos) [] [] pos) X.env = (do
      let ov ← eval o X.env
      standAt apos.atName
      let (f, first) ← holding [ov] (getMethod ov m pl)
      callWith pos f first (backTo pos (starEach [] X.env)) (backToKw pos (keywordEach [] X.env))) := by rfl) : EE X σ S (.Call (.Attribute o m apos) [] [] pos) (NewL X.K S ((rowsS (lsOf hi p1 p2).flatten).map tI)) :=
  EE.imp (ee_meth0 D1 c hr ho (VerP.insP hm) (spVs_E hs) ht) fun v S' h => by
    unfold sumsD at h
    rwa [sides_ls h1 h2] at h
theorem turn_c (L : LE P w K mg base CV CC CS CP CI CZ tup c Pt) (hr : Room 12 (LX P w K mg base f c A outer sh H0 E).A) {a2 a13 a14 a15 a16 a17 a18 a19 a20 a21 a22 : Option V} (s : Same S H) (n1 : 1 ≤ n) (n3 : n ≤ 3) (hz : z.cps.size = n) (k4 : p1.length ≤ 4) (l4 : p2.length ≤ 4) (h1 : PsOk n 3 p1) (h2 : PsOk n 2 p2) (q7 : Dt K (.list (p1.map prD)) v7 S) (q8 : Dt K (.list (p2.map prD)) v8 S) (qv : VerP K CV CC CS CP xs ys (p1.map (crOf z ps)) (p2.map (crOf z ps)) v12 S)
    (nx : ∀ v13 S' H', Gr S H S' H' → Dt K (.list (toldD p1 p2)) v13 S' →
      HS (LX P w K mg base f c A outer sh H0 E) D rest [some vs, some vb, a2, some v3, some v4, some v5, some v6, some v7, some v8, some v9, some v10, some v11, some v12, some v13, a14, a15, a16, a17, a18, a19, a20, a21, a22] H') :
    HS (LX P w K mg base f c A outer sh H0 E) D (stAt turnBody 9 :: stAt turnBody 10 :: rest) [some vs, some vb, a2, some v3, some v4, some v5, some v6, some v7, some v8, some v9, some v10, some v11, some v12, a13, a14, a15, a16, a17, a18, a19, a20, a21, a22] H := by
  have o1 := sums_ok (hi := false) (ps := ps) hz n1 n3 k4 l4 h1 h2
  have o2 := sums_ok (hi := true) (ps := ps) hz n1 n3 k4 l4 h1 h2
  have hl1 : xs.length = p1.length := by have := qv.2.1; rwa [List.length_map] at this
  have hl2 : ys.length = p2.length := by have := qv.2.2.1; rwa [List.length_map] at this
  haveI := fun (m : V → Hp → Prop) [Mn m] => (inferInstance : Mn m)
  refine hs_set (i := 13) (P := Dt K (.list (toldD p1 p2))) (ee_lst (ds := toldD p1 p2) (ea_cons ?b0 (ea_cons ?b1 (ea_cons ?b2 (ea_cons ?b3 (ea_cons ?b4 (ea_cons ?b5 (ea_2 ?b6 ?b7)))))))) s sc_law.nd fun v13 S1 H1 g1 pt => ?_
  case b0 => exact EE.imp (ee_sm L.smal L.cV (by intro _ _; rfl) (hr.mono (by decide)) h1 h2 o1 (ee_var 12 rfl qv)) fun _ _ h => h.dt
  case b1 => exact EE.imp (ee_sm L.grea L.cV (by intro _ _; rfl) (hr.mono (by decide)) h1 h2 o2 (ee_var 12 rfl qv)) fun _ _ h => h.dt
  case b2 => exact ee_meth0 L.told L.cV (hr.mono (by decide)) (ee_var 12 rfl qv.1) VerV.insP (spO_E (F := FVc CV (.str "open")) (P0 := VerV CV xs ys) (ds := []) (d := .str "open") ⟨_, _, rfl, rfl, rfl⟩)
  case b3 => exact ee_meth0 L.holds L.cV (hr.mono (by decide)) (ee_var 12 rfl qv.1) VerV.insP (spO_E (F := FVc CV (.bool false)) (P0 := VerV CV xs ys) (ds := []) (d := .bool false) ⟨_, _, rfl, rfl, rfl⟩)
  case b4 => exact ee_boolO L.boo (hr.mono (by decide)) L.fbool (ee_var 12 rfl qv.1) VerV.ins (spO_E (F := FVc CV (.bool false)) (P0 := VerV CV xs ys) (ds := []) (d := .bool false) ⟨_, _, rfl, rfl, rfl⟩)
  case b5 => exact ee_repr L.rep (hr.mono (by decide)) L.frepr (ee_var 12 rfl qv.1) VerV.ins (spO_E (F := FVc CV (.str "Verdict(open)")) (P0 := VerV CV xs ys) (ds := []) (d := .str "Verdict(open)") ⟨_, _, rfl, rfl, rfl⟩)
  case b6 => exact ee_lenLP (n := p1.length) L.flen (ee_meth0 L.clms L.cV (hr.mono (by decide)) (ee_var 12 rfl qv.1) VerV.insP (spVl_E (second := false))) fun v S1 ⟨l, e, _, h⟩ => ⟨l, xs, e, .inl h, hl1⟩
  case b7 => exact ee_lenLP (n := p2.length) L.flen (ee_meth0 L.prms L.cV (hr.mono (by decide)) (ee_var 12 rfl qv.1) VerV.insP (spVl_E (second := true))) fun v S1 ⟨l, e, _, h⟩ => ⟨l, ys, e, .inl h, hl2⟩
  have q7 := q7.up g1.st
  have q8 := q8.up g1.st
  refine hs_ifN (ET.is (et_not (et_val (ee_callD (L.same 3) (hr.mono (by decide)) ⟨.list (toldD p1 p2), rfl, bd_told, rfl⟩ (ea_2 (ee_var 13 rfl pt) (ee_lst (ds := toldD p1 p2) (ea_cons ?c0 (ea_cons ?c1 (ea_cons ee_str (ea_cons ee_bl (ea_cons ee_bl (ea_cons ee_str (ea_2 ?c6 ?c7)))))))))))) rfl) g1.sub fun S2 H2 g2 => nx v13 S2 H2 (g1.trans g2) (pt.up g2.st)
  case c0 => exact ee_callD L.small (hr.mono (by decide)) (fsum_ok (hi := false) n1 n3 k4 l4 h1 h2) (ea_2 (ee_var 7 rfl q7) (ee_var 8 rfl q8))
  case c1 => exact ee_callD L.great (hr.mono (by decide)) (fsum_ok (hi := true) n1 n3 k4 l4 h1 h2) (ea_2 (ee_var 7 rfl q7) (ee_var 8 rfl q8))
  case c6 => exact (ee_len L.flen rfl (ee_var 7 rfl q7)).isd (by rw [List.length_map])
  case c7 => exact (ee_len L.flen rfl (ee_var 8 rfl q8)).isd (by rw [List.length_map])
end
end
end K23
namespace K23
open PySem PySem.Spec PyProof.Rows L2 Z Y LamX NdefX
section
variable {P : Program} {w : World} {K : PySem.W.Frag} {mg : Str → Option Value} {base : Heap} {f : Addr} {fd : FuncData}
/-! ## copies -/
theorem new_updL {S H : Hp} {l : Addr} {o : HO} (s : Same S H) (h : S l = none) : Same S (upd H l o) := fun z o' e => by
  rw [upd_ne (fun q => by rw [q, h] at e; cases e)]; exact s z o' e
section
variable {CV CC CS CP CI CZ : Addr} {tup : List Value} {c Pt : Addr} {A : Around} {outer : List Env} {sh : Shared} {H0 : Hp} {E : XK} {vs vb : V} {S H : Hp} {D : Ends} {rest : List Stmt}
variable {n : Nat} {z : Str} {ps : Rules} {p1 p2 : List (List Grp × List Grp)} {xs ys : List V} {rs qs : List CR} {v3 v4 v5 v6 v7 v8 v9 v10 v11 v12 v13 v14 v15 v16 v17 v18 v19 v20 v21 : V}
theorem turn_d (L : LE P w K mg base CV CC CS CP CI CZ tup c Pt) (hr : Room 12 (LX P w K mg base f c A outer sh H0 E).A) {a2 a14 a15 a16 a17 a18 a19 a20 a21 a22 : Option V} (s : Same S H) (hT : TabsN (TabQ Pt lamQ) H) (n1 : 1 ≤ n) (n3 : n ≤ 3) (hz : z.cps.size = n) (k1 : 1 ≤ p1.length) (k4 : p1.length ≤ 4) (l4 : p2.length ≤ 4) (h1 : PsOk n 3 p1) (h2 : PsOk n 2 p2) (q9 : ClsL K CC CS CP xs (p1.map (crOf z ps)) v9 S) (q10 : ClsL K CC CS CP ys (p2.map (crOf z ps)) v10 S) (qv : VerV CV xs ys v12 S) (q13 : Dt K (.list (toldD p1 p2)) v13 S)
    (nx : ∀ H', Same S H' → TabsN (TabQ Pt lamQ) H' →
      HS (LX P w K mg base f c A outer sh H0 E) D rest [some vs, some vb, a2, some v3, some v4, some v5, some v6, some v7, some v8, some v9, some v10, some v11, some v12, some v13, a14, a15, a16, a17, a18, a19, a20, a21, a22] H') :
    HS (LX P w K mg base f c A outer sh H0 E) D (stAt turnBody 11 :: stAt turnBody 12 :: stAt turnBody 13 :: stAt turnBody 14 :: stAt turnBody 15 :: rest) [some vs, some vb, a2, some v3, some v4, some v5, some v6, some v7, some v8, some v9, some v10, some v11, some v12, some v13, a14, a15, a16, a17, a18, a19, a20, a21, a22] H := by
  have o1 := sums_ok (hi := false) (ps := ps) hz n1 n3 k4 l4 h1 h2
  have e1 : (p1.map (crOf z ps)).length = p1.length := List.length_map ..
  have e2 : (p2.map (crOf z ps)).length = p2.length := List.length_map ..
  have hw : ∀ {l : List (List Grp × List Grp)}, ∀ r ∈ l.map (crOf z ps), r.1 = (z, ps) := fun {l} r hr' => by
    obtain ⟨p, _, rfl⟩ := List.mem_map.mp hr'
    rfl
  have hok : okV xs ys true true ((p1.map (crOf z ps)).map some) ((p2.map (crOf z ps)).map some) := okV_of (by rw [e1]; exact k1) (by rw [e1]; exact k4) (by rw [e2]; exact l4) (w := (z, ps)) hw hw
  let σ : L2.St := [some vs, some vb, a2, some v3, some v4, some v5, some v6, some v7, some v8, some v9, some v10, some v11, some v12, some v13, a14, a15, a16, a17, a18, a19, a20, a21, a22]
  let X0 := LX P w K mg base f c A outer sh H0 E
  have verP : ∀ {S' : Hp}, Same S S' → VerV CV xs ys v12 S' → VerP K CV CC CS CP xs ys (p1.map (crOf z ps)) (p2.map (crOf z ps)) v12 S' := fun {S'} s' h => ⟨h, q9.1, q10.1, al_mn itPs_mn s' q9.2.2, al_mn itPs_mn s' q10.2.2⟩
  have qvp := verP (Same.refl S) qv
  have hsh : SeqAt.shaped (rowsD false p1 p2) = true := shaped_tIs _
  refine hs_ifN (ET.is (et_w (ew_or (et_neL hr (refs_cls q9) (EE.imp (ee_meth0 L.clms L.cV (hr.mono (by decide)) (ee_var 12 rfl qv) VerV.insP (spVl_E (second := false))) fun _ _ h => h.p) (ee_var 9 rfl q9.2.1)) fun _ => ew_or (et_neL hr (refs_cls q10) (EE.imp (ee_meth0 L.prms L.cV (hr.mono (by decide)) (ee_var 12 rfl qv) VerV.insP (spVl_E (second := true))) fun _ _ h => h.p) (ee_var 10 rfl q10.2.1)) fun _ => ew_or1 (et_ne (d1 := rowsD false p1 p2) (d2 := rowsD false p1 p2) hr hsh hsh ?va (EE.imp (ee_sm L.smal L.cV (by intro _ _; rfl) (hr.mono (by decide)) h1 h2 o1 (ee_var 12 rfl qvp)) fun _ _ h => h.dt)))) ?vb) s fun S1 H1 g1 => ?_
  case va =>
    refine EE.imp (ee_sm (xs := xs) (ys := ys) L.smal L.cV (by intro _ _; rfl) (hr.mono (by decide)) h1 h2 o1 (EE.known (ee_mkVK (t1 := true) (t2 := true) L.mkV (hr.mono (by decide)) L.gV hok (EE.imp (ee_tupSq itPs_mn L.ftuple (ee_var 10 rfl (pins_lst (K := K) (CC := CC) (CS := CS) (CP := CP) (by rw [List.length_map]; exact q10.1) q10.2.2 q10.2.1))) fun _ _ h => ⟨by rw [List.length_map]; exact q10.1, h⟩) (EE.imp (ee_tupSq itPs_mn L.ftuple (ee_var 9 rfl (pins_lst (K := K) (CC := CC) (CS := CS) (CP := CP) (by rw [List.length_map]; exact q9.1) q9.2.2 q9.2.1))) fun _ _ h => ⟨by rw [List.length_map]; exact q9.1, h⟩)) fun v S' s' h => ⟨h.v, q9.1, q10.1, al_mn itPs_mn s' q9.2.2, al_mn itPs_mn s' q10.2.2⟩)) fun _ _ h => h.dt
  case vb =>
    have he : PyData.eqv (rowsD false p1 p2) (rowsD false p1 p2) = true := SeqAt.eqv_refl _ (by have := hsh; unfold SeqAt.shaped at this; rw [Bool.and_eq_true] at this; exact this.1)
    rw [he]; rfl
  have hT1 := hT.ext g1.hh
  refine hs_clearW (P := PinsN S xs) (ee_meth0 L.clms L.cV (hr.mono (by decide)) (ee_var 12 rfl qv) VerV.insP (spVl_E (second := false))) (fun w S1 ⟨l, e, _, h⟩ => ⟨l, xs, e, h⟩) (g1.st.trans g1.sub) fun l xs' S2 H2 g2 pl hl => ?_
  obtain ⟨_, el, nl, hl2⟩ := pl
  cases el
  have s2 : Same S (upd H2 l (.lst [])) := new_updL (g2.st.trans g2.sub) nl
  have hT2 : TabsN (TabQ Pt lamQ) (upd H2 l (.lst [])) := tabs_upd (hT1.ext g2.hh) (g2.sub _ _ hl)
  refine hs_appW (P := PinsN S ys) (P2 := Dt K (.int 3)) (ee_meth0 L.prms L.cV (hr.mono (by decide)) (ee_var 12 rfl qv) VerV.insP (spVl_E (second := true))) (fun w S1 ⟨l, e, _, h⟩ => ⟨l, ys, e, h, by rw [q10.1, e2]; omega⟩) s2 ee_int fun l3 ys' v3' S3 S4 H4 g4 s34 pl hl3 _ => ?_
  obtain ⟨_, el, nl3, hl4⟩ := pl
  cases el
  have s4 : Same S (upd H4 l3 (.lst (ys' ++ [v3']))) := new_updL (g4.st.trans g4.sub) nl3
  have hT4 : TabsN (TabQ Pt lamQ) (upd H4 l3 (.lst (ys' ++ [v3']))) := tabs_upd (hT2.ext g4.hh) (g4.sub _ _ (s34 _ _ hl3))
  refine hs_clearN (ee_sm L.smal L.cV (by intro _ _; rfl) (hr.mono (by decide)) h1 h2 o1 (ee_var 12 rfl qvp)) s4 fun l5 xs5 S5 H5 g5 nl5 hl5 => ?_
  have s5 : Same S (upd H5 l5 (.lst [])) := new_updL (g5.st.trans g5.sub) nl5
  have hT5 : TabsN (TabQ Pt lamQ) (upd H5 l5 (.lst [])) := tabs_upd (hT4.ext g5.hh) (g5.sub _ _ hl5)
  refine hs_ifN (ET.is (et_w (ew_or (et_neL hr (refs_cls q9) (EE.imp (ee_meth0 L.clms L.cV (hr.mono (by decide)) (ee_var 12 rfl qv) VerV.insP (spVl_E (second := false))) fun _ _ h => h.p) (ee_var 9 rfl q9.2.1)) fun _ => ew_or (et_neL hr (refs_cls q10) (EE.imp (ee_meth0 L.prms L.cV (hr.mono (by decide)) (ee_var 12 rfl qv) VerV.insP (spVl_E (second := true))) fun _ _ h => h.p) (ee_var 10 rfl q10.2.1)) fun _ => ew_or1 (et_not (et_val (ee_callD (L.same 2) (hr.mono (by decide)) ⟨rowsD false p1 p2, rfl, bd_rows, rfl⟩ (ea_2 (EE.imp (ee_sm L.smal L.cV (by intro _ _; rfl) (hr.mono (by decide)) h1 h2 o1 (ee_var 12 rfl qvp)) fun _ _ h => h.dt) (ee_ixL (ds := toldD p1 p2) rfl (ee_var 13 rfl q13) ee_int))))))) rfl) s5 fun S6 H6 g6 => ?_
  exact nx H6 (g6.st.trans g6.sub) (hT5.ext g6.hh)
end
end
end K23
namespace K23
open PySem PySem.Spec PyProof.Rows L2 Z Y LamX NdefX
section
variable {P : Program} {w : World} {K : PySem.W.Frag} {mg : Str → Option Value} {base : Heap} {f : Addr} {fd : FuncData}
/-! ## wrong claims -/
theorem rep_zerosL (n : Nat) : (List.replicate n [PyData.int 0]).flatten = (List.replicate n (0 : Int)).map PyData.int := by
  induction n with
  | zero => rfl
  | succ n ih => rw [List.replicate_succ, List.replicate_succ, List.flatten_cons, ih]; rfl
def ps2 (ps : Rules) (n : Nat) : Rules := ps ++ [(List.replicate n 0, List.replicate n 1)]
theorem lc_nil {z : Str} (h1 : 1 ≤ z.cps.size) (h3 : z.cps.size ≤ 3) : LcOk z [] [] := ⟨prOk_nil h1 h3, prOk_nil h1 h3⟩
theorem rep_onesL (n : Nat) : (List.replicate n [PyData.int 1]).flatten = (List.replicate n (1 : Int)).map PyData.int := by
  induction n with
  | zero => rfl
  | succ n ih => rw [List.replicate_succ, List.replicate_succ, List.flatten_cons, ih]; rfl
instance repP_mn {P : V → Hp → Prop} [m : Mn P] {k : Nat} : Mn (LstP (List.replicate k P)) := lstP_mn rep_mn
section
variable {K : PySem.W.Frag} {CC CS CP : Addr}
theorem itPs_app {xs ys : List V} {is js : List CIt} (h : xs.length = is.length) : itPs K CC CS CP (xs ++ ys) (is ++ js) = itPs K CC CS CP xs is ++ itPs K CC CS CP ys js := by
  unfold itPs
  exact List.zipWith_append h
theorem itPs_take {xs : List V} {is : List CIt} {k : Nat} : (itPs K CC CS CP xs is).take k = itPs K CC CS CP (xs.take k) (is.take k) := by
  unfold itPs
  exact List.take_zipWith
theorem itPs_drop {xs : List V} {is : List CIt} {k : Nat} : (itPs K CC CS CP xs is).drop k = itPs K CC CS CP (xs.drop k) (is.drop k) := by
  unfold itPs
  exact List.drop_zipWith
theorem rep_len {α : Type} {xs : List α} {n : Nat} : (List.replicate n xs).flatten.length = n * xs.length := by
  induction n with
  | zero => simp
  | succ n ih => rw [List.replicate_succ, List.flatten_cons, List.length_append, ih, Nat.succ_mul]; omega
theorem itPs_rep {xs : List V} {is : List CIt} (h : xs.length = is.length) (n : Nat) : (List.replicate n (itPs K CC CS CP xs is)).flatten = itPs K CC CS CP (List.replicate n xs).flatten (List.replicate n is).flatten := by
  induction n with
  | zero => rfl
  | succ n ih => rw [List.replicate_succ, List.replicate_succ, List.replicate_succ, List.flatten_cons, List.flatten_cons, List.flatten_cons, ih, itPs_app h]
/-- a list with w in the place k -/
def bentL {α : Type} (xs : List α) (k : Nat) (w : α) : List α := xs.take k ++ [w] ++ xs.drop (k + 1)
theorem bent_len {α : Type} {xs : List α} {k : Nat} {w : α} (h : k < xs.length) : (bentL xs k w).length = xs.length := by
  unfold bentL
  rw [List.length_append, List.length_append, List.length_take, List.length_drop, List.length_singleton]
  omega
theorem itPs_bent {xs : List V} {is : List CIt} {k : Nat} {w : V} {it : CIt} (h : xs.length = is.length) : itPs K CC CS CP (bentL xs k w) (bentL is k it) = (itPs K CC CS CP xs is).take k ++ [PinP w (CItP K CC CS CP it)] ++ (itPs K CC CS CP xs is).drop (k + 1) := by
  unfold bentL
  rw [itPs_app (by rw [List.length_append, List.length_append, List.length_take, List.length_take, h]; rfl), itPs_app (by rw [List.length_take, List.length_take, h]), itPs_take, itPs_drop]
  rfl
end
section
variable {CV CC CS CP CI CZ : Addr} {tup : List Value} {c Pt : Addr} {A : Around} {outer : List Env} {sh : Shared} {H0 : Hp} {E : XK} {vs vb : V} {S H : Hp} {D : Ends} {rest : List Stmt}
variable {n k : Nat} {z : Str} {ps : Rules} {p1 p2 : List (List Grp × List Grp)} {xs ys : List V} {rs qs : List CR} {v3 v4 v5 v6 v7 v8 v9 v10 v11 v12 v13 v14 v15 v16 v17 v18 v19 v20 v21 : V}
theorem noti_non (L : LE P w K mg base CV CC CS CP CI CZ tup c Pt) {v : V} {S : Hp} (h : Dt K .none v S) : NotI K CC v S := ⟨L.kit, .inl (by cases h; rfl)⟩
theorem noti_int (L : LE P w K mg base CV CC CS CP CI CZ tup c Pt) {i : Int} {v : V} {S : Hp} (h : Dt K (.int i) v S) : NotI K CC v S := ⟨L.kit, .inr (.inl (by cases h; exact ⟨_, rfl⟩))⟩
theorem noti_str (L : LE P w K mg base CV CC CS CP CI CZ tup c Pt) {x : Str} {v : V} {S : Hp} (h : Dt K (.str x) v S) : NotI K CC v S := ⟨L.kit, .inr (.inr (.inl (by cases h; exact ⟨_, rfl⟩)))⟩
theorem noti_sch (L : LE P w K mg base CV CC CS CP CI CZ tup c Pt) {v : V} {S : Hp} (h : SchP K CS z ps v S) : NotI K CC v S := ⟨L.kit, by
  obtain ⟨a, dx, fs, e, h⟩ := SchP.ins v S h
  exact .inr (.inr (.inr (.inr (.inr ⟨a, CS, dx, fs, e, h, L.cS, L.isS, L.kitS⟩))))⟩
theorem noti_prd (L : LE P w K mg base CV CC CS CP CI CZ tup c Pt) {m : Nat} {gs : List Grp} {v : V} {S : Hp} (h : PrdP CP m gs v S) : NotI K CC v S := ⟨L.kit, by
  obtain ⟨a, dx, fs, e, h⟩ := PrdP.ins v S h
  exact .inr (.inr (.inr (.inr (.inr ⟨a, CP, dx, fs, e, h, L.cP, L.isP, L.kitP⟩))))⟩
theorem noti_lst (L : LE P w K mg base CV CC CS CP CI CZ tup c Pt) {Ps : List (V → Hp → Prop)} {v : V} {S : Hp} (h : LstP Ps v S) : NotI K CC v S := ⟨L.kit, by
  obtain ⟨l, ys, e, h, _⟩ := h
  exact .inr (.inr (.inr (.inl ⟨l, ys, e, h⟩)))⟩
theorem noti_tup (L : LE P w K mg base CV CC CS CP CI CZ tup c Pt) {Ps : List (V → Hp → Prop)} {v : V} {S : Hp} (h : TupP Ps v S) : NotI K CC v S := ⟨L.kit, by
  obtain ⟨l, ys, e, h, _⟩ := h
  exact .inr (.inr (.inr (.inr (.inl ⟨l, ys, e, h⟩))))⟩
theorem turn_e (L : LE P w K mg base CV CC CS CP CI CZ tup c Pt) (hr : Room 12 (LX P w K mg base f c A outer sh H0 E).A) {a2 a14 a15 a16 a17 a18 a19 a20 a21 a22 : Option V} (s : Same S H) (hb : BX vb S) (n1 : 1 ≤ n) (n3 : n ≤ 3) (hz : z.cps.size = n) (ho : SchOk z ps) (hpl : ps.length ≤ 2) (k1 : 1 ≤ rs.length) (k4 : rs.length ≤ 4) (hp1 : p1.length = rs.length) (q3 : Dt K (.int (n : Nat)) v3 S) (q4 : Dt K (.str z) v4 S) (q5 : Dt K (.list (ps.map ruleD)) v5 S) (q6 : SchP K CS z ps v6 S) (q7 : Dt K (.list (p1.map prD)) v7 S) (q9 : ClsL K CC CS CP xs rs v9 S)
    (nx : ∀ k v14 v15 v16 v17 v18 v19 S' H', k < rs.length → Gr S H S' H' → Dt K (.int (k : Nat)) v14 S' → NotI K CC v15 S' → ClmP K CC CS CP z (ps2 ps n) (norm []) (norm []) v16 S' → CAP K CC CS CP (.seq false (bentL xs k v15) (bentL (rs.map some) k none)) v17 S' → CAP K CC CS CP (.seq false (bentL xs k v16) (bentL (rs.map some) k (some ((z, ps2 ps n), (norm [], norm []))))) v18 S' → BadCl K CC CS CP v19 S' →
      HS (LX P w K mg base f c A outer sh H0 E) D rest [some vs, some vb, a2, some v3, some v4, some v5, some v6, some v7, some v8, some v9, some v10, some v11, some v12, some v13, some v14, some v15, some v16, some v17, some v18, some v19, a20, a21, a22] H') :
    HS (LX P w K mg base f c A outer sh H0 E) D (stAt turnBody 16 :: stAt turnBody 17 :: stAt turnBody 18 :: stAt turnBody 19 :: stAt turnBody 20 :: rest) [some vs, some vb, a2, some v3, some v4, some v5, some v6, some v7, some v8, some v9, some v10, some v11, some v12, some v13, a14, a15, a16, a17, a18, a19, a20, a21, a22] H := by
  have hlen : xs.length = (rs.map some).length := by rw [List.length_map]; exact q9.1
  have lst : ∀ {S' : Hp}, Same S S' → LstP (itPs K CC CS CP xs (rs.map some)) v9 S' := fun {S'} s' => pins_lst hlen (al_mn itPs_mn s' q9.2.2) (Mn.up s' q9.2.1)
  have mnI := itPs_mn (K := K) (CC := CC) (CS := CS) (CP := CP) (xs := xs) (its := rs.map some)
  have hil : (itPs K CC CS CP xs (rs.map some)).length = rs.length := by rw [itPs_len hlen, List.length_map]
  -- the place
  refine hs_set (i := 14) (P := Ex K fun d => ∃ k : Nat, d = .int k ∧ k < rs.length) ((ee_callBx L.take (hr.mono (by decide)) ⟨(p1.length : Nat), rfl, by omega, by omega, rfl⟩ (ea_2 (ee_var 1 rfl hb) ((ee_len L.flen rfl (ee_var 7 rfl q7)).isd (by rw [List.length_map])))).exi fun d ⟨i, e, i0, i1⟩ => ⟨i.toNat, by rw [e]; congr 1; omega, by omega⟩) s sc_law.nd fun v14 S1 H1 g1 pk => ?_
  obtain ⟨_, ⟨k, rfl, hk⟩, pk⟩ := pk
  obtain ⟨x0, r0, hx0, hr0⟩ : ∃ x0 r0, xs[0]? = some x0 ∧ (rs.map some)[0]? = some r0 := ⟨xs[0]'(by rw [q9.1]; omega), (rs.map some)[0]'(by rw [List.length_map]; omega), List.getElem?_eq_getElem _, List.getElem?_eq_getElem _⟩
  have hb1 : BX vb S1 := Mn.up g1.st hb
  have q6' : SchP K CS z ps v6 S1 := Mn.up g1.st q6
  have q3' := q3.up g1.st
  -- the wrong thing
  refine hs_set (i := 15) (P := NotI K CC) (ee_call L.oneC (hr.mono (by decide)) (ea_2 (ee_var 1 rfl hb1) (ee_lstP (Ps := List.replicate 7 (NotI K CC)) (ea_cons ?w0 (ea_cons ?w1 (ea_cons ?w2 (ea_cons ?w3 (ea_cons ?w4 (ea_2 ?w5 ?w6)))))))) (spOneP_E (by decide) (by decide))) g1.sub sc_law.nd fun v15 S2 H2 g2 pw => ?_
  case w0 => exact EE.imp ee_non fun _ _ h => noti_non L h
  case w1 => exact EE.imp ee_int fun _ _ h => noti_int L h
  case w2 => exact EE.imp ee_str fun _ _ h => noti_str L h
  case w3 => exact EE.imp (ee_var 6 rfl q6') fun _ _ h => noti_sch L h
  case w4 => exact EE.imp (ee_mkP1 L.mkP (hr.mono (by decide)) L.gP n1 n3 (ee_var 3 rfl q3')) fun _ _ h => noti_prd L (newR_prd h)
  case w5 => exact EE.imp (ee_tupP (ea_1 (ee_ixLP (i := 0) mnI (itPs_at hx0 hr0) (ee_var 9 rfl (lst g1.st)) ee_int))) fun _ _ h => noti_tup L h
  case w6 => exact EE.imp (ee_lstP (ea_1 (ee_ixLP (i := 0) mnI (itPs_at hx0 hr0) (ee_var 9 rfl (lst g1.st)) ee_int))) fun _ _ h => noti_lst L h
  have s2 := g1.st.trans g2.st
  have q3b := q3.up s2
  have ho2 : SchOk z (ps2 ps n) := ⟨ho.1, by unfold ps2; rw [List.length_append]; show ps.length + 1 ≤ 4; omega, fun p hp => by
    unfold ps2 at hp
    rcases List.mem_append.mp hp with h | h
    · exact ho.2.2 p h
    · rw [List.mem_singleton.mp h]
      exact ⟨⟨by rw [List.length_replicate, hz], fun x hx => by rw [List.eq_of_mem_replicate hx]; decide⟩, ⟨by rw [List.length_replicate, hz], fun x hx => by rw [List.eq_of_mem_replicate hx]; decide⟩⟩⟩
  -- a claim of another schema
  refine hs_set (i := 16) (P := ClmP K CC CS CP z (ps2 ps n) (norm []) (norm [])) (ee_call L.claim (hr.mono (by decide)) (ea_cons ((ee_mk2 L.mkS (hr.mono (by decide)) L.gS ho2 (.inl rfl) (ee_var 4 rfl (q4.up s2)) ?rules).imp fun _ _ h => newR_sch h) (ea_2 (ee_lst (ds := []) ea_nil) (ee_lst (ds := []) ea_nil))) (spLc_E (z := z) (ps := ps2 ps n) (g1 := []) (g2 := []) (lc_nil (by omega) (by omega)))) g2.sub sc_law.nd fun v16 S3 H3 g3 pl => ?_
  case rules =>
    refine EE.isd (d := .list (ps.map ruleD ++ [ruleD (List.replicate n 0, List.replicate n 1)])) ?_ (by unfold ps2; rw [List.map_append]; rfl)
    refine ee_catL (by rw [List.length_map]; show _ + 1 ≤ 16777216; omega) (ee_var 5 rfl (q5.up s2)) (ee_lst (ds := [ruleD (List.replicate n 0, List.replicate n 1)]) (ea_1 ?_))
    refine ee_tup (ds := [tI (List.replicate n 0), tI (List.replicate n 1)]) (ea_2 ?_ ?_)
    · exact (ee_repT (n := n) n1 (by omega) (by decide) (by decide) (ee_tup (ds := [.int 0]) (ea_1 ee_int)) (ee_var 3 rfl q3b)).isd (by rw [rep_zerosL]; rfl)
    · exact (ee_repT (n := n) n1 (by omega) (by decide) (by decide) (ee_tup (ds := [.int 1]) (ea_1 ee_int)) (ee_var 3 rfl q3b)).isd (by rw [rep_onesL]; rfl)
  have s3 := s2.trans g3.st
  have pk3 := pk.up (g2.st.trans g3.st)
  have pw3 : NotI K CC v15 S3 := Mn.up g3.st pw
  -- the lists
  have mnT : ∀ (w : V) (it : CIt), ∀ P ∈ (itPs K CC CS CP xs (rs.map some)).take k ++ [PinP w (CItP K CC CS CP it)], Mn P := fun w it P hP => by
    rcases List.mem_append.mp hP with h | h
    · exact mnI P (List.mem_of_mem_take h)
    · rw [List.mem_singleton.mp h]; infer_instance
  have mnD : ∀ P ∈ (itPs K CC CS CP xs (rs.map some)).drop (k + 1), Mn P := fun P hP => mnI P (List.mem_of_mem_drop hP)
  have capB : ∀ {w : V} {it : CIt} {v : V} {S' : Hp}, LstP ((itPs K CC CS CP xs (rs.map some)).take k ++ [PinP w (CItP K CC CS CP it)] ++ (itPs K CC CS CP xs (rs.map some)).drop (k + 1)) v S' → CAP K CC CS CP (.seq false (bentL xs k w) (bentL (rs.map some) k it)) v S' := fun {w it v S'} h => ⟨by rw [bent_len (by rw [q9.1]; exact hk), bent_len (by rw [List.length_map]; exact hk)]; exact hlen, by rw [itPs_bent hlen]; exact h⟩
  have hzz : ∀ (w : V) (it : CIt), ((itPs K CC CS CP xs (rs.map some)).take k ++ [PinP w (CItP K CC CS CP it)]).length + ((itPs K CC CS CP xs (rs.map some)).drop (k + 1)).length ≤ sizeLine := fun w it => by
    rw [List.length_append, List.length_take, List.length_drop, hil]
    show _ ≤ 16777216
    have : ([PinP w (CItP K CC CS CP it)] : List (V → Hp → Prop)).length = 1 := rfl
    omega
  have hz2 : ∀ (w : V) (it : CIt), ((itPs K CC CS CP xs (rs.map some)).take k).length + ([PinP w (CItP K CC CS CP it)] : List (V → Hp → Prop)).length ≤ sizeLine := fun w it => by
    rw [List.length_take, hil]
    show _ + 1 ≤ 16777216
    omega
  refine hs_unp2 (i := 17) (j := 18) (Pa := CAP K CC CS CP (.seq false (bentL xs k v15) (bentL (rs.map some) k none))) (Pb := CAP K CC CS CP (.seq false (bentL xs k v16) (bentL (rs.map some) k (some ((z, ps2 ps n), (norm [], norm [])))))) rfl sc_law.nd
    (EE.imp (ee_catP (mnT v15 none) mnD (hzz v15 none) (ee_catP (fun P hP => mnI P (List.mem_of_mem_take hP)) (fun P hP => by rw [List.mem_singleton.mp hP]; infer_instance) (hz2 v15 none) (ee_slTP mnI (ee_var 9 rfl (lst s3)) (ee_var 14 rfl pk3)) (ee_lstP (ea_1 (ee_var (P := PinP v15 (CItP K CC CS CP none)) 15 rfl ⟨rfl, pw3⟩)))) (ee_slFP (i := k + 1) mnI (by rw [hil]; omega) (ee_var 9 rfl (lst s3)) ((ee_add (ee_var 14 rfl pk3) ee_int).isd rfl))) fun _ _ h => capB h)
    (EE.imp (ee_catP (mnT v16 (some ((z, ps2 ps n), (norm [], norm [])))) mnD (hzz v16 _) (ee_catP (fun P hP => mnI P (List.mem_of_mem_take hP)) (fun P hP => by rw [List.mem_singleton.mp hP]; infer_instance) (hz2 v16 _) (ee_slTP mnI (ee_var 9 rfl (lst s3)) (ee_var 14 rfl pk3)) (ee_lstP (ea_1 (ee_var (P := PinP v16 (CItP K CC CS CP (some ((z, ps2 ps n), (norm [], norm []))))) 16 rfl ⟨rfl, pl⟩)))) (ee_slFP (i := k + 1) mnI (by rw [hil]; omega) (ee_var 9 rfl (lst s3)) ((ee_add (ee_var 14 rfl pk3) ee_int).isd rfl))) fun _ _ h => capB h) g3.sub fun v17 v18 S4 H4 q17 q18 g4 => ?_
  have s4 := s3.trans g4.st
  have hb4 : BX vb S4 := Mn.up s4 hb
  -- what is no list of claims
  have odd : ∀ {d : PyData} {v : V} {S' : Hp}, Dt K d v S' → (isD d "list" || isD d "tuple") = false → BadCl K CC CS CP v S' := fun {d v S'} h e => ⟨.odd d, ⟨h, e⟩, rfl⟩
  refine hs_set (i := 19) (P := BadCl K CC CS CP) (ee_call L.oneN (hr.mono (by decide)) (ea_2 (ee_var 1 rfl hb4) (ee_lstP (Ps := List.replicate 5 (BadCl K CC CS CP)) (ea_cons ?n0 (ea_cons ?n1 (ea_cons ?n2 (ea_2 ?n3 ?n4)))))) (spOneP_E (by decide) (by decide))) g4.sub sc_law.nd fun v19 S5 H5 g5 pn => ?_
  case n0 => exact EE.imp ee_non fun _ _ h => odd h rfl
  case n1 => exact EE.imp (ee_lstP (Ps := []) ea_nil) fun _ _ h => ⟨.seq false [] [], ⟨rfl, h⟩, rfl⟩
  case n2 =>
    refine EE.imp (ee_slTP (i := 5) (fun P hP => ?m) (ee_repP (i := 5) mnI (by decide) (by decide) (by rw [hil]; show rs.length * 5 ≤ 16777216; omega) (ee_var 9 rfl (lst s4)) ee_int) ee_int) fun v S' h => ?b
    case m =>
      obtain ⟨L', hL, hp⟩ := List.mem_flatten.mp hP
      rw [List.eq_of_mem_replicate hL] at hp
      exact mnI P hp
    case b =>
      have h : LstP (((List.replicate 5 (itPs K CC CS CP xs (rs.map some))).flatten).take 5) v S' := h
      rw [itPs_rep hlen, itPs_take] at h
      have hl5 : ∀ {α : Type} {l : List α}, l.length = rs.length → (((List.replicate 5 l).flatten).take 5).length = 5 := fun {α l} e => by rw [List.length_take, rep_len, e]; omega
      have e1 := hl5 (l := xs) q9.1
      have e2 := hl5 (l := rs.map (some : CR → CIt)) (by rw [List.length_map])
      exact ⟨.seq false _ _, ⟨by rw [e1, e2], h⟩, chk_bad (by rw [e2]; decide)⟩
  case n3 => exact EE.imp ee_int fun _ _ h => odd h rfl
  case n4 => exact EE.imp ee_str fun _ _ h => odd h rfl
  have G := (((g1.trans g2).trans g3).trans g4).trans g5
  have s35 := g4.st.trans g5.st
  exact nx k v14 v15 v16 v17 v18 v19 S5 H5 hk G (pk3.up s35) (Mn.up s35 pw3) (Mn.up s35 pl) (Mn.up g5.st q17) (Mn.up g5.st q18) pn
end
end
end K23
namespace K23
open PySem PySem.Spec PyProof.Rows L2 Z Y LamX NdefX
section
variable {P : Program} {w : World} {K : PySem.W.Frag} {mg : Str → Option Value} {base : Heap} {f : Addr} {fd : FuncData}
/-! ## the asks -/
theorem find_at {α : Type} {p : α → Bool} {a b : List α} {x : α} (h : ∀ y ∈ a, p y = false) (hx : p x = true) : (a ++ x :: b).findIdx? p = some a.length := by
  rw [List.findIdx?_append, List.findIdx?_eq_none_iff.mpr (fun y hy => by simpa using h y hy), List.findIdx?_cons, hx]
  simp
theorem map_some {rs : List CR} : ∀ y ∈ rs.map (some : CR → CIt), y.isNone = false := fun y hy => by
  obtain ⟨r, _, rfl⟩ := List.mem_map.mp hy
  rfl
theorem find_none_some {is : List CIt} (h : ∀ y ∈ is, y.isNone = false) : is.findIdx? (fun it => it.isNone) = none := List.findIdx?_eq_none_iff.mpr fun y hy => h y hy
/-- a bent list: the place is told -/
theorem chk_bent {least : Nat} {fst : Option (Str × Rules)} {t : Bool} {xs : List V} {rs : List CR} {k : Nat} (hk : k < rs.length) (h1 : least ≤ rs.length) (h4 : rs.length ≤ 4) : chkC least fst (.seq t xs (bentL (rs.map some) k none)) = some (true, (k : Int)) := by
  have hl : (bentL (rs.map (some : CR → CIt)) k none).length = rs.length := by rw [bent_len (by rw [List.length_map]; exact hk), List.length_map]
  refine chk_none (by rw [hl]; exact ⟨h1, h4⟩) ?_
  have e : bentL (rs.map (some : CR → CIt)) k none = (rs.map some).take k ++ none :: (rs.map some).drop (k + 1) := by unfold bentL; rw [List.append_assoc]; rfl
  rw [e, find_at (fun y hy => map_some y (List.mem_of_mem_take hy)) rfl, List.length_take, List.length_map]
  congr 1
  omega
/-- a wrong thing behind some premises -/
theorem chk_wrong {fst : Option (Str × Rules)} {t : Bool} {xs : List V} {a b : List CIt} (ha : ∀ y ∈ a, y.isNone = false) (hl : a.length + b.length + 1 ≤ 4) : chkC 0 fst (.seq t xs (a ++ none :: b)) = some (true, (a.length : Int)) :=
  chk_none ⟨Nat.zero_le _, by rw [List.length_append, List.length_cons]; omega⟩ (find_at ha rfl)
theorem ne_late {z : Str} {ps : Rules} {n : Nat} {g : List Grp × List Grp} : neSch (z, ps) (some ((z, ps2 ps n), g)) = true := by
  show (!(decide (z = z) && eqvR (ps2 ps n) ps)) = true
  rw [eqvR_len (by unfold ps2; rw [List.length_append]; show ps.length + 1 ≠ _; omega), Bool.and_false]; rfl
theorem ne_late2 {z : Str} {ps : Rules} {n : Nat} {g : List Grp × List Grp} : neSch (z, ps2 ps n) (some ((z, ps), g)) = true := by
  show (!(decide (z = z) && eqvR ps (ps2 ps n))) = true
  rw [eqvR_len (by unfold ps2; rw [List.length_append]; show _ ≠ ps.length + 1; omega), Bool.and_false]; rfl
theorem ne_same {w : Str × Rules} {g : List Grp × List Grp} : neSch w (some (w, g)) = false := by
  show (!(decide (w.1 = w.1) && eqvR w.2 w.2)) = false
  rw [eqvR_refl, decide_eq_true rfl]; rfl
theorem chk_late {z : Str} {ps : Rules} {n : Nat} {t : Bool} {xs : List V} {a : List CIt} {g : List Grp × List Grp} (ha : ∀ y ∈ a, ∃ g, y = some ((z, ps), g)) (hl : a.length + 1 ≤ 4) : chkC 0 (some (z, ps)) (.seq t xs (a ++ [some ((z, ps2 ps n), g)])) = some (false, (a.length : Int)) := by
  have hn : (a ++ [some ((z, ps2 ps n), g)]).findIdx? (fun it : CIt => it.isNone) = none := find_none_some fun y hy => by
    rcases List.mem_append.mp hy with h | h
    · obtain ⟨g, rfl⟩ := ha y h; rfl
    · rw [List.mem_singleton.mp h]; rfl
  rw [chk_all ⟨Nat.zero_le _, by rw [List.length_append]; exact hl⟩ hn]
  have h9 : (a ++ [some ((z, ps2 ps n), g)]).findIdx? (neSch (refOf (some (z, ps)) (a ++ [some ((z, ps2 ps n), g)]))) = some a.length := find_at (p := neSch (z, ps)) (fun y hy => by obtain ⟨g, rfl⟩ := ha y hy; exact ne_same) ne_late
  rw [h9]; rfl
/-- another claim in the place k, a further claim behind a single one -/
theorem chk_other {z : Str} {ps : Rules} {n : Nat} {t : Bool} {xs : List V} {is b : List CIt} {g : List Grp × List Grp} {k : Nat} (hk : k < is.length) (ha : ∀ y ∈ is ++ b, ∃ g, y = some ((z, ps), g)) (h2 : 2 ≤ is.length + b.length) (hl : is.length + b.length ≤ 4) : chkC 1 none (.seq t xs (bentL is k (some ((z, ps2 ps n), g)) ++ b)) = some (false, if 0 < k then (k : Int) else 1) := by
  have e : bentL is k (some ((z, ps2 ps n), g)) ++ b = is.take k ++ some ((z, ps2 ps n), g) :: (is.drop (k + 1) ++ b) := by unfold bentL; rw [List.append_assoc, List.append_assoc]; rfl
  have hb : ∀ y ∈ is.drop (k + 1) ++ b, ∃ g, y = some ((z, ps), g) := fun y hy => ha y ((List.mem_append.mp hy).elim (fun h => List.mem_append.mpr (.inl (List.mem_of_mem_drop h))) fun h => List.mem_append.mpr (.inr h))
  have ht : ∀ y ∈ is.take k, ∃ g, y = some ((z, ps), g) := fun y hy => ha y (List.mem_append.mpr (.inl (List.mem_of_mem_take hy)))
  have hlen : (is.take k ++ some ((z, ps2 ps n), g) :: (is.drop (k + 1) ++ b)).length = is.length + b.length := by
    rw [List.length_append, List.length_take, List.length_cons, List.length_append, List.length_drop]; omega
  have hn : (is.take k ++ some ((z, ps2 ps n), g) :: (is.drop (k + 1) ++ b)).findIdx? (fun it : CIt => it.isNone) = none := find_none_some fun y hy => by
    rcases List.mem_append.mp hy with h | h
    · obtain ⟨g, rfl⟩ := ht y h; rfl
    · rcases List.mem_cons.mp h with rfl | h
      · rfl
      · obtain ⟨g, rfl⟩ := hb y h; rfl
  rw [e, chk_all (by rw [hlen]; exact ⟨by omega, hl⟩) hn]
  by_cases h0 : 0 < k
  · have hr : refOf none (is.take k ++ some ((z, ps2 ps n), g) :: (is.drop (k + 1) ++ b)) = (z, ps) := by
      cases is with
      | nil => simp at hk
      | cons y l =>
        obtain ⟨k', rfl⟩ : ∃ k', k = k' + 1 := ⟨k - 1, by omega⟩
        obtain ⟨g, rfl⟩ := ha y (by simp)
        rfl
    rw [hr, find_at (fun y hy => by obtain ⟨g, rfl⟩ := ht y hy; exact ne_same) ne_late, if_pos h0, List.length_take]
    show some (false, ((min k is.length : Nat) : Int)) = _
    rw [Nat.min_eq_left (by omega)]
  · obtain rfl : k = 0 := by omega
    rw [if_neg h0]
    cases hd : is.drop (0 + 1) ++ b with
    | nil =>
      have : (is.drop (0 + 1) ++ b).length = 0 := by rw [hd]; rfl
      rw [List.length_append, List.length_drop] at this
      omega
    | cons y l =>
      obtain ⟨g2, rfl⟩ := hb y (by rw [hd]; exact List.mem_cons_self ..)
      have h9 : (is.take 0 ++ some ((z, ps2 ps n), g) :: (some ((z, ps), g2) :: l)).findIdx? (neSch (refOf none (is.take 0 ++ some ((z, ps2 ps n), g) :: (some ((z, ps), g2) :: l)))) = some 1 := find_at (p := neSch (z, ps2 ps n)) (a := [some ((z, ps2 ps n), g)]) (b := l) (fun y hy => by rw [List.mem_singleton.mp hy]; exact ne_same) ne_late2
      rw [h9]; rfl
section
variable {CV CC CS CP CI CZ : Addr} {tup : List Value} {c Pt : Addr} {n k : Nat} {z : Str} {ps : Rules} {xs ys : List V} {rs qs : List CR} {u16 u15 : V}
theorem ref_rs {w : Str × Rules} (h1 : 1 ≤ rs.length) (hr : ∀ r ∈ rs, r.1 = w) : refOf none (rs.map some) = w := by
  cases rs with
  | nil => simp at h1
  | cons r l => exact hr r (List.mem_cons_self ..)
theorem ok_rs {w : Str × Rules} {t : Bool} (h1 : 1 ≤ rs.length) (h4 : rs.length ≤ 4) (hr : ∀ r ∈ rs, r.1 = w) : chkC 1 none (.seq t xs (rs.map some)) = none := (okV_of (xs := xs) (ys := []) (qs := []) (t1 := t) (t2 := t) h1 h4 (by decide) hr (fun _ h => nomatch h)).1
theorem some_rs {w : Str × Rules} (hr : ∀ r ∈ rs, r.1 = w) : ∀ y ∈ rs.map (some : CR → CIt), ∃ g, y = some (w, g) := fun y hy => by
  obtain ⟨r, h, rfl⟩ := List.mem_map.mp hy
  exact ⟨r.2, by rw [← hr r h]⟩
theorem ax0 (L : LE P w K mg base CV CC CS CP CI CZ tup c Pt) (hk : k < rs.length) (h4 : rs.length ≤ 4) {f' c' : Addr} {cells : List (Str × Addr)} : LOk P w K mg base (L2.CX P w) 8 f' (LamF (lamOf (stAt turnBody 21) 0) lamQ cells c' none) ["_law_bent"] [] (spAsk K (fun ws S => ∃ v1, ws = [some v1] ∧ CAP K CC CS CP (.seq false (bentL xs k u15) (bentL (rs.map some) k none)) v1 S) (Ex K NoD) (O1 (kICl CI) (.int k))) := by
  refine lok_ask (N := ["_law_bent"]) (ps := []) (nscope_by (sc := LamSc (lamOf (stAt turnBody 21) 0)) (by decide +kernel)) (lbind0 rfl fun _ _ => rfl) rfl fun A outer s H ws E S hr hlen hw tk => ?_
  obtain ⟨v1, rfl, p1⟩ := hw
  exact er_mkV2 tk L.mkVX (hr.mono (by decide)) L.gV (ee_var 0 rfl p1) ee_non (fun v S1 h => ⟨_, true, (k : Int), h, chk_bent hk (by omega) h4, rfl, rfl⟩)
theorem ax1 (L : LE P w K mg base CV CC CS CP CI CZ tup c Pt) {f' c' T : Addr} {cells : List (Str × Addr)} : LOk P w K mg base (L2.CX P w) 8 f' (LamF (lamOf (stAt turnBody 21) 1) lamQ cells c' (some T)) ["_law_none"] [.int 0] (spAsk K (fun ws S => ∃ v1, ws = [some v1] ∧ BadCl K CC CS CP v1 S) (Ex K NoD) (O1 (kICl CI) (.int (-1)))) := by
  refine lok_ask (N := ["_law_a", "_law_none"]) (ps := ["_law_a"]) (nscope_by (sc := LamSc (lamOf (stAt turnBody 21) 1)) (by decide +kernel)) (lbind1 rfl fun _ _ => ⟨_, rfl, fun _ => rfl⟩) rfl fun A outer s H ws E S hr hlen hw tk => ?_
  obtain ⟨v1, rfl, p1⟩ := hw
  exact er_mkV1 tk L.mkVX (hr.mono (by decide)) L.gV (ee_var 1 rfl p1) (fun v S1 ⟨a, h, e⟩ => ⟨a, true, -1, h, e, rfl, rfl⟩)
theorem pin1 {w : V} {it : CIt} : ∀ P ∈ ([PinP w (CItP K CC CS CP it)] : List (V → Hp → Prop)), Mn P := fun P hP => by rw [List.mem_singleton.mp hP]; infer_instance
theorem lst_of {v : V} {S : Hp} (h : ClsL K CC CS CP xs rs v S) : LstP (itPs K CC CS CP xs (rs.map some)) v S := pins_lst (by rw [List.length_map]; exact h.1) h.2.2 h.2.1
theorem ax2 (L : LE P w K mg base CV CC CS CP CI CZ tup c Pt) (h1 : 1 ≤ rs.length) (h4 : rs.length ≤ 4) (hrs : ∀ r ∈ rs, r.1 = (z, ps)) {f' c' T : Addr} {cells : List (Str × Addr)} : LOk P w K mg base (L2.CX P w) 8 f' (LamF (lamOf (stAt turnBody 21) 2) lamQ cells c' (some T)) ["_law_one_z", "_law_two_z", "_law_wrong"] [.int 0] (spAsk K (fun ws S => ∃ v1 v2 v3, ws = [some v1, some v2, some v3] ∧ ClsL K CC CS CP xs rs v1 S ∧ ClsL K CC CS CP ys qs v2 S ∧ NotI K CC v3 S) (Ex K NoD) (O1 (kICl CI) (.int ((min 2 qs.length : Nat) : Int)))) := by
  refine lok_ask (N := ["_law_b", "_law_one_z", "_law_two_z", "_law_wrong"]) (ps := ["_law_b"]) (nscope_by (sc := LamSc (lamOf (stAt turnBody 21) 2)) (by decide +kernel)) (lbind1 rfl fun _ _ => ⟨_, rfl, fun _ => rfl⟩) rfl fun A outer s H ws E S hr hlen hw tk => ?_
  obtain ⟨v1, v2, v3, rfl, p1, p2, p3⟩ := hw
  have hq : ys.length = (qs.map some).length := by rw [List.length_map]; exact p2.1
  have mnQ := itPs_mn (K := K) (CC := CC) (CS := CS) (CP := CP) (xs := ys) (its := qs.map some)
  haveI : Mn (LstP ((itPs K CC CS CP ys (qs.map some)).take 2 ++ [PinP v3 (CItP K CC CS CP none)])) := lstP_mn fun P hP => (List.mem_append.mp hP).elim (fun h => mnQ P (List.mem_of_mem_take h)) (pin1 P)
  refine er_mkV3 (t := false) (xs := xs) (is := rs.map some) (Pb := LstP ((itPs K CC CS CP ys (qs.map some)).take 2 ++ [PinP v3 (CItP K CC CS CP none)])) tk L.mkVX (hr.mono (by decide)) L.gV (ok_rs h1 h4 hrs) (ee_var 1 rfl p1.cap) ?lst (fun v S1 h => ⟨.seq false (ys.take 2 ++ [v3]) ((qs.map some).take 2 ++ [none]), true, ((min 2 qs.length : Nat) : Int), ⟨?l1, ?l2⟩, ?l3, rfl, rfl⟩)
  case lst => exact ee_catP (fun P hP => mnQ P (List.mem_of_mem_take hP)) pin1 (by rw [List.length_take]; show _ + 1 ≤ 16777216; omega) (ee_slTP (i := 2) mnQ (ee_var 2 rfl (lst_of p2)) ee_int) (ee_lstP (ea_1 (ee_var (P := PinP v3 (CItP K CC CS CP none)) 3 rfl ⟨rfl, p3⟩)))
  case l1 => rw [List.length_append, List.length_append, List.length_take, List.length_take, hq]; rfl
  case l2 => rw [itPs_app (by rw [List.length_take, List.length_take, hq])]; rw [itPs_take] at h; exact h
  case l3 =>
    have := chk_wrong (fst := some (refOf none (rs.map some))) (t := false) (xs := ys.take 2 ++ [v3]) (a := (qs.map (some : CR → CIt)).take 2) (b := []) (fun y hy => map_some y (List.mem_of_mem_take hy)) (by rw [List.length_take]; show min 2 _ + 0 + 1 ≤ 4; omega)
    rwa [List.length_take, List.length_map] at this
theorem ax3 (L : LE P w K mg base CV CC CS CP CI CZ tup c Pt) (h1 : 1 ≤ rs.length) (h4 : rs.length ≤ 4) (hrs : ∀ r ∈ rs, r.1 = (z, ps)) {f' c' T : Addr} {cells : List (Str × Addr)} : LOk P w K mg base (L2.CX P w) 8 f' (LamF (lamOf (stAt turnBody 21) 3) lamQ cells c' (some T)) ["_law_one_z"] [.int 0] (spAsk K (fun ws S => ∃ v1, ws = [some v1] ∧ ClsL K CC CS CP xs rs v1 S) (Ex K NoD) (O1 (kICl CI) (.int (-1)))) := by
  refine lok_ask (N := ["_law_c", "_law_one_z"]) (ps := ["_law_c"]) (nscope_by (sc := LamSc (lamOf (stAt turnBody 21) 3)) (by decide +kernel)) (lbind1 rfl fun _ _ => ⟨_, rfl, fun _ => rfl⟩) rfl fun A outer s H ws E S hr hlen hw tk => ?_
  obtain ⟨v1, rfl, p1⟩ := hw
  have hq : xs.length = (rs.map some).length := by rw [List.length_map]; exact p1.1
  have mnI := itPs_mn (K := K) (CC := CC) (CS := CS) (CP := CP) (xs := xs) (its := rs.map some)
  have hil : (itPs K CC CS CP xs (rs.map some)).length = rs.length := by rw [itPs_len hq, List.length_map]
  have mR : ∀ P ∈ (List.replicate (5 : Int).toNat (itPs K CC CS CP xs (rs.map some))).flatten, Mn P := fun P hP => by
    obtain ⟨L', hL, hp⟩ := List.mem_flatten.mp hP
    rw [List.eq_of_mem_replicate hL] at hp
    exact mnI P hp
  haveI : Mn (LstP (((List.replicate (5 : Int).toNat (itPs K CC CS CP xs (rs.map some))).flatten).take 5)) := lstP_mn fun P hP => mR P (List.mem_of_mem_take hP)
  refine er_mkV3 (t := false) (xs := xs) (is := rs.map some) (Pb := LstP (((List.replicate (5 : Int).toNat (itPs K CC CS CP xs (rs.map some))).flatten).take 5)) tk L.mkVX (hr.mono (by decide)) L.gV (ok_rs h1 h4 hrs) (ee_var 1 rfl p1.cap) (ee_slTP (i := 5) mR (ee_repP (i := 5) mnI (by decide) (by decide) (by rw [hil]; show rs.length * 5 ≤ 16777216; omega) (ee_var 1 rfl (lst_of p1)) ee_int) ee_int) (fun v S1 h => ?_)
  have h : LstP (((List.replicate 5 (itPs K CC CS CP xs (rs.map some))).flatten).take 5) v S1 := h
  rw [itPs_rep hq, itPs_take] at h
  have hl5 : ∀ {α : Type} {l : List α}, l.length = rs.length → (((List.replicate 5 l).flatten).take 5).length = 5 := fun {α l} e => by rw [List.length_take, rep_len, e]; omega
  have e1 := hl5 (l := xs) p1.1
  have e2 := hl5 (l := rs.map (some : CR → CIt)) (by rw [List.length_map])
  exact ⟨.seq false _ _, true, -1, ⟨by rw [e1, e2], h⟩, chk_bad (by rw [e2]; decide), rfl, rfl⟩
theorem ax4 (L : LE P w K mg base CV CC CS CP CI CZ tup c Pt) (h1 : 1 ≤ rs.length) (h4 : rs.length ≤ 4) (hrs : ∀ r ∈ rs, r.1 = (z, ps)) {f' c' T : Addr} {cells : List (Str × Addr)} : LOk P w K mg base (L2.CX P w) 8 f' (LamF (lamOf (stAt turnBody 21) 4) lamQ cells c' (some T)) ["_law_one_z", "_law_box"] [.int 0] (spAsk K (fun ws S => ∃ v1 v2, ws = [some v1, some v2] ∧ ClsL K CC CS CP xs rs v1 S ∧ BX v2 S) (Ex K NoD) (O1 (kICl CI) (.int (-1)))) := by
  refine lok_ask (N := ["_law_d", "_law_one_z", "_law_box"]) (ps := ["_law_d"]) (nscope_by (sc := LamSc (lamOf (stAt turnBody 21) 4)) (by decide +kernel)) (lbind1 rfl fun _ _ => ⟨_, rfl, fun _ => rfl⟩) rfl fun A outer s H ws E S hr hlen hw tk => ?_
  obtain ⟨v1, v2, rfl, p1, p2⟩ := hw
  refine er_mkV3 (t := false) (xs := xs) (is := rs.map some) (Pb := Ex K fun d => d ∈ ([.none, .int 3] : List PyData)) tk L.mkVX (hr.mono (by decide)) L.gV (ok_rs h1 h4 hrs) (ee_var 1 rfl p1.cap) (ee_callBx L.one (hr.mono (by decide)) ⟨[.none, .int 3], rfl, by decide, by decide, rfl⟩ (ea_2 (ee_var 2 rfl p2) (ee_lst (ds := [.none, .int 3]) (ea_2 ee_non ee_int)))) (fun v S1 ⟨d, hd, h⟩ => ⟨.odd d, true, -1, ⟨h, ?_⟩, rfl, rfl, rfl⟩)
  simp only [List.mem_cons, List.not_mem_nil, or_false] at hd
  rcases hd with rfl | rfl <;> rfl
theorem bx0 (L : LE P w K mg base CV CC CS CP CI CZ tup c Pt) (hk : k < rs.length) (h4 : rs.length ≤ 4) (hrs : ∀ r ∈ rs, r.1 = (z, ps)) {f' c' : Addr} {cells : List (Str × Addr)} : LOk P w K mg base (L2.CX P w) 8 f' (LamF (lamOf (stAt turnBody 22) 0) lamQ cells c' none) ["_law_other", "_law_one_z"] [] (spAsk K (fun ws S => ∃ v1 v2, ws = [some v1, some v2] ∧ CAP K CC CS CP (.seq false (bentL xs k u16) (bentL (rs.map some) k (some ((z, ps2 ps n), (norm [], norm []))))) v1 S ∧ ClsL K CC CS CP xs rs v2 S) (Ex K NoD) (O1 (kWS CZ) (.int (if 0 < k then (k : Int) else 1)))) := by
  refine lok_ask (N := ["_law_other", "_law_one_z"]) (ps := []) (nscope_by (sc := LamSc (lamOf (stAt turnBody 22) 0)) (by decide +kernel)) (lbind0 rfl fun _ _ => rfl) rfl fun A outer s H ws E S hr hlen hw tk => ?_
  obtain ⟨v1, v2, rfl, p1, p2⟩ := hw
  have hq : xs.length = (rs.map some).length := by rw [List.length_map]; exact p2.1
  have hk2 : k < (rs.map (some : CR → CIt)).length := by rw [List.length_map]; exact hk
  obtain ⟨x0, r0, hx0, hr0⟩ : ∃ x0 r0, xs[0]? = some x0 ∧ (rs.map some)[0]? = some r0 := ⟨xs[0]'(by rw [p2.1]; omega), (rs.map some)[0]'(by rw [List.length_map]; omega), List.getElem?_eq_getElem _, List.getElem?_eq_getElem _⟩
  have mnI := itPs_mn (K := K) (CC := CC) (CS := CS) (CP := CP) (xs := xs) (its := rs.map some)
  have mnB := itPs_mn (K := K) (CC := CC) (CS := CS) (CP := CP) (xs := bentL xs k u16) (its := bentL (rs.map some) k (some ((z, ps2 ps n), (norm [], norm []))))
  have hbl : (bentL (rs.map some) k (some ((z, ps2 ps n), (norm [], norm [])))).length = rs.length := by rw [bent_len hk2, List.length_map]
  have hil : (itPs K CC CS CP (bentL xs k u16) (bentL (rs.map some) k (some ((z, ps2 ps n), (norm [], norm []))))).length = rs.length := by rw [itPs_len p1.1, hbl]
  let m : Nat := if rs.length = 1 then 1 else 0
  have hm1 : m ≤ 1 := by show (if rs.length = 1 then 1 else 0) ≤ 1; split <;> omega
  have mnR : ∀ P ∈ (List.replicate m ([PinP x0 (CItP K CC CS CP r0)] : List (V → Hp → Prop))).flatten, Mn P := fun P hP => by
    obtain ⟨L', hL, hp⟩ := List.mem_flatten.mp hP
    rw [List.eq_of_mem_replicate hL] at hp
    exact pin1 P hp
  have hrl : (List.replicate m ([PinP x0 (CItP K CC CS CP r0)] : List (V → Hp → Prop))).flatten.length = m := by rw [rep_len]; show m * 1 = m; omega
  haveI : Mn (LstP (itPs K CC CS CP (bentL xs k u16) (bentL (rs.map some) k (some ((z, ps2 ps n), (norm [], norm [])))) ++ (List.replicate m [PinP x0 (CItP K CC CS CP r0)]).flatten)) := lstP_mn fun P hP => (List.mem_append.mp hP).elim (mnB P) (mnR P)
  refine er_mkV2 (Pa := LstP (itPs K CC CS CP (bentL xs k u16) (bentL (rs.map some) k (some ((z, ps2 ps n), (norm [], norm [])))) ++ (List.replicate m [PinP x0 (CItP K CC CS CP r0)]).flatten)) tk L.mkVX (hr.mono (by decide)) L.gV ?ea ee_non (fun v S1 h => ⟨.seq false (bentL xs k u16 ++ List.replicate m x0) (bentL (rs.map some) k (some ((z, ps2 ps n), (norm [], norm []))) ++ List.replicate m r0), false, (if 0 < k then (k : Int) else 1), ⟨?l1, ?l2⟩, ?l3, rfl, rfl⟩)
  case ea =>
    refine ee_catP mnB mnR (by rw [hil, hrl]; show _ ≤ 16777216; omega) (ee_var 0 rfl p1.2) ?_
    have em : ((m : Nat) : Int).toNat = m := by omega
    have := ee_repP (X := (ncx (L2.CX P w) P w K mg base ["_law_other", "_law_one_z"] (LamF (lamOf (stAt turnBody 22) 0) lamQ cells c' none).nf f' A outer s H E)) (σ := startF ["_law_other", "_law_one_z"] [] [some v1, some v2]) (S := S) (a := (match (LamF (lamOf (stAt turnBody 22) 0) lamQ cells c' none).body with | .Call _ (.BinOp _ _ (.BinOp a _ _ _) _ :: _) _ _ => a | _ => .Constant .none 0 ⟨0, 0, 0, 0⟩)) (b := (match (LamF (lamOf (stAt turnBody 22) 0) lamQ cells c' none).body with | .Call _ (.BinOp _ _ (.BinOp _ _ b _) _ :: _) _ _ => b | _ => .Constant .none 0 ⟨0, 0, 0, 0⟩)) (pos := (match (LamF (lamOf (stAt turnBody 22) 0) lamQ cells c' none).body with | .Call _ (.BinOp _ _ (.BinOp _ _ _ p) _ :: _) _ _ => p | _ => ⟨0, 0, 0, 0⟩)) (i := ((m : Nat) : Int)) (Ps := [PinP x0 (CItP K CC CS CP r0)]) pin1 (by omega) (by omega) (by rw [em]; show 1 * m ≤ 16777216; omega) (ee_lstP (ea_1 (ee_ixLP (i := 0) mnI (itPs_at hx0 hr0) (ee_var 1 rfl (lst_of p2)) ee_int))) (EE.isd (ee_intB (b := decide (((rs.length : Nat) : Int) = 1)) L.fint (ee_eqI (ee_lenSq (t := false) mnB L.flen (ee_var 0 rfl p1.2) hil) ee_int)) (by
        show PyData.int _ = PyData.int ((if rs.length = 1 then 1 else 0 : Nat) : Int)
        by_cases h : rs.length = 1
        · rw [h]; rfl
        · rw [decide_eq_false (by omega), if_neg h]; rfl))
    rw [em] at this
    exact this
  case l1 => rw [List.length_append, List.length_append, p1.1, List.length_replicate, List.length_replicate]
  case l2 =>
    rw [itPs_app p1.1]
    have e : ∀ m : Nat, itPs K CC CS CP (List.replicate m x0) (List.replicate m r0) = (List.replicate m [PinP x0 (CItP K CC CS CP r0)]).flatten := fun m => by
      induction m with
      | zero => rfl
      | succ m ih => rw [List.replicate_succ, List.replicate_succ, List.replicate_succ, List.flatten_cons, ← ih]; rfl
    have h2 : LstP (itPs K CC CS CP (bentL xs k u16) (bentL (rs.map some) k (some ((z, ps2 ps n), (norm [], norm [])))) ++ itPs K CC CS CP (List.replicate m x0) (List.replicate m r0)) v S1 := by rw [e]; exact h
    exact h2
  case l3 =>
    refine chk_other hk2 (fun y hy => ?_) ?_ ?_
    · rcases List.mem_append.mp hy with h | h
      · exact some_rs hrs y h
      · rw [List.eq_of_mem_replicate h]
        exact some_rs hrs r0 (List.mem_of_getElem? hr0)
    · rw [List.length_map, List.length_replicate]
      show 2 ≤ rs.length + (if rs.length = 1 then 1 else 0)
      split <;> omega
    · rw [List.length_map, List.length_replicate]
      show rs.length + (if rs.length = 1 then 1 else 0) ≤ 4
      split <;> omega
theorem bx1 (L : LE P w K mg base CV CC CS CP CI CZ tup c Pt) (h1 : 1 ≤ rs.length) (h4 : rs.length ≤ 4) (hrs : ∀ r ∈ rs, r.1 = (z, ps)) {f' c' T : Addr} {cells : List (Str × Addr)} : LOk P w K mg base (L2.CX P w) 8 f' (LamF (lamOf (stAt turnBody 22) 1) lamQ cells c' (some T)) ["_law_one_z", "_law_two_z", "_law_late", "_law_wrong"] [.int 0] (spAsk K (fun ws S => ∃ v1 v2 v3 v4, ws = [some v1, some v2, some v3, some v4] ∧ ClsL K CC CS CP xs rs v1 S ∧ ClsL K CC CS CP ys qs v2 S ∧ ClmP K CC CS CP z (ps2 ps n) (norm []) (norm []) v3 S ∧ NotI K CC v4 S) (Ex K NoD) (O1 (kICl CI) (.int (((min 1 qs.length : Nat) : Int) + 1)))) := by
  refine lok_ask (N := ["_law_a", "_law_one_z", "_law_two_z", "_law_late", "_law_wrong"]) (ps := ["_law_a"]) (nscope_by (sc := LamSc (lamOf (stAt turnBody 22) 1)) (by decide +kernel)) (lbind1 rfl fun _ _ => ⟨_, rfl, fun _ => rfl⟩) rfl fun A outer s H ws E S hr hlen hw tk => ?_
  obtain ⟨v1, v2, v3, v4, rfl, p1, p2, p3, p4⟩ := hw
  have hq : ys.length = (qs.map some).length := by rw [List.length_map]; exact p2.1
  have mnQ := itPs_mn (K := K) (CC := CC) (CS := CS) (CP := CP) (xs := ys) (its := qs.map some)
  have mn2 : ∀ P ∈ ([PinP v3 (CItP K CC CS CP (some ((z, ps2 ps n), (norm [], norm [])))), PinP v4 (CItP K CC CS CP none)] : List (V → Hp → Prop)), Mn P := fun P hP => by
    simp only [List.mem_cons, List.not_mem_nil, or_false] at hP
    rcases hP with rfl | rfl <;> infer_instance
  haveI : Mn (LstP ((itPs K CC CS CP ys (qs.map some)).take 1 ++ [PinP v3 (CItP K CC CS CP (some ((z, ps2 ps n), (norm [], norm [])))), PinP v4 (CItP K CC CS CP none)])) := lstP_mn fun P hP => (List.mem_append.mp hP).elim (fun h => mnQ P (List.mem_of_mem_take h)) (mn2 P)
  refine er_mkV3 (t := false) (xs := xs) (is := rs.map some) (Pb := LstP ((itPs K CC CS CP ys (qs.map some)).take 1 ++ [PinP v3 (CItP K CC CS CP (some ((z, ps2 ps n), (norm [], norm [])))), PinP v4 (CItP K CC CS CP none)])) tk L.mkVX (hr.mono (by decide)) L.gV (ok_rs h1 h4 hrs) (ee_var 1 rfl p1.cap) ?lst (fun v S1 h => ⟨.seq false (ys.take 1 ++ [v3, v4]) ((qs.map some).take 1 ++ [some ((z, ps2 ps n), (norm [], norm [])), none]), true, ((min 1 qs.length : Nat) : Int) + 1, ⟨?l1, ?l2⟩, ?l3, rfl, rfl⟩)
  case lst => exact ee_catP (fun P hP => mnQ P (List.mem_of_mem_take hP)) mn2 (by rw [List.length_take]; show _ + 2 ≤ 16777216; omega) (ee_slTP (i := 1) mnQ (ee_var 2 rfl (lst_of p2)) ee_int) (ee_lstP (ea_2 (ee_var (P := PinP v3 (CItP K CC CS CP (some ((z, ps2 ps n), (norm [], norm []))))) 3 rfl ⟨rfl, p3⟩) (ee_var (P := PinP v4 (CItP K CC CS CP none)) 4 rfl ⟨rfl, p4⟩)))
  case l1 => rw [List.length_append, List.length_append, List.length_take, List.length_take, hq]; rfl
  case l2 => rw [itPs_app (by rw [List.length_take, List.length_take, hq])]; rw [itPs_take] at h; exact h
  case l3 =>
    have := chk_wrong (fst := some (refOf none (rs.map some))) (t := false) (xs := ys.take 1 ++ [v3, v4]) (a := (qs.map (some : CR → CIt)).take 1 ++ [some ((z, ps2 ps n), (norm [], norm []))]) (b := []) (fun y hy => by
      rcases List.mem_append.mp hy with h | h
      · exact map_some y (List.mem_of_mem_take h)
      · rw [List.mem_singleton.mp h]; rfl) (by rw [List.length_append, List.length_take]; show min 1 _ + 1 + 0 + 1 ≤ 4; omega)
    rw [List.length_append, List.length_take, List.length_map, List.append_assoc] at this
    exact this
theorem bx2 (L : LE P w K mg base CV CC CS CP CI CZ tup c Pt) (h1 : 1 ≤ rs.length) (h4 : rs.length ≤ 4) (hrs : ∀ r ∈ rs, r.1 = (z, ps)) (hqs : ∀ r ∈ qs, r.1 = (z, ps)) {f' c' T : Addr} {cells : List (Str × Addr)} : LOk P w K mg base (L2.CX P w) 8 f' (LamF (lamOf (stAt turnBody 22) 2) lamQ cells c' (some T)) ["_law_one_z", "_law_two_z", "_law_late"] [.int 0] (spAsk K (fun ws S => ∃ v1 v2 v3, ws = [some v1, some v2, some v3] ∧ ClsL K CC CS CP xs rs v1 S ∧ ClsL K CC CS CP ys qs v2 S ∧ ClmP K CC CS CP z (ps2 ps n) (norm []) (norm []) v3 S) (Ex K NoD) (O1 (kWS CZ) (.int ((min 1 qs.length : Nat) : Int)))) := by
  refine lok_ask (N := ["_law_b", "_law_one_z", "_law_two_z", "_law_late"]) (ps := ["_law_b"]) (nscope_by (sc := LamSc (lamOf (stAt turnBody 22) 2)) (by decide +kernel)) (lbind1 rfl fun _ _ => ⟨_, rfl, fun _ => rfl⟩) rfl fun A outer s H ws E S hr hlen hw tk => ?_
  obtain ⟨v1, v2, v3, rfl, p1, p2, p3⟩ := hw
  have hq : ys.length = (qs.map some).length := by rw [List.length_map]; exact p2.1
  have mnQ := itPs_mn (K := K) (CC := CC) (CS := CS) (CP := CP) (xs := ys) (its := qs.map some)
  haveI : Mn (LstP ((itPs K CC CS CP ys (qs.map some)).take 1 ++ [PinP v3 (CItP K CC CS CP (some ((z, ps2 ps n), (norm [], norm []))))])) := lstP_mn fun P hP => (List.mem_append.mp hP).elim (fun h => mnQ P (List.mem_of_mem_take h)) (pin1 P)
  refine er_mkV3 (t := false) (xs := xs) (is := rs.map some) (Pb := LstP ((itPs K CC CS CP ys (qs.map some)).take 1 ++ [PinP v3 (CItP K CC CS CP (some ((z, ps2 ps n), (norm [], norm []))))])) tk L.mkVX (hr.mono (by decide)) L.gV (ok_rs h1 h4 hrs) (ee_var 1 rfl p1.cap) ?lst (fun v S1 h => ⟨.seq false (ys.take 1 ++ [v3]) ((qs.map some).take 1 ++ [some ((z, ps2 ps n), (norm [], norm []))]), false, ((min 1 qs.length : Nat) : Int), ⟨?l1, ?l2⟩, ?l3, rfl, rfl⟩)
  case lst => exact ee_catP (fun P hP => mnQ P (List.mem_of_mem_take hP)) pin1 (by rw [List.length_take]; show _ + 1 ≤ 16777216; omega) (ee_slTP (i := 1) mnQ (ee_var 2 rfl (lst_of p2)) ee_int) (ee_lstP (ea_1 (ee_var (P := PinP v3 (CItP K CC CS CP (some ((z, ps2 ps n), (norm [], norm []))))) 3 rfl ⟨rfl, p3⟩)))
  case l1 => rw [List.length_append, List.length_append, List.length_take, List.length_take, hq]; rfl
  case l2 => rw [itPs_app (by rw [List.length_take, List.length_take, hq])]; rw [itPs_take] at h; exact h
  case l3 =>
    rw [ref_rs h1 hrs]
    have := chk_late (z := z) (ps := ps) (n := n) (t := false) (xs := ys.take 1 ++ [v3]) (a := (qs.map (some : CR → CIt)).take 1) (g := (norm [], norm [])) (fun y hy => some_rs hqs y (List.mem_of_mem_take hy)) (by rw [List.length_take]; omega)
    rwa [List.length_take, List.length_map] at this
end
end
end K23
namespace K23
open PySem PySem.Spec PyProof.Rows L2 Z Y LamX NdefX
section
variable {P : Program} {w : World} {K : PySem.W.Frag} {mg : Str → Option Value} {base : Heap} {f : Addr} {fd : FuncData}
/-! ## the end of the turn -/
theorem sqt_noTab {K : PySem.W.Frag} {S : Hp} {l : Addr} {xs : List V} (h : SqT K S l xs) : SqT K (Y.noTab S) l xs := by
  rcases h with (h | ⟨o, h⟩) | h
  · exact .inl (.inl (noTab_at h fun _ z => nomatch z))
  · exact .inl (.inr ⟨o, noTab_at h fun _ z => nomatch z⟩)
  · exact .inr h
theorem noti_noTab {K : PySem.W.Frag} {C : Addr} {v : V} {S : Hp} (h : NotI K C v S) : NotI K C v (Y.noTab S) := by
  obtain ⟨hk, h⟩ := h
  refine ⟨hk, ?_⟩
  rcases h with h | h | h | ⟨l, ys, e, h⟩ | ⟨l, ys, e, h⟩ | ⟨a, D, dx, fs, e, h, r⟩
  · exact .inl h
  · exact .inr (.inl h)
  · exact .inr (.inr (.inl h))
  · exact .inr (.inr (.inr (.inl ⟨l, ys, e, noTab_at h fun _ z => nomatch z⟩)))
  · exact .inr (.inr (.inr (.inr (.inl ⟨l, ys, e, noTab_at h fun _ z => nomatch z⟩))))
  · exact .inr (.inr (.inr (.inr (.inr ⟨a, D, dx, fs, e, noTab_at h (fun _ z => nomatch z), r⟩))))
theorem cit_noTab {K : PySem.W.Frag} {CC CS CP : Addr} {it : CIt} {v : V} {S : Hp} (h : CItP K CC CS CP it v S) : CItP K CC CS CP it v (Y.noTab S) := by
  cases it with
  | none => exact noti_noTab h
  | some r => exact clm_noTab h
theorem al_noTab {K : PySem.W.Frag} {CC CS CP : Addr} {S : Hp} : ∀ {xs : List V} {its : List CIt} {ys : List V}, Al (itPs K CC CS CP xs its) ys S → Al (itPs K CC CS CP xs its) ys (Y.noTab S)
  | [], _, _, h => by unfold itPs at h ⊢; rw [List.zipWith_nil_left] at h ⊢; cases h; exact .nil
  | _ :: _, [], _, h => by unfold itPs at h ⊢; rw [List.zipWith_nil_right] at h ⊢; cases h; exact .nil
  | x :: xs, it :: its, _, h => by
    cases h with
    | cons p h => exact .cons ⟨p.1, cit_noTab p.2⟩ (al_noTab h)
theorem cls_noTab {K : PySem.W.Frag} {CC CS CP : Addr} {xs : List V} {rs : List CR} {v : V} {S : Hp} (h : ClsL K CC CS CP xs rs v S) : ClsL K CC CS CP xs rs v (Y.noTab S) := by
  obtain ⟨e, ⟨l, el, hl⟩, al⟩ := h
  exact ⟨e, ⟨l, el, noTab_at hl fun _ z => nomatch z⟩, al_noTab al⟩
theorem cap_noTab {K : PySem.W.Frag} {CC CS CP : Addr} {a : CA} {v : V} {S : Hp} (h : CAP K CC CS CP a v S) : CAP K CC CS CP a v (Y.noTab S) := by
  cases a with
  | odd d => exact ⟨dt_noTab h.1, h.2⟩
  | seq t xs its =>
    obtain ⟨e, l, ys, el, hl, al⟩ := h
    refine ⟨e, l, ys, el, ?_, al_noTab al⟩
    cases t with
    | true => exact sqt_noTab hl
    | false => exact noTab_at hl fun _ z => nomatch z
theorem bad_noTab {K : PySem.W.Frag} {CC CS CP : Addr} {v : V} {S : Hp} (h : BadCl K CC CS CP v S) : BadCl K CC CS CP v (Y.noTab S) := let ⟨a, h, e⟩ := h; ⟨a, cap_noTab h, e⟩
abbrev es21 : List (Expr × Bool) := [((lamOf (stAt turnBody 21) 0), false), ((lamOf (stAt turnBody 21) 1), true), ((lamOf (stAt turnBody 21) 2), true), ((lamOf (stAt turnBody 21) 3), true), ((lamOf (stAt turnBody 21) 4), true)]
abbrev es22 : List (Expr × Bool) := [((lamOf (stAt turnBody 22) 0), false), ((lamOf (stAt turnBody 22) 1), true), ((lamOf (stAt turnBody 22) 2), true)]
theorem rt_err {k : EK} {g r : PyData} (h : RtD NoD (O1 k g) r) : r = .tuple [.str k.code, g] := by
  rcases h with ⟨d, hd, _⟩ | ⟨k', g', ⟨rfl, rfl⟩, e⟩
  · exact hd.elim
  · exact e
theorem paired8 {α β : Type} {R : α → β → Prop} {a b c d e f g h : α} {rs : List β} (hp : Paired R [a, b, c, d, e, f, g, h] rs) : ∃ r1 r2 r3 r4 r5 r6 r7 r8, rs = [r1, r2, r3, r4, r5, r6, r7, r8] ∧ R a r1 ∧ R b r2 ∧ R c r3 ∧ R d r4 ∧ R e r5 ∧ R f r6 ∧ R g r7 ∧ R h r8 := by
  cases hp with
  | cons h1 t => cases t with
    | cons h2 t => cases t with
      | cons h3 t => cases t with
        | cons h4 t => cases t with
          | cons h5 t => cases t with
            | cons h6 t => cases t with
              | cons h7 t => cases t with
                | cons h8 t => cases t; exact ⟨_, _, _, _, _, _, _, _, rfl, h1, h2, h3, h4, h5, h6, h7, h8⟩
def erD (s : Str) (i : Int) : PyData := .tuple [.str s, .int i]
/-- what is due -/
def dueD (k q : Nat) : List PyData := [erD "InvalidClaim" k, erD "InvalidClaim" (-1), erD "InvalidClaim" ((min 2 q : Nat) : Int), erD "InvalidClaim" (-1), erD "InvalidClaim" (-1)] ++ [erD "WrongSchema" (if 0 < k then (k : Int) else 1), erD "InvalidClaim" (((min 1 q : Nat) : Int) + 1), erD "WrongSchema" ((min 1 q : Nat) : Int)]
theorem bd_due {k q : Nat} : Bd 2 (.list (dueD k q)) := fun x hx => by
  simp only [dueD, List.mem_append, List.mem_cons, List.not_mem_nil, or_false] at hx
  have key : ∀ s i, Bd 1 (erD s i) := fun s i y hy => by
    simp only [List.mem_cons, List.not_mem_nil, or_false] at hy
    rcases hy with rfl | rfl <;> trivial
  rcases hx with (rfl | rfl | rfl | rfl | rfl) | (rfl | rfl | rfl) <;> exact key _ _
section
variable {CV CC CS CP CI CZ : Addr} {tup : List Value} {c Pt : Addr} {A : Around} {outer : List Env} {sh : Shared} {H0 : Hp} {E : XK} {vs vb : V} {S H : Hp} {D : Ends} {rest : List Stmt}
variable {n k : Nat} {z : Str} {ps : Rules} {xs ys : List V} {rs qs : List CR} {v3 v4 v5 v6 v7 v8 v9 v10 v11 v12 v13 v14 v15 v16 v17 v18 v19 v20 v21 : V}
theorem turn_f (L : LE P w K mg base CV CC CS CP CI CZ tup c Pt) (hr : Room 12 (LX P w K mg base f c A outer sh H0 E).A) {a2 a20 a21 a22 : Option V} (s : Same S H) (nT : ∀ a ps, S a ≠ some (.tbl ps)) (hT : TabsN (TabQ Pt lamQ) H) (hb : BX vb S) (hk : k < rs.length) (h4 : rs.length ≤ 4) (hq4 : qs.length ≤ 4) (hrs : ∀ r ∈ rs, r.1 = (z, ps)) (hqs : ∀ r ∈ qs, r.1 = (z, ps)) (q9 : ClsL K CC CS CP xs rs v9 S) (q10 : ClsL K CC CS CP ys qs v10 S) (pk : Dt K (.int (k : Nat)) v14 S) (pw : NotI K CC v15 S) (pl : ClmP K CC CS CP z (ps2 ps n) (norm []) (norm []) v16 S) (q17 : CAP K CC CS CP (.seq false (bentL xs k v15) (bentL (rs.map some) k none)) v17 S) (q18 : CAP K CC CS CP (.seq false (bentL xs k v16) (bentL (rs.map some) k (some ((z, ps2 ps n), (norm [], norm []))))) v18 S) (q19 : BadCl K CC CS CP v19 S)
    (nx : ∀ v20 v21 v22 Hf, Same S Hf → TabsN (TabQ Pt lamQ) Hf → D.nx [some vs, some vb, a2, some v3, some v4, some v5, some v6, some v7, some v8, some v9, some v10, some v11, some v12, some v13, some v14, some v15, some v16, some v17, some v18, some v19, some v20, some v21, some v22] Hf) :
    HS (LX P w K mg base f c A outer sh H0 E) D [stAt turnBody 21, stAt turnBody 22, stAt turnBody 23, stAt turnBody 24, stAt turnBody 25, stAt turnBody 26] [some vs, some vb, a2, some v3, some v4, some v5, some v6, some v7, some v8, some v9, some v10, some v11, some v12, some v13, some v14, some v15, some v16, some v17, some v18, some v19, a20, a21, a22] H := by
  refine hs_asks (es := es21) (i := 20) L.U sc_law.nd hT (fun p hp => ?_) (by decide) fun l0 xs0 Hf xf hTf al0 hl0 => ?_
  · simp only [es21, List.mem_cons, List.not_mem_nil, or_false] at hp
    rcases hp with rfl | rfl | rfl | rfl | rfl
    · exact ⟨_, _, _, _, rfl, lamB_free (e := (lamOf (stAt turnBody 21) 0)) (by decide +kernel), fun _ => rfl, (by intro z; cases z)⟩
    · exact ⟨_, _, _, _, rfl, lamB_free (e := (lamOf (stAt turnBody 21) 1)) (by decide +kernel), (by intro z; cases z), fun _ => ⟨_, _, rfl⟩⟩
    · exact ⟨_, _, _, _, rfl, lamB_free (e := (lamOf (stAt turnBody 21) 2)) (by decide +kernel), (by intro z; cases z), fun _ => ⟨_, _, rfl⟩⟩
    · exact ⟨_, _, _, _, rfl, lamB_free (e := (lamOf (stAt turnBody 21) 3)) (by decide +kernel), (by intro z; cases z), fun _ => ⟨_, _, rfl⟩⟩
    · exact ⟨_, _, _, _, rfl, lamB_free (e := (lamOf (stAt turnBody 21) 4)) (by decide +kernel), (by intro z; cases z), fun _ => ⟨_, _, rfl⟩⟩
  have sf : Same S (Y.noTab Hf) := tab_step s nT xf
  refine hs_asksMore (es := es22) (es0 := es21) (i := 20) L.U sc_law.nd hTf (fun p hp => ?_) (by decide) (askEs_up noTab_sub al0) (noTab_sub _ _ hl0) rfl fun l xs2 Hg xg hTg al2 hl2 => ?_
  · simp only [es22, List.mem_cons, List.not_mem_nil, or_false] at hp
    rcases hp with rfl | rfl | rfl
    · exact ⟨_, _, _, _, rfl, lamB_free (e := (lamOf (stAt turnBody 22) 0)) (by decide +kernel), fun _ => rfl, (by intro z; cases z)⟩
    · exact ⟨_, _, _, _, rfl, lamB_free (e := (lamOf (stAt turnBody 22) 1)) (by decide +kernel), (by intro z; cases z), fun _ => ⟨_, _, rfl⟩⟩
    · exact ⟨_, _, _, _, rfl, lamB_free (e := (lamOf (stAt turnBody 22) 2)) (by decide +kernel), (by intro z; cases z), fun _ => ⟨_, _, rfl⟩⟩
  have sg : Same S (Y.noTab Hg) := tab_step (sf.trans noTab_sub) nT xg
  have mnQ := itPs_mn (K := K) (CC := CC) (CS := CS) (CP := CP) (xs := ys) (its := qs.map some)
  have hql : ys.length = (qs.map some).length := by rw [List.length_map]; exact q10.1
  have lst : ∀ {S' : Hp}, Same S S' → LstP (itPs K CC CS CP ys (qs.map some)) v10 S' := fun {S'} s' => lst_of (Mn.up s' q10)
  have mnT : ∀ i : Nat, ∀ P ∈ (itPs K CC CS CP ys (qs.map some)).take i, Mn P := fun i P hP => mnQ P (List.mem_of_mem_take hP)
  have tl : ∀ i : Nat, ((itPs K CC CS CP ys (qs.map some)).take i).length = min i qs.length := fun i => by rw [List.length_take, itPs_len hql, List.length_map]
  refine hs_set (S := Y.noTab Hg) (i := 21) (P := Dt K (.int ((min 2 qs.length : Nat) : Int))) (ee_lenSq (t := false) (mnT 2) L.flen (ee_slTP (i := 2) mnQ (ee_var 10 rfl (lst sg)) ee_int) (tl 2)) noTab_sub sc_law.nd fun v21 S1 H1 g1 p21 => ?_
  have s1 := sg.trans g1.st
  refine hs_set (i := 22) (P := Dt K (.list ([erD "InvalidClaim" k, erD "InvalidClaim" (-1), erD "InvalidClaim" ((min 2 qs.length : Nat) : Int), erD "InvalidClaim" (-1), erD "InvalidClaim" (-1)]))) (ee_lst (ds := [erD "InvalidClaim" k, erD "InvalidClaim" (-1), erD "InvalidClaim" ((min 2 qs.length : Nat) : Int), erD "InvalidClaim" (-1), erD "InvalidClaim" (-1)]) (ea_cons ?d0 (ea_cons ?d1 (ea_cons ?d2 (ea_2 ?d3 ?d4)))) (by show 5 ≤ 16777216; decide)) g1.sub sc_law.nd fun v22 S2 H2 g2 p22 => ?_
  case d0 => exact ee_tup (ds := [.str "InvalidClaim", .int (k : Nat)]) (ea_2 ee_str (ee_var 14 rfl (pk.up s1)))
  case d1 => exact ee_tup (ds := [.str "InvalidClaim", .int (-1)]) (ea_2 ee_str (ee_neg ee_int))
  case d2 => exact ee_tup (ds := [.str "InvalidClaim", .int ((min 2 qs.length : Nat) : Int)]) (ea_2 ee_str (ee_var 21 rfl p21))
  case d3 => exact ee_tup (ds := [.str "InvalidClaim", .int (-1)]) (ea_2 ee_str (ee_neg ee_int))
  case d4 => exact ee_tup (ds := [.str "InvalidClaim", .int (-1)]) (ea_2 ee_str (ee_neg ee_int))
  have s2 := s1.trans g2.st
  refine hs_set (i := 22) (P := Dt K (.list (dueD k qs.length))) (ee_catL (ds1 := [erD "InvalidClaim" k, erD "InvalidClaim" (-1), erD "InvalidClaim" ((min 2 qs.length : Nat) : Int), erD "InvalidClaim" (-1), erD "InvalidClaim" (-1)]) (ds2 := [erD "WrongSchema" (if 0 < k then (k : Int) else 1), erD "InvalidClaim" (((min 1 qs.length : Nat) : Int) + 1), erD "WrongSchema" ((min 1 qs.length : Nat) : Int)]) (by show 8 ≤ 16777216; decide) (ee_var 22 rfl p22) (ee_lst (ds := [erD "WrongSchema" (if 0 < k then (k : Int) else 1), erD "InvalidClaim" (((min 1 qs.length : Nat) : Int) + 1), erD "WrongSchema" ((min 1 qs.length : Nat) : Int)]) (ea_cons ?e0 (ea_2 ?e1 ?e2)) (by show 3 ≤ 16777216; decide))) g2.sub sc_law.nd fun v23 S3 H3 g3 p23 => ?_
  case e0 =>
    refine ee_tup (ds := [.str "WrongSchema", .int (if 0 < k then (k : Int) else 1)]) (ea_2 ee_str ?_)
    refine ee_if (k := decide (0 < k)) ((et_gt (ee_var 14 rfl (pk.up s2)) ee_int).is (by simp)) (fun h => ?_) (fun h => ?_)
    · rw [if_pos (of_decide_eq_true h)]; exact ee_var 14 rfl (pk.up s2)
    · rw [if_neg (of_decide_eq_false h)]; exact ee_int
  case e1 => exact ee_tup (ds := [.str "InvalidClaim", .int (((min 1 qs.length : Nat) : Int) + 1)]) (ea_2 ee_str (ee_add (ee_lenSq (t := false) (mnT 1) L.flen (ee_slTP (i := 1) mnQ (ee_var 10 rfl (lst s2)) ee_int) (tl 1)) ee_int))
  case e2 => exact ee_tup (ds := [.str "WrongSchema", .int ((min 1 qs.length : Nat) : Int)]) (ea_2 ee_str (ee_lenSq (t := false) (mnT 1) L.flen (ee_slTP (i := 1) mnQ (ee_var 10 rfl (lst s2)) ee_int) (tl 1)))
  have s3 := s2.trans g3.st
  have sn3 : Same (Y.noTab Hg) S3 := g1.st.trans (g2.st.trans g3.st)
  let X0 := LX P w K mg base f c A outer sh H0 E
  let σ2 : L2.St := [some vs, some vb, a2, some v3, some v4, some v5, some v6, some v7, some v8, some v9, some v10, some v11, some v12, some v13, some v14, some v15, some v16, some v17, some v18, some v19, some (.ref l), some v21, some v23]
  let j0 : AskC X0 lamQ tup 8 σ2 capN S3 := ⟨lamOf (stAt turnBody 21) 0, false, ["_law_bent"], [17], NoD, O1 (kICl CI) (.int k), fun ws S => ∃ v1, ws = [some v1] ∧ CAP K CC CS CP (.seq false (bentL xs k v15) (bentL (rs.map some) k none)) v1 S, ⟨_, _, _, _, rfl⟩, fun f' c' dT h0 _ => (by obtain rfl := h0 rfl; exact ax0 L hk h4), lamB_free (by decide +kernel), lamB_sub (by decide +kernel), by decide +kernel, rfl, ok_one L.okI, fun S' s' => ⟨v17, rfl, Mn.up (s3.trans s') q17⟩⟩
  let j1 : AskC X0 lamQ tup 8 σ2 capN S3 := ⟨lamOf (stAt turnBody 21) 1, true, ["_law_none"], [19], NoD, O1 (kICl CI) (.int (-1)), fun ws S => ∃ v1, ws = [some v1] ∧ BadCl K CC CS CP v1 S, ⟨_, _, _, _, rfl⟩, fun f' c' dT _ h0 => (by obtain ⟨T, rfl⟩ := h0 rfl; exact ax1 L), lamB_free (by decide +kernel), lamB_sub (by decide +kernel), by decide +kernel, rfl, ok_one L.okI, fun S' s' => ⟨v19, rfl, Mn.up (s3.trans s') q19⟩⟩
  let j2 : AskC X0 lamQ tup 8 σ2 capN S3 := ⟨lamOf (stAt turnBody 21) 2, true, ["_law_one_z", "_law_two_z", "_law_wrong"], [9, 10, 15], NoD, O1 (kICl CI) (.int ((min 2 qs.length : Nat) : Int)), fun ws S => ∃ v1 v2 v3, ws = [some v1, some v2, some v3] ∧ ClsL K CC CS CP xs rs v1 S ∧ ClsL K CC CS CP ys qs v2 S ∧ NotI K CC v3 S, ⟨_, _, _, _, rfl⟩, fun f' c' dT _ h0 => (by obtain ⟨T, rfl⟩ := h0 rfl; exact ax2 L (by omega) h4 hrs), lamB_free (by decide +kernel), lamB_sub (by decide +kernel), by decide +kernel, rfl, ok_one L.okI, fun S' s' => ⟨v9, v10, v15, rfl, Mn.up (s3.trans s') q9, Mn.up (s3.trans s') q10, Mn.up (s3.trans s') pw⟩⟩
  let j3 : AskC X0 lamQ tup 8 σ2 capN S3 := ⟨lamOf (stAt turnBody 21) 3, true, ["_law_one_z"], [9], NoD, O1 (kICl CI) (.int (-1)), fun ws S => ∃ v1, ws = [some v1] ∧ ClsL K CC CS CP xs rs v1 S, ⟨_, _, _, _, rfl⟩, fun f' c' dT _ h0 => (by obtain ⟨T, rfl⟩ := h0 rfl; exact ax3 L (by omega) h4 hrs), lamB_free (by decide +kernel), lamB_sub (by decide +kernel), by decide +kernel, rfl, ok_one L.okI, fun S' s' => ⟨v9, rfl, Mn.up (s3.trans s') q9⟩⟩
  let j4 : AskC X0 lamQ tup 8 σ2 capN S3 := ⟨lamOf (stAt turnBody 21) 4, true, ["_law_one_z", "_law_box"], [9, 1], NoD, O1 (kICl CI) (.int (-1)), fun ws S => ∃ v1 v2, ws = [some v1, some v2] ∧ ClsL K CC CS CP xs rs v1 S ∧ BX v2 S, ⟨_, _, _, _, rfl⟩, fun f' c' dT _ h0 => (by obtain ⟨T, rfl⟩ := h0 rfl; exact ax4 L (by omega) h4 hrs), lamB_free (by decide +kernel), lamB_sub (by decide +kernel), by decide +kernel, rfl, ok_one L.okI, fun S' s' => ⟨v9, vb, rfl, Mn.up (s3.trans s') q9, Mn.up (s3.trans s') hb⟩⟩
  let j5 : AskC X0 lamQ tup 8 σ2 capN S3 := ⟨lamOf (stAt turnBody 22) 0, false, ["_law_other", "_law_one_z"], [18, 9], NoD, O1 (kWS CZ) (.int (if 0 < k then (k : Int) else 1)), fun ws S => ∃ v1 v2, ws = [some v1, some v2] ∧ CAP K CC CS CP (.seq false (bentL xs k v16) (bentL (rs.map some) k (some ((z, ps2 ps n), (norm [], norm []))))) v1 S ∧ ClsL K CC CS CP xs rs v2 S, ⟨_, _, _, _, rfl⟩, fun f' c' dT h0 _ => (by obtain rfl := h0 rfl; exact bx0 L hk h4 hrs), lamB_free (by decide +kernel), lamB_sub (by decide +kernel), by decide +kernel, rfl, ok_one L.okZ, fun S' s' => ⟨v18, v9, rfl, Mn.up (s3.trans s') q18, Mn.up (s3.trans s') q9⟩⟩
  let j6 : AskC X0 lamQ tup 8 σ2 capN S3 := ⟨lamOf (stAt turnBody 22) 1, true, ["_law_one_z", "_law_two_z", "_law_late", "_law_wrong"], [9, 10, 16, 15], NoD, O1 (kICl CI) (.int (((min 1 qs.length : Nat) : Int) + 1)), fun ws S => ∃ v1 v2 v3 v4, ws = [some v1, some v2, some v3, some v4] ∧ ClsL K CC CS CP xs rs v1 S ∧ ClsL K CC CS CP ys qs v2 S ∧ ClmP K CC CS CP z (ps2 ps n) (norm []) (norm []) v3 S ∧ NotI K CC v4 S, ⟨_, _, _, _, rfl⟩, fun f' c' dT _ h0 => (by obtain ⟨T, rfl⟩ := h0 rfl; exact bx1 L (by omega) h4 hrs), lamB_free (by decide +kernel), lamB_sub (by decide +kernel), by decide +kernel, rfl, ok_one L.okI, fun S' s' => ⟨v9, v10, v16, v15, rfl, Mn.up (s3.trans s') q9, Mn.up (s3.trans s') q10, Mn.up (s3.trans s') pl, Mn.up (s3.trans s') pw⟩⟩
  let j7 : AskC X0 lamQ tup 8 σ2 capN S3 := ⟨lamOf (stAt turnBody 22) 2, true, ["_law_one_z", "_law_two_z", "_law_late"], [9, 10, 16], NoD, O1 (kWS CZ) (.int ((min 1 qs.length : Nat) : Int)), fun ws S => ∃ v1 v2 v3, ws = [some v1, some v2, some v3] ∧ ClsL K CC CS CP xs rs v1 S ∧ ClsL K CC CS CP ys qs v2 S ∧ ClmP K CC CS CP z (ps2 ps n) (norm []) (norm []) v3 S, ⟨_, _, _, _, rfl⟩, fun f' c' dT _ h0 => (by obtain ⟨T, rfl⟩ := h0 rfl; exact bx2 L (by omega) h4 hrs hqs), lamB_free (by decide +kernel), lamB_sub (by decide +kernel), by decide +kernel, rfl, ok_one L.okZ, fun S' s' => ⟨v9, v10, v16, rfl, Mn.up (s3.trans s') q9, Mn.up (s3.trans s') q10, Mn.up (s3.trans s') pl⟩⟩
  have al3 : Al (AskEs X0.env.cells lamQ ([j0, j1, j2, j3, j4, j5, j6, j7].map fun it => (it.e, it.b))) xs2 S3 := askEs_up sn3 al2
  refine hs_ifN (ET.is (et_not (et_val (ee_callD (L.same 2) (hr.mono (by decide)) ⟨.list (dueD k qs.length), rfl, bd_due, rfl⟩ (ea_2 ?tt (ee_var 22 rfl p23))))) rfl) g3.sub fun S4 H4 g4 => ?_
  case tt =>
    refine EE.imp (ee_tries (X := X0) (σ := σ2) (S := S3) (xs := capN) (by decide) cap_cells L.tries (hr.mono (by decide)) [j0, j1, j2, j3, j4, j5, j6, j7] (by show 8 ≤ 1000; decide) (i := 20) rfl (sn3 _ _ hl2) al3) fun v S' ⟨d, ⟨rs', e, hp⟩, pv⟩ => ?_
    obtain ⟨r0, r1, r2, r3, r4, r5, r6, r7, rfl, q0, q1, q2, q3, q4, q5, q6, q7⟩ := paired8 hp
    obtain rfl := rt_err q0
    obtain rfl := rt_err q1
    obtain rfl := rt_err q2
    obtain rfl := rt_err q3
    obtain rfl := rt_err q4
    obtain rfl := rt_err q5
    obtain rfl := rt_err q6
    obtain rfl := rt_err q7
    subst e
    exact pv
  exact hs_nil (nx (.ref l) v21 v23 H4 (s3.trans (g4.st.trans g4.sub)) ((((hTg.ext g1.hh).ext g2.hh).ext g3.hh).ext g4.hh))
end
end
end K23
namespace K23
open PySem PySem.Spec PyProof.Rows L2 Z Y LamX NdefX
section
variable {P : Program} {w : World} {K : PySem.W.Frag} {mg : Str → Option Value} {base : Heap} {f : Addr} {fd : FuncData}
/-! ## the law -/
def spLaw (K : PySem.W.Frag) (Pt : Addr) : Sp := fun vs H Q _ => ∃ (a : Addr) (ns : List Int), vs = [.ref a] ∧ SqL K H a (ns.map V.int) ∧ ns.length ≤ 63 ∧ H Pt = some (.tbl #[]) ∧ ∀ H', Q (.bl true) H'
def OSt (vs vb : V) (σ : L2.St) : Prop := ∃ a2 a3 a4 a5 a6 a7 a8 a9 a10 a11 a12 a13 a14 a15 a16 a17 a18 a19 a20 a21 a22, σ = [some vs, some vb, a2, a3, a4, a5, a6, a7, a8, a9, a10, a11, a12, a13, a14, a15, a16, a17, a18, a19, a20, a21, a22]
theorem crs_fst {z : Str} {ps : Rules} {l : List (List Grp × List Grp)} : ∀ r ∈ l.map (crOf z ps), r.1 = (z, ps) := fun r hr => by
  obtain ⟨p, _, rfl⟩ := List.mem_map.mp hr
  rfl
theorem ok_law {CV CC CS CP CI CZ : Addr} {tup : List Value} {c Pt : Addr} (F : FnT K "law" slaw f fd) (hcode : fd.code = .ref c) (L : LE P w K mg base CV CC CS CP CI CZ tup c Pt) : FnOk P w K mg base CX0 13 f fd ["_law_script"] (spLaw K Pt) := by
  refine fn_hsC F sc_law hcode (fun vs H Q E h => by obtain ⟨a, ns, rfl, _⟩ := h; rfl) (fun A outer sh H vs Q E hr h => ?_)
  obtain ⟨a, ns, rfl, hS, hl, hP, q⟩ := h
  obtain ⟨fo, fdo, pso, G, hm, hk, hb⟩ := L.openD.ex
  refine hs_cons (ps_set (i := 1) sc_law.nd rfl (by first | exact Or.inl rfl | exact Or.inr rfl) (pe_call G (hr.mono (by decide)) rfl hm hk hb .nil pass0 (pa_cons (pv 0) pa_nil)) rfl (by first | exact .inl rfl | exact .inr rfl)) ?_
  refine ⟨_, rfl, ?_⟩
  refine ⟨a, ns, rfl, hS, hl, fun vb H1 sm hbx => ?_⟩
  have hT : TabsN (TabQ Pt lamQ) H1 := fun p hp => by rw [List.mem_singleton.mp hp]; exact TabN.nil (sm _ _ hP)
  refine hs_forR (S := H1) (n := 4) (fun i σ H' => BX vb H' ∧ TabsN (TabQ Pt lamQ) H' ∧ OSt (.ref a) vb σ) PassesOwn.never rfl L.frange (by decide) ee_int (Same.refl H1) (fun S' H' g => ⟨Mn.up (g.st.trans g.sub) hbx, hT.ext g.hh, _, _, _, _, _, _, _, _, _, _, _, _, _, _, _, _, _, _, _, _, _, rfl⟩) ?_ ?_
  · rintro i σ1 H2 _ ⟨hb2, hT2, a2, a3, a4, a5, a6, a7, a8, a9, a10, a11, a12, a13, a14, a15, a16, a17, a18, a19, a20, a21, a22, rfl⟩
    refine (eg_name (S := Y.noTab H2) (i := 2) sc_law.nd rfl (by first | exact Or.inl rfl | exact Or.inr rfl)) H2 noTab_sub _ ?_
    have hb2 := bx_noTab hb2
    refine turn_a L hr noTab_sub hb2 fun n z ps p1 p2 xs ys v3 v4 v5 v6 v7 v8 v9 v10 S3 H3 g3 n1 n2 hz ho hpl k1 k4 l4 kp lp q3 q4 q5 q6 q7 q8 q9 q10 => ?_
    have e1 : (p1.map (crOf z ps)).length = p1.length := List.length_map ..
    have e2 : (p2.map (crOf z ps)).length = p2.length := List.length_map ..
    have hb3 : BX vb S3 := Mn.up g3.st hb2
    refine turn_b L hr g3.sub (hT2.ext g3.hh) (by rw [e1]; exact k1) (by rw [e1]; exact k4) (by rw [e2]; exact l4) (w0 := (z, ps)) crs_fst crs_fst q9 q10 fun v11 v12 S4 H4 s4 sub4 hT4 qv => ?_
    have q9b : ClsL K CC CS CP xs (p1.map (crOf z ps)) v9 S4 := Mn.up s4 q9
    have q10b : ClsL K CC CS CP ys (p2.map (crOf z ps)) v10 S4 := Mn.up s4 q10
    refine turn_c L hr sub4 n1 (by omega) hz k4 l4 kp lp (q7.up s4) (q8.up s4) ⟨qv, q9b.1, q10b.1, q9b.2.2, q10b.2.2⟩ fun v13 S5 H5 g5 q13 => ?_
    have s5 := s4.trans g5.st
    refine turn_d L hr g5.sub (hT4.ext g5.hh) n1 (by omega) hz k1 k4 l4 kp lp (Mn.up s5 q9) (Mn.up s5 q10) (Mn.up g5.st qv) q13 fun H6 s6 hT6 => ?_
    refine turn_e L hr s6 (Mn.up s5 hb3) n1 (by omega) hz ho hpl (by rw [e1]; exact k1) (by rw [e1]; exact k4) e1.symm (q3.up s5) (q4.up s5) (q5.up s5) (Mn.up s5 q6) (q7.up s5) (Mn.up s5 q9) fun k v14 v15 v16 v17 v18 v19 S7 H7 hk g7 q14 q15 q16 q17 q18 q19 => ?_
    have s7 := s5.trans g7.st
    refine turn_f L hr (noTab_sub.trans g7.sub) (fun _ _ => noTab_no) (hT6.ext g7.hh) (bx_noTab (Mn.up s7 hb3)) hk (by rw [e1]; exact k4) (by rw [e2]; exact l4) crs_fst crs_fst (cls_noTab (Mn.up s7 q9)) (cls_noTab (Mn.up s7 q10)) (dt_noTab q14) (noti_noTab q15) (clm_noTab q16) (cap_noTab q17) (cap_noTab q18) (bad_noTab q19) fun v20 v21 v22 Hf sf hTf => ?_
    exact ⟨Mn.up sf (bx_noTab (Mn.up s7 hb3)), hTf, _, _, _, _, _, _, _, _, _, _, _, _, _, _, _, _, _, _, _, _, _, rfl⟩
  · rintro σ1 H2 ⟨hb2, hT2, a2, a3, a4, a5, a6, a7, a8, a9, a10, a11, a12, a13, a14, a15, a16, a17, a18, a19, a20, a21, a22, rfl⟩
    exact hs_ret (S := H2) ee_bl (Same.refl H2) fun v S' H' g pv => by
      cases pv
      exact q H'
end
end K23
namespace K23
open PySem PySem.Spec PyProof.Rows L2 Z Y LamX NdefX
section
variable {P : Program} {w : World} {K : PySem.W.Frag} {mg : Str → Option Value} {base : Heap} {f : Addr} {fd : FuncData}
/-! ## the errors of k23 -/
theorem sc_iInvalidClaim : FnScope ["self", "at"] ["self", "at"] (defScope sInvalidClaim____init__) := ⟨rfl, rfl, rfl, by decide +kernel, rfl, by decide +kernel, by decide +kernel⟩
theorem ok_init_InvalidClaim {C : Addr} (F : FunD K "__init__" "InvalidClaim.__init__" (defArgs sInvalidClaim____init__) (defBody sInvalidClaim____init__) (defScope sInvalidClaim____init__) [] [] f fd) (T : OexC K C) (n1 : PySem.W.findIn K (.ref C) "at" = some none) (n2 : PySem.W.findIn K (.ref C) "code" = some none) : FnOk P w K mg base CX0 1 f fd ["self", "at"] (spXI C "at" "InvalidClaim") := by
  refine fn_hs F sc_iInvalidClaim (fun vs H Q E h => ?_) (fun cdv A outer sh H vs Q E hr h => ?_)
  · obtain ⟨a, v, rfl, _⟩ := h
    rfl
  · obtain ⟨a, v, rfl, ha, q⟩ := h
    refine hs_cons (ps_ost (pv 0) (pv 1)) ⟨_, rfl, _, rfl, a, C, rfl, T, n1, .inl ⟨ha, fun dx h1 h2 => ?_⟩⟩
    refine hs_cons (ps_ost (pv 0) pe_str) ⟨_, rfl, a, C, rfl, T, n2, .inr ⟨dx, [("at", v)], upd_same, by rw [upd_ne h2, upd_same], (show 1 ≤ 900 by decide), ?_⟩⟩
    exact hs_nil (q dx h1 h2)
theorem sc_iWrongSchema : FnScope ["self", "at"] ["self", "at"] (defScope sWrongSchema____init__) := ⟨rfl, rfl, rfl, by decide +kernel, rfl, by decide +kernel, by decide +kernel⟩
theorem ok_init_WrongSchema {C : Addr} (F : FunD K "__init__" "WrongSchema.__init__" (defArgs sWrongSchema____init__) (defBody sWrongSchema____init__) (defScope sWrongSchema____init__) [] [] f fd) (T : OexC K C) (n1 : PySem.W.findIn K (.ref C) "at" = some none) (n2 : PySem.W.findIn K (.ref C) "code" = some none) : FnOk P w K mg base CX0 1 f fd ["self", "at"] (spXI C "at" "WrongSchema") := by
  refine fn_hs F sc_iWrongSchema (fun vs H Q E h => ?_) (fun cdv A outer sh H vs Q E hr h => ?_)
  · obtain ⟨a, v, rfl, _⟩ := h
    rfl
  · obtain ⟨a, v, rfl, ha, q⟩ := h
    refine hs_cons (ps_ost (pv 0) (pv 1)) ⟨_, rfl, _, rfl, a, C, rfl, T, n1, .inl ⟨ha, fun dx h1 h2 => ?_⟩⟩
    refine hs_cons (ps_ost (pv 0) pe_str) ⟨_, rfl, a, C, rfl, T, n2, .inr ⟨dx, [("at", v)], upd_same, by rw [upd_ne h2, upd_same], (show 1 ≤ 900 by decide), ?_⟩⟩
    exact hs_nil (q dx h1 h2)
def gK {α : Type} : List α → List α → List α → List α
  | us, _, [a, b] => us ++ [b, a]
  | us, _, ws => us ++ ws
theorem gK_rel {vs ds zs : List V} {us its ws : List Value} (r1 : Vals vs us) (_ : Vals ds its) (r3 : Vals zs ws) : Vals (gK vs ds zs) (gK us its ws) := by
  cases r3 with
  | nil => exact r1.append .nil
  | cons a t =>
    cases t with
    | nil => exact r1.append (.cons a .nil)
    | cons b t =>
      cases t with
      | nil => exact r1.append (.cons b (.cons a .nil))
      | cons c t => exact r1.append (.cons a (.cons b (.cons c t)))
def g132 {α : Type} : List α → List α → List α
  | us, [a, b, c] => us ++ [a, c, b]
  | us, ws => us ++ ws
theorem g132_rel {vs zs : List V} {us ws : List Value} (r1 : Vals vs us) (r3 : Vals zs ws) : Vals (g132 vs zs) (g132 us ws) := by
  cases r3 with
  | nil => exact r1.append .nil
  | cons a t =>
    cases t with
    | nil => exact r1.append (.cons a .nil)
    | cons b t =>
      cases t with
      | nil => exact r1.append (.cons a (.cons b .nil))
      | cons c t =>
        cases t with
        | nil => exact r1.append (.cons a (.cons c (.cons b .nil)))
        | cons d t => exact r1.append (.cons a (.cons b (.cons c (.cons d t))))
theorem kbinds132 {K : PySem.W.Frag} {x qual : Str} {params : Arguments} {body : List Stmt} {scope : Scope} {f : Addr} {fd : FuncData} {ps ks : List Str} (F : FunD K x qual params body scope [] [] f fd)
    (h : ∀ (kV doc pm : Value) (an : Option Addr) (cdv ct : Value) (us ws : List Value), us.length = 1 → ws.length = ks.length → bindArgs (PySem.W.fnOf x qual params body scope .none kV doc pm an cdv ct) ⟨us, ks.zip ws⟩ = pure (ps.zip (g132 us ws))) : KBn K fd ps 1 ks g132 g132 := by
  obtain ⟨oc, od, dV, kV, doc, pm, an, cdv, ct, osl, rfl, lk, hcd, hD, hK⟩ := F.ex
  rcases hD with ⟨_, rfl⟩ | ⟨e, _⟩
  · exact ⟨fun s us ws _ l1 l2 => .of_eq (h kV doc pm an cdv ct us ws l1 l2), fun r1 r2 => g132_rel r1 r2⟩
  · exact absurd rfl e
theorem facts {P : Program} {w : World} {K : PySem.W.Frag} {h : Heap} {mg : Str → Option Value} {f : Addr} (X : K.In h) (G : h.Ns mainGlobals mg) (hfa : mg ("law" : Str) = some (.ref f)) (c0 : SaysG fa fn pn sn tf ex h K) :
    ∃ fd : FuncData, (∀ (s : Shared) (v : Value), BindsTo s fd ⟨[v], []⟩ [("_law_script", v)]) ∧ ∀ base : Heap, K.In base → base.Ns mainGlobals mg → TabB base mg (He.cT K ("law", none)).1 (He.cT K ("law", none)).2 → FnOk P w K mg base CX0 13 f fd ["_law_script"] (spLaw K (He.cT K ("law", none)).2) := by
  have d := c0.d
  have more := c0.more
  unfold ex at more
  rw [Bool.and_eq_true] at more
  obtain ⟨x_dflS, more⟩ := more
  rw [Bool.and_eq_true] at more
  obtain ⟨x_dflP, more⟩ := more
  rw [Bool.and_eq_true] at more
  obtain ⟨x_dflV, more⟩ := more
  rw [Bool.and_eq_true] at more
  obtain ⟨x_alias, more⟩ := more
  rw [Bool.and_eq_true] at more
  obtain ⟨x_Schema_ne, more⟩ := more
  rw [Bool.and_eq_true] at more
  obtain ⟨x_Schema_ob, more⟩ := more
  rw [Bool.and_eq_true] at more
  obtain ⟨x_Schema_cls, more⟩ := more
  rw [Bool.and_eq_true] at more
  obtain ⟨x_Schema_str, more⟩ := more
  rw [Bool.and_eq_true] at more
  obtain ⟨x_Schema_sp, more⟩ := more
  rw [Bool.and_eq_true] at more
  obtain ⟨x_Schema_tk, more⟩ := more
  rw [Bool.and_eq_true] at more
  obtain ⟨x_Schema_kit_list, more⟩ := more
  rw [Bool.and_eq_true] at more
  obtain ⟨x_Schema_sub_list, more⟩ := more
  rw [Bool.and_eq_true] at more
  obtain ⟨x_Schema_rd, more⟩ := more
  rw [Bool.and_eq_true] at more
  obtain ⟨x_Schema_sg, more⟩ := more
  rw [Bool.and_eq_true] at more
  obtain ⟨x_Schema_cv, more⟩ := more
  rw [Bool.and_eq_true] at more
  obtain ⟨x_Product_ob, more⟩ := more
  rw [Bool.and_eq_true] at more
  obtain ⟨x_Product_cls, more⟩ := more
  rw [Bool.and_eq_true] at more
  obtain ⟨x_Product_str, more⟩ := more
  rw [Bool.and_eq_true] at more
  obtain ⟨x_Product_sp, more⟩ := more
  rw [Bool.and_eq_true] at more
  obtain ⟨x_Product_tk, more⟩ := more
  rw [Bool.and_eq_true] at more
  obtain ⟨x_Product_rd, more⟩ := more
  rw [Bool.and_eq_true] at more
  obtain ⟨x_Product_sg, more⟩ := more
  rw [Bool.and_eq_true] at more
  obtain ⟨x_Product_cv, more⟩ := more
  rw [Bool.and_eq_true] at more
  obtain ⟨x_Claim_ob, more⟩ := more
  rw [Bool.and_eq_true] at more
  obtain ⟨x_Claim_cls, more⟩ := more
  rw [Bool.and_eq_true] at more
  obtain ⟨x_Claim_str, more⟩ := more
  rw [Bool.and_eq_true] at more
  obtain ⟨x_Claim_sp, more⟩ := more
  rw [Bool.and_eq_true] at more
  obtain ⟨x_Claim_tk, more⟩ := more
  rw [Bool.and_eq_true] at more
  obtain ⟨x_Verdict_ob, more⟩ := more
  rw [Bool.and_eq_true] at more
  obtain ⟨x_Verdict_cls, more⟩ := more
  rw [Bool.and_eq_true] at more
  obtain ⟨x_Verdict_str, more⟩ := more
  rw [Bool.and_eq_true] at more
  obtain ⟨x_Verdict_sp, more⟩ := more
  rw [Bool.and_eq_true] at more
  obtain ⟨x_Verdict_tk, more⟩ := more
  rw [Bool.and_eq_true] at more
  obtain ⟨x_err_InvalidClaim, more⟩ := more
  rw [Bool.and_eq_true] at more
  obtain ⟨x_exm_InvalidClaim, more⟩ := more
  rw [Bool.and_eq_true] at more
  obtain ⟨x_err_WrongSchema, more⟩ := more
  rw [Bool.and_eq_true] at more
  obtain ⟨x_exm_WrongSchema, more⟩ := more
  rw [Bool.and_eq_true] at more
  obtain ⟨x_kit_NoneType, more⟩ := more
  rw [Bool.and_eq_true] at more
  obtain ⟨x_kit_int, more⟩ := more
  rw [Bool.and_eq_true] at more
  obtain ⟨x_kit_str, more⟩ := more
  rw [Bool.and_eq_true] at more
  obtain ⟨x_kit_list, more⟩ := more
  rw [Bool.and_eq_true] at more
  obtain ⟨x_kit_tuple, more⟩ := more
  rw [Bool.and_eq_true] at more
  obtain ⟨x_kit_Schema, more⟩ := more
  have x_kit_Product := more
  have x_alias := of_decide_eq_true x_alias
  have x_Schema_ne := He.eqO_ok x_Schema_ne
  have x_Schema_ob := of_decide_eq_true x_Schema_ob
  have x_Schema_cls := He.eqO_ok x_Schema_cls
  have x_Schema_str := of_decide_eq_true x_Schema_str
  have x_Schema_sp := He.eqO_ok x_Schema_sp
  have x_Schema_tk := of_decide_eq_true x_Schema_tk
  have x_Schema_kit_list := of_decide_eq_true x_Schema_kit_list
  have x_Schema_sub_list := of_decide_eq_true x_Schema_sub_list
  have x_Schema_sg := He.eqO_ok x_Schema_sg
  have x_Product_ob := of_decide_eq_true x_Product_ob
  have x_Product_cls := He.eqO_ok x_Product_cls
  have x_Product_str := of_decide_eq_true x_Product_str
  have x_Product_sp := He.eqO_ok x_Product_sp
  have x_Product_tk := of_decide_eq_true x_Product_tk
  have x_Product_sg := He.eqO_ok x_Product_sg
  have x_Claim_ob := of_decide_eq_true x_Claim_ob
  have x_Claim_cls := He.eqO_ok x_Claim_cls
  have x_Claim_str := of_decide_eq_true x_Claim_str
  have x_Claim_sp := He.eqO_ok x_Claim_sp
  have x_Claim_tk := of_decide_eq_true x_Claim_tk
  have x_Verdict_ob := of_decide_eq_true x_Verdict_ob
  have x_Verdict_cls := He.eqO_ok x_Verdict_cls
  have x_Verdict_str := of_decide_eq_true x_Verdict_str
  have x_Verdict_sp := He.eqO_ok x_Verdict_sp
  have x_Verdict_tk := of_decide_eq_true x_Verdict_tk
  have x_exm_InvalidClaim := of_decide_eq_true x_exm_InvalidClaim
  have x_exm_WrongSchema := of_decide_eq_true x_exm_WrongSchema
  have x_kit_NoneType := of_decide_eq_true x_kit_NoneType
  have x_kit_int := of_decide_eq_true x_kit_int
  have x_kit_str := of_decide_eq_true x_kit_str
  have x_kit_list := of_decide_eq_true x_kit_list
  have x_kit_tuple := of_decide_eq_true x_kit_tuple
  have x_kit_Schema := of_decide_eq_true x_kit_Schema
  have x_kit_Product := of_decide_eq_true x_kit_Product
  obtain ⟨T_InvalidClaim, X_InvalidClaim, n1_InvalidClaim, n2_InvalidClaim, hI_InvalidClaim, tI_InvalidClaim⟩ := errB_ok x_err_InvalidClaim
  obtain ⟨T_WrongSchema, X_WrongSchema, n1_WrongSchema, n2_WrongSchema, hI_WrongSchema, tI_WrongSchema⟩ := errB_ok x_err_WrongSchema
  have h_isinstance : mg "isinstance" = none := He.free_ok X G (d.fact 37 (f := .free "isinstance") rfl)
  have h_bool : mg "bool" = none := He.free_ok X G (d.fact 38 (f := .free "bool") rfl)
  have h_int : mg "int" = none := He.free_ok X G (d.fact 39 (f := .free "int") rfl)
  have h_str : mg "str" = none := He.free_ok X G (d.fact 40 (f := .free "str") rfl)
  have h_list : mg "list" = none := He.free_ok X G (d.fact 41 (f := .free "list") rfl)
  have h_tuple : mg "tuple" = none := He.free_ok X G (d.fact 42 (f := .free "tuple") rfl)
  have h_len : mg "len" = none := He.free_ok X G (d.fact 43 (f := .free "len") rfl)
  have h_all : mg "all" = none := He.free_ok X G (d.fact 44 (f := .free "all") rfl)
  have h_range : mg "range" = none := He.free_ok X G (d.fact 45 (f := .free "range") rfl)
  have h_set : mg "set" = none := He.free_ok X G (d.fact 46 (f := .free "set") rfl)
  have h_enumerate : mg "enumerate" = none := He.free_ok X G (d.fact 47 (f := .free "enumerate") rfl)
  have h_sorted : mg "sorted" = none := He.free_ok X G (d.fact 48 (f := .free "sorted") rfl)
  have h_dict : mg "dict" = none := He.free_ok X G (d.fact 49 (f := .free "dict") rfl)
  have h_repr : mg "repr" = none := He.free_ok X G (d.fact 50 (f := .free "repr") rfl)
  have h_zip : mg "zip" = none := He.free_ok X G (d.fact 51 (f := .free "zip") rfl)
  have h_MOST_EXPONENT : ∃ t, mg "MOST_EXPONENT" = some (.int 6 t) := He.int_ok X G (d.fact 52 (f := .int "MOST_EXPONENT" 6) rfl)
  have h_MOST_CLAIMS : ∃ t, mg "MOST_CLAIMS" = some (.int 4 t) := He.int_ok X G (d.fact 53 (f := .int "MOST_CLAIMS" 4) rfl)
  have gS : mg "Schema" = some (.ref (He.ga K "Schema")) := He.glo_ok X G (d.fact 7 (f := .glo "Schema") rfl)
  have cS : Cls K (He.ga K "Schema") := He.cls_ok (d.fact 54 (f := .cls "Schema") rfl)
  have mkr_Schema : Mk K (He.ga K "Schema") (He.ma K (He.ga K "Schema") "__init__") := He.mkr_ok (d.fact 55 (f := .mkr "Schema") rfl)
  have n_Schema_columns : NoAttr K (He.ga K "Schema") "columns" := He.noat_ok (d.fact 56 (f := .noat "Schema" "columns") rfl)
  have n_Schema_width : NoAttr K (He.ga K "Schema") "width" := He.noat_ok (d.fact 57 (f := .noat "Schema" "width") rfl)
  have n_Schema__facts : NoAttr K (He.ga K "Schema") "_facts" := He.noat_ok (d.fact 58 (f := .noat "Schema" "_facts") rfl)
  have m_Schema_is_exponent : Meth K (He.ga K "Schema") "is_exponent" (He.ma K (He.ga K "Schema") "is_exponent") := He.meth_ok (d.fact 59 (f := .meth "Schema" "is_exponent") rfl)
  have m_Schema___eq__ : Meth K (He.ga K "Schema") "__eq__" (He.ma K (He.ga K "Schema") "__eq__") := He.meth_ok (d.fact 60 (f := .meth "Schema" "__eq__") rfl)
  obtain ⟨t_Schema, cv_Schema⟩ : ∃ t, ClX.CVal K (He.ga K "Schema") (.type "type") "MOST" (.int 4) (.int 4 t) := by
    split at x_Schema_cv
    · rename_i t heq
      exact ⟨t, ⟨heq, ⟨t, rfl⟩⟩⟩
    · cases x_Schema_cv
  have cr_Schema : ClX.CRead K (He.ga K "Schema") (.type "type") := ⟨x_Schema_rd, x_Schema_sg⟩
  have isiS : IsiC K (He.ga K "Schema") := ⟨x_Schema_cls, x_Schema_str, x_Schema_sp, x_Schema_tk, x_Schema_ob⟩
  have neS : NeC K (He.ga K "Schema") := ⟨x_Schema_ne, x_Schema_ob⟩
  have gP : mg "Product" = some (.ref (He.ga K "Product")) := He.glo_ok X G (d.fact 8 (f := .glo "Product") rfl)
  have cP : Cls K (He.ga K "Product") := He.cls_ok (d.fact 61 (f := .cls "Product") rfl)
  have mkr_Product : Mk K (He.ga K "Product") (He.ma K (He.ga K "Product") "__init__") := He.mkr_ok (d.fact 62 (f := .mkr "Product") rfl)
  have n_Product_width : NoAttr K (He.ga K "Product") "width" := He.noat_ok (d.fact 63 (f := .noat "Product" "width") rfl)
  have n_Product__powers : NoAttr K (He.ga K "Product") "_powers" := He.noat_ok (d.fact 64 (f := .noat "Product" "_powers") rfl)
  have m_Product_factors : Meth K (He.ga K "Product") "factors" (He.ma K (He.ga K "Product") "factors") := He.meth_ok (d.fact 65 (f := .meth "Product" "factors") rfl)
  obtain ⟨t_Product, cv_Product⟩ : ∃ t, ClX.CVal K (He.ga K "Product") (.type "type") "MOST" (.int 12) (.int 12 t) := by
    split at x_Product_cv
    · rename_i t heq
      exact ⟨t, ⟨heq, ⟨t, rfl⟩⟩⟩
    · cases x_Product_cv
  have cr_Product : ClX.CRead K (He.ga K "Product") (.type "type") := ⟨x_Product_rd, x_Product_sg⟩
  have isiP : IsiC K (He.ga K "Product") := ⟨x_Product_cls, x_Product_str, x_Product_sp, x_Product_tk, x_Product_ob⟩
  have gC : mg "Claim" = some (.ref (He.ga K "Claim")) := He.glo_ok X G (d.fact 9 (f := .glo "Claim") rfl)
  have cC : Cls K (He.ga K "Claim") := He.cls_ok (d.fact 66 (f := .cls "Claim") rfl)
  have mkr_Claim : Mk K (He.ga K "Claim") (He.ma K (He.ga K "Claim") "__init__") := He.mkr_ok (d.fact 67 (f := .mkr "Claim") rfl)
  have n_Claim_schema : NoAttr K (He.ga K "Claim") "schema" := He.noat_ok (d.fact 68 (f := .noat "Claim" "schema") rfl)
  have n_Claim_low : NoAttr K (He.ga K "Claim") "low" := He.noat_ok (d.fact 69 (f := .noat "Claim" "low") rfl)
  have n_Claim_high : NoAttr K (He.ga K "Claim") "high" := He.noat_ok (d.fact 70 (f := .noat "Claim" "high") rfl)
  have isiC : IsiC K (He.ga K "Claim") := ⟨x_Claim_cls, x_Claim_str, x_Claim_sp, x_Claim_tk, x_Claim_ob⟩
  have gV : mg "Verdict" = some (.ref (He.ga K "Verdict")) := He.glo_ok X G (d.fact 10 (f := .glo "Verdict") rfl)
  have cV : Cls K (He.ga K "Verdict") := He.cls_ok (d.fact 71 (f := .cls "Verdict") rfl)
  have mkr_Verdict : Mk K (He.ga K "Verdict") (He.ma K (He.ga K "Verdict") "__init__") := He.mkr_ok (d.fact 72 (f := .mkr "Verdict") rfl)
  have n_Verdict__claims : NoAttr K (He.ga K "Verdict") "_claims" := He.noat_ok (d.fact 73 (f := .noat "Verdict" "_claims") rfl)
  have n_Verdict__premises : NoAttr K (He.ga K "Verdict") "_premises" := He.noat_ok (d.fact 74 (f := .noat "Verdict" "_premises") rfl)
  have m_Verdict_claims : Meth K (He.ga K "Verdict") "claims" (He.ma K (He.ga K "Verdict") "claims") := He.meth_ok (d.fact 75 (f := .meth "Verdict" "claims") rfl)
  have m_Verdict_premises : Meth K (He.ga K "Verdict") "premises" (He.ma K (He.ga K "Verdict") "premises") := He.meth_ok (d.fact 76 (f := .meth "Verdict" "premises") rfl)
  have m_Verdict_small_sums : Meth K (He.ga K "Verdict") "small_sums" (He.ma K (He.ga K "Verdict") "small_sums") := He.meth_ok (d.fact 77 (f := .meth "Verdict" "small_sums") rfl)
  have m_Verdict_great_sums : Meth K (He.ga K "Verdict") "great_sums" (He.ma K (He.ga K "Verdict") "great_sums") := He.meth_ok (d.fact 78 (f := .meth "Verdict" "great_sums") rfl)
  have m_Verdict_told : Meth K (He.ga K "Verdict") "told" (He.ma K (He.ga K "Verdict") "told") := He.meth_ok (d.fact 79 (f := .meth "Verdict" "told") rfl)
  have m_Verdict_holds : Meth K (He.ga K "Verdict") "holds" (He.ma K (He.ga K "Verdict") "holds") := He.meth_ok (d.fact 80 (f := .meth "Verdict" "holds") rfl)
  have m_Verdict___bool__ : Meth K (He.ga K "Verdict") "__bool__" (He.ma K (He.ga K "Verdict") "__bool__") := He.meth_ok (d.fact 81 (f := .meth "Verdict" "__bool__") rfl)
  have m_Verdict___repr__ : Meth K (He.ga K "Verdict") "__repr__" (He.ma K (He.ga K "Verdict") "__repr__") := He.meth_ok (d.fact 82 (f := .meth "Verdict" "__repr__") rfl)
  obtain ⟨fd_law, F_law⟩ := d.def_ 43 (d := dlaw) rfl
  have e := hfa.symm.trans (He.glo_ok X G (d.fact 31 (f := .glo "law") rfl))
  cases e
  have b := FunD.bindsA (ps := ["_law_script"]) F_law fun _ _ _ _ _ _ us hl => match us, hl with | [_], _ => rfl
  have hcode : fd_law.code = .ref (He.cT K ("law", none)).1 := by
    obtain ⟨oc, od, dV, kV, doc, pm, an, cdv, ct, osl, e, lk, hcd, _, _⟩ := F_law.ex
    obtain ⟨cc, hc⟩ := He.codeIn_ref hcd
    have e2 : fd_law.code = .ref cc := by rw [e]; exact hc
    rw [e2]
    exact congrArg Value.ref (He.codeOf_eq (p := ("law", none)) lk e2).symm
  refine ⟨fd_law, fun s v => b s [v] rfl, fun base _ _ TB => ?_⟩
  obtain ⟨fd_iInvalidClaim, F_iInvalidClaim⟩ := d.def_ 0 (d := dInvalidClaim____init__) rfl
  have R_InvalidClaim : Err P w K mg base "InvalidClaim" (He.ga K "InvalidClaim") "at" "InvalidClaim" := ⟨T_InvalidClaim, He.glo_ok X G (d.fact 35 (f := .glo "InvalidClaim") rfl), _, fd_iInvalidClaim, ["self", "at"], hI_InvalidClaim, tI_InvalidClaim, ok_init_InvalidClaim F_iInvalidClaim T_InvalidClaim n1_InvalidClaim n2_InvalidClaim, F_iInvalidClaim.bindsN (fun _ _ _ _ _ _ us hl => match us, hl with | [_, _], _ => rfl)⟩
  have ok_InvalidClaim : KOk K [.ref (He.ga K "DealError"), .ref (He.ga K "Missing"), .ref (He.ga K "NothingLeft")] (kICl (He.ga K "InvalidClaim")) := ⟨X_InvalidClaim, n2_InvalidClaim, fun y hy => (by cases hy; exact n1_InvalidClaim), x_exm_InvalidClaim, (show some ("at" : Str) = fieldOf "InvalidClaim" by decide +kernel), (show decide (("InvalidClaim" : Str) = "Tight") = false by decide +kernel), (show decide (("InvalidClaim" : Str) = "BrokenClaim") = false by decide +kernel)⟩
  obtain ⟨fd_iWrongSchema, F_iWrongSchema⟩ := d.def_ 1 (d := dWrongSchema____init__) rfl
  have R_WrongSchema : Err P w K mg base "WrongSchema" (He.ga K "WrongSchema") "at" "WrongSchema" := ⟨T_WrongSchema, He.glo_ok X G (d.fact 36 (f := .glo "WrongSchema") rfl), _, fd_iWrongSchema, ["self", "at"], hI_WrongSchema, tI_WrongSchema, ok_init_WrongSchema F_iWrongSchema T_WrongSchema n1_WrongSchema n2_WrongSchema, F_iWrongSchema.bindsN (fun _ _ _ _ _ _ us hl => match us, hl with | [_, _], _ => rfl)⟩
  have ok_WrongSchema : KOk K [.ref (He.ga K "DealError"), .ref (He.ga K "Missing"), .ref (He.ga K "NothingLeft")] (kWS (He.ga K "WrongSchema")) := ⟨X_WrongSchema, n2_WrongSchema, fun y hy => (by cases hy; exact n1_WrongSchema), x_exm_WrongSchema, (show some ("at" : Str) = fieldOf "WrongSchema" by decide +kernel), (show decide (("WrongSchema" : Str) = "Tight") = false by decide +kernel), (show decide (("WrongSchema" : Str) = "BrokenClaim") = false by decide +kernel)⟩
  obtain ⟨fd_is_number, F_is_number⟩ := d.def_ 2 (d := dis_number) rfl
  have D_is_number : KD P w K mg base "is_number" 1 (spD K FisNumber) := kd_mk F_is_number (ok_is_number F_is_number h_isinstance h_int h_bool) (He.glo_ok X G (d.fact 0 (f := .glo "is_number") rfl)) (F_is_number.bindsN (fun _ _ _ _ _ _ us hl => match us, hl with | [_, _], _ => rfl))
  obtain ⟨fd_is_exponent, F_is_exponent⟩ := d.def_ 4 (d := dis_exponent) rfl
  have OKX : FnOk P w K mg base CX0 2 _ fd_is_exponent ["value", "width"] (spD K FisExp) := ok_is_exponent F_is_exponent D_is_number h_isinstance h_tuple h_len h_all h_MOST_EXPONENT
  have D_ies : KD P w K mg base "is_exponent_schemas" 2 (spD K FisExp) := ⟨_, _, _, OKX, (He.glo_ok X G (d.fact 3 (f := .glo "is_exponent_schemas") rfl)).trans (by rw [x_alias]; rfl), F_is_exponent.kp, F_is_exponent.bindsN (fun _ _ _ _ _ _ us hl => match us, hl with | [_, _], _ => rfl)⟩
  have D_is_exponent : KD P w K mg base ("is_exponent") 2 (spD K FisExp) := ⟨_, _, _, OKX, He.glo_ok X G (d.fact 2 (f := .glo "is_exponent") rfl), F_is_exponent.kp, F_is_exponent.bindsN (fun _ _ _ _ _ _ us hl => match us, hl with | [_, _], _ => rfl)⟩
  obtain ⟨fd_check_columns, F_check_columns⟩ := d.def_ 3 (d := dcheck_columns) rfl
  have D_check_columns : KD P w K mg base "check_columns" 1 (spD K FchkC) := kd_mk F_check_columns (ok_check_columns F_check_columns h_isinstance h_str h_len h_set) (He.glo_ok X G (d.fact 1 (f := .glo "check_columns") rfl)) (F_check_columns.bindsN (fun _ _ _ _ _ _ us hl => match us, hl with | [_], _ => rfl))
  obtain ⟨fd_check_width, F_check_width⟩ := d.def_ 8 (d := dcheck_width) rfl
  have D_check_width : KD P w K mg base "check_width" 2 (spD K FchkW) := kd_mk F_check_width (ok_chkW F_check_width D_is_number) (He.glo_ok X G (d.fact 4 (f := .glo "check_width") rfl)) (F_check_width.bindsN (fun _ _ _ _ _ _ us hl => match us, hl with | [_], _ => rfl))
  obtain ⟨fd_L_open, F_L_open⟩ := d.def_ 23 (d := dL_open) rfl
  have D_L_open : KD P w K mg base "_law_open" 1 (spOpen K) := kd_mk F_L_open (ok_L_open F_L_open h_list h_len) (He.glo_ok X G (d.fact 11 (f := .glo "_law_open") rfl)) (F_L_open.bindsN (fun _ _ _ _ _ _ us hl => match us, hl with | [_], _ => rfl))
  obtain ⟨fd_L_take, F_L_take⟩ := d.def_ 24 (d := dL_take) rfl
  have D_L_take : KD P w K mg base "_law_take" 1 (spB K Ftake) := kd_mk F_L_take (ok_L_take F_L_take h_len h_int) (He.glo_ok X G (d.fact 12 (f := .glo "_law_take") rfl)) (F_L_take.bindsN (fun _ _ _ _ _ _ us hl => match us, hl with | [_, _], _ => rfl))
  obtain ⟨fd_L_one, F_L_one⟩ := d.def_ 25 (d := dL_one) rfl
  have D_L_one : KD P w K mg base "_law_one" 2 (spB K Fone) := kd_mk F_L_one (ok_L_one F_L_one D_L_take h_len) (He.glo_ok X G (d.fact 13 (f := .glo "_law_one") rfl)) (F_L_one.bindsN (fun _ _ _ _ _ _ us hl => match us, hl with | [_, _], _ => rfl))
  obtain ⟨fd_L_kind, F_L_kind⟩ := d.def_ 26 (d := dL_kind) rfl
  have D_L_kind : KD P w K mg base "_law_kind" 1 (spD K Fkind) := kd_mk F_L_kind (ok_L_kind F_L_kind h_isinstance h_bool h_int h_str h_list h_tuple) (He.glo_ok X G (d.fact 14 (f := .glo "_law_kind") rfl)) (F_L_kind.bindsN (fun _ _ _ _ _ _ us hl => match us, hl with | [_], _ => rfl))
  obtain ⟨fd_L_same, F_L_same⟩ := d.def_ 27 (d := dL_same) rfl
  have b_same := F_L_same.bindsN (ps := ["_law_found", "_law_due"]) (fun _ _ _ _ _ _ us hl => match us, hl with | [_, _], _ => rfl)
  have g_same := He.glo_ok X G (d.fact 15 (f := .glo "_law_same") rfl)
  have D_L_same : ∀ n, KD P w K mg base "_law_same" (n + 2) (spD K (Fsame n)) := fun n => kd_mk F_L_same (ok_L_same F_L_same g_same b_same D_L_kind h_len h_all h_zip n) g_same b_same
  obtain ⟨fd_L_field, F_L_field⟩ := d.def_ 28 (d := dL_field) rfl
  have FP : ∃ f fd, FnP P w K mg base 1 f fd ["_law_e"] (spFieldG K [.ref (He.ga K "DealError"), .ref (He.ga K "Missing"), .ref (He.ga K "NothingLeft")]) ∧ mg "_law_field" = some (.ref f) ∧ PySem.W.keepIn K (.ref f) = true ∧ Binds K fd ["_law_e"] [] := ⟨_, _, ok_law_fieldG F_L_field, He.glo_ok X G (d.fact 16 (f := .glo "_law_field") rfl), F_L_field.kp, F_L_field.bindsN (fun _ _ _ _ _ _ us hl => match us, hl with | [_], _ => rfl)⟩
  obtain ⟨fd_L_try, F_L_try⟩ := d.def_ 29 (d := dL_try) rfl
  have D_L_try : KD P w K mg base "_law_try" 9 (spTry P w K mg base [.ref (He.ga K "DealError"), .ref (He.ga K "Missing"), .ref (He.ga K "NothingLeft")] 8) := kd_mk F_L_try (ok_law_try (k := 8) F_L_try FP (He.glo_ok X G (d.fact 32 (f := .glo "DealError") rfl)) (He.glo_ok X G (d.fact 33 (f := .glo "Missing") rfl)) (He.glo_ok X G (d.fact 34 (f := .glo "NothingLeft") rfl)) (by decide)) (He.glo_ok X G (d.fact 17 (f := .glo "_law_try") rfl)) (F_L_try.bindsN (fun _ _ _ _ _ _ us hl => match us, hl with | [_], _ => rfl))
  obtain ⟨fd_L_tries, F_L_tries⟩ := d.def_ 30 (d := dL_tries) rfl
  have D_L_tries : KD P w K mg base "_law_tries" 11 (spTries P w K mg base [.ref (He.ga K "DealError"), .ref (He.ga K "Missing"), .ref (He.ga K "NothingLeft")] 8) := kd_mk F_L_tries (ok_law_tries F_L_tries D_L_try) (He.glo_ok X G (d.fact 18 (f := .glo "_law_tries") rfl)) (F_L_tries.bindsN (fun _ _ _ _ _ _ us hl => match us, hl with | [_], _ => rfl))
  obtain ⟨fd_L_letters, F_L_letters⟩ := d.def_ 31 (d := dL_letters) rfl
  have D_L_letters : KD P w K mg base "_law_letters" 3 (spB K Fletters) := kd_mk F_L_letters (ok_L_letters F_L_letters D_L_take D_L_one h_range h_int) (He.glo_ok X G (d.fact 19 (f := .glo "_law_letters") rfl)) (F_L_letters.bindsN (fun _ _ _ _ _ _ us hl => match us, hl with | [_, _], _ => rfl))
  obtain ⟨fd_L_exp, F_L_exp⟩ := d.def_ 32 (d := dL_exp) rfl
  have D_L_exp : KD P w K mg base "_law_exp" 2 (spB K Fexp) := kd_mk F_L_exp (ok_L_exp F_L_exp D_L_take h_tuple h_range) (He.glo_ok X G (d.fact 20 (f := .glo "_law_exp") rfl)) (F_L_exp.bindsN (fun _ _ _ _ _ _ us hl => match us, hl with | [_, _, _], _ => rfl))
  obtain ⟨fd_L_exps, F_L_exps⟩ := d.def_ 33 (d := dL_exps) rfl
  have D_L_exps : KD P w K mg base "_law_exps" 3 (spB K Fexps) := kd_mk F_L_exps (ok_L_exps F_L_exps D_L_exp h_range) (He.glo_ok X G (d.fact 21 (f := .glo "_law_exps") rfl)) (F_L_exps.bindsN (fun _ _ _ _ _ _ us hl => match us, hl with | [_, _, _, _], _ => rfl))
  obtain ⟨fd_L_some_facts, F_L_some_facts⟩ := d.def_ 34 (d := dL_some_facts) rfl
  have D_L_some_facts : KD P w K mg base "_law_some_facts" 3 (spB K Fsome) := kd_mk F_L_some_facts (ok_L_some_facts F_L_some_facts D_L_take D_L_exp h_range) (He.glo_ok X G (d.fact 22 (f := .glo "_law_some_facts") rfl)) (F_L_some_facts.bindsN (fun _ _ _ _ _ _ us hl => match us, hl with | [_, _, _, _], _ => rfl))
  obtain ⟨fd_L_parts, F_L_parts⟩ := d.def_ 35 (d := dL_parts) rfl
  have D_L_parts : KD P w K mg base "_law_parts" 4 (spB K (Fparts false)) := kd_mk F_L_parts (ok_L_parts F_L_parts D_L_take D_L_exps h_sorted) (He.glo_ok X G (d.fact 23 (f := .glo "_law_parts") rfl)) (F_L_parts.bindsN (fun _ _ _ _ _ _ us hl => match us, hl with | [_, _, _, _, _], _ => rfl))
  obtain ⟨fd_L_some_parts, F_L_some_parts⟩ := d.def_ 36 (d := dL_some_parts) rfl
  have D_L_some_parts : KD P w K mg base "_law_some_parts" 5 (spB K (Fparts true)) := kd_mk F_L_some_parts (ok_L_sparts F_L_some_parts D_L_take D_L_parts) (He.glo_ok X G (d.fact 24 (f := .glo "_law_some_parts") rfl)) (F_L_some_parts.bindsN (fun _ _ _ _ _ _ us hl => match us, hl with | [_, _, _, _, _], _ => rfl))
  obtain ⟨fd_S_isx, F_S_isx⟩ := d.def_ 6 (d := dSchema__is_exponent) rfl
  have D_S_isx : KM P w K mg base (He.ga K "Schema") "is_exponent" 3 (spO K (Fsch_isExp (He.ga K "Schema"))) := ⟨_, _, _, ok_Sis_exponent F_S_isx D_ies cS n_Schema_width, m_Schema_is_exponent.at_, m_Schema_is_exponent.fn, m_Schema_is_exponent.kp, F_S_isx.bindsN (fun _ _ _ _ _ _ us hl => match us, hl with | [_, _], _ => rfl)⟩
  obtain ⟨fd_S_eq, F_S_eq⟩ := d.def_ 7 (d := dSchema____eq__) rfl
  have D_S_eq : KM P w K mg base (He.ga K "Schema") "__eq__" 1 (spEqS K (He.ga K "Schema")) := ⟨_, _, _, ok_Seq F_S_eq h_isinstance gS cS isiS n_Schema_columns n_Schema__facts, m_Schema___eq__.at_, m_Schema___eq__.fn, m_Schema___eq__.kp, F_S_eq.bindsN (fun _ _ _ _ _ _ us hl => match us, hl with | [_, _], _ => rfl)⟩
  obtain ⟨fd_Sinit, F_Sinit⟩ := d.def_ 5 (d := dSchema____init__) rfl
  have F_Sinit : FunD K "__init__" "Schema.__init__" (defArgs sSchema____init__) (defBody sSchema____init__) (defScope sSchema____init__) [.ref (He.dflAt ("Schema", some "__init__") 0 K)] [] (He.ma K (He.ga K "Schema") "__init__") fd_Sinit := F_Sinit
  have hdvS : ∀ S, Dt K (.tuple []) (.ref (He.dflAt ("Schema", some "__init__") 0 K)) S := fun S => by
    split at x_dflS
    · rename_i o1 its n sl heq
      have he : its = #[] := by simpa using x_dflS
      subst he
      exact Dt.tup_mk (.inr ⟨rfl, .inr ⟨_, #[], n, heq, rfl, rfl, Nat.zero_le _, .nil⟩⟩) .nil (Nat.zero_le _)
    · cases x_dflS
  have G_Sinit := ok_Sinit (P := P) (w := w) (mg := mg) (base := base) F_Sinit D_check_columns D_S_isx cS n_Schema_columns n_Schema_width n_Schema__facts gS cr_Schema cv_Schema h_len h_isinstance h_list h_tuple h_enumerate
  obtain ⟨u3, hu3, b3⟩ := F_Sinit.binds1 (ps := ["self", "columns", "facts"]) 3 1 (fun z => nomatch z) rfl (fun T kV doc pm an cdv ct us its l1 l2 => match us, l1, its, l2 with | [_, _, _], _, [_], _ => ⟨_, rfl, rfl⟩)
  obtain ⟨u2, hu2, b2⟩ := F_Sinit.binds1 (ps := ["self", "columns", "facts"]) 2 0 (fun z => nomatch z) rfl (fun T kV doc pm an cdv ct us its l1 l2 => match us, l1, its, l2 with | [_, _], _, [_], _ => ⟨_, rfl, rfl⟩)
  obtain ⟨its, kb⟩ := F_Sinit.kbindsD (ps := ["self", "columns", "facts"]) 1 ["facts", "columns"] gK (fun z => nomatch z) gK_rel (fun T kV doc pm an cdv ct us its ws l1 l2 l3 => match us, l1, its, l2, ws, l3 with | [_], _, [_], _, [_, _], _ => ⟨_, rfl, rfl⟩)
  cases hu3
  have MS : MkS P w K mg base (He.ga K "Schema") := ⟨_, fd_Sinit, ["self", "columns", "facts"], _, mkr_Schema, G_Sinit, b3, ⟨u2, hu2, b2⟩, hdvS, _, _, kb, fun s v w => rfl⟩
  obtain ⟨fd_Pinit, F_Pinit⟩ := d.def_ 9 (d := dProduct____init__) rfl
  have F_Pinit : FunD K "__init__" "Product.__init__" (defArgs sProduct____init__) (defBody sProduct____init__) (defScope sProduct____init__) [.ref (He.dflAt ("Product", some "__init__") 0 K)] [] (He.ma K (He.ga K "Product") "__init__") fd_Pinit := F_Pinit
  have hdvP : ∀ S, Dt K (.tuple []) (.ref (He.dflAt ("Product", some "__init__") 0 K)) S := fun S => by
    split at x_dflP
    · rename_i o1 its n sl heq
      have he : its = #[] := by simpa using x_dflP
      subst he
      exact Dt.tup_mk (.inr ⟨rfl, .inr ⟨_, #[], n, heq, rfl, rfl, Nat.zero_le _, .nil⟩⟩) .nil (Nat.zero_le _)
    · cases x_dflP
  have G_Pinit := ok_Pinit (P := P) (w := w) (mg := mg) (base := base) F_Pinit D_check_width D_is_number D_ies cP n_Product_width n_Product__powers gP cr_Product cv_Product h_len h_isinstance h_list h_tuple h_enumerate h_sorted
  obtain ⟨uP3, huP3, bP3⟩ := F_Pinit.binds1 (ps := ["self", "width", "factors"]) 3 1 (fun z => nomatch z) rfl (fun T kV doc pm an cdv ct us its l1 l2 => match us, l1, its, l2 with | [_, _, _], _, [_], _ => ⟨_, rfl, rfl⟩)
  obtain ⟨uP2, huP2, bP2⟩ := F_Pinit.binds1 (ps := ["self", "width", "factors"]) 2 0 (fun z => nomatch z) rfl (fun T kV doc pm an cdv ct us its l1 l2 => match us, l1, its, l2 with | [_, _], _, [_], _ => ⟨_, rfl, rfl⟩)
  obtain ⟨itsP, kbP⟩ := F_Pinit.kbindsD (ps := ["self", "width", "factors"]) 1 ["factors", "width"] gK (fun z => nomatch z) gK_rel (fun T kV doc pm an cdv ct us its ws l1 l2 l3 => match us, l1, its, l2, ws, l3 with | [_], _, [_], _, [_, _], _ => ⟨_, rfl, rfl⟩)
  cases huP3
  have MP : MkP P w K mg base (He.ga K "Product") := ⟨_, fd_Pinit, ["self", "width", "factors"], _, mkr_Product, G_Pinit, bP3, ⟨uP2, huP2, bP2⟩, hdvP, _, _, kbP, fun s v w => rfl⟩
  obtain ⟨fd_Cinit, F_Cinit⟩ := d.def_ 11 (d := dClaim____init__) rfl
  have F_Cinit : FunD K "__init__" "Claim.__init__" (defArgs sClaim____init__) (defBody sClaim____init__) (defScope sClaim____init__) [] [] (He.ma K (He.ga K "Claim") "__init__") fd_Cinit := F_Cinit
  have bC := F_Cinit.bindsN (ps := ["self", "schema", "low", "high"]) (fun _ _ _ _ _ _ us hl => match us, hl with | [_, _, _, _], _ => rfl)
  have MC : MkC P w K mg base (He.ga K "Claim") (He.ga K "Schema") (He.ga K "Product") := ⟨_, fd_Cinit, ["self", "schema", "low", "high"], mkr_Claim, ok_Cinit F_Cinit cC cP cS n_Schema_width n_Product_width n_Claim_schema n_Claim_low n_Claim_high, bC, _, _, kbinds132 F_Cinit fun _ _ _ _ _ _ us ws l1 l2 => match us, l1, ws, l2 with | [_], _, [_, _, _], _ => rfl, fun s u v w => rfl⟩
  obtain ⟨fd_P_fac, F_P_fac⟩ := d.def_ 10 (d := dProduct__factors) rfl
  have D_P_fac : KM P w K mg base (He.ga K "Product") "factors" 1 (spPfa K (He.ga K "Product")) := ⟨_, _, _, ok_Pfactors F_P_fac h_list cP n_Product__powers, m_Product_factors.at_, m_Product_factors.fn, m_Product_factors.kp, F_P_fac.bindsN (fun _ _ _ _ _ _ us hl => match us, hl with | [_], _ => rfl)⟩
  obtain ⟨fd_check_claims, F_check_claims⟩ := d.def_ 12 (d := dcheck_claims) rfl
  have OKK := ok_check_claims (P := P) (w := w) (mg := mg) (base := base) (CP := (He.ga K "Product")) (kI := (kICl (He.ga K "InvalidClaim"))) (kW := (kWS (He.ga K "WrongSchema"))) F_check_claims R_InvalidClaim rfl R_WrongSchema rfl D_S_eq neS h_isinstance h_list h_tuple h_len h_enumerate h_MOST_CLAIMS gC cC isiC n_Claim_schema
  have b_chk := F_check_claims.bindsN (ps := ["claims", "least", "first"]) (fun _ _ _ _ _ _ us hl => match us, hl with | [_, _, _], _ => rfl)
  have X_chk : KDX P w K mg base "check_claims" 3 (spChk K (He.ga K "Claim") (He.ga K "Schema") (He.ga K "Product") (kICl (He.ga K "InvalidClaim")) (kWS (He.ga K "WrongSchema"))) := ⟨_, _, _, OKK, He.glo_ok X G (d.fact 5 (f := .glo "check_claims") rfl), F_check_claims.kp, b_chk⟩
  have D_chk : KD P w K mg base "check_claims" 3 (spChkC K (He.ga K "Claim") (He.ga K "Schema") (He.ga K "Product")) := ⟨_, _, _, fnok_calm OKK spChkC_of, He.glo_ok X G (d.fact 5 (f := .glo "check_claims") rfl), F_check_claims.kp, b_chk⟩
  obtain ⟨fd_Vinit, F_Vinit⟩ := d.def_ 14 (d := dVerdict____init__) rfl
  have F_Vinit : FunD K "__init__" "Verdict.__init__" (defArgs sVerdict____init__) (defBody sVerdict____init__) (defScope sVerdict____init__) [.ref (He.dflAt ("Verdict", some "__init__") 0 K)] [] (He.ma K (He.ga K "Verdict") "__init__") fd_Vinit := F_Vinit
  obtain ⟨w3, hw3, d3⟩ := F_Vinit.binds1 (ps := ["self", "claims", "premises"]) 3 1 (fun z => nomatch z) rfl (fun T kV doc pm an cdv ct us its l1 l2 => match us, l1, its, l2 with | [_, _, _], _, [_], _ => ⟨_, rfl, rfl⟩)
  obtain ⟨w2, hw2, d2⟩ := F_Vinit.binds1 (ps := ["self", "claims", "premises"]) 2 0 (fun z => nomatch z) rfl (fun T kV doc pm an cdv ct us its l1 l2 => match us, l1, its, l2 with | [_, _], _, [_], _ => ⟨_, rfl, rfl⟩)
  obtain ⟨itsV, kbV⟩ := F_Vinit.kbindsD (ps := ["self", "claims", "premises"]) 1 ["premises", "claims"] gK (fun z => nomatch z) gK_rel (fun T kV doc pm an cdv ct us its ws l1 l2 l3 => match us, l1, its, l2, ws, l3 with | [_], _, [_], _, [_, _], _ => ⟨_, rfl, rfl⟩)
  cases hw3
  have hx2 : ∃ dv dV, Binds K fd_Vinit ["self", "claims", "premises"] [dv] ∧ Vals [dV] [dv] := by
    cases hw2 with
    | cons r t =>
      cases t
      exact ⟨_, _, d2, .cons r .nil⟩
  have MV : MkV P w K mg base (He.ga K "Verdict") (He.ga K "Claim") (He.ga K "Schema") (He.ga K "Product") := ⟨_, fd_Vinit, ["self", "claims", "premises"], mkr_Verdict, ok_Vinit F_Vinit D_chk h_list cV n_Verdict__claims n_Verdict__premises, d3, _, _, kbV, fun s v w => rfl⟩
  have MVX : MkVX P w K mg base (He.ga K "Verdict") (He.ga K "Claim") (He.ga K "Schema") (He.ga K "Product") (kICl (He.ga K "InvalidClaim")) (kWS (He.ga K "WrongSchema")) := ⟨_, fd_Vinit, ["self", "claims", "premises"], mkr_Verdict, ok_VinitX F_Vinit X_chk, d3, hx2⟩
  obtain ⟨fd_sums_of, F_sums_of⟩ := d.def_ 13 (d := dsums_of) rfl
  have D_sums_of : KD P w K mg base "sums_of" 2 (spSums K (He.ga K "Product")) := kd_mk F_sums_of (ok_sums F_sums_of D_P_fac h_sorted cP) (He.glo_ok X G (d.fact 6 (f := .glo "sums_of") rfl)) (F_sums_of.bindsN (fun _ _ _ _ _ _ us hl => match us, hl with | [_, _], _ => rfl))
  obtain ⟨fd_V_cl, F_V_cl⟩ := d.def_ 15 (d := dVerdict__claims) rfl
  have D_V_cl : KM P w K mg base (He.ga K "Verdict") "claims" 1 (spVl (He.ga K "Verdict") false) := ⟨_, _, _, ok_Vcl F_V_cl h_list cV n_Verdict__claims, m_Verdict_claims.at_, m_Verdict_claims.fn, m_Verdict_claims.kp, F_V_cl.bindsN (fun _ _ _ _ _ _ us hl => match us, hl with | [_], _ => rfl)⟩
  obtain ⟨fd_V_pr, F_V_pr⟩ := d.def_ 16 (d := dVerdict__premises) rfl
  have D_V_pr : KM P w K mg base (He.ga K "Verdict") "premises" 1 (spVl (He.ga K "Verdict") true) := ⟨_, _, _, ok_Vpr F_V_pr h_list cV n_Verdict__premises, m_Verdict_premises.at_, m_Verdict_premises.fn, m_Verdict_premises.kp, F_V_pr.bindsN (fun _ _ _ _ _ _ us hl => match us, hl with | [_], _ => rfl)⟩
  obtain ⟨fd_V_sm, F_V_sm⟩ := d.def_ 17 (d := dVerdict__small_sums) rfl
  have D_V_sm : KM P w K mg base (He.ga K "Verdict") "small_sums" 3 (spVs K (He.ga K "Verdict") (He.ga K "Claim") (He.ga K "Schema") (He.ga K "Product") false) := ⟨_, _, _, ok_Vsm F_V_sm D_sums_of cV cC n_Verdict__claims n_Verdict__premises n_Claim_low n_Claim_high, m_Verdict_small_sums.at_, m_Verdict_small_sums.fn, m_Verdict_small_sums.kp, F_V_sm.bindsN (fun _ _ _ _ _ _ us hl => match us, hl with | [_], _ => rfl)⟩
  obtain ⟨fd_V_gr, F_V_gr⟩ := d.def_ 18 (d := dVerdict__great_sums) rfl
  have D_V_gr : KM P w K mg base (He.ga K "Verdict") "great_sums" 3 (spVs K (He.ga K "Verdict") (He.ga K "Claim") (He.ga K "Schema") (He.ga K "Product") true) := ⟨_, _, _, ok_Vgr F_V_gr D_sums_of cV cC n_Verdict__claims n_Verdict__premises n_Claim_low n_Claim_high, m_Verdict_great_sums.at_, m_Verdict_great_sums.fn, m_Verdict_great_sums.kp, F_V_gr.bindsN (fun _ _ _ _ _ _ us hl => match us, hl with | [_], _ => rfl)⟩
  obtain ⟨fd_V_to, F_V_to⟩ := d.def_ 19 (d := dVerdict__told) rfl
  have D_V_to : KM P w K mg base (He.ga K "Verdict") "told" 1 (spO K (FVc (He.ga K "Verdict") (.str "open"))) := ⟨_, _, _, ok_Vto F_V_to, m_Verdict_told.at_, m_Verdict_told.fn, m_Verdict_told.kp, F_V_to.bindsN (fun _ _ _ _ _ _ us hl => match us, hl with | [_], _ => rfl)⟩
  obtain ⟨fd_V_ho, F_V_ho⟩ := d.def_ 20 (d := dVerdict__holds) rfl
  have D_V_ho : KM P w K mg base (He.ga K "Verdict") "holds" 1 (spO K (FVc (He.ga K "Verdict") (.bool false))) := ⟨_, _, _, ok_Vho F_V_ho, m_Verdict_holds.at_, m_Verdict_holds.fn, m_Verdict_holds.kp, F_V_ho.bindsN (fun _ _ _ _ _ _ us hl => match us, hl with | [_], _ => rfl)⟩
  obtain ⟨fd_V_bo, F_V_bo⟩ := d.def_ 21 (d := dVerdict____bool__) rfl
  have D_V_bo : KM P w K mg base (He.ga K "Verdict") "__bool__" 1 (spO K (FVc (He.ga K "Verdict") (.bool false))) := ⟨_, _, _, ok_Vbo F_V_bo, m_Verdict___bool__.at_, m_Verdict___bool__.fn, m_Verdict___bool__.kp, F_V_bo.bindsN (fun _ _ _ _ _ _ us hl => match us, hl with | [_], _ => rfl)⟩
  obtain ⟨fd_V_re, F_V_re⟩ := d.def_ 22 (d := dVerdict____repr__) rfl
  have D_V_re : KM P w K mg base (He.ga K "Verdict") "__repr__" 2 (spO K (FVc (He.ga K "Verdict") (.str "Verdict(open)"))) := ⟨_, _, _, ok_Vre F_V_re D_V_to cV, m_Verdict___repr__.at_, m_Verdict___repr__.fn, m_Verdict___repr__.kp, F_V_re.bindsN (fun _ _ _ _ _ _ us hl => match us, hl with | [_], _ => rfl)⟩
  obtain ⟨fd_L_claim, F_L_claim⟩ := d.def_ 37 (d := dL_claim) rfl
  have D_L_claim : KD P w K mg base "_law_claim" 7 (spLc K (He.ga K "Claim") (He.ga K "Schema") (He.ga K "Product")) := kd_mk F_L_claim (ok_L_cl F_L_claim MC MP gC gP cS n_Schema_width) (He.glo_ok X G (d.fact 25 (f := .glo "_law_claim") rfl)) (F_L_claim.bindsN (fun _ _ _ _ _ _ us hl => match us, hl with | [_, _, _], _ => rfl))
  have D_L_oneC : KD P w K mg base "_law_one" 2 (spOneP (NotI K (He.ga K "Claim"))) := ⟨_, _, _, ok_L_oneP F_L_one D_L_take h_len, He.glo_ok X G (d.fact 13 (f := .glo "_law_one") rfl), F_L_one.kp, F_L_one.bindsN (fun _ _ _ _ _ _ us hl => match us, hl with | [_, _], _ => rfl)⟩
  have D_L_oneN : KD P w K mg base "_law_one" 2 (spOneP (BadCl K (He.ga K "Claim") (He.ga K "Schema") (He.ga K "Product"))) := ⟨_, _, _, ok_L_oneP F_L_one D_L_take h_len, He.glo_ok X G (d.fact 13 (f := .glo "_law_one") rfl), F_L_one.kp, F_L_one.bindsN (fun _ _ _ _ _ _ us hl => match us, hl with | [_, _], _ => rfl)⟩
  obtain ⟨fd_L_exps_of, F_L_exps_of⟩ := d.def_ 38 (d := dL_exps_of) rfl
  have D_L_exps_of : KD P w K mg base "_law_exps_of" 1 (spD K Fexof) := kd_mk F_L_exps_of (ok_L_exof F_L_exps_of h_sorted h_list h_dict) (He.glo_ok X G (d.fact 26 (f := .glo "_law_exps_of") rfl)) (F_L_exps_of.bindsN (fun _ _ _ _ _ _ us hl => match us, hl with | [_], _ => rfl))
  obtain ⟨fd_L_small, F_L_small⟩ := d.def_ 39 (d := dL_small) rfl
  have D_L_small : KD P w K mg base "_law_small" 2 (spD K (Fsum false)) := kd_mk F_L_small (ok_L_small F_L_small D_L_exps_of) (He.glo_ok X G (d.fact 27 (f := .glo "_law_small") rfl)) (F_L_small.bindsN (fun _ _ _ _ _ _ us hl => match us, hl with | [_, _], _ => rfl))
  obtain ⟨fd_L_great, F_L_great⟩ := d.def_ 40 (d := dL_great) rfl
  have D_L_great : KD P w K mg base "_law_great" 2 (spD K (Fsum true)) := kd_mk F_L_great (ok_L_great F_L_great D_L_exps_of) (He.glo_ok X G (d.fact 28 (f := .glo "_law_great") rfl)) (F_L_great.bindsN (fun _ _ _ _ _ _ us hl => match us, hl with | [_, _], _ => rfl))
  obtain ⟨fd_L_made, F_L_made⟩ := d.def_ 41 (d := dL_made) rfl
  have D_L_made : KD P w K mg base "_law_made" 8 (spMade K (He.ga K "Claim") (He.ga K "Schema") (He.ga K "Product")) := kd_mk F_L_made (ok_L_made F_L_made D_L_claim) (He.glo_ok X G (d.fact 29 (f := .glo "_law_made") rfl)) (F_L_made.bindsN (fun _ _ _ _ _ _ us hl => match us, hl with | [_, _], _ => rfl))
  obtain ⟨fd_L_some_pairs, F_L_some_pairs⟩ := d.def_ 42 (d := dL_some_pairs) rfl
  have D_L_some_pairs : KD P w K mg base "_law_some_pairs" 6 (spB K Fspr) := kd_mk F_L_some_pairs (ok_L_spr F_L_some_pairs D_L_some_parts h_range) (He.glo_ok X G (d.fact 30 (f := .glo "_law_some_pairs") rfl)) (F_L_some_pairs.bindsN (fun _ _ _ _ _ _ us hl => match us, hl with | [_, _, _, _, _], _ => rfl))
  have hkit : ∀ T ∈ (["NoneType", "int", "str", "list", "tuple"] : List String), PySem.W.kitOne K (.type T) (.ref (He.ga K "Claim")) = some false := fun T hT => by
    simp only [List.mem_cons, List.not_mem_nil, or_false] at hT
    rcases hT with rfl | rfl | rfl | rfl | rfl
    · exact x_kit_NoneType
    · exact x_kit_int
    · exact x_kit_str
    · exact x_kit_list
    · exact x_kit_tuple
  have L : LE P w K mg base (He.ga K "Verdict") (He.ga K "Claim") (He.ga K "Schema") (He.ga K "Product") (He.ga K "InvalidClaim") (He.ga K "WrongSchema") [.ref (He.ga K "DealError"), .ref (He.ga K "Missing"), .ref (He.ga K "NothingLeft")] (He.cT K ("law", none)).1 (He.cT K ("law", none)).2 := ⟨D_L_open, D_L_take, D_L_one, D_L_oneC, D_L_oneN, D_L_letters, D_L_some_facts, D_L_some_pairs, D_L_small, D_L_great, D_L_made, D_L_claim, D_L_same, D_L_tries, MS, MP, MV, MVX, gS, gP, gV, cS, cP, cC, cV, isiS, isiP, D_V_cl, D_V_pr, D_V_sm, D_V_gr, D_V_to, D_V_ho, D_V_bo, D_V_re, ok_InvalidClaim, ok_WrongSchema, TB, hkit, x_kit_Schema, x_kit_Product, h_list, h_int, h_len, h_tuple, h_range, h_bool, h_repr⟩
  exact ok_law F_law hcode L
end
end K23
open PySem PySem.W PySem.Calls PyProof.Rows
theorem PySem.Challenge.cw_dealtpowers_k23_questions_told_holds : PySem.Challenge.rw_dealtpowers_k23_questions_told.Holds := by
  w_on; o_law
  refine HandSHeadRun.head_any (r := OpenLaw.row PySem.Challenge.rw_dealtpowers_k23_questions_told) (q := view (OpenLaw.row PySem.Challenge.rw_dealtpowers_k23_questions_told).prog [55]) (H := K23.hk) (ob := K23.ob) (M := 20000) (loose := K23.nms) (d := HandSHeadRun.topDef (OpenLaw.row PySem.Challenge.rw_dealtpowers_k23_questions_told).prog 55) (kwd := []) K23.ob_eq
    (by kernel_rfl) (fun s => by kernel_rfl) K23.run (by kernel_rfl) (by kernel_rfl) (by kernel_rfl) (by rfl) (by first | assumption | decide +kernel) (by decide +kernel) ⟨rfl, rfl, rfl, rfl, rfl, by decide +kernel⟩ ?hw ?hc
  case hw => w_witness2
  case hc =>
    refine LamX.walk_ofTsE (l := PySem.Challenge.rw_dealtpowers_k23_questions_told) (n := 63) (k := 13) (x := "_law_script") (CX := fun _ => L2.CX0) rfl (by decide) (by kernel_rfl) ⟨rfl, by decide, by decide⟩ ?F (fun _ _ _ _ _ z => z)
    intro w mg fa h Y G hmg0
    obtain ⟨K, KX, c⟩ := Y
    have hmg : mg ("law" : PySem.Str) = some (.ref fa) := by
      have e : (HandSHeadRun.topDef (OpenLaw.row PySem.Challenge.rw_dealtpowers_k23_questions_told).prog 55).name = ("law" : PySem.Str) := by kernel_rfl
      rw [← e]
      exact hmg0
    obtain ⟨fd, hb, hF⟩ := K23.facts (P := (PySem.Challenge.rw_dealtpowers_k23_questions_told).prog) (w := w) KX G hmg c
    have ht := c.tab ("law", none) (List.mem_singleton.mpr rfl)
    refine ⟨K, KX, fd, [He.cT K ("law", none)], K23.spLaw K (He.cT K ("law", none)).2, fun p hp => ?_, fun p hp => ?_, fun p hp => ?_, hb, fun H a ns hl _ hT hS => ⟨a, ns, rfl, hS, hl, hT _ (List.mem_singleton.mpr rfl), fun _ => rfl⟩, fun base KB NB TB => hF base KB NB (TB _ (List.mem_singleton.mpr rfl))⟩
    · rw [List.mem_singleton.mp hp]; exact ht.2.2
    · rw [List.mem_singleton.mp hp]; exact ht.2.1
    · rw [List.mem_singleton.mp hp]; exact codeHd_of_K KX ht.1
