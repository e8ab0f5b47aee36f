import PyProof.Rows.All
import Wide.All
import OpenK.AllK
import HandS.HeadHook4
import HandS.Head0
import HandS.Head1
import HandS.Head2
import HandS.HeadEnd
import HandS.HeadHook1
import HandS.HeadHook2
import HandS.HeadHook3
import HandS.HeadWalk
import HandS.Property
import PySem.Challenge.RW_dealtpowers_k18_power_groups
import Wide.FinOn
import KE.KStateDown
import HandS.ForMost
import HandS.ForExc
import HandS.IsInst
import HandS.Zip
import HandS.Defaults
import HandS.MakeKw
import HandS.MakeKwOnly
import HandS.Star
import HandS.ClsMeth
import HandS.OwnEq
import HandS.FStr
import HandS.Flow
import HandS.TupMul
import HandS.TupAny
import HandS.Strs
import HandS.WideBits
import HandS.Wide
import HandS.Walk
import HandS.Style
import HandS.SetTxt0
import KE.GoesEnum
import OpenK.KMeth
import OpenK.KOps
import KE.KFmtOwn
import PyProof.Rows.StrStep
import HandS.Exc
import HandS.ExcInit
import HandS.WordsExc
import HandS.TryMany
import HandS.ExcField
import KE.KTryMore
import KE.KExcHand
import HandS.Nested
import HandS.HotCalls
import HandS.DictTup
import HandS.TupLen
import HandS.TupSets
import HandS.Conv
import KE.SortData
import HandS.More
import HandS.Dict
import HandS.Deep
import KE.SortKeyHeap
import HandS.SortKw
import HandS.DictComp
import KE.KDictItemsList
import KE.KEqDict
import HandS.Replace
import KE.GoesMore
import KE.KxIndex
import KE.KStrOpen
set_option Elab.async false
set_option linter.all false
set_option maxRecDepth 100000
set_option maxHeartbeats 0
set_option exponentiation.threshold 256
namespace K18
open PySem PySem.Spec PyProof.Rows L2
/-! ## the head's facts: K with the statics, without the empty tables; getters of properties -/
/-- what an object names, as far as the facts want it (not behind a code object) -/
def refsS (o : Obj) : List Addr := match o.data with
  | .seq its _ => its.toList.flatMap He.refV
  | .dict es _ => es.toList.flatMap fun e => He.refV e.val
  | .func fd => He.refV fd.code ++ (He.refV fd.defaults ++ He.refV fd.kwdefaults)
  | .cls cd => cd.ns :: cd.mro.flatMap He.refV
  | .fields vs => (match Nat.ble vs.size 8 with
    | true => vs.toList.flatMap He.refV
    | false => [])
  | _ => []
/-- what the module's names reach in n steps, each once (m: those met, as bits), and the statics -/
def addN : List Addr → Nat → List Addr → List Addr × Nat
  | [], m, acc => (acc, m)
  | r :: rs, m, acc => match Nat.beq (Nat.mod (Nat.shiftRight m r) 2) 1 with
    | true => addN rs m acc
    | false => HandSHeadRun.frNat (Nat.lor m (Nat.shiftLeft 1 r)) fun m2 => addN rs m2 (r :: acc)
def growN (g : Addr → Option Obj) : List Addr → Nat → List Addr → List Addr × Nat
  | [], m, acc => (acc, m)
  | a :: fr, m, acc => match addN (match g a with
      | some o => refsS o
      | none => []) m acc with
    | (acc2, m2) => growN g fr m2 acc2
def asN (g : Addr → Option Obj) : Nat → List Addr → Nat → List Addr
  | 0, fr, _ => fr
  | n + 1, fr, m => match growN g fr m [] with
    | (new, m2) => fr ++ asN g n new m2
def asE (g : Addr → Option Obj) (n : Nat) : List Addr := asN g n [mainGlobals] (Nat.shiftLeft 1 mainGlobals) ++ [cStatics]
def gtA (K : PySem.W.Frag) (p : He.Defn) : Addr := match PySem.W.recIn K (He.fAd K p) "property" with
  | some (.ref g :: _) => g
  | _ => 0
def gtW (K : PySem.W.Frag) (p : He.Defn) : He.FnW := match K.lookup (gtA K p) with
  | some ⟨_, _, .func fd, _⟩ => some (fd.name, fd.qualname, fd.params, fd.body, fd.scope, fd.globals, fd.closure, fd.builtins)
  | _ => none
def gtB (K : PySem.W.Frag) (d : He.DefD) : Bool :=
  (He.eqO (PySem.W.findIn K (.ref (He.ga K d.at_.1)) d.name) (some (some (.ref (He.fAd K d.at_)))) && (He.eqO (PySem.W.specialIn K (.ref (He.fAd K d.at_)) "__get__") (some (some (.builtin "property.__get__"))) && (decide (PySem.W.takesIn K (.ref (He.fAd K d.at_)) = some true) && (match PySem.W.recIn K (He.fAd K d.at_) "property" with
  | some (.ref _ :: _) => true
  | _ => false)))) && (PySem.W.keepIn K (.ref (gtA K d.at_)) && match K.lookup (gtA K d.at_) with
  | some ⟨_, _, .func fd, _⟩ => PySem.W.codeIn K fd.code d.qual && (He.dflB K fd.defaults [] && He.kwdB K fd.kwdefaults [])
  | _ => false)
/-- a staticmethod's def -/
def stA (K : PySem.W.Frag) (p : He.Defn) : Addr := match PySem.W.recIn K (He.fAd K p) "staticmethod" with
  | some (.ref g :: _) => g
  | _ => 0
def stW (K : PySem.W.Frag) (p : He.Defn) : He.FnW := match K.lookup (stA K p) with
  | some ⟨_, _, .func fd, _⟩ => some (fd.name, fd.qualname, fd.params, fd.body, fd.scope, fd.globals, fd.closure, fd.builtins)
  | _ => none
def stB (K : PySem.W.Frag) (d : He.DefD) : Bool :=
  ((match PySem.W.findCls K (.ref (He.ga K d.at_.1)) (.type "type") d.name with
    | some (.get (.builtin g) (.ref p) .none (.ref D)) => decide (g = "staticmethod.__get__") && (decide (p = He.fAd K d.at_) && decide (D = He.ga K d.at_.1))
    | _ => false) && (match PySem.W.recIn K (He.fAd K d.at_) "staticmethod" with
    | some (.ref _ :: _) => true
    | _ => false)) && (PySem.W.keepIn K (.ref (stA K d.at_)) && match K.lookup (stA K d.at_) with
  | some ⟨_, _, .func fd, _⟩ => PySem.W.codeIn K fd.code d.qual && (He.dflB K fd.defaults (d.dvs K) && He.kwdB K fd.kwdefaults (d.kws K))
  | _ => false)
abbrev AlP := ((He.AlD × Bool) × List He.FnW) × List He.FnW
structure SaysG (fa : List He.Fa) (fn pn sn : List He.DefD) (tf : List He.Defn) (ex : PySem.W.Frag → Bool) (h : Heap) (K : PySem.W.Frag) : Prop where
  d : He.SaysD fa fn K
  more : ex K = true
  tab : ∀ p ∈ tf, PySem.W.codeHdIn K (He.cT K p).1 (He.cT K p).2 = true ∧ K.lookup (He.cT K p).2 = none ∧ h.get? (He.cT K p).2 = some { cls := .none, data := .fields #[] }
  gets : ∀ d ∈ pn, gtB K d = true ∧ gtW K d.at_ = He.DefD.val d
  stats : ∀ d ∈ sn, stB K d = true ∧ stW K d.at_ = He.DefD.val d
def obsG (n : Nat) (fa : List He.Fa) (fn pn sn : List He.DefD) (tf : List He.Defn) (ex : PySem.W.Frag → Bool) (g : Addr → Option Obj) : AlP :=
  (((He.obsD fa fn (He.frT g (asE g n)), ((ex (He.frT g (asE g n)) && pn.all fun d => gtB (He.frT g (asE g n)) d) && sn.all fun d => stB (He.frT g (asE g n)) d) && He.tabsB g tf (He.frT g (asE g n))), pn.map fun d => gtW (He.frT g (asE g n)) d.at_), sn.map fun d => stW (He.frT g (asE g n)) d.at_)
theorem saysG_of {n : Nat} {fa : List He.Fa} {fn pn sn : List He.DefD} {tf : List He.Defn} {ex : PySem.W.Frag → Bool} {h : Heap} (e : obsG n fa fn pn sn tf ex h.get? = (((He.valD fn, true), pn.map He.DefD.val), sn.map He.DefD.val)) : SaysG fa fn pn sn tf ex h (He.frT h.get? (asE h.get? n)) := by
  have e2 : (((ex (He.frT h.get? (asE h.get? n)) && pn.all fun d => gtB (He.frT h.get? (asE h.get? n)) d) && sn.all fun d => stB (He.frT h.get? (asE h.get? n)) d) && He.tabsB h.get? tf (He.frT h.get? (asE h.get? n))) = true := congrArg (fun z : AlP => z.1.1.2) e
  have e4 : pn.map (fun d => gtW (He.frT h.get? (asE h.get? n)) d.at_) = pn.map He.DefD.val := congrArg (fun z : AlP => z.1.2) e
  have e5 : sn.map (fun d => stW (He.frT h.get? (asE h.get? n)) d.at_) = sn.map He.DefD.val := congrArg (fun z : AlP => z.2) e
  rw [Bool.and_eq_true, Bool.and_eq_true, Bool.and_eq_true] at e2
  refine ⟨congrArg (fun z : AlP => z.1.1.1) e, e2.1.1.1, fun p hp => ?_, fun d hd => ⟨List.all_eq_true.mp e2.1.1.2 d hd, List.map_inj_left.mp e4 d hd⟩, fun d hd => ⟨List.all_eq_true.mp e2.1.2 d hd, List.map_inj_left.mp e5 d hd⟩⟩
  have e3 := List.all_eq_true.mp e2.2 p hp
  rw [Bool.and_eq_true] at e3
  cases q : h.get? (He.cT (He.frT h.get? (asE h.get? n)) p).2 with
  | none => rw [q] at e3; exact absurd e3.2 Bool.false_ne_true
  | some o =>
    rw [q] at e3
    exact ⟨e3.1, He.frT_none q e3.2, by rw [He.emptyTab_eq e3.2]⟩
def hookG (n : Nat) (fa : List He.Fa) (fn pn sn : List He.DefD) (tf : List He.Defn) (ex : PySem.W.Frag → Bool) : PySem.W.Hook where
  α := AlP
  obs := fun s => obsG n fa fn pn sn tf ex s.heap.get?
  val := fun _ => (((He.valD fn, true), pn.map He.DefD.val), sn.map He.DefD.val)
  says := fun _ h => ∃ K : PySem.W.Frag, K.In h ∧ SaysG fa fn pn sn tf ex h K
  of := fun _ _ e => ⟨_, He.frT_in, saysG_of e⟩
  keeps := fun _ _ _ ⟨K, hK, c⟩ k => ⟨K, PySem.W.Frag.In.keeps hK k, ⟨c.d, c.more, fun p hp => ⟨(c.tab p hp).1, (c.tab p hp).2.1, k _ _ (c.tab p hp).2.2⟩, c.gets, c.stats⟩⟩
theorem obsG_eq {n : Nat} {fa : List He.Fa} {fn pn sn : List He.DefD} {tf : List He.Defn} {ex : PySem.W.Frag → Bool} {g : Addr → Option Obj} {s : Shared} (h : ∀ a, g a = s.heap.get? a) : obsG n fa fn pn sn tf ex g = (hookG n fa fn pn sn tf ex).obs s := by
  have e : g = s.heap.get? := funext h
  rw [e] <;> rfl
/-- a staticmethod's def, and how its class tells it -/
theorem static_ {fa : List He.Fa} {fn pn sn : List He.DefD} {tf : List He.Defn} {ex : PySem.W.Frag → Bool} {h : Heap} {K : PySem.W.Frag} (c : SaysG fa fn pn sn tf ex h K) (i : Nat) {d : He.DefD} (hi : sn[i]? = some d := by rfl) :
    (∃ fd, FunD K d.name d.qual d.params d.body d.scope (d.dvs K) (d.kws K) (stA K d.at_) fd) ∧ PySem.W.findCls K (.ref (He.ga K d.at_.1)) (.type "type") d.name = some (.get (.builtin "staticmethod.__get__") (.ref (He.fAd K d.at_)) .none (.ref (He.ga K d.at_.1))) ∧ ∃ rest, PySem.W.recIn K (He.fAd K d.at_) "staticmethod" = some (.ref (stA K d.at_) :: rest) := by
  obtain ⟨h1, h2⟩ := c.stats d (List.mem_of_getElem? hi)
  unfold stB at h1
  rw [Bool.and_eq_true, Bool.and_eq_true, Bool.and_eq_true] at h1
  obtain ⟨⟨a1, a2⟩, b1, b2⟩ := h1
  refine ⟨?_, ?_, ?_⟩
  · unfold stW He.DefD.val at h2
    split at h2
    · rename_i oc od fd osl heq
      rw [heq] at b2
      simp only [Bool.and_eq_true] at b2
      obtain ⟨c1, c2, c3⟩ := b2
      cases fd
      simp only [Option.some.injEq, Prod.mk.injEq] at h2
      obtain ⟨rfl, rfl, rfl, rfl, rfl, rfl, rfl, rfl⟩ := h2
      exact ⟨_, ⟨⟨_, _, _, _, _, _, _, _, _, _, rfl, heq, c1, He.dflB_ok c2, He.kwdB_ok c3⟩, b1⟩⟩
    · cases h2
  · clear a2
    split at a1
    · rename_i g p D e
      simp only [Bool.and_eq_true, decide_eq_true_eq] at a1
      obtain ⟨k1, k2, k3⟩ := a1
      rw [e, k1, k2, k3]
    · cases a1
  · unfold stA
    split at a2
    · rename_i g r e
      exact ⟨r, by rw [e]⟩
    · cases a2
def top (i : Nat) : Stmt := PySem.Challenge.pw_dealtpowers_k18_power_groups.main.body.getD i (.Pass ⟨0, 0, 0, 0⟩)
abbrev sis_number : Stmt := top 10
def dis_number : He.DefD := ⟨("is_number", none), "is_number", "is_number", defArgs sis_number, defBody sis_number, defScope sis_number, [], []⟩
abbrev spower_of : Stmt := top 11
def dpower_of : He.DefD := ⟨("power_of", none), "power_of", "power_of", defArgs spower_of, defBody spower_of, defScope spower_of, [], []⟩
abbrev slowest : Stmt := top 12
def dlowest : He.DefD := ⟨("lowest", none), "lowest", "lowest", defArgs slowest, defBody slowest, defScope slowest, [], []⟩
abbrev scheck_columns : Stmt := top 15
def dcheck_columns : He.DefD := ⟨("check_columns", none), "check_columns", "check_columns", defArgs scheck_columns, defBody scheck_columns, defScope scheck_columns, [], []⟩
abbrev sis_exponent : Stmt := top 16
def dis_exponent : He.DefD := ⟨("is_exponent", none), "is_exponent", "is_exponent", defArgs sis_exponent, defBody sis_exponent, defScope sis_exponent, [], []⟩
abbrev sis_direction : Stmt := top 18
def dis_direction : He.DefD := ⟨("is_direction", none), "is_direction", "is_direction", defArgs sis_direction, defBody sis_direction, defScope sis_direction, [], []⟩
abbrev sdot : Stmt := top 19
def ddot : He.DefD := ⟨("dot", none), "dot", "dot", defArgs sdot, defBody sdot, defScope sdot, [], []⟩
abbrev smonomial : Stmt := top 20
def dmonomial : He.DefD := ⟨("monomial", none), "monomial", "monomial", defArgs smonomial, defBody smonomial, defScope smonomial, [], []⟩
abbrev scandidate_rays : Stmt := top 21
def dcandidate_rays : He.DefD := ⟨("candidate_rays", none), "candidate_rays", "candidate_rays", defArgs scandidate_rays, defBody scandidate_rays, defScope scandidate_rays, [], []⟩
abbrev sSchema____init__ : Stmt := inClass (top 22) 1
def dSchema____init__ : He.DefD := ⟨("Schema", some "__init__"), "__init__", "Schema.__init__", defArgs sSchema____init__, defBody sSchema____init__, defScope sSchema____init__, [.adr (He.dflAt ("Schema", some "__init__") 0)], []⟩
abbrev sSchema__steps : Stmt := inClass (top 22) 3
def dSchema__steps : He.DefD := ⟨("Schema", some "steps"), "steps", "Schema.steps", defArgs sSchema__steps, defBody sSchema__steps, defScope sSchema__steps, [], []⟩
abbrev sSchema____contains__ : Stmt := inClass (top 22) 4
def dSchema____contains__ : He.DefD := ⟨("Schema", some "__contains__"), "__contains__", "Schema.__contains__", defArgs sSchema____contains__, defBody sSchema____contains__, defScope sSchema____contains__, [], []⟩
abbrev sSchema__is_exponent : Stmt := inClass (top 22) 5
def dSchema__is_exponent : He.DefD := ⟨("Schema", some "is_exponent"), "is_exponent", "Schema.is_exponent", defArgs sSchema__is_exponent, defBody sSchema__is_exponent, defScope sSchema__is_exponent, [], []⟩
abbrev sSchema__fits : Stmt := inClass (top 22) 6
def dSchema__fits : He.DefD := ⟨("Schema", some "fits"), "fits", "Schema.fits", defArgs sSchema__fits, defBody sSchema__fits, defScope sSchema__fits, [], []⟩
abbrev sSchema__rays : Stmt := inClass (top 22) 7
def dSchema__rays : He.DefD := ⟨("Schema", some "rays"), "rays", "Schema.rays", defArgs sSchema__rays, defBody sSchema__rays, defScope sSchema__rays, [], []⟩
abbrev scheck_width : Stmt := top 24
def dcheck_width : He.DefD := ⟨("check_width", none), "check_width", "check_width", defArgs scheck_width, defBody scheck_width, defScope scheck_width, [], []⟩
abbrev sis_power_group : Stmt := top 28
def dis_power_group : He.DefD := ⟨("is_power_group", none), "is_power_group", "is_power_group", defArgs sis_power_group, defBody sis_power_group, defScope sis_power_group, [], []⟩
abbrev spower_group : Stmt := top 29
def dpower_group : He.DefD := ⟨("power_group", none), "power_group", "power_group", defArgs spower_group, defBody spower_group, defScope spower_group, [], []⟩
abbrev sTable____init__ : Stmt := inClass (top 30) 1
def dTable____init__ : He.DefD := ⟨("Table", some "__init__"), "__init__", "Table.__init__", defArgs sTable____init__, defBody sTable____init__, defScope sTable____init__, [], []⟩
abbrev sTable__groups : Stmt := inClass (top 30) 4
def dTable__groups : He.DefD := ⟨("Table", some "groups"), "groups", "Table.groups", defArgs sTable__groups, defBody sTable__groups, defScope sTable__groups, [], []⟩
abbrev sTable__keeps : Stmt := inClass (top 30) 11
def dTable__keeps : He.DefD := ⟨("Table", some "keeps"), "keeps", "Table.keeps", defArgs sTable__keeps, defBody sTable__keeps, defScope sTable__keeps, [], []⟩
abbrev sTable____eq__ : Stmt := inClass (top 30) 12
def dTable____eq__ : He.DefD := ⟨("Table", some "__eq__"), "__eq__", "Table.__eq__", defArgs sTable____eq__, defBody sTable____eq__, defScope sTable____eq__, [], []⟩
abbrev sL_open : Stmt := top 32
def dL_open : He.DefD := ⟨("_law_open", none), "_law_open", "_law_open", defArgs sL_open, defBody sL_open, defScope sL_open, [], []⟩
abbrev sL_take : Stmt := top 33
def dL_take : He.DefD := ⟨("_law_take", none), "_law_take", "_law_take", defArgs sL_take, defBody sL_take, defScope sL_take, [], []⟩
abbrev sL_one : Stmt := top 34
def dL_one : He.DefD := ⟨("_law_one", none), "_law_one", "_law_one", defArgs sL_one, defBody sL_one, defScope sL_one, [], []⟩
abbrev sL_kind : Stmt := top 35
def dL_kind : He.DefD := ⟨("_law_kind", none), "_law_kind", "_law_kind", defArgs sL_kind, defBody sL_kind, defScope sL_kind, [], []⟩
abbrev sL_same : Stmt := top 36
def dL_same : He.DefD := ⟨("_law_same", none), "_law_same", "_law_same", defArgs sL_same, defBody sL_same, defScope sL_same, [], []⟩
abbrev sL_letters : Stmt := top 37
def dL_letters : He.DefD := ⟨("_law_letters", none), "_law_letters", "_law_letters", defArgs sL_letters, defBody sL_letters, defScope sL_letters, [], []⟩
abbrev sL_exp : Stmt := top 38
def dL_exp : He.DefD := ⟨("_law_exp", none), "_law_exp", "_law_exp", defArgs sL_exp, defBody sL_exp, defScope sL_exp, [], []⟩
abbrev sL_some_facts : Stmt := top 39
def dL_some_facts : He.DefD := ⟨("_law_some_facts", none), "_law_some_facts", "_law_some_facts", defArgs sL_some_facts, defBody sL_some_facts, defScope sL_some_facts, [], []⟩
abbrev sL_pow : Stmt := top 40
def dL_pow : He.DefD := ⟨("_law_pow", none), "_law_pow", "_law_pow", defArgs sL_pow, defBody sL_pow, defScope sL_pow, [], []⟩
abbrev slaw : Stmt := top 41
def dlaw : He.DefD := ⟨("law", none), "law", "law", defArgs slaw, defBody slaw, defScope slaw, [], []⟩
def fn : List He.DefD := [dis_number, dpower_of, dlowest, dcheck_columns, dis_exponent, dis_direction, ddot, dmonomial, dcandidate_rays, dSchema____init__, dSchema__steps, dSchema____contains__, dSchema__is_exponent, dSchema__fits, dSchema__rays, dcheck_width, dis_power_group, dpower_group, dTable____init__, dTable__groups, dTable__keeps, dTable____eq__, dL_open, dL_take, dL_one, dL_kind, dL_same, dL_letters, dL_exp, dL_some_facts, dL_pow, dlaw]
def pn : List He.DefD := []
abbrev sTable__powers : Stmt := inClass (top 30) 2
def dTable__powers : He.DefD := ⟨("Table", some "powers"), "powers", "Table.powers", defArgs sTable__powers, defBody sTable__powers, defScope sTable__powers, [], []⟩
def sn : List He.DefD := [dTable__powers]
def fa : List He.Fa := [.glo "is_number", .glo "power_of", .glo "lowest", .glo "check_columns", .glo "is_exponent", .glo "is_exponent_schemas", .glo "is_direction", .glo "dot", .glo "monomial", .glo "candidate_rays", .glo "check_width", .glo "is_power_group", .glo "power_group", .glo "Schema", .glo "Table", .glo "_law_open", .glo "_law_take", .glo "_law_one", .glo "_law_kind", .glo "_law_same", .glo "_law_exp", .glo "_law_letters", .glo "_law_some_facts", .glo "_law_pow", .glo "law", .free "isinstance", .free "bool", .free "int", .free "str", .free "list", .free "tuple", .free "len", .free "all", .free "any", .free "abs", .free "max", .free "sum", .free "zip", .free "range", .free "set", .free "enumerate", .free "sorted", .free "dict", .int "MOST_EXPONENT" 6, .cls "Schema", .mkr "Schema", .noat "Schema" "columns", .noat "Schema" "width", .noat "Schema" "_facts", .meth "Schema" "is_exponent", .meth "Schema" "steps", .meth "Schema" "fits", .meth "Schema" "rays", .meth "Schema" "__contains__", .cls "Table", .mkr "Table", .noat "Table" "width", .noat "Table" "_groups", .meth "Table" "groups", .meth "Table" "keeps", .meth "Table" "__eq__"]
def nm0 : List PySem.Str := ["_wall", "__name__", "DealError", "InvalidNumber", "InvalidColumns", "InvalidFact", "InvalidGroup", "WrongWidth", "TooMany", "is_number", "power_of", "lowest", "MOST_EXPONENT", "check_columns", "is_exponent", "is_exponent_schemas", "is_direction", "dot", "monomial", "candidate_rays", "Schema", "check_width", "MOST_POWER", "check_power", "is_power_group", "power_group", "Table", "_law_open", "_law_take", "_law_one"]
def nm1 : List PySem.Str := ["_law_kind", "_law_same", "_law_letters", "_law_exp", "_law_some_facts", "_law_pow"]
def nms : List PySem.Str := nm0 ++ nm1
def ex : PySem.W.Frag → Bool := fun K => (match K.lookup (He.dflAt ("Schema", some "__init__") 0 K) with
  | some ⟨.type "tuple", _, .seq its _, _⟩ => its.isEmpty
  | _ => false) && (decide (He.ga K "is_exponent_schemas" = He.ga K "is_exponent") && (PySem.W.readsIn K (He.ga K "Schema") (.type "type") && (He.eqO (PySem.W.specialIn K (.ref (He.ga K "Schema")) "__getattribute__") (some (some (.builtin "type.__getattribute__"))) && ((match PySem.W.findCls K (.ref (He.ga K "Schema")) (.type "type") "MOST" with
  | some (.val (.int 4 _)) => true
  | _ => false) && (He.eqO (PySem.W.findIn K (.ref (He.ga K "Table")) "__ne__") (some (some (.builtin "object.__ne__"))) && (decide (PySem.W.mroIn K (He.ga K "Table") (.type "object") = some true) && (He.eqO (PySem.W.findIn K (.ref (He.ga K "Table")) "__class__") (some (some (.builtin "object.__class__"))) && (decide (PySem.W.kitOne K (.type "str") (.ref (He.ga K "Table")) = some false) && (He.eqO (PySem.W.specialIn K (.builtin "object.__class__") "__get__") (some (some (.builtin "getset_descriptor.__get__"))) && (decide (PySem.W.takesIn K (.builtin "object.__class__") = some true) && (decide (PySem.W.kitOne K (.type "list") (.ref (He.ga K "Table")) = some false) && (decide (PySem.W.subIn K (.type "list") (.ref (He.ga K "Table")) = some false) && (PySem.W.readsIn K (He.ga K "Table") (.type "type") && (He.eqO (PySem.W.specialIn K (.ref (He.ga K "Table")) "__getattribute__") (some (some (.builtin "type.__getattribute__"))) && ((match PySem.W.findCls K (.ref (He.ga K "Table")) (.type "type") "MOST" with
  | some (.val (.int 100 _)) => true
  | _ => false))))))))))))))))
abbrev R : PySem.W.OpenRow := PySem.W.OpenLaw.row PySem.Challenge.rw_dealtpowers_k18_power_groups
def tf : List He.Defn := [("law", none)]
abbrev hk : PySem.W.Hook := hookG 5 fa fn pn sn tf ex
def ob (s : PySem.W.SharedT) : AlP := obsG 5 fa fn pn sn tf ex (HandSHeadRun.getT s)
theorem ob_eq (s : PySem.W.SharedT) : ob s = hk.obs s.abs := obsG_eq (HandSHeadRun.getT_eq s)
theorem run (w : World) : HandSHeadRun.RunEq R (PySem.W.view R.prog [41]) hk ob 20000 nms w := by
  intro os
  kernel_rfl
end K18
namespace Z
open PySem PySem.Spec PyProof.Rows L2
/-! ## 1. judgements by the best reading -/
def HE (X : Cx) (e : Expr) (σ : L2.St) (H : Hp) (Q : VK) : Prop := ∀ (pins : List (Addr × Obj)) (s : Shared), Inv X pins σ H s → wpAny (model X.prog X.w) X.A (eval e X.env) (EP X pins σ Q) X.xe s
def HT (X : Cx) (e : Expr) (σ : L2.St) (H : Hp) (Q : Bool → Hp → Prop) : Prop := ∀ (pins : List (Addr × Obj)) (s : Shared), Inv X pins σ H s → wpAny (model X.prog X.w) X.A (isTrue e X.env (eval e X.env)) (TP X pins σ Q) X.xe s
def HW (X : Cx) (e : Expr) (σ : L2.St) (H : Hp) (Q : Bool → Hp → Prop) : Prop := ∀ (whole : Sem Value) (pins : List (Addr × Obj)) (s : Shared), Inv X pins σ H s → wpAny (model X.prog X.w) X.A (isTrue e X.env whole) (TP X pins σ Q) X.xe s
def HA (X : Cx) (es : List Expr) (σ : L2.St) (H : Hp) (Q : List V → Hp → Prop) : Prop := ∀ (pos : Pos) (pins : List (Addr × Obj)) (s : Shared), Inv X pins σ H s → wpAny (model X.prog X.w) X.A (spliced (backTo pos (starEach es X.env))) (AP X pins σ Q) X.xe s
def HS (X : Cx) (D : Ends) (st : List Stmt) (σ : L2.St) (H : Hp) : Prop := ∀ (pins : List (Addr × Obj)) (s : Shared), Inv X pins σ H s → wpAny (model X.prog X.w) X.A (execs st X.env) (SP X pins D) X.xe s
def HG (X : Cx) (tg : Expr) (v : V) (σ : L2.St) (H : Hp) (Q : L2.St → Hp → Prop) : Prop := ∀ (pins : List (Addr × Obj)) (s : Shared) (u : Value), Inv X pins σ H s → RelV v u →
    wpAny (model X.prog X.w) X.A (assign tg X.env u) (fun _ s' => ∃ σ' H', Inv X pins σ' H' s' ∧ Q σ' H') X.xe s
def HI (X : Cx) (tg iter : Expr) (σ : L2.St) (H : Hp) (R : It → Hp → Prop) : Prop := ∀ (pins : List (Addr × Obj)) (s : Shared), Inv X pins σ H s →
    wpAny (model X.prog X.w) X.A (eval iter X.env) (fun v s1 => wpAny (model X.prog X.w) X.A (pyIter v) (PIE X pins σ tg R) X.xe s1) X.xe s
def bE (X : Cx) (e : Expr) : TE := fun σ H Q => HE X e σ H Q
def bT (X : Cx) (e : Expr) : TT := fun σ H Q => HT X e σ H Q
def bW (X : Cx) (e : Expr) : TT := fun σ H Q => HW X e σ H Q
def bA (X : Cx) (es : List Expr) : TA := fun σ H Q => HA X es σ H Q
def bS (X : Cx) (st : List Stmt) : TS := fun D σ H => HS X D st σ H
def bG (X : Cx) (tg : Expr) : TG := fun v σ H Q => HG X tg v σ H Q
def bI (X : Cx) (tg iter : Expr) : TI := fun σ H R => HI X tg iter σ H R
section
variable {X : Cx} {e : Expr} {σ : L2.St} {H : Hp}
theorem peb : PE X e (bE X e) := ⟨fun pins s _ _ _ I h => h pins s I⟩
theorem ptb : PT X e (bT X e) := ⟨fun pins s _ _ _ I h => h pins s I⟩
theorem pwb : PW X e (bW X e) := ⟨fun whole pins s _ _ _ I h => h whole pins s I⟩
theorem pab {es : List Expr} : PA X es (bA X es) := ⟨fun pos pins s _ _ _ I h => h pos pins s I⟩
theorem psb {st : List Stmt} : PSs X st (bS X st) := ⟨fun pins s _ _ _ I h => h pins s I⟩
theorem pgb {tg : Expr} : PG X tg (bG X tg) := ⟨fun pins s _ _ _ u _ I r h => h pins s u I r⟩
theorem pib {tg iter : Expr} : PI X tg iter (bI X tg iter) := ⟨fun pins s _ _ _ I h => h pins s I⟩
theorem he_of {t : TE} {Q : VK} (h : PE X e t) (q : t σ H Q) : HE X e σ H Q := fun pins s I => h.run pins s σ H Q I q
theorem ht_of {t : TT} {Q : Bool → Hp → Prop} (h : PT X e t) (q : t σ H Q) : HT X e σ H Q := fun pins s I => h.run pins s σ H Q I q
theorem hw_of {t : TT} {Q : Bool → Hp → Prop} (h : PW X e t) (q : t σ H Q) : HW X e σ H Q := fun whole pins s I => h.run whole pins s σ H Q I q
theorem ha_of {es : List Expr} {t : TA} {Q : List V → Hp → Prop} (h : PA X es t) (q : t σ H Q) : HA X es σ H Q := fun pos pins s I => h.run pos pins s σ H Q I q
theorem hs_of {st : List Stmt} {t : TS} {D : Ends} (h : PSs X st t) (q : t D σ H) : HS X D st σ H := fun pins s I => h.run pins s σ H D I q
theorem hg_of {tg : Expr} {t : TG} {v : V} {Q : L2.St → Hp → Prop} (h : PG X tg t) (q : t v σ H Q) : HG X tg v σ H Q := fun pins s u I r => h.run pins s σ H v u Q I r q
theorem hi_of {tg iter : Expr} {t : TI} {R : It → Hp → Prop} (h : PI X tg iter t) (q : t σ H R) : HI X tg iter σ H R := fun pins s I => h.run pins s σ H R I q
end
/-! ## 2. what stays under growth -/
class Mn (P : V → Hp → Prop) : Prop where
  up : ∀ {v : V} {H H' : Hp}, Same H H' → P v H → P v H'
theorem Same.new {H : Hp} {p : Addr} {o : HO} (h : H p = none) : Same H (upd H p o) := fun a u e => by
  rw [upd_ne (ne_of_none e h)]
  exact e
/-- an object that H does not know may change -/
theorem Same.mut {H H' : Hp} {p : Addr} {o : HO} (e : Same H H') (h : H p = none) : Same H (upd H' p o) := fun a u ha => by
  rw [upd_ne (ne_of_none ha h)]
  exact e a u ha
theorem same_rd {H H' : Hp} {a : Addr} {u : HO} (e : Same H H') (h : Rd H a u) : Rd H' a u := by
  rcases h with h | ⟨o, h⟩
  · exact Or.inl (e a _ h)
  · exact Or.inr ⟨o, e a _ h⟩
theorem sql_up {K : PySem.W.Frag} {H H' : Hp} {a : Addr} {xs : List V} (e : Same H H') (h : SqL K H a xs) : SqL K H' a xs := by
  rcases h with h | h
  · exact Or.inl (same_rd e h)
  · exact Or.inr h
theorem sqt_up {K : PySem.W.Frag} {H H' : Hp} {a : Addr} {xs : List V} (e : Same H H') (h : SqT K H a xs) : SqT K H' a xs := by
  rcases h with h | h
  · exact Or.inl (same_rd e h)
  · exact Or.inr h
theorem sql_of {K : PySem.W.Frag} {H : Hp} {a : Addr} {xs : List V} (h : H a = some (.lst xs)) : SqL K H a xs := Or.inl (Or.inl h)
theorem sqt_of {K : PySem.W.Frag} {H : Hp} {a : Addr} {xs : List V} (h : H a = some (.tup xs)) : SqT K H a xs := Or.inl (Or.inl h)
/-! ## 3. data -/
/-- a tuple of the heap; the empty one may stand in K -/
def TuS (K : PySem.W.Frag) (H : Hp) (a : Addr) (xs : List V) : Prop := H a = some (.tup xs) ∨ (xs = [] ∧ SqT K H a xs)
theorem TuS.sq {K : PySem.W.Frag} {H : Hp} {a : Addr} {xs : List V} (h : TuS K H a xs) : SqT K H a xs := h.elim sqt_of fun z => z.2
theorem TuS.up {K : PySem.W.Frag} {H H' : Hp} {a : Addr} {xs : List V} (e : Same H H') (h : TuS K H a xs) : TuS K H' a xs := h.elim (fun z => .inl (e _ _ z)) fun z => .inr ⟨z.1, sqt_up e z.2⟩
theorem tus_of {K : PySem.W.Frag} {H : Hp} {a : Addr} {xs : List V} (h : H a = some (.tup xs)) : TuS K H a xs := .inl h
/-- a value that is data: None, bools, ints, texts, lists that are tracked, tuples -/
inductive Dt (K : PySem.W.Frag) : PyData → V → Hp → Prop
  | non {H : Hp} : Dt K .none .non H
  | bl {H : Hp} (b : Bool) : Dt K (.bool b) (.bl b) H
  | int {H : Hp} (i : Int) : Dt K (.int i) (.int i) H
  | str {H : Hp} (x : Str) : Dt K (.str x) (.str x) H
  | lst {H : Hp} {a : Addr} {xs : List V} {ds : List PyData} : H a = some (.lst xs) → xs.length = ds.length → xs.length ≤ sizeLine → (∀ (i : Nat) (x : V) (d : PyData), xs[i]? = some x → ds[i]? = some d → Dt K d x H) → Dt K (.list ds) (.ref a) H
  | tup {H : Hp} {a : Addr} {xs : List V} {ds : List PyData} : TuS K H a xs → xs.length = ds.length → xs.length ≤ sizeLine → (∀ (i : Nat) (x : V) (d : PyData), xs[i]? = some x → ds[i]? = some d → Dt K d x H) → Dt K (.tuple ds) (.ref a) H
theorem Dt.up {K : PySem.W.Frag} {d : PyData} {v : V} {H H' : Hp} (e : Same H H') (h : Dt K d v H) : Dt K d v H' := by
  induction h with
  | non => exact .non
  | bl b => exact .bl b
  | int i => exact .int i
  | str x => exact .str x
  | lst h l z _ ih => exact .lst (e _ _ h) l z fun i x d hx hd => ih i x d hx hd e
  | tup h l z _ ih => exact .tup (h.up e) l z fun i x d hx hd => ih i x d hx hd e
instance {K : PySem.W.Frag} {d : PyData} : Mn (Dt K d) := ⟨fun e h => h.up e⟩
/-- the values of a sequence's items -/
def Dts (K : PySem.W.Frag) (ds : List PyData) (xs : List V) (H : Hp) : Prop := xs.length = ds.length ∧ ∀ (i : Nat) (x : V) (d : PyData), xs[i]? = some x → ds[i]? = some d → Dt K d x H
theorem Dts.up {K : PySem.W.Frag} {ds : List PyData} {xs : List V} {H H' : Hp} (e : Same H H') (h : Dts K ds xs H) : Dts K ds xs H' := ⟨h.1, fun i x d hx hd => (h.2 i x d hx hd).up e⟩
theorem Dts.nil {K : PySem.W.Frag} {H : Hp} : Dts K [] [] H := ⟨rfl, fun i x d hx _ => by simp at hx⟩
theorem Dts.cons {K : PySem.W.Frag} {d : PyData} {ds : List PyData} {x : V} {xs : List V} {H : Hp} (h : Dt K d x H) (r : Dts K ds xs H) : Dts K (d :: ds) (x :: xs) H := by
  refine ⟨by simp [r.1], fun i y e hy he => ?_⟩
  cases i with
  | zero => simp at hy he; subst hy; subst he; exact h
  | succ i => exact r.2 i y e (by simpa using hy) (by simpa using he)
theorem Dts.get {K : PySem.W.Frag} {ds : List PyData} {xs : List V} {H : Hp} (h : Dts K ds xs H) {i : Nat} {d : PyData} (e : ds[i]? = some d) : ∃ x, xs[i]? = some x ∧ Dt K d x H := by
  have hi : i < xs.length := by rw [h.1]; exact (List.getElem?_eq_some_iff.mp e).1
  exact ⟨xs[i], List.getElem?_eq_getElem hi, h.2 i _ d (List.getElem?_eq_getElem hi) e⟩
theorem Dts.append {K : PySem.W.Frag} {ds es : List PyData} {xs ys : List V} {H : Hp} (h : Dts K ds xs H) (g : Dts K es ys H) : Dts K (ds ++ es) (xs ++ ys) H := by
  refine ⟨by simp [h.1, g.1], fun i y e hy he => ?_⟩
  by_cases hi : i < xs.length
  · rw [List.getElem?_append_left hi] at hy
    rw [List.getElem?_append_left (by rw [← h.1]; exact hi)] at he
    exact h.2 i y e hy he
  · rw [List.getElem?_append_right (by omega)] at hy
    rw [List.getElem?_append_right (by rw [← h.1]; omega), ← h.1] at he
    exact g.2 _ y e hy he
theorem Dts.snoc {K : PySem.W.Frag} {ds : List PyData} {xs : List V} {H : Hp} {d : PyData} {x : V} (h : Dts K ds xs H) (g : Dt K d x H) : Dts K (ds ++ [d]) (xs ++ [x]) H := h.append (Dts.cons g .nil)
theorem Dts.dp {K : PySem.W.Frag} {H : Hp} : ∀ {ds : List PyData} {xs : List V}, xs.length = ds.length → (∀ (i : Nat) (x : V) (d : PyData), xs[i]? = some x → ds[i]? = some d → Dp K H x d) → DpAll K H xs ds
  | [], [], _, _ => .nil
  | [], _ :: _, h, _ => by simp at h
  | _ :: _, [], h, _ => by simp at h
  | d :: ds, x :: xs, h, f => .cons (f 0 x d rfl rfl) (Dts.dp (by simpa using h) fun i y e hy he => f (i + 1) y e (by simpa using hy) (by simpa using he))
theorem Dt.dp {K : PySem.W.Frag} {d : PyData} {v : V} {H : Hp} (h : Dt K d v H) : Dp K H v d := by
  induction h with
  | non => exact .non
  | bl b => exact .bl b
  | int i => exact .int i
  | str x => exact .str x
  | lst h l z _ ih => exact .lst (sql_of h) (Dts.dp l fun i x d hx hd => ih i x d hx hd)
  | tup h l z _ ih => exact .tup h.sq (Dts.dp l fun i x d hx hd => ih i x d hx hd)
theorem Dt.int_inv {K : PySem.W.Frag} {i : Int} {v : V} {H : Hp} (h : Dt K (.int i) v H) : v = .int i := by cases h; rfl
theorem Dt.bl_inv {K : PySem.W.Frag} {b : Bool} {v : V} {H : Hp} (h : Dt K (.bool b) v H) : v = .bl b := by cases h; rfl
theorem Dt.str_inv {K : PySem.W.Frag} {x : Str} {v : V} {H : Hp} (h : Dt K (.str x) v H) : v = .str x := by cases h; rfl
theorem Dt.lst_inv {K : PySem.W.Frag} {ds : List PyData} {v : V} {H : Hp} (h : Dt K (.list ds) v H) : ∃ a xs, v = .ref a ∧ H a = some (.lst xs) ∧ Dts K ds xs H ∧ xs.length ≤ sizeLine := by
  cases h with
  | lst h l z f => exact ⟨_, _, rfl, h, ⟨l, f⟩, z⟩
theorem Dt.tup_inv {K : PySem.W.Frag} {ds : List PyData} {v : V} {H : Hp} (h : Dt K (.tuple ds) v H) : ∃ a xs, v = .ref a ∧ SqT K H a xs ∧ Dts K ds xs H ∧ xs.length ≤ sizeLine := by
  cases h with
  | tup h l z f => exact ⟨_, _, rfl, h.sq, ⟨l, f⟩, z⟩
theorem Dt.tup_invS {K : PySem.W.Frag} {ds : List PyData} {v : V} {H : Hp} (h : Dt K (.tuple ds) v H) : ∃ a xs, v = .ref a ∧ TuS K H a xs ∧ Dts K ds xs H ∧ xs.length ≤ sizeLine := by
  cases h with
  | tup h l z f => exact ⟨_, _, rfl, h, ⟨l, f⟩, z⟩
theorem Dt.lst_mk {K : PySem.W.Frag} {ds : List PyData} {a : Addr} {xs : List V} {H : Hp} (h : H a = some (.lst xs)) (g : Dts K ds xs H) (z : xs.length ≤ sizeLine) : Dt K (.list ds) (.ref a) H := .lst h g.1 z g.2
theorem Dt.tup_mk {K : PySem.W.Frag} {ds : List PyData} {a : Addr} {xs : List V} {H : Hp} (h : TuS K H a xs) (g : Dts K ds xs H) (z : xs.length ≤ sizeLine) : Dt K (.tuple ds) (.ref a) H := .tup h g.1 z g.2
/-! ## 4. growth: S what is known to stay, H the whole -/
def NT (o : HO) : Prop := ∀ xs, o ≠ .tup xs
structure Gr (S H S' H' : Hp) : Prop where
  st : Same S S'
  sub : Same S' H'
  hh : Same H H'
  old : ∀ a o, H a = some o → NT o → S' a = S a
theorem Gr.refl {S H : Hp} (s : Same S H) : Gr S H S H := ⟨Same.refl S, s, Same.refl H, fun _ _ _ _ => rfl⟩
theorem Gr.trans {S H S1 H1 S2 H2 : Hp} (a : Gr S H S1 H1) (b : Gr S1 H1 S2 H2) : Gr S H S2 H2 :=
  ⟨a.st.trans b.st, b.sub, a.hh.trans b.hh, fun x o h n => (b.old x o (a.hh x o h) n).trans (a.old x o h n)⟩
theorem Gr.new {S H : Hp} {p : Addr} {o : HO} (s : Same S H) (h : H p = none) : Gr S H (upd S p o) (upd H p o) := by
  refine ⟨Same.new (s.free h), fun a u e => ?_, Same.new h, fun a u e _ => upd_ne (ne_of_none e h)⟩
  by_cases ha : a = p
  · subst ha; rw [upd_same] at e ⊢; exact e
  · rw [upd_ne ha] at e ⊢; exact s a u e
/-- S grown by T -/
def uniS (S T : Hp) : Hp := fun a => match S a with
  | some o => some o
  | none => T a
theorem uni_l {S T : Hp} : Same S (uniS S T) := fun a o h => by unfold uniS; rw [h]
/-- from a smaller S to a greater one -/
theorem Gr.uni {S T H S' H' : Hp} (st : Same S T) (th : Same T H) (g : Gr S H S' H') : Gr T H (uniS S' T) H' := by
  have key : ∀ a o, H a = some o → NT o → uniS S' T a = T a := fun a o h n => by
    have e := g.old a o h n
    unfold uniS
    rw [e]
    cases q : S a with
    | none => rfl
    | some u => rw [st a u q]
  have key2 : ∀ a o, T a = some o → uniS S' T a = some o := fun a o h => by
    unfold uniS
    cases q : S' a with
    | none => exact h
    | some u =>
      have e1 := g.sub a u q
      rw [g.hh a o (th a o h)] at e1
      exact e1.symm
  refine ⟨key2, fun a o h => ?_, g.hh, key⟩
  unfold uniS at h
  cases q : S' a with
  | some u => rw [q] at h; cases h; exact g.sub a _ q
  | none => rw [q] at h; exact g.hh a o (th a o h)
/-! ## 5. pure evaluation: e gives a P, and all that stood stands -/
def EE (X : Cx) (σ : L2.St) (S : Hp) (e : Expr) (P : V → Hp → Prop) : Prop := ∀ H, Same S H → ∀ Q : VK, (∀ v S' H', Gr S H S' H' → P v S' → Q v H') → HE X e σ H Q
def ET (X : Cx) (σ : L2.St) (S : Hp) (e : Expr) (b : Bool) : Prop := ∀ H, Same S H → ∀ Q : Bool → Hp → Prop, (∀ S' H', Gr S H S' H' → Q b H') → HT X e σ H Q
def EW (X : Cx) (σ : L2.St) (S : Hp) (e : Expr) (b : Bool) : Prop := ∀ H, Same S H → ∀ Q : Bool → Hp → Prop, (∀ S' H', Gr S H S' H' → Q b H') → HW X e σ H Q
/-- the values vs have the Ps, one by one -/
inductive Al : List (V → Hp → Prop) → List V → Hp → Prop
  | nil {H : Hp} : Al [] [] H
  | cons {P : V → Hp → Prop} {Ps : List (V → Hp → Prop)} {v : V} {vs : List V} {H : Hp} : P v H → Al Ps vs H → Al (P :: Ps) (v :: vs) H
inductive Mns : List (V → Hp → Prop) → Prop
  | nil : Mns []
  | cons {P : V → Hp → Prop} {Ps : List (V → Hp → Prop)} : Mn P → Mns Ps → Mns (P :: Ps)
theorem Al.up {Ps : List (V → Hp → Prop)} {vs : List V} {H H' : Hp} (m : Mns Ps) (s : Same H H') (h : Al Ps vs H) : Al Ps vs H' := by
  induction h with
  | nil => exact .nil
  | cons p _ ih => cases m with
    | cons m1 m2 => exact .cons (m1.up s p) (ih m2 s)
def EA (X : Cx) (σ : L2.St) (S : Hp) (es : List Expr) (Ps : List (V → Hp → Prop)) : Prop := Mns Ps ∧ ∀ H, Same S H → ∀ Q : List V → Hp → Prop, (∀ vs S' H', Gr S H S' H' → Al Ps vs S' → Q vs H') → HA X es σ H Q
section
variable {X : Cx} {σ : L2.St} {S S' : Hp} {e a b c : Expr} {P P' : V → Hp → Prop} {pos : Pos}
theorem EE.up [Mn P] (s : Same S S') (h : EE X σ S e P) : EE X σ S' e P := fun H a Q q => h H (s.trans a) Q fun v S2 H2 g p => q v (uniS S2 S') H2 (g.uni s a) (Mn.up uni_l p)
theorem ET.up {k : Bool} (s : Same S S') (h : ET X σ S e k) : ET X σ S' e k := fun H a Q q => h H (s.trans a) Q fun S2 H2 g => q (uniS S2 S') H2 (g.uni s a)
theorem EW.up {k : Bool} (s : Same S S') (h : EW X σ S e k) : EW X σ S' e k := fun H a Q q => h H (s.trans a) Q fun S2 H2 g => q (uniS S2 S') H2 (g.uni s a)
theorem EA.up {es : List Expr} {Ps : List (V → Hp → Prop)} (s : Same S S') (h : EA X σ S es Ps) : EA X σ S' es Ps := ⟨h.1, fun H a Q q => h.2 H (s.trans a) Q fun v S2 H2 g p => q v (uniS S2 S') H2 (g.uni s a) (p.up h.1 uni_l)⟩
theorem EE.imp (h : EE X σ S e P) (f : ∀ v H', P v H' → P' v H') : EE X σ S e P' := fun H1 s Q q => h H1 s Q fun v S2 H2 s2 p => q v S2 H2 s2 (f v S2 p)
theorem EE.is (h : EE X σ S e P) (f : P = P') : EE X σ S e P' := f ▸ h
theorem ET.is {k k' : Bool} (h : ET X σ S e k) (f : k = k') : ET X σ S e k' := f ▸ h
theorem ea_nil : EA X σ S [] [] := ⟨.nil, fun H1 s Q q => ha_of pa_nil (q [] S H1 (Gr.refl s) .nil)⟩
theorem ea_cons [m : Mn P] {es : List Expr} {Ps : List (V → Hp → Prop)} (h : EE X σ S e P) (r : EA X σ S es Ps) (hs : starEach (e :: es) X.env = (false, eval e X.env) :: starEach es X.env := by rfl) : EA X σ S (e :: es) (P :: Ps) := ⟨.cons m r.1, fun H1 s Q q => by
  refine ha_of (pa_cons (te := bE X e) (t := bA X es) peb pab hs) ?_
  refine h H1 s _ fun v S2 H2 g2 p => ?_
  exact (r.up g2.st).2 H2 g2.sub _ fun vs S3 H3 g3 al => q (v :: vs) S3 H3 (g2.trans g3) (.cons (Mn.up g3.st p) al)⟩
end
end Z
namespace Z
open PySem PySem.Spec PyProof.Rows L2
/-! ## 6. expressions -/
section
variable {X : Cx} {σ : L2.St} {S S' : Hp} {e a b c : Expr} {P Pa Pb R : V → Hp → Prop} {pos p : Pos} {i j : Int} {d d1 d2 : PyData} {k k1 k2 : Bool}
theorem EE.isd {d' : PyData} (h : EE X σ S e (Dt X.K d)) (f : d = d') : EE X σ S e (Dt X.K d') := f ▸ h
theorem ee_var (i : Nat) {x : Str} {v : V} (hv : σ[i]? = some (some v)) (h : P v S) (hN : X.N[i]? = some x := by rfl) (hvis : Vis X.env.scope x := by first | exact Or.inl rfl | exact Or.inr (Or.inl rfl) | exact Or.inr (Or.inr rfl)) (hd : (x == ("__debug__" : Str)) = false := by decide)
    (hcd : (x == ("__classdict__" : Str)) = false := by decide) : EE X σ S (.Name x pos) P := fun H s Q q => he_of (pv i hN hvis hd hcd) ⟨v, hv, q v S H (Gr.refl s) h⟩
theorem ee_cst {v : V} (he : PE X e (tC v)) (h : P v S) : EE X σ S e P := fun H s Q q => he_of he (q v S H (Gr.refl s) h)
theorem ee_int {n} : EE X σ S (.Constant (.int i) n pos) (Dt X.K (.int i)) := ee_cst pe_int (.int i)
theorem ee_bl {n} : EE X σ S (.Constant (.bool k) n pos) (Dt X.K (.bool k)) := ee_cst pe_bl (.bl k)
theorem ee_non {n} : EE X σ S (.Constant .none n pos) (Dt X.K .none) := ee_cst pe_non .non
theorem ee_str {x n} : EE X σ S (.Constant (.str x) n pos) (Dt X.K (.str x)) := ee_cst pe_str (.str x)
theorem ee_glob {x : Str} {v : V} {u : Value} (hm : X.mg x = some u) (r : RelV v u) (h : P v S) (hg : Gl X x := by rfl) (hd : (x == ("__debug__" : Str)) = false := by decide) : EE X σ S (.Name x pos) P := ee_cst (pe_glob hg hm r hd) h
theorem ee_bltn {x : Str} {v : V} {u : Value} (hm : X.mg x = none) (hv : bootBuiltins x = some u) (r : RelV v u) (h : P v S) (hg : Gl X x := by rfl) (hn : x ≠ "__name__" := by decide) (hd : (x == ("__debug__" : Str)) = false := by decide) : EE X σ S (.Name x pos) P := ee_cst (pe_bltn hg hm hv r hn hd) h
theorem ee_globI {x : Str} {t : Tok} (hm : X.mg x = some (.int i t)) (hg : Gl X x := by rfl) (hd : (x == ("__debug__" : Str)) = false := by decide) : EE X σ S (.Name x pos) (Dt X.K (.int i)) := ee_glob (v := .int i) hm ⟨t, rfl⟩ (.int i) hg hd
/-- what a two-place operation gives -/
def OpE (r : R2) (S : Hp) (Pa Pb R : V → Hp → Prop) : Prop := ∀ x y S1 H1, Same S S1 → Same S1 H1 → Pa x S1 → Pb y S1 → ∀ Q : VK, (∀ v S2 H2, Gr S1 H1 S2 H2 → R v S2 → Q v H2) → r x y H1 Q
theorem ee_2 {t : R2} [Mn Pa] [Mn Pb] (hp : PE X e (tOp t (bE X a) (bE X b))) (ha : EE X σ S a Pa) (hb : EE X σ S b Pb) (hr : OpE t S Pa Pb R) : EE X σ S e R := fun H s Q q =>
  he_of hp (ha H s _ fun x S1 H1 g1 px => (hb.up g1.st) H1 g1.sub _ fun y S2 H2 g2 py => hr x y S2 H2 (g1.st.trans g2.st) g2.sub (Mn.up g2.st px) py Q fun v S3 H3 g3 rv => q v S3 H3 ((g1.trans g2).trans g3) rv)
theorem ee_op {op : Operator} {t : R2} [Mn Pa] [Mn Pb] (ho : OpR X (binaryOp op) t) (ha : EE X σ S a Pa) (hb : EE X σ S b Pb) (hr : OpE t S Pa Pb R) : EE X σ S (.BinOp a op b pos) R := ee_2 (pe_op ho peb peb) ha hb hr
theorem ee_cmp {op : CmpOp} {t : R2} [Mn Pa] [Mn Pb] (ho : OpR X (compareOp op) t) (ha : EE X σ S a Pa) (hb : EE X σ S b Pb) (hr : OpE t S Pa Pb R) (hm : behindInMarks op b = false) : EE X σ S (.Compare a [op] [b] pos) R := ee_2 (pe_cmpR ho peb peb hm) ha hb hr
theorem opE_I0 {K : PySem.W.Frag} {g : Int → Int → V} {d : PyData} (h : ∀ S, Dt K d (g i j) S) : OpE (rI0 g) S (Dt K (.int i)) (Dt K (.int j)) (Dt K d) := fun x y S1 H1 _ s px py Q q => by
  cases px; cases py
  exact ⟨i, j, rfl, rfl, q _ S1 H1 (Gr.refl s) (h S1)⟩
theorem opE_I {K : PySem.W.Frag} {C : Int → Int → Prop} {g : Int → Int → V} {d : PyData} (hc : C i j) (h : ∀ S, Dt K d (g i j) S) : OpE (rI C g) S (Dt K (.int i)) (Dt K (.int j)) (Dt K d) := fun x y S1 H1 _ s px py Q q => by
  cases px; cases py
  exact ⟨i, j, rfl, rfl, hc, q _ S1 H1 (Gr.refl s) (h S1)⟩
theorem ee_add (ha : EE X σ S a (Dt X.K (.int i))) (hb : EE X σ S b (Dt X.K (.int j))) : EE X σ S (.BinOp a .Add b pos) (Dt X.K (.int (i + j))) := ee_op op_add ha hb (opE_I0 fun _ => .int _)
theorem ee_sub (ha : EE X σ S a (Dt X.K (.int i))) (hb : EE X σ S b (Dt X.K (.int j))) : EE X σ S (.BinOp a .Sub b pos) (Dt X.K (.int (i - j))) := ee_op op_sub ha hb (opE_I0 fun _ => .int _)
theorem ee_mul (hc : CMulX i j) (ha : EE X σ S a (Dt X.K (.int i))) (hb : EE X σ S b (Dt X.K (.int j))) : EE X σ S (.BinOp a .Mult b pos) (Dt X.K (.int (i * j))) := ee_op op_mulX ha hb (opE_I hc fun _ => .int _)
theorem ee_fdiv (hc : CDivW i j) (ha : EE X σ S a (Dt X.K (.int i))) (hb : EE X σ S b (Dt X.K (.int j))) : EE X σ S (.BinOp a .FloorDiv b pos) (Dt X.K (.int (i / j))) := ee_op op_fdivW ha hb (opE_I hc fun _ => .int _)
theorem ee_mod (hc : 0 < j) (ha : EE X σ S a (Dt X.K (.int i))) (hb : EE X σ S b (Dt X.K (.int j))) : EE X σ S (.BinOp a .Mod b pos) (Dt X.K (.int (i % j))) := ee_op op_mod ha hb (opE_I hc fun _ => .int _)
theorem ee_pow (hc : CPow i j) (ha : EE X σ S a (Dt X.K (.int i))) (hb : EE X σ S b (Dt X.K (.int j))) : EE X σ S (.BinOp a .Pow b pos) (Dt X.K (.int (i ^ j.toNat))) := ee_op op_pow ha hb (opE_I hc fun _ => .int _)
theorem ee_le (ha : EE X σ S a (Dt X.K (.int i))) (hb : EE X σ S b (Dt X.K (.int j))) : EE X σ S (.Compare a [.LtE] [b] pos) (Dt X.K (.bool (decide (i ≤ j)))) := ee_cmp op_le ha hb (opE_I0 fun _ => .bl _) (nomark _)
theorem ee_gt (ha : EE X σ S a (Dt X.K (.int i))) (hb : EE X σ S b (Dt X.K (.int j))) : EE X σ S (.Compare a [.Gt] [b] pos) (Dt X.K (.bool (decide (j < i)))) := ee_cmp op_gt ha hb (opE_I0 fun _ => .bl _) (nomark _)
theorem ee_ge (ha : EE X σ S a (Dt X.K (.int i))) (hb : EE X σ S b (Dt X.K (.int j))) : EE X σ S (.Compare a [.GtE] [b] pos) (Dt X.K (.bool (decide (j ≤ i)))) := ee_cmp op_ge ha hb (opE_I0 fun _ => .bl _) (nomark _)
/-- == and != of data -/
theorem ee_eq {u : Nat} (hr : Room u X.A) (h1 : SeqAt.shaped d1 = true) (h2 : SeqAt.shaped d2 = true) (ha : EE X σ S a (Dt X.K d1)) (hb : EE X σ S b (Dt X.K d2)) : EE X σ S (.Compare a [.Eq] [b] pos) (Dt X.K (.bool (PyData.eqv d1 d2))) :=
  ee_cmp (op_eqD hr.units) ha hb (fun x y S1 H1 _ s px py Q q => ⟨d1, d2, (px.up s).dp, (py.up s).dp, h1, h2, q _ S1 H1 (Gr.refl s) (.bl _)⟩) (nomark _)
/-- == of two ints, of two texts -/
theorem ee_eqI (ha : EE X σ S a (Dt X.K (.int i))) (hb : EE X σ S b (Dt X.K (.int j))) : EE X σ S (.Compare a [.Eq] [b] pos) (Dt X.K (.bool (decide (i = j)))) :=
  ee_cmp op_eq ha hb (fun x y S1 H1 _ s px py Q q => by
    cases px; cases py
    refine ⟨rfl, ?_⟩
    have e : decide (V.int i = V.int j) = decide (i = j) := by simp
    rw [e]
    exact q _ S1 H1 (Gr.refl s) (.bl _)) (nomark _)
theorem ee_eqS {x y : Str} (ha : EE X σ S a (Dt X.K (.str x))) (hb : EE X σ S b (Dt X.K (.str y))) : EE X σ S (.Compare a [.Eq] [b] pos) (Dt X.K (.bool (decide (x = y)))) :=
  ee_cmp op_eq ha hb (fun v w S1 H1 _ s px py Q q => by
    cases px; cases py
    refine ⟨rfl, ?_⟩
    have e : decide (V.str x = V.str y) = decide (x = y) := by simp
    rw [e]
    exact q _ S1 H1 (Gr.refl s) (.bl _)) (nomark _)
/-- x is None -/
theorem ee_isN {v : V} (ha : EE X σ S a (fun w _ => w = v)) {n p2} : EE X σ S (.Compare a [.Is] [.Constant .none n p2] pos) (Dt X.K (.bool (decide (v = .non)))) := by
  haveI : Mn (fun (w : V) (_ : Hp) => w = v) := ⟨fun _ h => h⟩
  exact ee_cmp op_isN ha (ee_non (n := n) (pos := p2)) (fun x y S1 H1 _ s px py Q q => by
    cases py
    subst px
    exact ⟨rfl, q _ S1 H1 (Gr.refl s) (.bl _)⟩) (nomark _)
theorem ee_neg (ha : EE X σ S a (Dt X.K (.int i))) : EE X σ S (.UnaryOp .USub a pos) (Dt X.K (.int (-i))) := fun H s Q q =>
  he_of (pe_un un_neg peb) (ha H s _ fun x S1 H1 g1 px => by cases px; exact ⟨i, rfl, q _ S1 H1 g1 (.int _)⟩)
/-! ### and, or, not, if -/
theorem ee_not (ha : EE X σ S a (Dt X.K (.bool k))) : EE X σ S (.UnaryOp .Not a pos) (Dt X.K (.bool (!k))) := fun H s Q q =>
  he_of (pe_not peb) (ha H s _ fun x S1 H1 g1 px => by cases px; exact ⟨k, rfl, q _ S1 H1 g1 (.bl _)⟩)
theorem ee_one {op} (ha : EE X σ S a P) : EE X σ S (.BoolOp op [a] pos) P := fun H s Q q => he_of (pe_one peb) (ha H s Q q)
theorem ee_and {rest : List Expr} (ha : EE X σ S a (Dt X.K (.bool k1))) (hb : k1 = true → EE X σ S (.BoolOp .And (b :: rest) pos) (Dt X.K (.bool k2))) : EE X σ S (.BoolOp .And (a :: b :: rest) pos) (Dt X.K (.bool (k1 && k2))) := fun H s Q q =>
  he_of (pe_and peb peb) (ha H s _ fun x S1 H1 g1 px => by
    cases px
    refine ⟨k1, rfl, ?_⟩
    cases k1 with
    | false => exact iteF (q _ S1 H1 g1 (.bl _))
    | true => exact iteT (((hb rfl).up g1.st) H1 g1.sub _ fun y S2 H2 g2 py => q y S2 H2 (g1.trans g2) py))
/-- tests -/
theorem et_val (ha : EE X σ S e (Dt X.K (.bool k))) (he : ∀ whole, isTrue e X.env whole = (do let v ← whole; standAt e.pos; holding [v] (truthy v)) := by intro _; rfl) : ET X σ S e k := fun H s Q q =>
  ht_of (pt_val peb he) (ha H s _ fun x S1 H1 g1 px => by cases px; exact ⟨k, rfl, q S1 H1 g1⟩)
theorem et_cmp {op : CmpOp} {t : R2} [Mn Pa] [Mn Pb] (ho : OpR X (compareOp op) t) (ha : EE X σ S a Pa) (hb : EE X σ S b Pb) (hr : OpE t S Pa Pb (Dt X.K (.bool k))) (hm : behindInMarks op b = false) : ET X σ S (.Compare a [op] [b] pos) k := fun H s Q q =>
  ht_of (pt_cmpR ho peb peb hm) (ha H s _ fun x S1 H1 g1 px => (hb.up g1.st) H1 g1.sub _ fun y S2 H2 g2 py => hr x y S2 H2 (g1.st.trans g2.st) g2.sub (Mn.up g2.st px) py _ fun v S3 H3 g3 rv => by
    cases rv; exact ⟨k, rfl, q S3 H3 ((g1.trans g2).trans g3)⟩)
theorem et_lt (ha : EE X σ S a (Dt X.K (.int i))) (hb : EE X σ S b (Dt X.K (.int j))) : ET X σ S (.Compare a [.Lt] [b] pos) (decide (i < j)) := et_cmp op_lt ha hb (opE_I0 fun _ => .bl _) (nomark _)
theorem et_gt (ha : EE X σ S a (Dt X.K (.int i))) (hb : EE X σ S b (Dt X.K (.int j))) : ET X σ S (.Compare a [.Gt] [b] pos) (decide (j < i)) := et_cmp op_gt ha hb (opE_I0 fun _ => .bl _) (nomark _)
theorem et_ge (ha : EE X σ S a (Dt X.K (.int i))) (hb : EE X σ S b (Dt X.K (.int j))) : ET X σ S (.Compare a [.GtE] [b] pos) (decide (j ≤ i)) := et_cmp op_ge ha hb (opE_I0 fun _ => .bl _) (nomark _)
theorem et_eqI (ha : EE X σ S a (Dt X.K (.int i))) (hb : EE X σ S b (Dt X.K (.int j))) : ET X σ S (.Compare a [.Eq] [b] pos) (decide (i = j)) :=
  et_cmp op_eq ha hb (fun x y S1 H1 _ s px py Q q => by
    cases px; cases py
    refine ⟨rfl, ?_⟩
    have e : decide (V.int i = V.int j) = decide (i = j) := by simp
    rw [e]
    exact q _ S1 H1 (Gr.refl s) (.bl _)) (nomark _)
theorem et_neI (ha : EE X σ S a (Dt X.K (.int i))) (hb : EE X σ S b (Dt X.K (.int j))) : ET X σ S (.Compare a [.NotEq] [b] pos) (!decide (i = j)) :=
  et_cmp op_ne ha hb (fun x y S1 H1 _ s px py Q q => by
    cases px; cases py
    refine ⟨rfl, ?_⟩
    have e : decide (V.int i = V.int j) = decide (i = j) := by simp
    rw [e]
    exact q _ S1 H1 (Gr.refl s) (.bl _)) (nomark _)
theorem et_ne {u : Nat} (hr : Room u X.A) (h1 : SeqAt.shaped d1 = true) (h2 : SeqAt.shaped d2 = true) (ha : EE X σ S a (Dt X.K d1)) (hb : EE X σ S b (Dt X.K d2)) : ET X σ S (.Compare a [.NotEq] [b] pos) (!PyData.eqv d1 d2) :=
  et_cmp (op_neD hr.units) ha hb (fun x y S1 H1 _ s px py Q q => ⟨d1, d2, (px.up s).dp, (py.up s).dp, h1, h2, q _ S1 H1 (Gr.refl s) (.bl _)⟩) (nomark _)
theorem et_not (ha : ET X σ S a k) : ET X σ S (.UnaryOp .Not a pos) (!k) := fun H s Q q => ht_of (pt_not ptb) (ha H s _ fun S1 H1 g1 => q S1 H1 g1)
theorem et_w (ha : EW X σ S a k) : ET X σ S a k := fun H s Q q => ht_of (PW.pt pwb) (ha H s Q q)
theorem ew_and1 (ha : ET X σ S a k) : EW X σ S (.BoolOp .And [a] pos) k := fun H s Q q => hw_of (pw_and1 ptb) (ha H s Q q)
theorem ew_or1 (ha : ET X σ S a k) : EW X σ S (.BoolOp .Or [a] pos) k := fun H s Q q => hw_of (pw_or1 ptb) (ha H s Q q)
theorem ew_and {rest : List Expr} (ha : ET X σ S a k1) (hb : k1 = true → EW X σ S (.BoolOp .And (b :: rest) pos) k2) : EW X σ S (.BoolOp .And (a :: b :: rest) pos) (k1 && k2) := fun H s Q q =>
  hw_of (pw_and ptb pwb) (ha H s _ fun S1 H1 g1 => by
    cases k1 with
    | false => exact iteF (q S1 H1 g1)
    | true => exact iteT (((hb rfl).up g1.st) H1 g1.sub _ fun S2 H2 g2 => q S2 H2 (g1.trans g2)))
theorem ew_or {rest : List Expr} (ha : ET X σ S a k1) (hb : k1 = false → EW X σ S (.BoolOp .Or (b :: rest) pos) k2) : EW X σ S (.BoolOp .Or (a :: b :: rest) pos) (k1 || k2) := fun H s Q q =>
  hw_of (pw_or ptb pwb) (ha H s _ fun S1 H1 g1 => by
    cases k1 with
    | true => exact iteT (q S1 H1 g1)
    | false => exact iteF (((hb rfl).up g1.st) H1 g1.sub _ fun S2 H2 g2 => q S2 H2 (g1.trans g2)))
theorem ee_if {Q' : V → Hp → Prop} [Mn Q'] (hc : ET X σ S c k) (ha : k = true → EE X σ S a Q') (hb : k = false → EE X σ S b Q') : EE X σ S (.IfExp c a b pos) Q' := fun H s Q q =>
  he_of (pe_ifExp ptb peb peb) (hc H s _ fun S1 H1 g1 => by
    cases k with
    | false => exact iteF (((hb rfl).up g1.st) H1 g1.sub _ fun y S2 H2 g2 py => q y S2 H2 (g1.trans g2) py)
    | true => exact iteT (((ha rfl).up g1.st) H1 g1.sub _ fun y S2 H2 g2 py => q y S2 H2 (g1.trans g2) py))
/-- truth of a value -/
def truD : PyData → Bool
  | .none => false
  | .bool b => b
  | .int i => i != 0
  | .str x => (x.length : Int) != 0
  | .list xs => !xs.isEmpty
  | .tuple xs => !xs.isEmpty
  | .dict kvs => !kvs.isEmpty
theorem isEmpty_len {α β : Type} {xs : List α} {ys : List β} (h : xs.length = ys.length) : xs.isEmpty = ys.isEmpty := by
  cases xs <;> cases ys <;> simp_all
theorem truV_of {K : PySem.W.Frag} {v : V} {H : Hp} (h : Dt K d v H) (hs : ∀ x, d = .str x → x.length ≤ sizeLine) : TruV K v H (truD d) := by
  cases h with
  | non => rfl
  | bl b => rfl
  | int i => rfl
  | str x => exact ⟨hs x rfl, rfl⟩
  | lst h l z f => exact .inl ⟨_, sql_of h, by show (!_) = _; rw [isEmpty_len l]⟩
  | tup h l z f => exact .inr (.inl ⟨_, h.sq, by show (!_) = _; rw [isEmpty_len l]⟩)
theorem et_tru (ha : EE X σ S a (Dt X.K d)) (hs : ∀ x, d = .str x → x.length ≤ sizeLine) (he : ∀ whole, isTrue a X.env whole = (do let v ← whole; standAt a.pos; holding [v] (truthy v)) := by intro _; rfl) : ET X σ S a (truD d) := fun H s Q q =>
  ht_of (pt_truth peb he) (ha H s _ fun x S1 H1 g1 px => ⟨_, truV_of (px.up g1.sub) hs, q S1 H1 g1⟩)
/-! ### displays -/
theorem ee_tupA {es : List Expr} {x1} {vsP : List V → Hp → Prop} (h : ∀ H, Same S H → ∀ Q : List V → Hp → Prop, (∀ vs S' H', Gr S H S' H' → vsP vs S' → Q vs H') → HA X es σ H Q) (hz : ∀ vs S', vsP vs S' → vs.length ≤ sizeLine)
    (hR : ∀ vs S' p, Same S S' → S' p = none → vsP vs S' → R (.ref p) (upd S' p (.tup vs))) : EE X σ S (.Tuple es x1 pos) R := fun H s Q q =>
  he_of (pe_tup pab) (h H s _ fun vs S1 H1 g1 al => ⟨hz vs S1 al, fun p hp => q _ _ _ (g1.trans (Gr.new g1.sub hp)) (hR vs S1 p g1.st (g1.sub.free hp) al)⟩)
theorem ee_lstA {es : List Expr} {vsP : List V → Hp → Prop} (h : ∀ H, Same S H → ∀ Q : List V → Hp → Prop, (∀ vs S' H', Gr S H S' H' → vsP vs S' → Q vs H') → HA X es σ H Q) (hz : ∀ vs S', vsP vs S' → vs.length ≤ sizeLine)
    (hR : ∀ vs S' p, Same S S' → S' p = none → vsP vs S' → R (.ref p) (upd S' p (.lst vs))) : EE X σ S (.List es pos) R := fun H s Q q =>
  he_of (pe_lst pab) (h H s _ fun vs S1 H1 g1 al => ⟨hz vs S1 al, fun p hp => q _ _ _ (g1.trans (Gr.new g1.sub hp)) (hR vs S1 p g1.st (g1.sub.free hp) al)⟩)
def Ds (K : PySem.W.Frag) (ds : List PyData) : List (V → Hp → Prop) := ds.map (Dt K)
theorem al_dts {K : PySem.W.Frag} : ∀ {ds : List PyData} {vs : List V} {H : Hp}, Al (Ds K ds) vs H → Dts K ds vs H
  | [], _, _, h => by cases h; exact .nil
  | d :: ds, _, _, h => by cases h with
    | cons p r => exact .cons p (al_dts r)
theorem dts_al {K : PySem.W.Frag} : ∀ {ds : List PyData} {vs : List V} {H : Hp}, Dts K ds vs H → Al (Ds K ds) vs H
  | [], [], _, h => .nil
  | [], _ :: _, _, h => by have := h.1; simp at this
  | _ :: _, [], _, h => by have := h.1; simp at this
  | d :: ds, v :: vs, _, h => .cons (h.2 0 v d rfl rfl) (dts_al ⟨by have := h.1; simpa using this, fun i x d hx hd => h.2 (i + 1) x d (by simpa using hx) (by simpa using hd)⟩)
theorem ee_tup {es : List Expr} {x1} {ds : List PyData} (h : EA X σ S es (Ds X.K ds)) (hz : ds.length ≤ sizeLine := by show _ ≤ 16777216; exact Nat.le_of_ble_eq_true rfl) : EE X σ S (.Tuple es x1 pos) (Dt X.K (.tuple ds)) :=
  ee_tupA (vsP := Al (Ds X.K ds)) h.2 (fun vs S' al => by rw [(al_dts al).1]; exact hz) fun vs S' p _ hp al => Dt.tup_mk (tus_of upd_same) ((al_dts al).up (Same.new hp)) (by rw [(al_dts al).1]; exact hz)
theorem ee_lst {es : List Expr} {ds : List PyData} (h : EA X σ S es (Ds X.K ds)) (hz : ds.length ≤ sizeLine := by show _ ≤ 16777216; exact Nat.le_of_ble_eq_true rfl) : EE X σ S (.List es pos) (Dt X.K (.list ds)) :=
  ee_lstA (vsP := Al (Ds X.K ds)) h.2 (fun vs S' al => by rw [(al_dts al).1]; exact hz) fun vs S' p _ hp al => Dt.lst_mk upd_same ((al_dts al).up (Same.new hp)) (by rw [(al_dts al).1]; exact hz)
end
end Z
namespace Z
open PySem PySem.Spec PyProof.Rows L2
/-! ## 7. calls of built-ins, sequences -/
theorem dts_int {K : PySem.W.Frag} : ∀ {ns : List Int} {xs : List V} {H : Hp}, Dts K (ns.map PyData.int) xs H → xs = ns.map V.int
  | [], [], _, _ => rfl
  | [], _ :: _, _, h => by have := h.1; simp at this
  | _ :: _, [], _, h => by have := h.1; simp at this
  | n :: ns, x :: xs, _, h => by
    have e1 := (h.2 0 x (.int n) rfl rfl).int_inv
    have e2 := dts_int (ns := ns) (xs := xs) ⟨by have := h.1; simpa using this, fun i y d hy hd => h.2 (i + 1) y d (by simpa using hy) (by simpa using hd)⟩
    rw [e1, e2]; rfl
theorem dts_bl {K : PySem.W.Frag} : ∀ {ns : List Bool} {xs : List V} {H : Hp}, Dts K (ns.map PyData.bool) xs H → xs = ns.map V.bl
  | [], [], _, _ => rfl
  | [], _ :: _, _, h => by have := h.1; simp at this
  | _ :: _, [], _, h => by have := h.1; simp at this
  | n :: ns, x :: xs, _, h => by
    have e1 := (h.2 0 x (.bool n) rfl rfl).bl_inv
    have e2 := dts_bl (ns := ns) (xs := xs) ⟨by have := h.1; simpa using this, fun i y d hy hd => h.2 (i + 1) y d (by simpa using hy) (by simpa using hd)⟩
    rw [e1, e2]; rfl
theorem dts_str {K : PySem.W.Frag} : ∀ {ns : List Str} {xs : List V} {H : Hp}, Dts K (ns.map PyData.str) xs H → xs = ns.map V.str
  | [], [], _, _ => rfl
  | [], _ :: _, _, h => by have := h.1; simp at this
  | _ :: _, [], _, h => by have := h.1; simp at this
  | n :: ns, x :: xs, _, h => by
    have e1 := (h.2 0 x (.str n) rfl rfl).str_inv
    have e2 := dts_str (ns := ns) (xs := xs) ⟨by have := h.1; simpa using this, fun i y d hy hd => h.2 (i + 1) y d (by simpa using hy) (by simpa using hd)⟩
    rw [e1, e2]; rfl
theorem int_dts {K : PySem.W.Frag} (ns : List Int) (H : Hp) : Dts K (ns.map PyData.int) (ns.map V.int) H := by
  refine ⟨by simp, fun i x d hx hd => ?_⟩
  rw [List.getElem?_map] at hx hd
  cases e : ns[i]? with
  | none => rw [e] at hx; cases hx
  | some n => rw [e] at hx hd; cases hx; cases hd; exact .int n
def tyN : PyData → String
  | .none => "NoneType"
  | .bool _ => "bool"
  | .int _ => "int"
  | .str _ => "str"
  | .list _ => "list"
  | .tuple _ => "tuple"
  | .dict _ => "dict"
theorem tyX_of {K : PySem.W.Frag} {d : PyData} {v : V} {S H : Hp} (h : Dt K d v S) (s : Same S H) : TyX K H v (.type (tyN d)) := by
  cases h with
  | non => exact .base .non
  | bl b => exact .base (.bl b)
  | int i => exact .base (.int i)
  | str x => exact .base (.str x)
  | lst h l z f => exact .base (.lst (s _ _ h))
  | tup h l z f =>
    have h := h.sq
    rcases h with (h | ⟨o, h⟩) | ⟨o, its, n, h, c, _⟩
    · exact .base (.tup (s _ _ h))
    · exact .fTuple (s _ _ h)
    · exact .kTuple h c
/-- what isinstance says of data -/
def isN (t T : String) : Bool := t == T || (t == "bool" && T == "int")
theorem kit_tab : (["NoneType", "bool", "int", "str", "list", "tuple", "dict"].all fun t => ["int", "bool", "str", "list", "tuple"].all fun T => decide (kitB t T = some (isN t T))) = true := by decide +kernel
def isD (d : PyData) (T : String) : Bool := isN (tyN d) T
theorem isD_ok (d : PyData) {T : String} (hT : T ∈ ["int", "bool", "str", "list", "tuple"]) : kitB (tyN d) T = some (isD d T) := by
  have h := List.all_eq_true.mp (List.all_eq_true.mp kit_tab (tyN d) (by cases d <;> simp [tyN])) T hT
  exact of_decide_eq_true h
theorem isDi (d : PyData) : isD d "int" = (match d with | .int _ => true | .bool _ => true | _ => false) := by cases d <;> rfl
theorem isDb (d : PyData) : isD d "bool" = (match d with | .bool _ => true | _ => false) := by cases d <;> rfl
theorem isDs (d : PyData) : isD d "str" = (match d with | .str _ => true | _ => false) := by cases d <;> rfl
theorem isDt (d : PyData) : isD d "tuple" = (match d with | .tuple _ => true | _ => false) := by cases d <;> rfl
section
variable {X : Cx} {σ : L2.St} {S S' : Hp} {e a b c : Expr} {es : List Expr} {P Pa Pb R : V → Hp → Prop} {Ps : List (V → Hp → Prop)} {pos p : Pos} {i j : Int} {d d1 d2 : PyData} {ds ds1 ds2 : List PyData} {k : Bool} {x : Str} {id T : String}
def ClE (r : List V → Hp → VK → Prop) (S : Hp) (Ps : List (V → Hp → Prop)) (R : V → Hp → Prop) : Prop := ∀ vs S1 H1, Same S S1 → Same S1 H1 → Al Ps vs S1 → ∀ Q : VK, (∀ v S2 H2, Gr S1 H1 S2 H2 → R v S2 → Q v H2) → r vs H1 Q
theorem ee_callA {t : List V → Hp → VK → Prop} (hp : PE X e (tCB t (bA X es))) (ha : EA X σ S es Ps) (hr : ClE t S Ps R) : EE X σ S e R := fun H s Q q =>
  he_of hp (ha.2 H s _ fun vs S1 H1 g1 al => hr vs S1 H1 g1.st g1.sub al Q fun v S2 H2 g2 rv => q v S2 H2 (g1.trans g2) rv)
theorem ee_callB {t : List V → Hp → VK → Prop} (hc : CallR X (.builtin id) t) (hm : X.mg x = none) (hv : bootBuiltins x = some (.builtin id)) (ha : EA X σ S (e :: es) Ps) (hr : ClE t S Ps R) (hg : Gl X x := by rfl) (hn : x ≠ "__name__" := by decide) (hdb : (x == ("__debug__" : Str)) = false := by decide)
    (he : starEach (e :: es) X.env = (false, eval e X.env) :: starEach es X.env := by rfl) (hpl : (backTo pos (starEach es X.env)).any (·.1) = false := by rfl) : EE X σ S (.Call (.Name x p) (e :: es) [] pos) R :=
  ee_callA (pe_callB hc hg hm hv pab hn hdb he hpl) ha hr
theorem ee_callTy {t : List V → Hp → VK → Prop} (hc : CallR X (.type T) t) (hm : X.mg x = none) (hv : bootBuiltins x = some (.type T)) (ha : EA X σ S (e :: es) Ps) (hr : ClE t S Ps R) (hg : Gl X x := by rfl) (hn : x ≠ "__name__" := by decide) (hdb : (x == ("__debug__" : Str)) = false := by decide)
    (he : starEach (e :: es) X.env = (false, eval e X.env) :: starEach es X.env := by rfl) (hpl : (backTo pos (starEach es X.env)).any (·.1) = false := by rfl) : EE X σ S (.Call (.Name x p) (e :: es) [] pos) R :=
  ee_callA (pe_callTy hc hg hm hv pab hn hdb he hpl) ha hr
theorem ea_1 [Mn P] (h : EE X σ S e P) (hs : starEach [e] X.env = (false, eval e X.env) :: starEach [] X.env := by rfl) : EA X σ S [e] [P] := ea_cons h ea_nil hs
theorem ea_2 [Mn Pa] [Mn Pb] (h : EE X σ S a Pa) (h2 : EE X σ S b Pb) (hs : starEach [a, b] X.env = (false, eval a X.env) :: starEach [b] X.env := by rfl) (hs2 : starEach [b] X.env = (false, eval b X.env) :: starEach [] X.env := by rfl) : EA X σ S [a, b] [Pa, Pb] := ea_cons h (ea_cons h2 ea_nil hs2) hs
theorem Al.one {Pa : V → Hp → Prop} {vs : List V} {H : Hp} (h : Al [Pa] vs H) : ∃ v, vs = [v] ∧ Pa v H := by
  cases h with
  | cons p r => cases r; exact ⟨_, rfl, p⟩
theorem Al.two {Pa Pb : V → Hp → Prop} {vs : List V} {H : Hp} (h : Al [Pa, Pb] vs H) : ∃ v w, vs = [v, w] ∧ Pa v H ∧ Pb w H := by
  cases h with
  | cons p r => cases r with
    | cons p2 r2 => cases r2; exact ⟨_, _, rfl, p, p2⟩
theorem Al.three {Pa Pb Pc : V → Hp → Prop} {vs : List V} {H : Hp} (h : Al [Pa, Pb, Pc] vs H) : ∃ v w u, vs = [v, w, u] ∧ Pa v H ∧ Pb w H ∧ Pc u H := by
  cases h with
  | cons p r => obtain ⟨w, u, rfl, q1, q2⟩ := Al.two r; exact ⟨_, _, _, rfl, p, q1, q2⟩
theorem ee_isi {cn : Str} {T : String} (hk : kitB (tyN d) T = some k) (hm : X.mg "isinstance" = none) (hmT : X.mg cn = none) (hv : bootBuiltins cn = some (.type T)) (ha : EE X σ S a (Dt X.K d)) {p2 : Pos} (hg : Gl X "isinstance" := by rfl) (hgT : Gl X cn := by rfl) (hn : cn ≠ "__name__" := by decide) (hdb : (cn == ("__debug__" : Str)) = false := by decide)
    (hs : starEach [a, .Name cn p2] X.env = (false, eval a X.env) :: starEach [.Name cn p2] X.env := by rfl) : EE X σ S (.Call (.Name "isinstance" p) [a, .Name cn p2] [] pos) (Dt X.K (.bool k)) := by
  haveI : Mn (fun (w : V) (_ : Hp) => w = .ty T) := ⟨fun _ h => h⟩
  refine ee_callB call_isi hm boot_isinstance (ea_2 ha (ee_bltn (P := fun w _ => w = .ty T) (v := .ty T) (u := .type T) hmT hv rfl rfl hgT hn hdb) hs rfl) (fun vs S1 H1 _ s al Q q => ?_) hg (he := hs) (hpl := by rfl)
  obtain ⟨v, w, rfl, pv, pw⟩ := al.two
  subst pw
  exact ⟨v, .ty T, .type (tyN d), .type T, k, rfl, .ty T, tyX_of pv s, kit_ty hk, q _ S1 H1 (Gr.refl s) (.bl k)⟩
/-- len -/
def lenD : PyData → Option Nat
  | .str x => some x.length
  | .list xs => some xs.length
  | .tuple xs => some xs.length
  | _ => none
theorem ee_len {n : Nat} (hm : X.mg "len" = none) (hl : lenD d = some n) (ha : EE X σ S a (Dt X.K d)) (hz : ∀ x, d = .str x → x.length ≤ sizeLine := by intro _ h; cases h) (hg : Gl X "len" := by rfl)
    (hs : starEach [a] X.env = (false, eval a X.env) :: starEach [] X.env := by rfl) : EE X σ S (.Call (.Name "len" p) [a] [] pos) (Dt X.K (.int n)) :=
  ee_callB call_len hm boot_len (ea_1 ha hs) (fun vs S1 H1 _ s al Q q => by
    obtain ⟨v, rfl, pv⟩ := al.one
    refine ⟨v, n, rfl, ?_, q _ S1 H1 (Gr.refl s) (.int _)⟩
    cases pv with
    | non => cases hl
    | bl b => cases hl
    | int i => cases hl
    | str x => cases hl; exact ⟨hz x rfl, rfl⟩
    | lst h l z f => cases hl; exact .inl ⟨_, sql_of (s _ _ h), l.symm⟩
    | tup h l z f => cases hl; exact .inr ⟨_, sqt_up s h.sq, l.symm⟩) hg (he := hs) (hpl := by rfl)
theorem ee_tupleOf (hm : X.mg "tuple" = none) (ha : EE X σ S a (Dt X.K (.list ds))) (hg : Gl X "tuple" := by rfl)
    (hs : starEach [a] X.env = (false, eval a X.env) :: starEach [] X.env := by rfl) : EE X σ S (.Call (.Name "tuple" p) [a] [] pos) (Dt X.K (.tuple ds)) :=
  ee_callTy call_tuple_of hm boot_tuple (ea_1 ha hs) (fun vs S1 H1 _ s al Q q => by
    obtain ⟨v, rfl, pv⟩ := al.one
    obtain ⟨l, xs, rfl, hl, hx, z⟩ := pv.lst_inv
    exact ⟨l, xs, rfl, .inl ⟨sql_of (s _ _ hl), fun t ht => q _ _ _ (Gr.new s ht) (Dt.tup_mk (tus_of upd_same) (hx.up (Same.new (s.free ht))) z)⟩⟩) hg (he := hs) (hpl := by rfl)
theorem ee_sum {ns : List Int} (hc : X.calm = true) (hm : X.mg "sum" = none) (ha : EE X σ S a (Dt X.K (.list (ns.map .int)))) (hg : Gl X "sum" := by rfl)
    (hs : starEach [a] X.env = (false, eval a X.env) :: starEach [] X.env := by rfl) : EE X σ S (.Call (.Name "sum" p) [a] [] pos) (Dt X.K (.int ns.sum)) :=
  ee_callB (cr_sum hc) hm boot_sum (ea_1 ha hs) (fun vs S1 H1 _ s al Q q => by
    obtain ⟨v, rfl, pv⟩ := al.one
    obtain ⟨l, xs, rfl, hl, hx, z⟩ := pv.lst_inv
    rw [dts_int hx] at hl
    exact ⟨l, ns, rfl, sql_of (s _ _ hl), q _ S1 H1 (Gr.refl s) (.int _)⟩) hg (he := hs) (hpl := by rfl)
theorem ee_all {bs : List Bool} (hc : X.calm = true) (hm : X.mg "all" = none) (ha : EE X σ S a (Dt X.K (.list (bs.map .bool)))) (hg : Gl X "all" := by rfl)
    (hs : starEach [a] X.env = (false, eval a X.env) :: starEach [] X.env := by rfl) : EE X σ S (.Call (.Name "all" p) [a] [] pos) (Dt X.K (.bool (bs.all fun b => b))) :=
  ee_callB (cr_all hc) hm boot_all (ea_1 ha hs) (fun vs S1 H1 _ s al Q q => by
    obtain ⟨v, rfl, pv⟩ := al.one
    obtain ⟨l, xs, rfl, hl, hx, z⟩ := pv.lst_inv
    rw [dts_bl hx] at hl
    exact ⟨l, bs, rfl, sql_of (s _ _ hl), q _ S1 H1 (Gr.refl s) (.bl _)⟩) hg (he := hs) (hpl := by rfl)
theorem ee_any {bs : List Bool} (hc : X.calm = true) (hm : X.mg "any" = none) (ha : EE X σ S a (Dt X.K (.list (bs.map .bool)))) (hg : Gl X "any" := by rfl)
    (hs : starEach [a] X.env = (false, eval a X.env) :: starEach [] X.env := by rfl) : EE X σ S (.Call (.Name "any" p) [a] [] pos) (Dt X.K (.bool (bs.any fun b => b))) :=
  ee_callB (cr_any hc) hm boot_any (ea_1 ha hs) (fun vs S1 H1 _ s al Q q => by
    obtain ⟨v, rfl, pv⟩ := al.one
    obtain ⟨l, xs, rfl, hl, hx, z⟩ := pv.lst_inv
    rw [dts_bl hx] at hl
    exact ⟨l, bs, rfl, sql_of (s _ _ hl), q _ S1 H1 (Gr.refl s) (.bl _)⟩) hg (he := hs) (hpl := by rfl)
theorem ee_intOf (hm : X.mg "int" = none) (ha : EE X σ S a (Dt X.K (.int i))) (hg : Gl X "int" := by rfl)
    (hs : starEach [a] X.env = (false, eval a X.env) :: starEach [] X.env := by rfl) : EE X σ S (.Call (.Name "int" p) [a] [] pos) (Dt X.K (.int i)) :=
  ee_callTy call_int1 hm boot_int (ea_1 ha hs) (fun vs S1 H1 _ s al Q q => by
    obtain ⟨v, rfl, pv⟩ := al.one
    cases pv
    exact .inl ⟨i, rfl, q _ S1 H1 (Gr.refl s) (.int _)⟩) hg (he := hs) (hpl := by rfl)
/-! ### subscripts -/
theorem atI_dts {K : PySem.W.Frag} {xs : List V} {H : Hp} (h : Dts K ds xs H) (e : atI ds i = some d) : ∃ x, atI xs i = some x ∧ Dt K d x H := by
  unfold atI at e ⊢
  rw [h.1]
  cases q : ixN ds.length i with
  | none => rw [q] at e; cases e
  | some k =>
    rw [q] at e
    exact h.get (i := k) e
theorem ee_ixL (he : atI ds i = some d) (ha : EE X σ S a (Dt X.K (.list ds))) (hb : EE X σ S b (Dt X.K (.int i))) (hs : PlainIx b := by exact fun _ _ => rfl) : EE X σ S (.Subscript a b pos) (Dt X.K d) :=
  ee_2 (pe_ix ix_list peb peb hs) ha hb fun x y S1 H1 _ s px py Q q => by
    cases py
    obtain ⟨l, xs, rfl, hl, hx, z⟩ := px.lst_inv
    obtain ⟨x, h1, h2⟩ := atI_dts hx he
    exact ⟨l, xs, i, x, rfl, rfl, sql_of (s _ _ hl), h1, q _ S1 H1 (Gr.refl s) h2⟩
theorem ee_ixT (he : atI ds i = some d) (ha : EE X σ S a (Dt X.K (.tuple ds))) (hb : EE X σ S b (Dt X.K (.int i))) (hs : PlainIx b := by exact fun _ _ => rfl) : EE X σ S (.Subscript a b pos) (Dt X.K d) :=
  ee_2 (pe_ix ix_tup peb peb hs) ha hb fun x y S1 H1 _ s px py Q q => by
    cases py
    obtain ⟨l, xs, rfl, hl, hx, z⟩ := px.tup_inv
    obtain ⟨x, h1, h2⟩ := atI_dts hx he
    exact ⟨l, xs, i, x, rfl, rfl, sqt_up s hl, h1, q _ S1 H1 (Gr.refl s) h2⟩
theorem ee_ixS {z : Str} {c : Nat} (hz : z.length ≤ sizeLine) (he : atI z.cps.toList i = some c) (ha : EE X σ S a (Dt X.K (.str z))) (hb : EE X σ S b (Dt X.K (.int i))) (hs : PlainIx b := by exact fun _ _ => rfl) : EE X σ S (.Subscript a b pos) (Dt X.K (.str ⟨#[c]⟩)) :=
  ee_2 (pe_ix ix_str peb peb hs) ha hb fun x y S1 H1 _ s px py Q q => by
    cases px; cases py
    exact ⟨z, i, c, rfl, rfl, hz, he, q _ S1 H1 (Gr.refl s) (.str _)⟩
/-- slices -/
def EO (X : Cx) (σ : L2.St) (S : Hp) (e : Option Expr) (o : Option Int) : Prop := ∀ H, Same S H → ∀ Q : Option Int → Hp → Prop, (∀ S' H', Gr S H S' H' → Q o H') → ∃ t, PO X e t ∧ t σ H Q
def tOb (X : Cx) (e : Option Expr) : TO := fun σ H Q => ∃ t, PO X e t ∧ t σ H Q
theorem pob {e : Option Expr} : PO X e (tOb X e) := ⟨fun pins s σ H Q I ⟨t, ht, h⟩ => ht.run pins s σ H Q I h⟩
theorem eo_none : EO X σ S none none := fun H s Q q => ⟨_, po_none, q S H (Gr.refl s)⟩
theorem eo_some (h : EE X σ S e (Dt X.K (.int i))) : EO X σ S (some e) (some i) := fun H s Q q => ⟨_, po_some peb, h H s _ fun v S1 H1 g1 pv => by cases pv; exact ⟨i, rfl, q S1 H1 g1⟩⟩
theorem EO.up {o : Option Int} {oe : Option Expr} (s : Same S S') (h : EO X σ S oe o) : EO X σ S' oe o := fun H a Q q => h H (s.trans a) Q fun S2 H2 g => q (uniS S2 S') H2 (g.uni s a)
def cutD {α : Type} (xs : List α) (lo hi : Option Int) : List α := (xs.drop (HT.sIx xs.length 0 lo)).take (HT.sIx xs.length xs.length hi - HT.sIx xs.length 0 lo)
theorem cut_dts {K : PySem.W.Frag} {xs : List V} {H : Hp} {lo hi : Option Int} (h : Dts K ds xs H) : Dts K (cutD ds lo hi) (cutV xs lo hi) H := by
  unfold cutD cutV
  rw [h.1]
  refine ⟨by simp [List.length_take, List.length_drop, h.1], fun i x d hx hd => ?_⟩
  rw [List.getElem?_take] at hx hd
  split at hx
  · rename_i hlt
    rw [if_pos hlt, List.getElem?_drop] at hd
    rw [List.getElem?_drop] at hx
    exact h.2 _ x d hx hd
  · cases hx
theorem ee_slL {lo hi : Option Expr} {l u : Option Int} {p2 : Pos} (ha : EE X σ S a (Dt X.K (.list ds))) (hl : EO X σ S lo l) (hu : EO X σ S hi u) : EE X σ S (.Subscript a (.Slice lo hi none p2) pos) (Dt X.K (.list (cutD ds l u))) := fun H s Q q =>
  he_of (pe_slice sl_list peb pob pob) (ha H s _ fun v S1 H1 g1 pv => (hl.up g1.st) H1 g1.sub _ fun S2 H2 g2 => (hu.up (g1.st.trans g2.st)) H2 g2.sub _ fun S3 H3 g3 => by
    obtain ⟨l, xs, rfl, hl, hx, z⟩ := ((pv.up g2.st).up g3.st).lst_inv
    exact ⟨l, xs, rfl, sql_of (g3.sub _ _ hl), fun t ht => q _ _ _ (((g1.trans g2).trans g3).trans (Gr.new g3.sub ht)) (Dt.lst_mk upd_same ((cut_dts hx).up (Same.new (g3.sub.free ht))) (Nat.le_trans (cutV_length _ _ _) z))⟩)
/-! ### + and * of sequences -/
theorem ee_catL (hz : ds1.length + ds2.length ≤ sizeLine) (ha : EE X σ S a (Dt X.K (.list ds1))) (hb : EE X σ S b (Dt X.K (.list ds2))) : EE X σ S (.BinOp a .Add b pos) (Dt X.K (.list (ds1 ++ ds2))) :=
  ee_op op_cat ha hb fun x y S1 H1 _ s px py Q q => by
    obtain ⟨l, xs, rfl, hl, hx, _⟩ := px.lst_inv
    obtain ⟨m, ys, rfl, hm, hy, _⟩ := py.lst_inv
    have hz' : xs.length + ys.length ≤ sizeLine := by rw [hx.1, hy.1]; exact hz
    exact ⟨l, m, xs, ys, rfl, rfl, s _ _ hl, s _ _ hm, hz', fun t ht => q _ _ _ (Gr.new s ht) (Dt.lst_mk upd_same ((hx.append hy).up (Same.new (s.free ht))) (by rw [List.length_append]; exact hz'))⟩
theorem flat_dts {K : PySem.W.Frag} {xs : List V} {H : Hp} (f : List.replicate 0 d = []) (h : Dts K ds xs H) : ∀ (n : Nat), Dts K (List.replicate n ds).flatten (List.replicate n xs).flatten H
  | 0 => .nil
  | n + 1 => by
    rw [List.replicate_succ, List.flatten_cons, List.replicate_succ, List.flatten_cons]
    exact h.append (flat_dts f h n)
theorem flatten_len {α : Type} (xs : List α) : ∀ n : Nat, (List.replicate n xs).flatten.length = xs.length * n
  | 0 => by simp
  | n + 1 => by rw [List.replicate_succ, List.flatten_cons, List.length_append, flatten_len xs n, Nat.mul_succ]; omega
end
end Z
namespace Z
open PySem PySem.Spec PyProof.Rows L2
/-! ## 8. what is walked -/
/-- an iterator that gives, one by one, values that have the Ps; while B stands -/
def ItP (J : It) (B : Hp) (Ps : List (V → Hp → Prop)) : Prop := Walk J Ps.length (fun H => Same B H) (fun i H x H' => ∀ S, Same B S → Same S H → ∃ S', Gr S H S' H' ∧ ∃ P, Ps[i]? = some P ∧ P x S')
def EI (X : Cx) (σ : L2.St) (S : Hp) (tg iter : Expr) (Ps : List (V → Hp → Prop)) : Prop := ∀ H, Same S H → ∀ R : It → Hp → Prop, (∀ J S' H', Gr S H S' H' → ItP J S' Ps → R J H') → HI X tg iter σ H R
section
variable {X : Cx} {σ : L2.St} {S S' : Hp} {e a b tg : Expr} {pos p : Pos} {d d1 d2 : PyData} {ds ds1 ds2 : List PyData}
theorem EI.up {Ps : List (V → Hp → Prop)} {it : Expr} (s : Same S S') (h : EI X σ S tg it Ps) : EI X σ S' tg it Ps := fun H a R q => h H (s.trans a) R fun J S2 H2 g w => q J (uniS S2 S') H2 (g.uni s a)
  ⟨fun i H hi hs => w.goes i H hi (uni_l.trans hs), fun H hs => w.stops H (uni_l.trans hs), fun i H x H' hi hs y T st th => w.yields i H x H' hi (uni_l.trans hs) y T (uni_l.trans st) th⟩
theorem ds_get {K : PySem.W.Frag} {i : Nat} (h : ds[i]? = some d) : (Ds K ds)[i]? = some (Dt K d) := by unfold Ds; rw [List.getElem?_map, h]; rfl
theorem ds_len {K : PySem.W.Frag} : (Ds K ds).length = ds.length := by unfold Ds; simp
theorem ei_list (ha : EE X σ S e (Dt X.K (.list ds))) : EI X σ S tg e (Ds X.K ds) := fun H s R q =>
  hi_of (pi_list peb) (ha H s _ fun v S1 H1 g1 pv => by
    obtain ⟨l, xs, rfl, hl, hx, z⟩ := pv.lst_inv
    refine ⟨l, rfl, ⟨xs, sql_of (g1.sub _ _ hl)⟩, q _ S1 H1 g1 ⟨fun i H hi hs => ?_, fun H hs => ?_, fun i H x H' hi hs y T st th => ?_⟩⟩
    · rw [ds_len, ← hx.1] at hi
      exact (walk_list (K := X.K) (a := l) (xs := xs)).goes i H hi (sql_of (hs _ _ hl))
    · rw [ds_len, ← hx.1]
      exact (walk_list (K := X.K) (a := l) (xs := xs)).stops H (sql_of (hs _ _ hl))
    · rw [ds_len, ← hx.1] at hi
      obtain ⟨rfl, hy⟩ := (walk_list (K := X.K) (a := l) (xs := xs)).yields i H x H' hi (sql_of (hs _ _ hl)) y
      have hi2 : i < ds.length := by rw [← hx.1]; exact hi
      exact ⟨T, Gr.refl th, _, ds_get (List.getElem?_eq_getElem hi2), (hx.2 i x _ hy (List.getElem?_eq_getElem hi2)).up st⟩)
theorem ei_tup (ha : EE X σ S e (Dt X.K (.tuple ds))) : EI X σ S tg e (Ds X.K ds) := fun H s R q =>
  hi_of (pi_tup peb) (ha H s _ fun v S1 H1 g1 pv => by
    obtain ⟨l, xs, rfl, hl, hx, z⟩ := pv.tup_inv
    refine ⟨l, rfl, ⟨xs, sqt_up g1.sub hl⟩, q _ S1 H1 g1 ⟨fun i H hi hs => ?_, fun H hs => ?_, fun i H x H' hi hs y T st th => ?_⟩⟩
    · rw [ds_len, ← hx.1] at hi
      exact (walk_tup (K := X.K) (a := l) (xs := xs)).goes i H hi (sqt_up hs hl)
    · rw [ds_len, ← hx.1]
      exact (walk_tup (K := X.K) (a := l) (xs := xs)).stops H (sqt_up hs hl)
    · rw [ds_len, ← hx.1] at hi
      obtain ⟨rfl, hy⟩ := (walk_tup (K := X.K) (a := l) (xs := xs)).yields i H x H' hi (sqt_up hs hl) y
      have hi2 : i < ds.length := by rw [← hx.1]; exact hi
      exact ⟨T, Gr.refl th, _, ds_get (List.getElem?_eq_getElem hi2), (hx.2 i x _ hy (List.getElem?_eq_getElem hi2)).up st⟩)
/-- 0, 1, .. below n -/
def upto (n : Nat) : List PyData := (List.range n).map fun i => .int (i : Nat)
theorem upto_get {n i : Nat} (h : i < n) : (upto n)[i]? = some (.int (i : Nat)) := by unfold upto; rw [List.getElem?_map, List.getElem?_range h]; rfl
theorem upto_len {n : Nat} : (upto n).length = n := by unfold upto; simp
theorem ei_range {n : Nat} (hm : X.mg "range" = none) (hn : (n : Int) < 2 ^ 62) (ha : EE X σ S a (Dt X.K (.int (n : Nat)))) (hg : Gl X "range" := by rfl) (hs : starEach [a] X.env = [(false, eval a X.env)] := by rfl) : EI X σ S tg (.Call (.Name "range" p) [a] [] pos) (Ds X.K (upto n)) := fun H s R q =>
  hi_of (pi_range1 hg hm pab hs) ((ea_1 ha (by rw [hs]; rfl)).2 H s _ fun vs S1 H1 g1 al => by
    obtain ⟨v, rfl, pv⟩ := al.one
    cases pv
    refine ⟨(n : Int), rfl, by omega, hn, q _ S1 H1 g1 ⟨fun i H hi hs => ?_, fun H hs => ?_, fun i H x H' hi hs y T st th => ?_⟩⟩
    · rw [ds_len, upto_len] at hi
      show i < ((n : Int)).toNat
      omega
    · rw [ds_len, upto_len]
      show ((n : Int)).toNat ≤ n
      omega
    · rw [ds_len, upto_len] at hi
      obtain ⟨rfl, rfl⟩ : H' = H ∧ x = .int (0 + (i : Int)) := y
      rw [Int.zero_add]
      exact ⟨T, Gr.refl th, _, ds_get (upto_get hi), .int _⟩)
/-- pairs -/
def zipD (xs ys : List PyData) : List PyData := List.zipWith (fun x y => .tuple [x, y]) xs ys
theorem zipD_get {i : Nat} {x y : PyData} (h1 : ds1[i]? = some x) (h2 : ds2[i]? = some y) : (zipD ds1 ds2)[i]? = some (.tuple [x, y]) := by
  unfold zipD
  rw [List.getElem?_zipWith, h1, h2]
theorem pair_new {K : PySem.W.Frag} {T H : Hp} {x y : V} {t : Addr} (th : Same T H) (ht : H t = none) (h1 : Dt K d1 x T) (h2 : Dt K d2 y T) : Dt K (.tuple [d1, d2]) (.ref t) (upd T t (.tup [x, y])) :=
  Dt.tup_mk (tus_of upd_same) ((Dts.cons h1 (Dts.cons h2 .nil)).up (Same.new (th.free ht))) (by show 2 ≤ 16777216; decide)
theorem ei_zipT {elts : List Expr} {kk : Nat} {tpos : Pos} (hm : X.mg "zip" = none) (ha : EE X σ S a (Dt X.K (.tuple ds1))) (hb : EE X σ S b (Dt X.K (.tuple ds2))) (hg : Gl X "zip" := by rfl)
    (hs : starEach [a, b] X.env = (false, eval a X.env) :: starEach [b] X.env := by rfl) (hs2 : starEach [b] X.env = (false, eval b X.env) :: starEach [] X.env := by rfl) (hpl : (backTo pos (starEach [b] X.env)).any (·.1) = false := by rfl) :
    EI X σ S (.Tuple elts kk tpos) (.Call (.Name "zip" p) [a, b] [] pos) (Ds X.K (zipD ds1 ds2)) := fun H s R q =>
  hi_of (RZ.pi_zipA hg hm pab hs hpl) ((ea_2 ha hb hs hs2).2 H s _ fun vs S1 H1 g1 al => by
    obtain ⟨v, w, rfl, pv, pw⟩ := al.two
    obtain ⟨l, xs, rfl, hl, hx, _⟩ := pv.tup_inv
    obtain ⟨m, ys, rfl, hm, hy, _⟩ := pw.tup_inv
    have hlen : (Ds X.K (zipD ds1 ds2)).length = min xs.length ys.length := by rw [ds_len]; unfold zipD; rw [List.length_zipWith, hx.1, hy.1]
    refine ⟨l, m, xs, ys, rfl, .inr ⟨sqt_up g1.sub hl, sqt_up g1.sub hm, q _ S1 H1 g1 ⟨fun i H hi hs => ?_, fun H hs => ?_, fun i H x H' hi hs y T st th => ?_⟩⟩⟩
    · rw [hlen] at hi
      exact ⟨xs, ys, xs[i]'(by omega), ys[i]'(by omega), sqt_up hs hl, sqt_up hs hm, by simp [show i < xs.length by omega], by simp [show i < ys.length by omega]⟩
    · rw [hlen]
      exact ⟨xs, ys, sqt_up hs hl, sqt_up hs hm, by omega⟩
    · rw [hlen] at hi
      obtain ⟨t, x1, y1, rfl, ht, rfl, k1, k2⟩ := y
      have i1 : i < ds1.length := by rw [← hx.1]; omega
      have i2 : i < ds2.length := by rw [← hy.1]; omega
      exact ⟨_, Gr.new th ht, _, ds_get (zipD_get (List.getElem?_eq_getElem i1) (List.getElem?_eq_getElem i2)), pair_new th ht ((hx.2 i _ _ (k1 xs (sqt_up hs hl)) (List.getElem?_eq_getElem i1)).up st) ((hy.2 i _ _ (k2 ys (sqt_up hs hm)) (List.getElem?_eq_getElem i2)).up st)⟩)
theorem ei_zipL {elts : List Expr} {kk : Nat} {tpos : Pos} (hm : X.mg "zip" = none) (ha : EE X σ S a (Dt X.K (.list ds1))) (hb : EE X σ S b (Dt X.K (.list ds2))) (hg : Gl X "zip" := by rfl)
    (hs : starEach [a, b] X.env = (false, eval a X.env) :: starEach [b] X.env := by rfl) (hs2 : starEach [b] X.env = (false, eval b X.env) :: starEach [] X.env := by rfl) (hpl : (backTo pos (starEach [b] X.env)).any (·.1) = false := by rfl) :
    EI X σ S (.Tuple elts kk tpos) (.Call (.Name "zip" p) [a, b] [] pos) (Ds X.K (zipD ds1 ds2)) := fun H s R q =>
  hi_of (RZ.pi_zipA hg hm pab hs hpl) ((ea_2 ha hb hs hs2).2 H s _ fun vs S1 H1 g1 al => by
    obtain ⟨v, w, rfl, pv, pw⟩ := al.two
    obtain ⟨l, xs, rfl, hl, hx, _⟩ := pv.lst_inv
    obtain ⟨m, ys, rfl, hm, hy, _⟩ := pw.lst_inv
    have hlen : (Ds X.K (zipD ds1 ds2)).length = min xs.length ys.length := by rw [ds_len]; unfold zipD; rw [List.length_zipWith, hx.1, hy.1]
    refine ⟨l, m, xs, ys, rfl, .inl ⟨sql_of (g1.sub _ _ hl), sql_of (g1.sub _ _ hm), q _ S1 H1 g1 ⟨fun i H hi hs => ?_, fun H hs => ?_, fun i H x H' hi hs y T st th => ?_⟩⟩⟩
    · rw [hlen] at hi
      exact ⟨xs, ys, xs[i]'(by omega), ys[i]'(by omega), sql_of (hs _ _ hl), sql_of (hs _ _ hm), by simp [show i < xs.length by omega], by simp [show i < ys.length by omega]⟩
    · rw [hlen]
      exact ⟨xs, ys, sql_of (hs _ _ hl), sql_of (hs _ _ hm), by omega⟩
    · rw [hlen] at hi
      obtain ⟨t, x1, y1, rfl, ht, rfl, k1, k2⟩ := y
      have i1 : i < ds1.length := by rw [← hx.1]; omega
      have i2 : i < ds2.length := by rw [← hy.1]; omega
      exact ⟨_, Gr.new th ht, _, ds_get (zipD_get (List.getElem?_eq_getElem i1) (List.getElem?_eq_getElem i2)), pair_new th ht ((hx.2 i _ _ (k1 xs (sql_of (hs _ _ hl))) (List.getElem?_eq_getElem i1)).up st) ((hy.2 i _ _ (k2 ys (sql_of (hs _ _ hm))) (List.getElem?_eq_getElem i2)).up st)⟩)
def enumD (xs : List PyData) : List PyData := zipD (upto xs.length) xs
theorem ei_enumL {elts : List Expr} {kk : Nat} {tpos : Pos} (hm : X.mg "enumerate" = none) (ha : EE X σ S a (Dt X.K (.list ds))) (hg : Gl X "enumerate" := by rfl) (hs : starEach [a] X.env = [(false, eval a X.env)] := by rfl) :
    EI X σ S (.Tuple elts kk tpos) (.Call (.Name "enumerate" p) [a] [] pos) (Ds X.K (enumD ds)) := fun H s R q =>
  hi_of (pi_enum hg hm pab hs) ((ea_1 ha (by rw [hs]; rfl)).2 H s _ fun vs S1 H1 g1 al => by
    obtain ⟨v, rfl, pv⟩ := al.one
    obtain ⟨l, xs, rfl, hl, hx, _⟩ := pv.lst_inv
    have hlen : (Ds X.K (enumD ds)).length = xs.length := by rw [ds_len]; unfold enumD zipD; rw [List.length_zipWith, upto_len, hx.1]; omega
    refine ⟨l, xs, rfl, sql_of (g1.sub _ _ hl), q _ S1 H1 g1 ⟨fun i H hi hs => ?_, fun H hs => ?_, fun i H x H' hi hs y T st th => ?_⟩⟩
    · rw [hlen] at hi
      exact ⟨xs, xs[i], sql_of (hs _ _ hl), by simp [hi]⟩
    · rw [hlen]
      exact ⟨xs, sql_of (hs _ _ hl), Nat.le_refl _⟩
    · rw [hlen] at hi
      obtain ⟨t, x1, rfl, ht, rfl, k1⟩ := y
      have i1 : i < ds.length := by rw [← hx.1]; omega
      exact ⟨_, Gr.new th ht, _, ds_get (zipD_get (upto_get i1) (List.getElem?_eq_getElem i1)), pair_new th ht (.int _) ((hx.2 i _ _ (k1 xs (sql_of (hs _ _ hl))) (List.getElem?_eq_getElem i1)).up st)⟩)
def strD (z : Str) : List PyData := z.cps.toList.map fun c => .str ⟨#[c]⟩
theorem ei_str {z : Str} (ha : EE X σ S e (Dt X.K (.str z))) (he : PI X tg e (iStr (bE X e)) := by exact pi_str peb) : EI X σ S tg e (Ds X.K (strD z)) := fun H s R q =>
  hi_of he (ha H s _ fun v S1 H1 g1 pv => by
    cases pv
    have hlen : (Ds X.K (strD z)).length = z.cps.size := by rw [ds_len]; unfold strD; simp
    refine ⟨z, rfl, q _ S1 H1 g1 ⟨fun i H hi hs => ?_, fun H hs => ?_, fun i H x H' hi hs y T st th => ?_⟩⟩
    · rw [hlen] at hi; exact hi
    · rw [hlen]; exact Nat.le_refl _
    · rw [hlen] at hi
      obtain ⟨rfl, c, hc, rfl⟩ := y
      refine ⟨T, Gr.refl th, _, ds_get (d := .str ⟨#[c]⟩) ?_, .str _⟩
      unfold strD
      rw [List.getElem?_map, Array.getElem?_toList, hc]
      rfl)
end
/-! ## 9. list comprehensions -/
def Ex (K : PySem.W.Frag) (F : PyData → Prop) : V → Hp → Prop := fun v S => ∃ d, F d ∧ Dt K d v S
instance {K : PySem.W.Frag} {F : PyData → Prop} : Mn (Ex K F) := ⟨fun s ⟨d, f, h⟩ => ⟨d, f, h.up s⟩⟩
def HTs (X : Cx) (ifs : List Expr) (σ : L2.St) (H : Hp) (Q : Bool → Hp → Prop) : Prop := ∀ (pins : List (Addr × Obj)) (s : Shared), Inv X pins σ H s →
    wpAny (model X.prog X.w) X.A (forIn ifs true fun c r => if r = true then do let ok ← isTrue c X.env (eval c X.env); pure (ForInStep.yield ok) else pure (ForInStep.yield r)) (TP X pins σ Q) X.xe s
def ETs (X : Cx) (σ : L2.St) (S : Hp) (ifs : List Expr) (b : Bool) : Prop := ∀ H, Same S H → ∀ Q : Bool → Hp → Prop, (∀ S' H', Gr S H S' H' → Q b H') → HTs X ifs σ H Q
theorem ets_nil {X : Cx} {σ : L2.St} {S : Hp} : ETs X σ S [] true := fun H s Q q pins sh I => pts_nil.run pins sh σ H Q I (q S H (Gr.refl s))
theorem ets_one {X : Cx} {σ : L2.St} {S : Hp} {c : Expr} {b : Bool} (h : ET X σ S c b) : ETs X σ S [c] b := fun H s Q q pins sh I => (pts_one ptb).run pins sh σ H Q I (h H s Q q)
/-- a target that takes the value: the slots behind -/
def EG (X : Cx) (S : Hp) (tg : Expr) (v : V) (σ τ : L2.St) : Prop := ∀ H, Same S H → ∀ Q : L2.St → Hp → Prop, Q τ H → HG X tg v σ H Q
theorem eg_name {X : Cx} {S : Hp} {v : V} {σ : L2.St} {i : Nat} {x : Str} {pos : Pos} (hN : X.N.Nodup) (hi : X.N[i]? = some x) (hx : Loc X.env.scope x) (hf : X.fn x = true ∨ X.env.scope.names.lookup x = some .local := by first | exact .inl rfl | exact .inr rfl | assumption) : EG X S (.Name x pos) v σ (σ.set i (some v)) := fun H _ Q q => hg_of (pg_name hN hi hx hf) q
/-- two names from a pair -/
theorem eg_pair {X : Cx} {S : Hp} {d1 d2 : PyData} {v : V} {σ : L2.St} {i j : Nat} {x y : Str} {px py pos : Pos} {kk : Nat} (hc : X.calm = true) (hN : X.N.Nodup) (hi : X.N[i]? = some x) (hj : X.N[j]? = some y) (hx : Loc X.env.scope x) (hy : Loc X.env.scope y) (h : Dt X.K (.tuple [d1, d2]) v S)
    (hfx : X.fn x = true ∨ X.env.scope.names.lookup x = some .local := by first | exact .inl rfl | exact .inr rfl) (hfy : X.fn y = true ∨ X.env.scope.names.lookup y = some .local := by first | exact .inl rfl | exact .inr rfl)
    (hn : (assignEach [.Name x px, .Name y py] X.env).length = 2 := by rfl) (hst : (assignEach [.Name x px, .Name y py] X.env).findIdx? (·.1) = none := by rfl)
    (h1 : (assignEach [.Name x px, .Name y py] X.env).map (·.2) = assign (.Name x px) X.env :: (assignEach [.Name y py] X.env).map (·.2) := by rfl) (h2 : (assignEach [.Name y py] X.env).map (·.2) = assign (.Name y py) X.env :: (assignEach [] X.env).map (·.2) := by rfl) :
    ∃ v1 v2, Dt X.K d1 v1 S ∧ Dt X.K d2 v2 S ∧ EG X S (.Tuple [.Name x px, .Name y py] kk pos) v σ ((σ.set i (some v1)).set j (some v2)) := by
  obtain ⟨l, xs, rfl, hl, hx', _⟩ := h.tup_inv
  obtain ⟨v1, e1, p1⟩ := hx'.get (i := 0) rfl
  obtain ⟨v2, e2, p2⟩ := hx'.get (i := 1) rfl
  have hxs : xs = [v1, v2] := by
    have hl2 := hx'.1
    match xs, hl2 with
    | [u, w], _ => simp at e1 e2; rw [e1, e2]
  subst hxs
  exact ⟨v1, v2, p1, p2, fun H s Q q => hg_of (pg_tup hc (pgs_cons (pg_name hN hi hx hfx) (pgs_cons (pg_name hN hj hy hfy) pgs_nil h2) h1) hn hst) ⟨l, _, rfl, sqt_up s hl, rfl, _, _, rfl, _, _, rfl, rfl, q⟩⟩
theorem paired_snoc {α β : Type} {G : α → β → Prop} : ∀ {l : List α} {r : List β} {x : α} {y : β}, Paired G l r → G x y → Paired G (l ++ [x]) (r ++ [y])
  | _, _, _, _, .nil, h => .cons h .nil
  | _, _, _, _, .cons g t, h => .cons g (paired_snoc t h)
theorem paired_map {α β : Type} {f : α → β} : ∀ {l : List α} {r : List β}, Paired (fun a b => b = f a) l r → r = l.map f
  | _, _, .nil => rfl
  | _, _, .cons g t => by rw [g, paired_map t]; rfl
theorem take_snoc {α : Type} {l : List α} {i : Nat} {x : α} (h : l[i]? = some x) : l.take (i + 1) = l.take i ++ [x] := by
  rw [List.take_add_one, h]
  rfl
def gBlk (X : Cx) (scope : Scope) (tg : Expr) : TG := fun v σ' H' Q' => ∀ (s : Shared) (H0 : Hp) (C : Addr) (cl : List (Str × Addr)) (fp : List Addr), HG (X.blk s H0 scope (compEnvC scope cl C X.env) fp) tg v σ' H' Q'
def tBlk (X : Cx) (scope : Scope) (ifs : List Expr) : TT := fun σ' H' Q' => ∀ (s : Shared) (H0 : Hp) (C : Addr) (cl : List (Str × Addr)) (fp : List Addr), HTs (X.blk s H0 scope (compEnvC scope cl C X.env) fp) ifs σ' H' Q'
def eBlk (X : Cx) (scope : Scope) (e : Expr) : TE := fun σ' H' Q' => ∀ (s : Shared) (H0 : Hp) (C : Addr) (cl : List (Str × Addr)) (fp : List Addr), HE (X.blk s H0 scope (compEnvC scope cl C X.env) fp) e σ' H' Q'
section
variable {X : Cx} {σ : L2.St} {S : Hp} {elt tg iter : Expr} {ifs : List Expr} {scope : Scope} {own : List (Str × Nat)} {pos : Pos} {ds : List PyData} {p : PyData → Bool} {G : PyData → PyData → Prop}
theorem lc_loopG (hz : ds.length ≤ sizeLine)
    (hel : ∀ d ∈ ds, ∀ v S', Same S S' → Dt X.K d v S' → ∃ τ, wipe τ (own.map (·.2)) = wipe σ (own.map (·.2)) ∧ ∀ (s : Shared) (H0 : Hp) (C : Addr) (cl : List (Str × Addr)) (fp : List Addr),
      EG (X.blk s H0 scope (compEnvC scope cl C X.env) fp) S' tg v (wipe σ (own.map (·.2))) τ ∧ ETs (X.blk s H0 scope (compEnvC scope cl C X.env) fp) τ S' ifs (p d) ∧ (p d = true → EE (X.blk s H0 scope (compEnvC scope cl C X.env) fp) τ S' elt (Ex X.K (G d)))) {H : Hp} (Q : VK) (q : ∀ v S' H', Gr S H S' H' → (∃ rs, Paired G (ds.filter p) rs ∧ Dt X.K (.list rs) v S') → Q v H') {J : It} {S1 H1 : Hp} (g1 : Gr S H S1 H1) (it : ItP J S1 (Ds X.K ds)) :
    ∀ D, H1 D = none → ∃ W : Nat → Nat → Hp → Prop, (∃ m, W 0 m (upd H1 D (.lst []))) ∧ ∀ i m H, W i m H →
      (J.stop i H ∧ Q (.ref D) H) ∨ (J.go i H ∧ ∃ Nx : Hp → Prop, (∀ H', Nx H' → ∃ m', m' < m ∧ W (i + 1) m' H') ∧ ∀ x H', J.yld i H x H' → gBlk X scope tg x (wipe σ (own.map (·.2))) H' fun σ2 H2 => wipe σ2 (own.map (·.2)) = wipe σ (own.map (·.2)) ∧ tBlk X scope ifs σ2 H2 fun b H3 =>
        if b = true then eBlk X scope elt σ2 H3 fun y H4 => ∃ acc, H4 D = some (.lst acc) ∧ acc.length < sizeLine ∧ Nx (upd H4 D (.lst (acc ++ [y]))) else Nx H3) := by
  intro D hD
  have hD1 : S1 D = none := g1.sub.free hD
  have hlen : (Ds X.K ds).length = ds.length := ds_len
  refine lc_it (g := gBlk X scope tg) (tt := tBlk X scope ifs) (te := eBlk X scope elt) (vs := own.map (·.2)) (σ := σ) (Qd := Q (.ref D)) it (fun i H' => ∃ S' xs rs, Same S1 S' ∧ Same S' H' ∧ Same H1 H' ∧ (∀ a o, H1 a = some o → NT o → S' a = S1 a) ∧ S' D = none ∧ H' D = some (.lst xs) ∧ Paired G ((ds.take i).filter p) rs ∧ Dts X.K rs xs S' ∧ xs.length ≤ i)
    ⟨S1, [], [], Same.refl _, Same.mut g1.sub hD1, Same.new hD, fun _ _ _ _ => rfl, hD1, upd_same, .nil, .nil, Nat.le_refl _⟩ (fun i H' _ ⟨S', _, _, a, b, _⟩ => a.trans b) ?_ ?_
  · intro i x H2 H3 hi2 ⟨S2, xs, rs, k1, k2, k3, k4, k5, k6, k7, k8, k9⟩ y
    rw [hlen] at hi2
    obtain ⟨S3, g3, P, hP, px⟩ := y S2 k1 k2
    obtain ⟨d, hd⟩ : ∃ d, ds[i]? = some d := ⟨ds[i], List.getElem?_eq_getElem hi2⟩
    rw [ds_get hd] at hP
    obtain rfl := Option.some.inj hP
    have sS3 : Same S S3 := g1.st.trans (k1.trans g3.st)
    obtain ⟨τ, hw, hb⟩ := hel d (List.mem_of_getElem? hd) x S3 sS3 px
    have hf : ∀ q, p d = q → (ds.take (i + 1)).filter p = (ds.take i).filter p ++ (if q = true then [d] else []) := fun q hq => by
      rw [take_snoc hd, List.filter_append]
      cases q with
      | true => simp [hq]
      | false => simp [hq]
    intro sh H0 C cl fp
    refine (hb sh H0 C cl fp).1 H3 g3.sub _ ⟨hw, ?_⟩
    intro sh' H0' C' cl' fp'
    refine (hb sh' H0' C' cl' fp').2.1 H3 g3.sub _ fun S4 H4 g4 => ?_
    have g34 := g3.trans g4
    cases hpd : p d with
    | false =>
      refine iteF ⟨S4, xs, rs, k1.trans g34.st, g34.sub, k3.trans g34.hh, fun a o h n => (g34.old a o (k3 a o h) n).trans (k4 a o h n), (g34.old D _ k6 (fun _ z => nomatch z)).trans k5, g34.hh _ _ k6, ?_, k8.up g34.st, by omega⟩
      rw [hf false hpd]
      simpa using k7
    | true =>
      refine iteT ?_
      intro sh'' H0'' C'' cl'' fp''
      refine ((hb sh'' H0'' C'' cl'' fp'').2.2 hpd).up g4.st H4 g4.sub _ fun w S5 H5 g5 ⟨r, hr, hrw⟩ => ?_
      have g := g34.trans g5
      have hD5 : S5 D = none := (g.old D _ k6 (fun _ z => nomatch z)).trans k5
      refine ⟨xs, g.hh _ _ k6, Nat.lt_of_le_of_lt k9 (Nat.lt_of_lt_of_le hi2 hz), S5, xs ++ [w], rs ++ [r], k1.trans g.st, Same.mut g.sub hD5, fun a o h => ?_, fun a o h n => (g.old a o (k3 a o h) n).trans (k4 a o h n), hD5, upd_same, ?_, (k8.up g.st).snoc hrw, by rw [List.length_append]; show xs.length + 1 ≤ i + 1; omega⟩
      · rw [upd_ne (ne_of_none h hD)]; exact g.hh _ _ (k3 a o h)
      · rw [hf true hpd]
        exact paired_snoc k7 hr
  · intro H2 ⟨S2, xs, rs, k1, k2, k3, k4, k5, k6, k7, k8, k9⟩
    rw [hlen] at k7 k9
    rw [List.take_length] at k7
    refine q _ (upd S2 D (.lst xs)) H2 (g1.trans ⟨k1.trans (Same.new k5), fun a o h => ?_, k3, fun a o h n => by rw [upd_ne (ne_of_none h hD)]; exact k4 a o h n⟩) ⟨rs, k7, Dt.lst_mk upd_same (k8.up (Same.new k5)) (Nat.le_trans k9 hz)⟩
    by_cases ha : a = D
    · subst ha; rw [upd_same] at h; rw [k6]; exact h
    · rw [upd_ne ha] at h; exact k2 a o h
theorem lc_readG (hi : EI X σ S tg iter (Ds X.K ds)) (hz : ds.length ≤ sizeLine)
    (hel : ∀ d ∈ ds, ∀ v S', Same S S' → Dt X.K d v S' → ∃ τ, wipe τ (own.map (·.2)) = wipe σ (own.map (·.2)) ∧ ∀ (s : Shared) (H0 : Hp) (C : Addr) (cl : List (Str × Addr)) (fp : List Addr),
      EG (X.blk s H0 scope (compEnvC scope cl C X.env) fp) S' tg v (wipe σ (own.map (·.2))) τ ∧ ETs (X.blk s H0 scope (compEnvC scope cl C X.env) fp) τ S' ifs (p d) ∧ (p d = true → EE (X.blk s H0 scope (compEnvC scope cl C X.env) fp) τ S' elt (Ex X.K (G d)))) {H : Hp} (s : Same S H) (Q : VK) (q : ∀ v S' H', Gr S H S' H' → (∃ rs, Paired G (ds.filter p) rs ∧ Dt X.K (.list rs) v S') → Q v H') :
    tLc (bI X tg iter) (gBlk X scope tg) (tBlk X scope ifs) (eBlk X scope elt) (own.map (·.2)) σ H Q := hi H s _ fun J S1 H1 g1 it => lc_loopG hz hel Q q g1 it
theorem ee_lcG (hc : X.calm = true) (hN : X.N.Nodup) (ok : BlkOk X.N X.env.scope scope own) (hi : EI X σ S tg iter (Ds X.K ds)) (hz : ds.length ≤ sizeLine)
    (hel : ∀ d ∈ ds, ∀ v S', Same S S' → Dt X.K d v S' → ∃ τ, wipe τ (own.map (·.2)) = wipe σ (own.map (·.2)) ∧ ∀ (s : Shared) (H0 : Hp) (C : Addr) (cl : List (Str × Addr)) (fp : List Addr),
      EG (X.blk s H0 scope (compEnvC scope cl C X.env) fp) S' tg v (wipe σ (own.map (·.2))) τ ∧ ETs (X.blk s H0 scope (compEnvC scope cl C X.env) fp) τ S' ifs (p d) ∧ (p d = true → EE (X.blk s H0 scope (compEnvC scope cl C X.env) fp) τ S' elt (Ex X.K (G d))))
    (hs : ∀ x, foldedSetIterable iter X.env x = pure x := by intro _; rfl) :
    EE X σ S (.ListComp elt [⟨tg, iter, ifs, 0⟩] scope pos) (fun v S' => ∃ rs, Paired G (ds.filter p) rs ∧ Dt X.K (.list rs) v S') := fun H s Q q =>
  he_of (pe_lc (own := own) (wi := bI X tg iter) (g := gBlk X scope tg) (tt := tBlk X scope ifs) (te := eBlk X scope elt) hc hN pib ok
    (fun s H0 C cl fp => ⟨fun pins sh σ' H' v u Q' I r h => h s H0 C cl fp pins sh u I r⟩) (fun s H0 C cl fp => ⟨fun pins sh σ' H' Q' I h => h s H0 C cl fp pins sh I⟩) (fun s H0 C cl fp => ⟨fun pins sh σ' H' Q' I h => h s H0 C cl fp pins sh I⟩) hs) (lc_readG hi hz hel s Q q)
/-- name = [..] on one line, the name a local -/
theorem hs_setLcG {D : Ends} {rest : List Stmt} {i : Nat} {y : Str} {py spos : Pos} {H : Hp} (hc : X.calm = true) (hN : X.N.Nodup) (hy : X.N[i]? = some y) (hyl : X.env.scope.names.lookup y = some .local)
    (hsw : swapsWith (.ListComp elt [⟨tg, iter, ifs, 0⟩] scope pos) (some (.Name y py)) spos.line X.env = pure true) (ok : BlkOk X.N X.env.scope scope own) (hi : EI X σ S tg iter (Ds X.K ds)) (hz : ds.length ≤ sizeLine)
    (hel : ∀ d ∈ ds, ∀ v S', Same S S' → Dt X.K d v S' → ∃ τ, wipe τ (own.map (·.2)) = wipe σ (own.map (·.2)) ∧ ∀ (s : Shared) (H0 : Hp) (C : Addr) (cl : List (Str × Addr)) (fp : List Addr),
      EG (X.blk s H0 scope (compEnvC scope cl C X.env) fp) S' tg v (wipe σ (own.map (·.2))) τ ∧ ETs (X.blk s H0 scope (compEnvC scope cl C X.env) fp) τ S' ifs (p d) ∧ (p d = true → EE (X.blk s H0 scope (compEnvC scope cl C X.env) fp) τ S' elt (Ex X.K (G d)))) (s : Same S H)
    (q : ∀ v S' H', Gr S H S' H' → (∃ rs, Paired G (ds.filter p) rs ∧ Dt X.K (.list rs) v S') → HS X D rest (σ.set i (some v)) H')
    (hs : ∀ x, foldedSetIterable iter X.env x = pure x := by intro _; rfl) : HS X D (.Assign [.Name y py] (.ListComp elt [⟨tg, iter, ifs, 0⟩] scope pos) spos :: rest) σ H :=
  hs_of (pss_cons (ps_setLc (i := i) (own := own) (wi := bI X tg iter) (g := gBlk X scope tg) (tt := tBlk X scope ifs) (te := eBlk X scope elt) hc hN hy hyl hsw pib ok
    (fun s H0 C cl fp => ⟨fun pins sh σ' H' v u Q' I r h => h s H0 C cl fp pins sh u I r⟩) (fun s H0 C cl fp => ⟨fun pins sh σ' H' Q' I h => h s H0 C cl fp pins sh I⟩) (fun s H0 C cl fp => ⟨fun pins sh σ' H' Q' I h => h s H0 C cl fp pins sh I⟩) hs) psb) (lc_readG hi hz hel s _ q)
/-- each item by a function, under a test -/
theorem fun_of_G {f : PyData → PyData} {v : V} {S' : Hp} {K : PySem.W.Frag} (h : ∃ rs, Paired (fun d r => r = f d) (ds.filter p) rs ∧ Dt K (.list rs) v S') : Dt K (.list ((ds.filter p).map f)) v S' := by
  obtain ⟨rs, h1, h2⟩ := h
  rw [paired_map h1] at h2
  exact h2
end
end Z
namespace Z
open PySem PySem.Spec PyProof.Rows L2
/-! ## 10. statements -/
section
variable {X : Cx} {σ : L2.St} {S H : Hp} {e a b c : Expr} {P : V → Hp → Prop} {pos p : Pos} {D : Ends} {rest body orelse : List Stmt} {k : Bool} {st : Stmt} {d d1 d2 : PyData} {ds : List PyData}
theorem hs_cons {t : TS} (h : PS X st t) (q : t { D with nx := fun σ' H' => HS X D rest σ' H' } σ H) : HS X D (st :: rest) σ H := hs_of (pss_cons h psb) q
theorem hs_nil (q : D.nx σ H) : HS X D [] σ H := hs_of pss_nil q
theorem hs_cont (q : D.ct σ H) : HS X D (.Continue pos :: rest) σ H := hs_cons ps_continue q
theorem hs_set {i : Nat} {x : Str} {pos' : Pos} (h : EE X σ S e P) (s : Same S H) (hN : X.N.Nodup) (q : ∀ v S' H', Gr S H S' H' → P v S' → HS X D rest (σ.set i (some v)) H') (hi : X.N[i]? = some x := by rfl) (hx : Loc X.env.scope x := by first | exact Or.inl rfl | exact Or.inr rfl)
    (hs : swapsWith e (some (.Name x pos')) pos.line X.env = pure false := by rfl) (hf : X.fn x = true ∨ X.env.scope.names.lookup x = some .local := by first | exact .inl rfl | exact .inr rfl | assumption) : HS X D (.Assign [.Name x pos'] e pos :: rest) σ H :=
  hs_cons (ps_set hN hi hx peb hs hf) (h H s _ fun v S' H' g pv => q v S' H' g pv)
theorem hs_ret (h : EE X σ S e P) (s : Same S H) (q : ∀ v S' H', Gr S H S' H' → P v S' → D.rt v H') : HS X D (.Return (some e) pos :: rest) σ H := hs_cons (ps_ret peb) (h H s _ q)
theorem hs_expr (h : EE X σ S e P) (s : Same S H) (q : ∀ v S' H', Gr S H S' H' → P v S' → HS X D rest σ H') (hs : swapsWith e none pos.line X.env = pure false := by rfl) : HS X D (.Expr e pos :: rest) σ H := hs_cons (ps_expr peb hs) (h H s _ q)
/-- the ends of a block that stands ahead of rest -/
def Dn (X : Cx) (D : Ends) (rest : List Stmt) : Ends := { D with nx := fun σ' H' => HS X D rest σ' H' }
theorem hs_if (h : ET X σ S c k) (s : Same S H) (qt : k = true → ∀ S' H', Gr S H S' H' → HS X (Dn X D rest) body σ H') (qf : k = false → ∀ S' H', Gr S H S' H' → HS X (Dn X D rest) orelse σ H') : HS X D (.If c body orelse pos :: rest) σ H :=
  hs_cons (ps_if ptb psb psb) (h H s _ fun S' H' g => by
    cases k with
    | true => exact iteT (qt rfl S' H' g)
    | false => exact iteF (qf rfl S' H' g))
theorem hs_ifT (h : ET X σ S c true) (s : Same S H) (q : ∀ S' H', Gr S H S' H' → HS X (Dn X D rest) body σ H') : HS X D (.If c body orelse pos :: rest) σ H := hs_if h s (fun _ => q) (fun z => nomatch z)
/-- not taken, and there is no else -/
theorem hs_ifN (h : ET X σ S c false) (s : Same S H) (q : ∀ S' H', Gr S H S' H' → HS X D rest σ H') : HS X D (.If c body [] pos :: rest) σ H := hs_if h s (fun z => nomatch z) (fun _ S' H' g => hs_nil (q S' H' g))
theorem mn_eq {v : V} : Mn (fun (w : V) (_ : Hp) => w = v) := ⟨fun _ h => h⟩
/-- a, b, c = x, y, z with plain names -/
theorem hs_par3 {i j l : Nat} {x y z : Str} {Pa Pb Pc : V → Hp → Prop} [Mn Pa] [Mn Pb] [Mn Pc] {px py pz pt : Pos} {kt k2 pt2} (hc : X.calm = true) (hN : X.N.Nodup) (ha : EE X σ S a Pa) (hb : EE X σ S b Pb) (hcc : EE X σ S c Pc) (s : Same S H)
    (hw : swappedStores [.Tuple [.Name x px, .Name y py, .Name z pz] kt pt] (.Tuple [a, b, c] k2 pt2) X.env = pure (some [x, y, z]))
    (q : ∀ v w u S' H', Gr S H S' H' → Pa v S' → Pb w S' → Pc u S' → HS X D rest (((σ.set i (some v)).set j (some w)).set l (some u)) H')
    (hi : X.N[i]? = some x := by rfl) (hj : X.N[j]? = some y := by rfl) (hl : X.N[l]? = some z := by rfl) (hij : i ≠ j := by decide) (hil : i ≠ l := by decide) (hjl : j ≠ l := by decide)
    (hx : X.env.scope.names.lookup x = some .local := by rfl) (hy : X.env.scope.names.lookup y = some .local := by rfl) (hz : X.env.scope.names.lookup z = some .local := by rfl)
    (hs : starEach [a, b, c] X.env = (false, eval a X.env) :: starEach [b, c] X.env := by rfl) (hs2 : starEach [b, c] X.env = (false, eval b X.env) :: starEach [c] X.env := by rfl) (hs3 : starEach [c] X.env = (false, eval c X.env) :: starEach [] X.env := by rfl)
    (hss : swapsWithSole [.Tuple [.Name x px, .Name y py, .Name z pz] kt pt] (.Tuple [a, b, c] k2 pt2) pos.line X.env = pure false := by rfl) : HS X D (.Assign [.Tuple [.Name x px, .Name y py, .Name z pz] kt pt] (.Tuple [a, b, c] k2 pt2) pos :: rest) σ H :=
  hs_cons (ps_par3 hc hN hi hj hl hij hil hjl hx hy hz pab hw hss) ((ea_cons ha (ea_2 hb hcc hs2 hs3) hs).2 H s _ fun vs S' H' g al => by
    obtain ⟨v, w, u, rfl, p1, p2, p3⟩ := al.three
    exact ⟨v, w, u, rfl, q v w u S' H' g p1 p2 p3⟩)
/-- a, b = e, e a pair -/
theorem hs_unpack {i j : Nat} {x y : Str} {px py pt : Pos} {kt : Nat} (hc : X.calm = true) (hN : X.N.Nodup) (ha : EE X σ S e (Dt X.K (.tuple [d1, d2]))) (s : Same S H)
    (q : ∀ v w S' H', Gr S H S' H' → Dt X.K d1 v S' → Dt X.K d2 w S' → HS X D rest ((σ.set i (some v)).set j (some w)) H')
    (hi : X.N[i]? = some x := by rfl) (hj : X.N[j]? = some y := by rfl) (hx : Loc X.env.scope x := by first | exact Or.inl rfl | exact Or.inr rfl) (hy : Loc X.env.scope y := by first | exact Or.inl rfl | exact Or.inr rfl)
    (hfx : X.fn x = true ∨ X.env.scope.names.lookup x = some .local := by first | exact .inl rfl | exact .inr rfl) (hfy : X.fn y = true ∨ X.env.scope.names.lookup y = some .local := by first | exact .inl rfl | exact .inr rfl)
    (hn : (assignEach [.Name x px, .Name y py] X.env).length = 2 := by rfl) (hst : (assignEach [.Name x px, .Name y py] X.env).findIdx? (·.1) = none := by rfl)
    (h1 : (assignEach [.Name x px, .Name y py] X.env).map (·.2) = assign (.Name x px) X.env :: (assignEach [.Name y py] X.env).map (·.2) := by rfl) (h2 : (assignEach [.Name y py] X.env).map (·.2) = assign (.Name y py) X.env :: (assignEach [] X.env).map (·.2) := by rfl)
    (hss : swapsWithSole [.Tuple [.Name x px, .Name y py] kt pt] e pos.line X.env = pure false := by rfl) (hw : swappedStores [.Tuple [.Name x px, .Name y py] kt pt] e X.env = pure none := by rfl)
    (h3 : (assignEach [.Tuple [.Name x px, .Name y py] kt pt] X.env).map (·.2) = [assign (.Tuple [.Name x px, .Name y py] kt pt) X.env] := by rfl) : HS X D (.Assign [.Tuple [.Name x px, .Name y py] kt pt] e pos :: rest) σ H :=
  hs_cons (ps_asg peb pgb hss hw h3) (ha H s _ fun v S' H' g pv => by
    obtain ⟨v1, v2, p1, p2, hg⟩ := eg_pair (σ := σ) (px := px) (py := py) (pos := pt) (kk := kt) hc hN hi hj hx hy pv hfx hfy hn hst h1 h2
    exact hg H' g.sub _ (q v1 v2 S' H' g p1 p2))
theorem hs_mono {D' : Ends} {st : List Stmt} (h : HS X D st σ H) (h1 : ∀ σ H, D.nx σ H → D'.nx σ H) (h2 : ∀ v H, D.rt v H → D'.rt v H) (h3 : ∀ σ H, D.bk σ H → D'.bk σ H) (h4 : ∀ σ H, D.ct σ H → D'.ct σ H) : HS X D' st σ H := fun pins s I => thn (h pins s I) fun f s' q => by
  cases f with
  | next => obtain ⟨σ', H', I', z⟩ := q; exact ⟨σ', H', I', h1 _ _ z⟩
  | brk => obtain ⟨σ', H', I', z⟩ := q; exact ⟨σ', H', I', h3 _ _ z⟩
  | cont => obtain ⟨σ', H', I', z⟩ := q; exact ⟨σ', H', I', h4 _ _ z⟩
  | ret u => obtain ⟨v, σ', H', I', r, z⟩ := q; exact ⟨v, σ', H', I', r, h2 _ _ z⟩
/-- the ends of a statement that leads to M -/
def Dj (D : Ends) (S H : Hp) (M : L2.St → Hp → Prop) : Ends := { D with nx := fun σ' H' => ∃ S', Gr S H S' H' ∧ M σ' S' }
/-- an if whose ways meet in M -/
theorem hs_ifJ (M : L2.St → Hp → Prop) (h : ET X σ S c k) (s : Same S H) (qt : k = true → ∀ S' H', Gr S H S' H' → HS X (Dj D S' H' M) body σ H') (qf : k = false → ∀ S' H', Gr S H S' H' → HS X (Dj D S' H' M) orelse σ H')
    (h2 : ∀ σ' S' H', Gr S H S' H' → M σ' S' → HS X D rest σ' H') : HS X D (.If c body orelse pos :: rest) σ H :=
  hs_cons (ps_if ptb psb psb) (h H s _ fun S' H' g => by
    have key : ∀ st, HS X (Dj D S' H' M) st σ H' → HS X (Dn X D rest) st σ H' := fun st z => hs_mono z (fun σ' H2 ⟨S2, g2, m⟩ => h2 σ' S2 H2 (g.trans g2) m) (fun _ _ z => z) (fun _ _ z => z) (fun _ _ z => z)
    cases k with
    | true => exact iteT (key _ (qt rfl S' H' g))
    | false => exact iteF (key _ (qf rfl S' H' g)))
/-- the ends of a turn: Iv again behind it -/
def Dl (X : Cx) (D : Ends) (rest : List Stmt) (S H : Hp) (Iv : L2.St → Hp → Prop) : Ends :=
  { D with nx := fun σ' H' => ∃ S', Gr S H S' H' ∧ Iv σ' S', ct := fun σ' H' => ∃ S', Gr S H S' H' ∧ Iv σ' S', bk := fun σ' H' => HS X D rest σ' H' }
/-- for, nothing that stands is changed -/
theorem hs_for {tg iter : Expr} {Ps : List (V → Hp → Prop)} (Iv : Nat → L2.St → Hp → Prop) (hp : PassesOwn (model X.prog X.w) X.A X.env X.xe) (hc : X.calm = true) (hi : EI X σ S tg iter Ps) (s : Same S H) (h0 : ∀ S' H', Gr S H S' H' → Iv 0 σ S')
    (step : ∀ i P σ1 S1 H1 x S2 H2, Ps[i]? = some P → Gr S H S1 H1 → Iv i σ1 S1 → Gr S1 H1 S2 H2 → P x S2 → HG X tg x σ1 H2 fun σ3 H3 => HS X (Dl X D rest S2 H2 (Iv (i + 1))) body σ3 H3)
    (done : ∀ σ1 S1 H1, Gr S H S1 H1 → Iv Ps.length σ1 S1 → HS X D rest σ1 H1)
    (hs : ∀ x, foldedSetIterable iter X.env x = pure x := by intro _; rfl) : HS X D (.For tg iter body [] pos :: rest) σ H :=
  hs_cons (ps_for hp hc pib pgb psb hs) (hi H s _ fun J S1 H1 g1 it => for_it (g := bG X tg) (tb := bS X body) it (fun i σ' H' => ∃ S', Gr S1 H1 S' H' ∧ Iv i σ' S') ⟨S1, Gr.refl g1.sub, h0 S1 H1 g1⟩ (fun i σ' H' _ ⟨S', g, _⟩ => g.st.trans g.sub)
    (fun i x σ' H2 H3 hlt ⟨S2, g2, iv⟩ y => by
      obtain ⟨S3, g3, P, hP, px⟩ := y S2 g2.st g2.sub
      intro pins sh u I r
      refine thn ((step i P σ' S2 H2 x S3 H3 hP (g1.trans g2) iv g3 px) pins sh u I r) fun _ s' ⟨σ4, H4, I4, q4⟩ => ⟨σ4, H4, I4, ?_⟩
      exact hs_mono q4 (fun σ5 H5 ⟨S5, g5, iv5⟩ => ⟨S5, g2.trans (g3.trans g5), iv5⟩) (fun _ _ z => z) (fun _ _ z => z) (fun σ5 H5 ⟨S5, g5, iv5⟩ => ⟨S5, g2.trans (g3.trans g5), iv5⟩)) (fun σ' H' ⟨S', g, iv⟩ => done σ' S' H' (g1.trans g) iv))
/-- while, nothing that stands is changed; m falls -/
theorem hs_while (Iv : Nat → L2.St → Hp → Prop) (m0 : Nat) (hp : PassesOwn (model X.prog X.w) X.A X.env X.xe) (s : Same S H) (h0 : Iv m0 σ S)
    (step : ∀ m σ1 S1 H1, Gr S H S1 H1 → Iv m σ1 S1 → ∃ k, ET X σ1 S1 c k ∧ (k = true → ∀ S2 H2, Gr S1 H1 S2 H2 → HS X (Dl X D rest S2 H2 (fun σ' S' => ∃ m', m' < m ∧ Iv m' σ' S')) body σ1 H2) ∧ (k = false → ∀ S2 H2, Gr S1 H1 S2 H2 → HS X D rest σ1 H2)) :
    HS X D (.While c body [] pos :: rest) σ H :=
  hs_cons (ps_while hp ptb psb) ⟨fun m σ' H' => ∃ S', Gr S H S' H' ∧ Iv m σ' S', ⟨m0, S, Gr.refl s, h0⟩, fun m σ' H' ⟨S1, g1, iv⟩ => by
    obtain ⟨k, hk, h1, h2⟩ := step m σ' S1 H' g1 iv
    refine hk H' g1.sub _ fun S2 H2 g2 => ?_
    cases k with
    | false => exact iteF (h2 rfl S2 H2 g2)
    | true =>
      refine iteT ⟨fun σ3 H3 => ∃ S3 m', Gr S2 H2 S3 H3 ∧ m' < m ∧ Iv m' σ3 S3, fun σ3 H3 ⟨S3, m', g3, hm, iv3⟩ => ⟨m', hm, S3, g1.trans (g2.trans g3), iv3⟩, ?_⟩
      exact hs_mono (h1 rfl S2 H2 g2) (fun σ5 H5 ⟨S5, g5, m', hm, iv5⟩ => ⟨S5, m', g5, hm, iv5⟩) (fun _ _ z => z) (fun _ _ z => z) (fun σ5 H5 ⟨S5, g5, m', hm, iv5⟩ => ⟨S5, m', g5, hm, iv5⟩)⟩
end
/-! ## 11. defs -/
/-- a def that is known: where it stands, what it promises (no exception leaves it) -/
structure KD (P : Program) (w : World) (K : PySem.W.Frag) (mg : Str → Option Value) (base : Heap) (x : Str) (k : Nat) (sp : Sp) : Prop where
  ex : ∃ f fd ps, FnOk P w K mg base CX0 k f fd ps sp ∧ mg x = some (.ref f) ∧ PySem.W.keepIn K (.ref f) = true ∧ Binds K fd ps []
theorem KD.mono {P : Program} {w : World} {K : PySem.W.Frag} {mg : Str → Option Value} {base : Heap} {x : Str} {j k : Nat} {sp : Sp} (h : KD P w K mg base x j sp) (hk : j ≤ k) : KD P w K mg base x k sp := by
  obtain ⟨f, fd, ps, F, r⟩ := h.ex
  exact ⟨f, fd, ps, F.mono hk, r⟩
section
variable {X : Cx} {σ : L2.St} {S S' : Hp} {e a b c : Expr} {es : List Expr} {P R : V → Hp → Prop} {Ps : List (V → Hp → Prop)} {pos p : Pos} {k : Nat} {x : Str} {sp : Sp} {d : PyData} {ds : List PyData}
def SpE (sp : Sp) (S : Hp) (Ps : List (V → Hp → Prop)) (R : V → Hp → Prop) : Prop := ∀ vs S1 H1, Same S S1 → Same S1 H1 → Al Ps vs S1 → ∀ Q : VK, (∀ v S2 H2, Gr S1 H1 S2 H2 → R v S2 → Q v H2) → sp vs H1 Q E0
theorem ee_call (D : KD X.prog X.w X.K X.mg X.base x k sp) (hr : Room k X.A) (ha : EA X σ S (e :: es) Ps) (hsp : SpE sp S Ps R) (hg : Gl X x := by rfl) (hdb : (x == ("__debug__" : Str)) = false := by decide)
    (he : starEach (e :: es) X.env = (false, eval e X.env) :: starEach es X.env := by rfl) (hpl : (backTo pos (starEach es X.env)).any (·.1) = false := by rfl) : EE X σ S (.Call (.Name x p) (e :: es) [] pos) R := fun H s Q q => by
  obtain ⟨f, fd, ps, F, hm, hk, hb⟩ := D.ex
  refine he_of (pe_call F hr hg hm hk hb .nil pass0 pab hdb he hpl) (ha.2 H s _ fun vs S1 H1 g1 al => ?_)
  rw [List.append_nil]
  exact hsp vs S1 H1 g1.st g1.sub al Q fun v S2 H2 g2 rv => q v S2 H2 (g1.trans g2) rv
/-- a def of data: F tells what it gives -/
def spD (K : PySem.W.Frag) (F : List PyData → PyData → Prop) : Sp := fun vs H Q _ => ∃ S ds d, Same S H ∧ Dts K ds vs S ∧ F ds d ∧ ∀ v S' H', Gr S H S' H' → Dt K d v S' → Q v H'
theorem spD_E {F : List PyData → PyData → Prop} (hF : F ds d) : SpE (spD X.K F) S (Ds X.K ds) (Dt X.K d) := fun vs S1 H1 _ s al Q q => ⟨S1, ds, d, s, al_dts al, hF, q⟩
theorem ee_callD {F : List PyData → PyData → Prop} (D : KD X.prog X.w X.K X.mg X.base x k (spD X.K F)) (hr : Room k X.A) (hF : F ds d) (ha : EA X σ S (e :: es) (Ds X.K ds)) (hg : Gl X x := by rfl) (hdb : (x == ("__debug__" : Str)) = false := by decide)
    (he : starEach (e :: es) X.env = (false, eval e X.env) :: starEach es X.env := by rfl) (hpl : (backTo pos (starEach es X.env)).any (·.1) = false := by rfl) : EE X σ S (.Call (.Name x p) (e :: es) [] pos) (Dt X.K d) :=
  ee_call D hr ha (spD_E hF) hg hdb he hpl
end
section
variable {P : Program} {w : World} {K : PySem.W.Frag} {mg : Str → Option Value} {base : Heap} {x qual : Str} {params : Arguments} {body : List Stmt} {scope : Scope} {dvs : List V} {kws : List (Str × V)} {f : Addr} {fd : FuncData} {N ps : List Str} {k : Nat} {sp : Sp}
/-- a def by its body -/
theorem fn_hs (F : FunD K x qual params body scope dvs kws f fd) (Sc : FnScope N ps scope) (len : ∀ vs H Q E, sp vs H Q E → vs.length = ps.length)
    (hb : ∀ (cdv : Value) (A : Around) (outer : List Env) (s : Shared) (H : Hp) (vs : List V) (Q : VK) (E : XK), Room k (A.deeper (envOfC qual scope s.heap.objs.size f cdv)) → sp vs H Q E →
      HS (cxOf CX0 P w K mg base N qual scope f cdv A outer s H E).nox { nx := fun _ H' => Q .non H', rt := Q } body (start N vs) H) : FnOk P w K mg base CX0 (k + 1) f fd ps sp :=
  F.ok Sc len fun cdv A outer s H vs Q E hr h => ⟨_, PSs.nox psb, hb cdv A outer s H vs Q E hr h⟩
theorem kd_mk (F : FunD K x qual params body scope [] kws f fd) (G : FnOk P w K mg base CX0 k f fd ps sp) (hm : mg x = some (.ref f)) (hb : Binds K fd ps []) : KD P w K mg base x k sp := ⟨f, fd, ps, G, hm, F.kp, hb⟩
end
end Z
namespace Z
open PySem PySem.Spec PyProof.Rows L2
theorem Dts.one {K : PySem.W.Frag} {d : PyData} {vs : List V} {S : Hp} (h : Dts K [d] vs S) : ∃ v, vs = [v] ∧ Dt K d v S := (dts_al h).one
theorem Dts.two {K : PySem.W.Frag} {d e : PyData} {vs : List V} {S : Hp} (h : Dts K [d, e] vs S) : ∃ v w, vs = [v, w] ∧ Dt K d v S ∧ Dt K e w S := (dts_al h).two
theorem Dts.three {K : PySem.W.Frag} {d e g : PyData} {vs : List V} {S : Hp} (h : Dts K [d, e, g] vs S) : ∃ v w u, vs = [v, w, u] ∧ Dt K d v S ∧ Dt K e w S ∧ Dt K g u S := (dts_al h).three
end Z
namespace Z
open PySem PySem.Spec PyProof.Rows L2
/-! ## 12. comprehensions in short -/
def tupP (q : PyData × PyData) : PyData := .tuple [q.1, q.2]
theorem zipD_eq (xs ys : List PyData) : zipD xs ys = (xs.zip ys).map tupP := by
  unfold zipD
  rw [List.zip_eq_zipWith, List.map_zipWith]
  rfl
section
variable {X : Cx} {σ : L2.St} {S : Hp} {elt iter : Expr} {ifs : List Expr} {scope : Scope} {pos px py tp : Pos} {ds : List PyData} {ps : List (PyData × PyData)} {α : Type} {enc : α → PyData} {i j kk : Nat} {x y : Str}
theorem wipe1 {σ : L2.St} {i : Nat} {v : Option V} : wipe ((wipe σ [i]).set i v) [i] = wipe σ [i] := by
  show (((σ.set i none).set i v).set i none) = σ.set i none
  rw [List.set_set, List.set_set]
theorem filter_true {α : Type} (l : List α) : l.filter (fun _ => true) = l := by
  induction l with
  | nil => rfl
  | cons a l ih => rw [List.filter_cons]; simp
/-- [elt for x in iter if t] -/
theorem ee_lcf {p : PyData → Bool} {f : PyData → α} (hc : X.calm = true) (hN : X.N.Nodup) (ok : BlkOk X.N X.env.scope scope [(x, i)]) (hi : EI X σ S (.Name x px) iter (Ds X.K ds)) (hz : ds.length ≤ sizeLine)
    (hel : ∀ d ∈ ds, ∀ v S', Same S S' → Dt X.K d v S' → ∀ (s : Shared) (H0 : Hp) (C : Addr) (cl : List (Str × Addr)) (fp : List Addr),
      ETs (X.blk s H0 scope (compEnvC scope cl C X.env) fp) ((wipe σ [i]).set i (some v)) S' ifs (p d) ∧ (p d = true → EE (X.blk s H0 scope (compEnvC scope cl C X.env) fp) ((wipe σ [i]).set i (some v)) S' elt (Dt X.K (enc (f d)))))
    (hix : X.N[i]? = some x := by rfl) (hx : ∀ (s : Shared) (H0 : Hp) (C : Addr) (cl : List (Str × Addr)) (fp : List Addr), Loc (X.blk s H0 scope (compEnvC scope cl C X.env) fp).env.scope x ∧ ((X.blk s H0 scope (compEnvC scope cl C X.env) fp).fn x = true ∨ (X.blk s H0 scope (compEnvC scope cl C X.env) fp).env.scope.names.lookup x = some .local) := by
      intros; exact ⟨by first | exact Or.inl rfl | exact Or.inr rfl, by first | exact .inl rfl | exact .inr rfl⟩)
    (hs : ∀ x, foldedSetIterable iter X.env x = pure x := by intro _; rfl) :
    EE X σ S (.ListComp elt [⟨.Name x px, iter, ifs, 0⟩] scope pos) (Dt X.K (.list (((ds.filter p).map f).map enc))) := by
  refine (ee_lcG (own := [(x, i)]) (p := p) (G := fun d r => r = enc (f d)) hc hN ok hi hz (fun d hd v S' s hv => ⟨(wipe σ [i]).set i (some v), wipe1, fun sh H0 C cl fp => ?_⟩) hs).imp fun v S' h => ?_
  · obtain ⟨h1, h2⟩ := hel d hd v S' s hv sh H0 C cl fp
    obtain ⟨k1, k2⟩ := hx sh H0 C cl fp
    exact ⟨eg_name hN hix k1 k2, h1, fun hp => (h2 hp).imp fun w S2 hw => ⟨_, rfl, hw⟩⟩
  · have e : (ds.filter p).map (fun d => enc (f d)) = ((ds.filter p).map f).map enc := by rw [List.map_map]; rfl
    rw [← e]
    exact fun_of_G h
/-- [elt for x in iter] -/
theorem ee_lc {f : PyData → α} (hc : X.calm = true) (hN : X.N.Nodup) (ok : BlkOk X.N X.env.scope scope [(x, i)]) (hi : EI X σ S (.Name x px) iter (Ds X.K ds)) (hz : ds.length ≤ sizeLine)
    (hel : ∀ d ∈ ds, ∀ v S', Same S S' → Dt X.K d v S' → ∀ (s : Shared) (H0 : Hp) (C : Addr) (cl : List (Str × Addr)) (fp : List Addr), EE (X.blk s H0 scope (compEnvC scope cl C X.env) fp) ((wipe σ [i]).set i (some v)) S' elt (Dt X.K (enc (f d))))
    (hix : X.N[i]? = some x := by rfl) (hx : ∀ (s : Shared) (H0 : Hp) (C : Addr) (cl : List (Str × Addr)) (fp : List Addr), Loc (X.blk s H0 scope (compEnvC scope cl C X.env) fp).env.scope x ∧ ((X.blk s H0 scope (compEnvC scope cl C X.env) fp).fn x = true ∨ (X.blk s H0 scope (compEnvC scope cl C X.env) fp).env.scope.names.lookup x = some .local) := by
      intros; exact ⟨by first | exact Or.inl rfl | exact Or.inr rfl, by first | exact .inl rfl | exact .inr rfl⟩)
    (hs : ∀ x, foldedSetIterable iter X.env x = pure x := by intro _; rfl) :
    EE X σ S (.ListComp elt [⟨.Name x px, iter, [], 0⟩] scope pos) (Dt X.K (.list ((ds.map f).map enc))) :=
  (ee_lcf (p := fun _ => true) hc hN ok hi hz (fun d hd v S' s hv sh H0 C cl fp => ⟨ets_nil, fun _ => hel d hd v S' s hv sh H0 C cl fp⟩) hix hx hs).is (by rw [filter_true])
/-- [elt for x in iter], elements that are not fixed -/
theorem ee_lcN {F : PyData → PyData → Prop} (hc : X.calm = true) (hN : X.N.Nodup) (ok : BlkOk X.N X.env.scope scope [(x, i)]) (hi : EI X σ S (.Name x px) iter (Ds X.K ds)) (hz : ds.length ≤ sizeLine)
    (hel : ∀ d ∈ ds, ∀ v S', Same S S' → Dt X.K d v S' → ∀ (s : Shared) (H0 : Hp) (C : Addr) (cl : List (Str × Addr)) (fp : List Addr), EE (X.blk s H0 scope (compEnvC scope cl C X.env) fp) ((wipe σ [i]).set i (some v)) S' elt (Ex X.K (F d)))
    (hix : X.N[i]? = some x := by rfl) (hx : ∀ (s : Shared) (H0 : Hp) (C : Addr) (cl : List (Str × Addr)) (fp : List Addr), Loc (X.blk s H0 scope (compEnvC scope cl C X.env) fp).env.scope x ∧ ((X.blk s H0 scope (compEnvC scope cl C X.env) fp).fn x = true ∨ (X.blk s H0 scope (compEnvC scope cl C X.env) fp).env.scope.names.lookup x = some .local) := by
      intros; exact ⟨by first | exact Or.inl rfl | exact Or.inr rfl, by first | exact .inl rfl | exact .inr rfl⟩)
    (hs : ∀ x, foldedSetIterable iter X.env x = pure x := by intro _; rfl) :
    EE X σ S (.ListComp elt [⟨.Name x px, iter, [], 0⟩] scope pos) (Ex X.K fun d => ∃ rs, d = .list rs ∧ Paired F ds rs) := by
  refine (ee_lcG (own := [(x, i)]) (p := fun _ => true) (G := F) hc hN ok hi hz (fun d hd v S' s hv => ⟨(wipe σ [i]).set i (some v), wipe1, fun sh H0 C cl fp => ?_⟩) hs).imp fun v S' h => ?_
  · obtain ⟨k1, k2⟩ := hx sh H0 C cl fp
    exact ⟨eg_name hN hix k1 k2, ets_nil, fun _ => hel d hd v S' s hv sh H0 C cl fp⟩
  · obtain ⟨rs, h1, h2⟩ := h
    rw [filter_true] at h1
    exact ⟨_, ⟨rs, rfl, h1⟩, h2⟩
theorem wipe2 {σ : L2.St} {i j : Nat} {v w : Option V} (hij : i ≠ j) : wipe (((wipe σ [i, j]).set i v).set j w) [i, j] = wipe σ [i, j] := by
  show ((((((σ.set j none).set i none).set i v).set j w).set j none).set i none) = ((σ.set j none).set i none)
  rw [List.set_set, List.set_set, List.set_comm _ _ hij, List.set_set, List.set_set]
/-- [elt for x, y in iter if t] -/
theorem ee_lc2f {p : PyData × PyData → Bool} {f : PyData × PyData → α} (hc : X.calm = true) (hN : X.N.Nodup) (ok : BlkOk X.N X.env.scope scope [(x, i), (y, j)]) (hi : EI X σ S (.Tuple [.Name x px, .Name y py] kk tp) iter (Ds X.K (ps.map tupP))) (hz : ps.length ≤ sizeLine)
    (hel : ∀ q ∈ ps, ∀ v w S', Same S S' → Dt X.K q.1 v S' → Dt X.K q.2 w S' → ∀ (s : Shared) (H0 : Hp) (C : Addr) (cl : List (Str × Addr)) (fp : List Addr),
      ETs (X.blk s H0 scope (compEnvC scope cl C X.env) fp) (((wipe σ [i, j]).set i (some v)).set j (some w)) S' ifs (p q) ∧ (p q = true → EE (X.blk s H0 scope (compEnvC scope cl C X.env) fp) (((wipe σ [i, j]).set i (some v)).set j (some w)) S' elt (Dt X.K (enc (f q)))))
    (hij : i ≠ j := by decide) (hix : X.N[i]? = some x := by rfl) (hjy : X.N[j]? = some y := by rfl) (hx : ∀ (s : Shared) (H0 : Hp) (C : Addr) (cl : List (Str × Addr)) (fp : List Addr), (Loc (X.blk s H0 scope (compEnvC scope cl C X.env) fp).env.scope x ∧ ((X.blk s H0 scope (compEnvC scope cl C X.env) fp).fn x = true ∨ (X.blk s H0 scope (compEnvC scope cl C X.env) fp).env.scope.names.lookup x = some .local)) ∧
      (Loc (X.blk s H0 scope (compEnvC scope cl C X.env) fp).env.scope y ∧ ((X.blk s H0 scope (compEnvC scope cl C X.env) fp).fn y = true ∨ (X.blk s H0 scope (compEnvC scope cl C X.env) fp).env.scope.names.lookup y = some .local)) := by
      intros; exact ⟨⟨by first | exact Or.inl rfl | exact Or.inr rfl, by first | exact .inl rfl | exact .inr rfl⟩, ⟨by first | exact Or.inl rfl | exact Or.inr rfl, by first | exact .inl rfl | exact .inr rfl⟩⟩)
    (ha : ∀ (s : Shared) (H0 : Hp) (C : Addr) (cl : List (Str × Addr)) (fp : List Addr), (assignEach [.Name x px, .Name y py] (X.blk s H0 scope (compEnvC scope cl C X.env) fp).env).length = 2 ∧ (assignEach [.Name x px, .Name y py] (X.blk s H0 scope (compEnvC scope cl C X.env) fp).env).findIdx? (·.1) = none ∧
      (assignEach [.Name x px, .Name y py] (X.blk s H0 scope (compEnvC scope cl C X.env) fp).env).map (·.2) = assign (.Name x px) (X.blk s H0 scope (compEnvC scope cl C X.env) fp).env :: (assignEach [.Name y py] (X.blk s H0 scope (compEnvC scope cl C X.env) fp).env).map (·.2) ∧ (assignEach [.Name y py] (X.blk s H0 scope (compEnvC scope cl C X.env) fp).env).map (·.2) = assign (.Name y py) (X.blk s H0 scope (compEnvC scope cl C X.env) fp).env :: (assignEach [] (X.blk s H0 scope (compEnvC scope cl C X.env) fp).env).map (·.2) := by intros; exact ⟨rfl, rfl, rfl, rfl⟩)
    (hs : ∀ x, foldedSetIterable iter X.env x = pure x := by intro _; rfl) :
    EE X σ S (.ListComp elt [⟨.Tuple [.Name x px, .Name y py] kk tp, iter, ifs, 0⟩] scope pos) (Dt X.K (.list (((ps.filter p).map f).map enc))) := by
  have e0 : ∀ q ∈ ps.map tupP, ∃ r ∈ ps, q = tupP r := fun q hq => by
    obtain ⟨r, h1, h2⟩ := List.mem_map.mp hq
    exact ⟨r, h1, h2.symm⟩
  let un : PyData → PyData × PyData := fun d => match d with
    | .tuple [a, b] => (a, b)
    | _ => (.none, .none)
  have un_t : ∀ q, un (tupP q) = q := fun q => rfl
  refine (ee_lcG (own := [(x, i), (y, j)]) (p := fun d => p (un d)) (G := fun d r => r = enc (f (un d))) hc hN ok hi (by rw [List.length_map]; exact hz) (fun d hd v S' s hv => ?_) hs).imp fun v S' h => ?_
  · obtain ⟨q, hq, rfl⟩ := e0 d hd
    obtain ⟨l, xs, rfl, hl, hx', _⟩ := hv.tup_inv
    obtain ⟨v1, e1, p1⟩ := hx'.get (i := 0) (d := q.1) rfl
    obtain ⟨v2, e2, p2⟩ := hx'.get (i := 1) (d := q.2) rfl
    have hxs : xs = [v1, v2] := by
      have hl2 := hx'.1
      match xs, hl2 with
      | [u, w], _ => simp at e1 e2; rw [e1, e2]
    subst hxs
    refine ⟨((wipe σ [i, j]).set i (some v1)).set j (some v2), wipe2 hij, fun sh H0 C cl fp => ?_⟩
    obtain ⟨h1, h2⟩ := hel q hq v1 v2 S' s p1 p2 sh H0 C cl fp
    obtain ⟨⟨k1, k2⟩, ⟨k3, k4⟩⟩ := hx sh H0 C cl fp
    obtain ⟨a1, a2, a3, a4⟩ := ha sh H0 C cl fp
    refine ⟨fun H s2 Q qq => ?_, h1, fun hp => (h2 hp).imp fun w S2 hw => ⟨_, rfl, hw⟩⟩
    exact hg_of (pg_tup hc (pgs_cons (pg_name hN hix k1 k2) (pgs_cons (pg_name hN hjy k3 k4) pgs_nil a4) a3) a1 a2) ⟨l, _, rfl, sqt_up s2 hl, rfl, _, _, rfl, _, _, rfl, rfl, qq⟩
  · have h3 := fun_of_G (f := fun d => enc (f (un d))) (p := fun d => p (un d)) h
    have e : ((ps.map tupP).filter fun d => p (un d)).map (fun d => enc (f (un d))) = ((ps.filter p).map f).map enc := by
      rw [List.filter_map, List.map_map, List.map_map]
      rfl
    rw [← e]
    exact h3
/-- [elt for x, y in iter] -/
theorem ee_lc2 {f : PyData × PyData → α} (hc : X.calm = true) (hN : X.N.Nodup) (ok : BlkOk X.N X.env.scope scope [(x, i), (y, j)]) (hi : EI X σ S (.Tuple [.Name x px, .Name y py] kk tp) iter (Ds X.K (ps.map tupP))) (hz : ps.length ≤ sizeLine)
    (hel : ∀ q ∈ ps, ∀ v w S', Same S S' → Dt X.K q.1 v S' → Dt X.K q.2 w S' → ∀ (s : Shared) (H0 : Hp) (C : Addr) (cl : List (Str × Addr)) (fp : List Addr), EE (X.blk s H0 scope (compEnvC scope cl C X.env) fp) (((wipe σ [i, j]).set i (some v)).set j (some w)) S' elt (Dt X.K (enc (f q))))
    (hij : i ≠ j := by decide) (hix : X.N[i]? = some x := by rfl) (hjy : X.N[j]? = some y := by rfl) (hx : ∀ (s : Shared) (H0 : Hp) (C : Addr) (cl : List (Str × Addr)) (fp : List Addr), (Loc (X.blk s H0 scope (compEnvC scope cl C X.env) fp).env.scope x ∧ ((X.blk s H0 scope (compEnvC scope cl C X.env) fp).fn x = true ∨ (X.blk s H0 scope (compEnvC scope cl C X.env) fp).env.scope.names.lookup x = some .local)) ∧
      (Loc (X.blk s H0 scope (compEnvC scope cl C X.env) fp).env.scope y ∧ ((X.blk s H0 scope (compEnvC scope cl C X.env) fp).fn y = true ∨ (X.blk s H0 scope (compEnvC scope cl C X.env) fp).env.scope.names.lookup y = some .local)) := by
      intros; exact ⟨⟨by first | exact Or.inl rfl | exact Or.inr rfl, by first | exact .inl rfl | exact .inr rfl⟩, ⟨by first | exact Or.inl rfl | exact Or.inr rfl, by first | exact .inl rfl | exact .inr rfl⟩⟩)
    (ha : ∀ (s : Shared) (H0 : Hp) (C : Addr) (cl : List (Str × Addr)) (fp : List Addr), (assignEach [.Name x px, .Name y py] (X.blk s H0 scope (compEnvC scope cl C X.env) fp).env).length = 2 ∧ (assignEach [.Name x px, .Name y py] (X.blk s H0 scope (compEnvC scope cl C X.env) fp).env).findIdx? (·.1) = none ∧
      (assignEach [.Name x px, .Name y py] (X.blk s H0 scope (compEnvC scope cl C X.env) fp).env).map (·.2) = assign (.Name x px) (X.blk s H0 scope (compEnvC scope cl C X.env) fp).env :: (assignEach [.Name y py] (X.blk s H0 scope (compEnvC scope cl C X.env) fp).env).map (·.2) ∧ (assignEach [.Name y py] (X.blk s H0 scope (compEnvC scope cl C X.env) fp).env).map (·.2) = assign (.Name y py) (X.blk s H0 scope (compEnvC scope cl C X.env) fp).env :: (assignEach [] (X.blk s H0 scope (compEnvC scope cl C X.env) fp).env).map (·.2) := by intros; exact ⟨rfl, rfl, rfl, rfl⟩)
    (hs : ∀ x, foldedSetIterable iter X.env x = pure x := by intro _; rfl) :
    EE X σ S (.ListComp elt [⟨.Tuple [.Name x px, .Name y py] kk tp, iter, [], 0⟩] scope pos) (Dt X.K (.list ((ps.map f).map enc))) :=
  (ee_lc2f (p := fun _ => true) hc hN ok hi hz (fun q hq v w S' s hv hw sh H0 C cl fp => ⟨ets_nil, fun _ => hel q hq v w S' s hv hw sh H0 C cl fp⟩) hij hix hjy hx ha hs).is (by rw [filter_true])
end
end Z
namespace Z
open PySem PySem.Spec PyProof.Rows L2
/-! ## 13. the law's box: an object known by what holds of it alone -/
def Stab (b : Addr) (φ : Heap → Prop) : Prop := ∀ h1 h2 : Heap, φ h1 → (∀ o, h1.get? b = some o → h2.get? b = some o) → φ h2
section
variable {P : Program} {w : World} {H : Hp} {h : Heap} {b : Addr} {φ : Heap → Prop} {xs : List V}
theorem hok_swap {o o' : HO} (x : HOk P w H h) (hb : H b = some o) (no : ∀ a, o ≠ .own a) (nt : ∀ xs, o ≠ .tup xs) (new : ObjOk P w (upd H b o') h b o') : HOk P w (upd H b o') h := fun a u e => by
  by_cases ha : a = b
  · subst ha; rw [upd_same] at e; cases e; exact new
  · rw [upd_ne ha] at e
    refine (x a u e).stay (fun _ _ _ q => q) (fun c q => ?_) fun c ys q => ?_
    · rw [upd_ne (fun z => by subst z; rw [hb] at q; exact no a (Option.some.inj q))]; exact q
    · rw [upd_ne (fun z => by subst z; rw [hb] at q; exact nt ys (Option.some.inj q))]; exact q
end
theorem un_swap {fs ex : List Addr} {H H1 H2 H3 : Hp} {h h' : Heap} (u : Un fs ex H1 H2 h h') (k1 : ∀ a, H a = none → H1 a = none) (k2 : ∀ a, H a = none → H2 a = none → H3 a = none)
    (kt : ∀ a xs, H a = some (.tup xs) → H3 a = some (.tup xs)) (kf : ∀ a o x, H a = some (.frz o x) → H3 a = some (.frz o x)) (kb : ∀ a ps, H a = some (.tbl ps) → ∃ more, H3 a = some (.tbl (ps ++ more))) : Un fs ex H H3 h h' where
  keep := fun a o q n => u.keep a o q (k1 a n)
  slot := fun a o q n => u.slot a o q (k1 a n)
  free := fun a o q n x => k2 a n (u.free a o q (k1 a n) x)
  there := u.there
  tups := kt
  frzs := kf
  tbls := kb
section
variable {P : Program} {w : World} {K : PySem.W.Frag} {mg : Str → Option Value} {base : Heap} {k : Nat} {f : Addr} {fd : FuncData} {ps : List Str} {sp0 sp : Sp}
/-- a def over the list at b, for callers that know b by φ -/
theorem FnOk.box (F : FnOk P w K mg base CX0 k f fd ps sp0) (len : ∀ vs H Q E, sp vs H Q E → vs.length = ps.length)
    (hc : ∀ vs H Q E, sp vs H Q E → ∃ (b : Addr) (φ : Heap → Prop), H b = some (.ext φ) ∧ ∀ h, φ h → ∃ xs, ObjOk P w H h b (.lst xs) ∧
      sp0 vs (upd H b (.lst xs)) (fun v H' => ∃ ys, H' b = some (.lst ys) ∧ (∀ h', ObjOk P w H' h' b (.lst ys) → φ h') ∧ (∀ a o, H a = some o → a ≠ b → H' a = some o) ∧ Q v (upd H' b (.ext φ))) E0) : FnOk P w K mg base CX0 k f fd ps sp := by
  refine ⟨len, fun A outer s H args us vs Q E hr e0 hb rv hsp => ?_⟩
  obtain ⟨b, φ, hbo, hc⟩ := hc vs H Q E hsp
  obtain ⟨p, ⟨ob, hob⟩, st⟩ := e0.hok b _ hbo
  obtain ⟨xs, hx, hs0⟩ := hc s.heap p
  have ne : ∀ a, H a = none → a ≠ b := fun a n z => by rw [z, hbo] at n; cases n
  have e1 : Env0 P w K mg base A outer s (upd H b (.lst xs)) := ⟨e0.frames, e0.mod, fun a o q => ⟨(e0.bs a o q).1, by rw [upd_ne (ne a (e0.bs a o q).2)]; exact (e0.bs a o q).2⟩, e0.bsz, e0.funs, fun a ha => by rw [upd_ne (ne a (e0.frf a ha))]; exact e0.frf a ha,
    hok_swap e0.hok hbo (fun _ z => nomatch z) (fun _ z => nomatch z) hx, e0.bare⟩
  refine codeAny_mono (F.run A outer s _ args us vs _ E0 hr e1 hb rv hs0) fun r s' hq => ?_
  cases r with
  | error e => exact hq
  | ok fl =>
    cases fl with
    | ret u =>
      obtain ⟨v, H', os, bare, un, hok, r, ys, hy, hφ, hsm, q⟩ := hq
      refine ⟨v, upd H' b (.ext φ), os, bare, ?_, ?_, r, q⟩
      · refine un_swap un (fun a n => by rw [upd_ne (ne a n)]; exact n) (fun a n n2 => by rw [upd_ne (ne a n)]; exact n2) (fun a ys e => ?_) (fun a o x e => ?_) fun a ps e => ?_
        · have hne : a ≠ b := fun z => by rw [z, hbo] at e; cases e
          rw [upd_ne hne]; exact hsm a _ e hne
        · have hne : a ≠ b := fun z => by rw [z, hbo] at e; cases e
          rw [upd_ne hne]; exact hsm a _ e hne
        · have hne : a ≠ b := fun z => by rw [z, hbo] at e; cases e
          refine ⟨#[], ?_⟩
          rw [upd_ne hne, Array.append_empty]; exact hsm a _ e hne
      · have ox := hok b _ hy
        refine hok_swap hok hy (fun _ z => nomatch z) (fun _ z => nomatch z) ⟨hφ _ ox, ?_, st⟩
        obtain ⟨_, its, n, _, e⟩ := ox
        exact ⟨_, e⟩
    | next => exact hq
    | brk => exact hq
    | cont => exact hq
/-- a def that hands back a new list, for callers that know it by φ -/
theorem FnOk.close (F : FnOk P w K mg base CX0 k f fd ps sp0) (len : ∀ vs H Q E, sp vs H Q E → vs.length = ps.length)
    (hc : ∀ vs H Q E, sp vs H Q E → sp0 vs H (fun v H' => ∃ b ys φ, H b = none ∧ H' b = some (.lst ys) ∧ Same H H' ∧ (∀ h', ObjOk P w H' h' b (.lst ys) → φ h') ∧ Stab b φ ∧ Q v (upd H' b (.ext φ))) E0) : FnOk P w K mg base CX0 k f fd ps sp := by
  refine ⟨len, fun A outer s H args us vs Q E hr e0 hb rv hsp => ?_⟩
  refine codeAny_mono (F.run A outer s _ args us vs _ E0 hr e0 hb rv (hc vs H Q E hsp)) fun r s' hq => ?_
  cases r with
  | error e => exact hq
  | ok fl =>
    cases fl with
    | ret u =>
      obtain ⟨v, H', os, bare, un, hok, r, b, ys, φ, hn, hy, hs, hφ, st, q⟩ := hq
      refine ⟨v, upd H' b (.ext φ), os, bare, ?_, ?_, r, q⟩
      · refine un_swap un (fun _ n => n) (fun a n n2 => by rw [upd_ne (fun z => by rw [z, hy] at n2; cases n2)]; exact n2) (fun a ys e => ?_) (fun a o x e => ?_) fun a ps e => ?_
        · rw [upd_ne (ne_of_none e hn)]; exact hs _ _ e
        · rw [upd_ne (ne_of_none e hn)]; exact hs _ _ e
        · refine ⟨#[], ?_⟩
          rw [upd_ne (ne_of_none e hn), Array.append_empty]; exact hs _ _ e
      · have ox := hok b _ hy
        refine hok_swap hok hy (fun _ z => nomatch z) (fun _ z => nomatch z) ⟨hφ _ ox, ?_, st⟩
        obtain ⟨_, its, n, _, e⟩ := ox
        exact ⟨_, e⟩
    | next => exact hq
    | brk => exact hq
    | cont => exact hq
end
/-- what the box holds: the cells, the place, a great rest, a mixed number, a count -/
structure BoxV (c : Addr) (xs : List V) : Prop where
  ex : ∃ i g m k : Int, xs = [.ref c, .int i, .int g, .int m, .int k] ∧ 0 ≤ i ∧ 0 ≤ g ∧ 0 ≤ m ∧ m < 2147483648 ∧ 0 ≤ k
def boxPhi (b c : Addr) : Heap → Prop := fun h => ∃ (xs : List V) (its : List Value) (n : Nat), BoxV c xs ∧ Vals xs its ∧ h.get? b = some { cls := .type "list", data := .seq its.toArray n }
theorem box_stab {b c : Addr} : Stab b (boxPhi b c) := fun h1 h2 ⟨xs, its, n, hx, r, e⟩ k => ⟨xs, its, n, hx, r, k _ e⟩
theorem box_of {P : Program} {w : World} {H : Hp} {h : Heap} {b c : Addr} {xs : List V} (hx : BoxV c xs) (o : ObjOk P w H h b (.lst xs)) : boxPhi b c h := by
  obtain ⟨_, its, n, r, e⟩ := o
  exact ⟨xs, its, n, hx, r, e⟩
theorem of_box {P : Program} {w : World} {H : Hp} {h : Heap} {b c : Addr} (p : boxPhi b c h) : ∃ xs, BoxV c xs ∧ ObjOk P w H h b (.lst xs) := by
  obtain ⟨xs, its, n, hx, r, e⟩ := p
  refine ⟨xs, hx, ?_, its, n, r, e⟩
  obtain ⟨i, g, m, k, rfl, _⟩ := hx.ex
  show 5 ≤ 16777216
  decide
/-- v is a box -/
def BX : V → Hp → Prop := fun v S => ∃ (b c : Addr) (ns : List Int), v = .ref b ∧ b ≠ c ∧ S b = some (.ext (boxPhi b c)) ∧ S c = some (.lst (ns.map V.int)) ∧ ns.length ≤ 63
instance : Mn BX := ⟨fun s ⟨b, c, ns, e, n, h1, h2, l⟩ => ⟨b, c, ns, e, n, s _ _ h1, s _ _ h2, l⟩⟩
/-- a def over the box and data: any of what G tells may come back -/
def spB (K : PySem.W.Frag) (F : List PyData → (PyData → Prop) → Prop) : Sp := fun vs H Q _ => ∃ S v ws ds G, vs = v :: ws ∧ Same S H ∧ BX v S ∧ Dts K ds ws S ∧ F ds G ∧ ∀ d, G d → ∀ u S' H', Gr S H S' H' → Dt K d u S' → Q u H'
section
variable {X : Cx} {σ : L2.St} {S S' : Hp} {e a b c : Expr} {es : List Expr} {P R : V → Hp → Prop} {Ps : List (V → Hp → Prop)} {pos p : Pos} {k : Nat} {x : Str} {sp : Sp} {d : PyData} {ds : List PyData}
theorem spB_E {F : List PyData → (PyData → Prop) → Prop} {G : PyData → Prop} (hF : F ds G) : SpE (spB X.K F) S (BX :: Ds X.K ds) (Ex X.K G) := fun vs S1 H1 _ s al Q q => by
  cases al with
  | cons p r => exact ⟨S1, _, _, ds, G, rfl, s, p, al_dts r, hF, fun d hd u S' H' g pd => q u S' H' g ⟨d, hd, pd⟩⟩
theorem ee_callBx {F : List PyData → (PyData → Prop) → Prop} {G : PyData → Prop} (D : KD X.prog X.w X.K X.mg X.base x k (spB X.K F)) (hr : Room k X.A) (hF : F ds G) (ha : EA X σ S (e :: es) (BX :: Ds X.K ds)) (hg : Gl X x := by rfl) (hdb : (x == ("__debug__" : Str)) = false := by decide)
    (he : starEach (e :: es) X.env = (false, eval e X.env) :: starEach es X.env := by rfl) (hpl : (backTo pos (starEach es X.env)).any (·.1) = false := by rfl) : EE X σ S (.Call (.Name x p) (e :: es) [] pos) (Ex X.K G) :=
  ee_call D hr ha (spB_E hF) hg hdb he hpl
/-! ### what is not fixed, taken on -/
theorem ex_imp {K : PySem.W.Frag} {F G : PyData → Prop} {v : V} {S : Hp} (h : Ex K F v S) (f : ∀ d, F d → G d) : Ex K G v S := by
  obtain ⟨d, hd, p⟩ := h
  exact ⟨d, f d hd, p⟩
theorem EE.ex {F : PyData → Prop} (h : EE X σ S e (Dt X.K d)) (f : F d) : EE X σ S e (Ex X.K F) := h.imp fun v S' p => ⟨d, f, p⟩
theorem EE.exi {F G : PyData → Prop} (h : EE X σ S e (Ex X.K F)) (f : ∀ d, F d → G d) : EE X σ S e (Ex X.K G) := h.imp fun v S' p => ex_imp p f
/-- + of numbers that are not fixed -/
theorem ee_addE {F G : Int → Prop} (ha : EE X σ S a (Ex X.K fun d => ∃ i, d = .int i ∧ F i)) (hb : EE X σ S b (Ex X.K fun d => ∃ i, d = .int i ∧ G i)) : EE X σ S (.BinOp a .Add b pos) (Ex X.K fun d => ∃ i, d = .int i ∧ ∃ x y, F x ∧ G y ∧ i = x + y) :=
  ee_op op_add ha hb fun v w S1 H1 _ s ⟨d, ⟨i, e, fi⟩, pv⟩ ⟨d', ⟨j, e', gj⟩, pw⟩ Q q => by
    subst e; subst e'
    cases pv; cases pw
    exact ⟨i, j, rfl, rfl, q _ S1 H1 (Gr.refl s) ⟨_, ⟨_, rfl, i, j, fi, gj, rfl⟩, .int _⟩⟩
theorem ee_tupleE {F : List PyData → Prop} (hm : X.mg "tuple" = none) (ha : EE X σ S a (Ex X.K fun d => ∃ rs, d = .list rs ∧ F rs)) (hg : Gl X "tuple" := by rfl)
    (hs : starEach [a] X.env = (false, eval a X.env) :: starEach [] X.env := by rfl) : EE X σ S (.Call (.Name "tuple" p) [a] [] pos) (Ex X.K fun d => ∃ rs, d = .tuple rs ∧ F rs) :=
  ee_callTy call_tuple_of hm boot_tuple (ea_1 ha hs) (fun vs S1 H1 _ s al Q q => by
    obtain ⟨v, rfl, d, ⟨rs, rfl, hf⟩, pv⟩ := al.one
    obtain ⟨l, xs, rfl, hl, hx, z⟩ := pv.lst_inv
    exact ⟨l, xs, rfl, .inl ⟨sql_of (s _ _ hl), fun t ht => q _ _ _ (Gr.new s ht) ⟨_, ⟨rs, rfl, hf⟩, Dt.tup_mk (tus_of upd_same) (hx.up (Same.new (s.free ht))) z⟩⟩⟩) hg (he := hs) (hpl := by rfl)
/-- displays of data that is not fixed -/
def Exs (K : PySem.W.Frag) (Fs : List (PyData → Prop)) : List (V → Hp → Prop) := Fs.map (Ex K)
inductive AllF : List (PyData → Prop) → List PyData → Prop
  | nil : AllF [] []
  | cons {F : PyData → Prop} {Fs : List (PyData → Prop)} {d : PyData} {ds : List PyData} : F d → AllF Fs ds → AllF (F :: Fs) (d :: ds)
theorem AllF.len {Fs : List (PyData → Prop)} {ds : List PyData} (h : AllF Fs ds) : ds.length = Fs.length := by
  induction h with
  | nil => rfl
  | cons _ _ ih => simp [ih]
theorem al_exs {K : PySem.W.Frag} : ∀ {Fs : List (PyData → Prop)} {vs : List V} {H : Hp}, Al (Exs K Fs) vs H → ∃ ds, AllF Fs ds ∧ Dts K ds vs H
  | [], _, _, h => by cases h; exact ⟨[], .nil, .nil⟩
  | F :: Fs, _, _, h => by cases h with
    | cons p r =>
      obtain ⟨ds, h1, h2⟩ := al_exs r
      obtain ⟨d, hd, pd⟩ := p
      exact ⟨d :: ds, .cons hd h1, .cons pd h2⟩
theorem ee_tupE {es : List Expr} {x1} {Fs : List (PyData → Prop)} (h : EA X σ S es (Exs X.K Fs)) (hz : Fs.length ≤ sizeLine := by show _ ≤ 16777216; exact Nat.le_of_ble_eq_true rfl) : EE X σ S (.Tuple es x1 pos) (Ex X.K fun d => ∃ ds, d = .tuple ds ∧ AllF Fs ds) :=
  ee_tupA (vsP := fun vs S' => ∃ ds, AllF Fs ds ∧ Dts X.K ds vs S') (fun H s Q q => h.2 H s Q fun vs S' H' g al => q vs S' H' g (al_exs al)) (fun vs S' ⟨ds, h1, h2⟩ => by rw [h2.1, h1.len]; exact hz)
    fun vs S' p _ hp ⟨ds, h1, h2⟩ => ⟨_, ⟨ds, rfl, h1⟩, Dt.tup_mk (tus_of upd_same) (h2.up (Same.new hp)) (by rw [h2.1, h1.len]; exact hz)⟩
theorem ee_lstE {es : List Expr} {Fs : List (PyData → Prop)} (h : EA X σ S es (Exs X.K Fs)) (hz : Fs.length ≤ sizeLine := by show _ ≤ 16777216; exact Nat.le_of_ble_eq_true rfl) : EE X σ S (.List es pos) (Ex X.K fun d => ∃ ds, d = .list ds ∧ AllF Fs ds) :=
  ee_lstA (vsP := fun vs S' => ∃ ds, AllF Fs ds ∧ Dts X.K ds vs S') (fun H s Q q => h.2 H s Q fun vs S' H' g al => q vs S' H' g (al_exs al)) (fun vs S' ⟨ds, h1, h2⟩ => by rw [h2.1, h1.len]; exact hz)
    fun vs S' p _ hp ⟨ds, h1, h2⟩ => ⟨_, ⟨ds, rfl, h1⟩, Dt.lst_mk upd_same (h2.up (Same.new hp)) (by rw [h2.1, h1.len]; exact hz)⟩
end
end Z
namespace Z
open PySem PySem.Spec PyProof.Rows L2
/-! ### lists that change -/
section
variable {X : Cx} {σ : L2.St} {S H : Hp} {e o i : Expr} {P : V → Hp → Prop} {pos pos' : Pos} {D : Ends} {rest : List Stmt} {b : Addr} {xs : List V} {k : Int} {j : Nat} {v : V}
/-- o[i] = e -/
theorem hs_setL [Mn P] (he : EE X σ H e P) (ho : EE X σ H o (fun w _ => w = .ref b)) (hi : EE X σ H i (Dt X.K (.int k))) (hb : H b = some (.lst xs)) (hk : ixN xs.length k = some j)
    (q : ∀ v H', Same H H' → P v H' → HS X D rest σ (upd H' b (.lst (xs.set j v))))
    (ha : ∀ v, assign (.Subscript o i pos') X.env v = (do
      let ov ← holding [v] (eval o X.env)
      let iv ← holding [v, ov] (eval i X.env)
      standAt pos'
      holding [v, ov, iv] (setItem ov iv v)
      release [v, ov, iv] []) := by intro _; rfl)
    (hs : swapsWithSole [.Subscript o i pos'] e pos.line X.env = pure false := by rfl) (hw : swappedStores [.Subscript o i pos'] e X.env = pure none := by rfl)
    (h1 : (assignEach [.Subscript o i pos'] X.env).map (·.2) = [assign (.Subscript o i pos') X.env] := by rfl) : HS X D (.Assign [.Subscript o i pos'] e pos :: rest) σ H :=
  hs_cons (ps_asg peb (pg_sub peb peb set_list ha) hs hw h1) (he H (Same.refl H) _ fun v S1 H1 g1 pv => ho H1 g1.hh _ fun w S2 H2 g2 pw => hi H2 (g1.hh.trans g2.hh) _ fun u S3 H3 g3 pu => by
    subst pw
    cases pu
    have s3 := (g1.hh.trans g2.hh).trans g3.hh
    exact ⟨b, xs, k, j, rfl, rfl, s3 _ _ hb, hk, q v H3 s3 (Mn.up (g1.sub.trans (g2.hh.trans g3.hh)) pv)⟩)
/-- an item of such a list -/
theorem ee_ixB (hb : S b = some (.lst xs)) (ho : EE X σ S o (fun w _ => w = .ref b)) (hi : EE X σ S i (Dt X.K (.int k))) (hx : atI xs k = some v) (hp : ∀ S', Same S S' → P v S') (hs : PlainIx i := by exact fun _ _ => rfl) : EE X σ S (.Subscript o i pos) P := by
  haveI := mn_eq (v := .ref b)
  exact ee_2 (pe_ix ix_list peb peb hs) ho hi fun x y S1 H1 s0 s px py Q q => by
    subst px
    cases py
    exact ⟨b, xs, k, v, rfl, rfl, sql_of (s _ _ (s0 _ _ hb)), hx, q _ S1 H1 (Gr.refl s) (hp S1 s0)⟩
end
end Z
namespace Z
open PySem PySem.Spec PyProof.Rows L2
/-- an if whose ways meet in M, told of the whole heap -/
theorem hs_ifR {X : Cx} {σ : L2.St} {S H : Hp} {c : Expr} {pos : Pos} {D : Ends} {rest body orelse : List Stmt} {k : Bool} (M : L2.St → Hp → Prop) (h : ET X σ S c k) (s : Same S H) (qt : k = true → ∀ S' H', Gr S H S' H' → HS X { D with nx := M } body σ H') (qf : k = false → ∀ S' H', Gr S H S' H' → HS X { D with nx := M } orelse σ H')
    (h2 : ∀ σ' H', M σ' H' → HS X D rest σ' H') : HS X D (.If c body orelse pos :: rest) σ H :=
  hs_cons (ps_if ptb psb psb) (h H s _ fun S' H' g => by
    have key : ∀ st, HS X { D with nx := M } st σ H' → HS X (Dn X D rest) st σ H' := fun st z => hs_mono z (fun σ' H2 m => h2 σ' H2 m) (fun _ _ z => z) (fun _ _ z => z) (fun _ _ z => z)
    cases k with
    | true => exact iteT (key _ (qt rfl S' H' g))
    | false => exact iteF (key _ (qf rfl S' H' g)))
theorem ee_mulS {X : Cx} {σ : L2.St} {S : Hp} {a b : Expr} {pos : Pos} {i j : Int} (hc : CMul i j) (ha : EE X σ S a (Dt X.K (.int i))) (hb : EE X σ S b (Dt X.K (.int j))) : EE X σ S (.BinOp a .Mult b pos) (Dt X.K (.int (i * j))) := ee_op op_mul ha hb (opE_I hc fun _ => .int _)
end Z
namespace Z
open PySem PySem.Spec PyProof.Rows L2
/-! ## 14. more rules -/
/-- walked things that are not fixed: W tells which lists they may be -/
def EIW (X : Cx) (σ : L2.St) (S : Hp) (tg iter : Expr) (W : List PyData → Prop) : Prop := ∀ H, Same S H → ∀ R : It → Hp → Prop, (∀ ds J S' H', W ds → Gr S H S' H' → ItP J S' (Ds X.K ds) → R J H') → HI X tg iter σ H R
section
variable {X : Cx} {σ : L2.St} {S S' : Hp} {e a b c o elt tg iter : Expr} {es : List Expr} {P R : V → Hp → Prop} {Ps : List (V → Hp → Prop)} {pos p px : Pos} {k : Bool} {x y : Str} {d d1 d2 : PyData} {ds ds1 ds2 : List PyData} {i j : Nat} {n : Int} {scope : Scope} {own : List (Str × Nat)} {D : Ends} {rest : List Stmt}
theorem eiw_range {F : Nat → Prop} (hm : X.mg "range" = none) (hn : ∀ n, F n → (n : Int) < 2 ^ 62) (ha : EE X σ S a (Ex X.K fun d => ∃ n : Nat, d = .int n ∧ F n)) (hg : Gl X "range" := by rfl) (hs : starEach [a] X.env = [(false, eval a X.env)] := by rfl) :
    EIW X σ S tg (.Call (.Name "range" p) [a] [] pos) (fun ds => ∃ n, F n ∧ ds = upto n) := fun H s R q =>
  hi_of (pi_range1 hg hm pab hs) ((ea_1 ha (by rw [hs]; rfl)).2 H s _ fun vs S1 H1 g1 al => by
    obtain ⟨v, rfl, d, ⟨n, rfl, fn⟩, pv⟩ := al.one
    cases pv
    refine ⟨(n : Int), rfl, by omega, hn n fn, q _ _ S1 H1 ⟨n, fn, rfl⟩ g1 ⟨fun i H hi hs => ?_, fun H hs => ?_, fun i H x H' hi hs y T st th => ?_⟩⟩
    · rw [ds_len, upto_len] at hi
      show i < ((n : Int)).toNat
      omega
    · rw [ds_len, upto_len]
      show ((n : Int)).toNat ≤ n
      omega
    · rw [ds_len, upto_len] at hi
      obtain ⟨rfl, rfl⟩ : H' = H ∧ x = .int (0 + (i : Int)) := y
      rw [Int.zero_add]
      exact ⟨T, Gr.refl th, _, ds_get (upto_get hi), .int _⟩)
/-- [elt for x in iter], the walked and the elements not fixed -/
theorem ee_lcW {F : PyData → PyData → Prop} {W : List PyData → Prop} (hc : X.calm = true) (hN : X.N.Nodup) (ok : BlkOk X.N X.env.scope scope [(x, i)]) (hi : EIW X σ S (.Name x px) iter W) (hz : ∀ ds, W ds → ds.length ≤ sizeLine)
    (hel : ∀ ds, W ds → ∀ d ∈ ds, ∀ v S', Same S S' → Dt X.K d v S' → ∀ (s : Shared) (H0 : Hp) (C : Addr) (cl : List (Str × Addr)) (fp : List Addr), EE (X.blk s H0 scope (compEnvC scope cl C X.env) fp) ((wipe σ [i]).set i (some v)) S' elt (Ex X.K (F d)))
    (hix : X.N[i]? = some x := by rfl) (hx : ∀ (s : Shared) (H0 : Hp) (C : Addr) (cl : List (Str × Addr)) (fp : List Addr), Loc (X.blk s H0 scope (compEnvC scope cl C X.env) fp).env.scope x ∧ ((X.blk s H0 scope (compEnvC scope cl C X.env) fp).fn x = true ∨ (X.blk s H0 scope (compEnvC scope cl C X.env) fp).env.scope.names.lookup x = some .local) := by
      intros; exact ⟨by first | exact Or.inl rfl | exact Or.inr rfl, by first | exact .inl rfl | exact .inr rfl⟩)
    (hs : ∀ x, foldedSetIterable iter X.env x = pure x := by intro _; rfl) :
    EE X σ S (.ListComp elt [⟨.Name x px, iter, [], 0⟩] scope pos) (Ex X.K fun d => ∃ rs, d = .list rs ∧ ∃ ds, W ds ∧ Paired F ds rs) := fun H s Q q =>
  he_of (pe_lc (own := [(x, i)]) (wi := bI X (.Name x px) iter) (g := gBlk X scope (.Name x px)) (tt := tBlk X scope []) (te := eBlk X scope elt) hc hN pib ok
    (fun s H0 C cl fp => ⟨fun pins sh σ' H' v u Q' I r h => h s H0 C cl fp pins sh u I r⟩) (fun s H0 C cl fp => ⟨fun pins sh σ' H' Q' I h => h s H0 C cl fp pins sh I⟩) (fun s H0 C cl fp => ⟨fun pins sh σ' H' Q' I h => h s H0 C cl fp pins sh I⟩) hs)
    (hi H s _ fun ds J S1 H1 hw g1 it => lc_loopG (own := [(x, i)]) (p := fun _ => true) (G := F) (hz ds hw) (fun d hd v S' s hv => ⟨(wipe σ [i]).set i (some v), wipe1, fun sh H0 C cl fp => by
        obtain ⟨k1, k2⟩ := hx sh H0 C cl fp
        exact ⟨eg_name hN hix k1 k2, ets_nil, fun _ => hel ds hw d hd v S' s hv sh H0 C cl fp⟩⟩) Q (fun v S' H' g ⟨rs, h1, h2⟩ => by
        rw [filter_true] at h1
        exact q v S' H' g ⟨_, ⟨rs, rfl, ds, hw, h1⟩, h2⟩) g1 it)
/-- xs[i], i any place of the list -/
theorem atI_nat {xs : List PyData} {n : Int} (h0 : 0 ≤ n) (h1 : n < (xs.length : Int)) : ∃ d, d ∈ xs ∧ atI xs n = some d := by
  refine ⟨xs[n.toNat]'(by omega), List.getElem_mem _, ?_⟩
  unfold atI ixN
  rw [if_pos h0, if_pos h1]
  exact List.getElem?_eq_getElem _
theorem ee_ixE (ha : EE X σ S a (Dt X.K (.list ds))) (hb : EE X σ S b (Ex X.K fun d => ∃ n, d = .int n ∧ 0 ≤ n ∧ n < (ds.length : Int))) (hs : PlainIx b := by exact fun _ _ => rfl) : EE X σ S (.Subscript a b pos) (Ex X.K fun d => d ∈ ds) :=
  ee_2 (pe_ix ix_list peb peb hs) ha hb fun x y S1 H1 _ s px ⟨d, ⟨n, e, n0, n1⟩, py⟩ Q q => by
    subst e
    cases py
    obtain ⟨l, xs, rfl, hl, hx, z⟩ := px.lst_inv
    obtain ⟨d, hd, he⟩ := atI_nat n0 n1
    obtain ⟨x, h1, h2⟩ := atI_dts hx he
    exact ⟨l, xs, n, x, rfl, rfl, sql_of (s _ _ hl), h1, q _ S1 H1 (Gr.refl s) ⟨d, hd, h2⟩⟩
/-- n in (a, b, ..) -/
theorem inV_int (n : Int) : ∀ ns : List Int, inV (.int n) (ns.map V.int) = ns.contains n
  | [] => rfl
  | m :: ns => by
    unfold inV
    rw [List.map_cons, List.any_cons]
    have h := inV_int n ns
    unfold inV at h
    rw [h, List.contains_cons]
    show (m == n || _) = _
    rw [show (m == n) = (n == m) by
      by_cases e : m = n
      · rw [e]
      · rw [beq_false_of_ne e, beq_false_of_ne (Ne.symm e)]]
theorem flat_ints (ns : List Int) : (ns.map V.int).all flatV = true := by
  induction ns with
  | nil => rfl
  | cons n ns ih => rw [List.map_cons, List.all_cons, ih]; rfl
theorem opE_inT {K : PySem.W.Frag} {ns : List Int} : OpE (rIn K false) S (Dt K (.int n)) (Dt K (.tuple (ns.map .int))) (Dt K (.bool (ns.contains n))) := fun v w S1 H1 _ s pv pw Q q => by
  cases pv
  obtain ⟨l, xs, rfl, hl, hx, z⟩ := pw.tup_inv
  rw [dts_int hx] at hl
  refine ⟨l, ns.map V.int, rfl, .inr (sqt_up s hl), rfl, flat_ints ns, ?_⟩
  rw [if_neg Bool.false_ne_true, inV_int]
  exact q _ S1 H1 (Gr.refl s) (.bl _)
theorem et_inT {ns : List Int} (ha : EE X σ S a (Dt X.K (.int n))) (hb : EE X σ S b (Dt X.K (.tuple (ns.map .int)))) (hm : behindInMarks .In b = false := by rfl) : ET X σ S (.Compare a [.In] [b] pos) (ns.contains n) := et_cmp op_in_seq ha hb opE_inT hm
/-- e.index(True) of a list of bools -/
theorem ee_indexT {bs : List Bool} {j : Nat} {apos : Pos} (hj : bs[j]? = some true) (hno : ∀ m, m < j → bs[m]? = some false) (ha : EE X σ S a (Dt X.K (.list (bs.map .bool)))) (hb : EE X σ S b (Dt X.K (.bool true)))
    (hbase : attributeBase a "index" X.env (eval a X.env) = eval a X.env := by rfl)
    (hfew : ((backTo pos (starEach [b] X.env)).all (fun x => !x.1) && (backToKw pos (keywordEach [] X.env)).all (fun x => x.1.isSome) && decide (([b] : List Expr).length + ([] : List Keyword).length + (if ([] : List Keyword).isEmpty then 0 else 1) < 30)) = true := by rfl)
    (hline : (apos.endLine == pos.line) = true := by rfl) (hs : starEach [b] X.env = (false, eval b X.env) :: starEach [] X.env := by rfl) (hplain : (backTo pos (starEach [] X.env)).any (·.1) = false := by rfl) :
    EE X σ S (.Call (.Attribute a "index" apos) [b] [] pos) (Dt X.K (.int (j : Nat))) := fun H s Q q =>
  he_of (pe_bm PySem.F.plainAttrs_list PySem.F.slot_list_index PySem.F.type_list_index mt_index peb pab hbase hfew hline hs hplain) (ha H s _ fun v S1 H1 g1 pv => by
    obtain ⟨l, xs, rfl, hl, hx, z⟩ := pv.lst_inv
    have e := dts_bl hx
    subst e
    refine ⟨.inl ⟨rfl, _, sql_of (g1.sub _ _ hl)⟩, ((ea_1 hb hs).up g1.st).2 H1 g1.sub _ fun vs S2 H2 g2 al => ?_⟩
    obtain ⟨w, rfl, pw⟩ := al.one
    cases pw
    refine ⟨l, bs.map V.bl, .bl true, j, .bl true, rfl, rfl, sql_of (g2.hh _ _ (g1.sub _ _ hl)), rfl, ?_, ?_, rfl, fun m z' hm hz => ?_, q _ S2 H2 (g1.trans g2) (.int _)⟩
    · rw [List.all_map]; exact List.all_eq_true.mpr fun b _ => rfl
    · rw [List.getElem?_map, hj]; rfl
    · rw [List.getElem?_map, hno m hm] at hz
      cases hz
      rfl)
/-- a, b = e, e a pair that is not fixed -/
theorem hs_unpackE {H : Hp} {F G : PyData → Prop} {px py pt : Pos} {kt : Nat} (hc : X.calm = true) (hN : X.N.Nodup) (ha : EE X σ S e (Ex X.K fun d => ∃ d1 d2, d = .tuple [d1, d2] ∧ F d1 ∧ G d2)) (s : Same S H)
    (q : ∀ d1 d2 v w S' H', F d1 → G d2 → Gr S H S' H' → Dt X.K d1 v S' → Dt X.K d2 w S' → HS X D rest ((σ.set i (some v)).set j (some w)) H')
    (hi : X.N[i]? = some x := by rfl) (hj : X.N[j]? = some y := by rfl) (hx : Loc X.env.scope x := by first | exact Or.inl rfl | exact Or.inr rfl) (hy : Loc X.env.scope y := by first | exact Or.inl rfl | exact Or.inr rfl)
    (hfx : X.fn x = true ∨ X.env.scope.names.lookup x = some .local := by first | exact .inl rfl | exact .inr rfl) (hfy : X.fn y = true ∨ X.env.scope.names.lookup y = some .local := by first | exact .inl rfl | exact .inr rfl)
    (hn : (assignEach [.Name x px, .Name y py] X.env).length = 2 := by rfl) (hst : (assignEach [.Name x px, .Name y py] X.env).findIdx? (·.1) = none := by rfl)
    (h1 : (assignEach [.Name x px, .Name y py] X.env).map (·.2) = assign (.Name x px) X.env :: (assignEach [.Name y py] X.env).map (·.2) := by rfl) (h2 : (assignEach [.Name y py] X.env).map (·.2) = assign (.Name y py) X.env :: (assignEach [] X.env).map (·.2) := by rfl)
    (hss : swapsWithSole [.Tuple [.Name x px, .Name y py] kt pt] e pos.line X.env = pure false := by rfl) (hw : swappedStores [.Tuple [.Name x px, .Name y py] kt pt] e X.env = pure none := by rfl)
    (h3 : (assignEach [.Tuple [.Name x px, .Name y py] kt pt] X.env).map (·.2) = [assign (.Tuple [.Name x px, .Name y py] kt pt) X.env] := by rfl) : HS X D (.Assign [.Tuple [.Name x px, .Name y py] kt pt] e pos :: rest) σ H :=
  hs_cons (ps_asg peb pgb hss hw h3) (ha H s _ fun v S' H' g ⟨d, ⟨d1, d2, e, f1, f2⟩, pv⟩ => by
    subst e
    obtain ⟨v1, v2, p1, p2, hg⟩ := eg_pair (σ := σ) (px := px) (py := py) (pos := pt) (kk := kt) hc hN hi hj hx hy pv hfx hfy hn hst h1 h2
    exact hg H' g.sub _ (q d1 d2 v1 v2 S' H' f1 f2 g p1 p2))
theorem AllF.one {F : PyData → Prop} {ds : List PyData} (h : AllF [F] ds) : ∃ d, ds = [d] ∧ F d := by
  cases h with
  | cons f r => cases r; exact ⟨_, rfl, f⟩
theorem AllF.two {F G : PyData → Prop} {ds : List PyData} (h : AllF [F, G] ds) : ∃ d e, ds = [d, e] ∧ F d ∧ G e := by
  cases h with
  | cons f r => obtain ⟨e, rfl, g⟩ := r.one; exact ⟨_, _, rfl, f, g⟩
theorem ee_pairE {F G : PyData → Prop} {x1} (ha : EE X σ S a (Ex X.K F)) (hb : EE X σ S b (Ex X.K G)) (hs : starEach [a, b] X.env = (false, eval a X.env) :: starEach [b] X.env := by rfl) (hs2 : starEach [b] X.env = (false, eval b X.env) :: starEach [] X.env := by rfl) : EE X σ S (.Tuple [a, b] x1 pos) (Ex X.K fun d => ∃ d1 d2, d = .tuple [d1, d2] ∧ F d1 ∧ G d2) :=
  (ee_tupE (Fs := [F, G]) (ea_2 ha hb hs hs2)).exi fun d ⟨ds, e, h⟩ => by
    obtain ⟨d1, d2, rfl, f, g⟩ := h.two
    exact ⟨d1, d2, e, f, g⟩
/-- sep.join(list of texts) -/
theorem ee_join {z : Str} {ys : List Str} {apos : Pos} (hz : (ys.map (·.length)).sum + ys.length * z.length ≤ 16777216) (ha : EE X σ S a (Dt X.K (.str z))) (hb : EE X σ S b (Dt X.K (.list (ys.map .str))))
    (hbase : attributeBase a "join" X.env (eval a X.env) = eval a X.env := by rfl)
    (hfew : ((backTo pos (starEach [b] X.env)).all (fun x => !x.1) && (backToKw pos (keywordEach [] X.env)).all (fun x => x.1.isSome) && decide (([b] : List Expr).length + ([] : List Keyword).length + (if ([] : List Keyword).isEmpty then 0 else 1) < 30)) = true := by rfl)
    (hline : (apos.endLine == pos.line) = true := by rfl) (hs : starEach [b] X.env = (false, eval b X.env) :: starEach [] X.env := by rfl) (hplain : (backTo pos (starEach [] X.env)).any (·.1) = false := by rfl) :
    EE X σ S (.Call (.Attribute a "join" apos) [b] [] pos) (Dt X.K (.str (Txt.join z ys))) := fun H s Q q =>
  he_of (pe_bm PySem.F.plainAttrs_str PySem.F.slot_str_join PySem.F.type_str_join mt_join peb pab hbase hfew hline hs hplain) (ha H s _ fun v S1 H1 g1 pv => by
    cases pv
    refine ⟨rfl, ((ea_1 hb hs).up g1.st).2 H1 g1.sub _ fun vs S2 H2 g2 al => ?_⟩
    obtain ⟨w, rfl, pw⟩ := al.one
    obtain ⟨l, xs, rfl, hl, hx, _⟩ := pw.lst_inv
    rw [dts_str hx] at hl
    exact ⟨z, l, ys, rfl, rfl, .inl (sql_of (g2.sub _ _ hl)), hz, q _ S2 H2 (g1.trans g2) (.str _)⟩)
end
end Z
namespace Z
open PySem PySem.Spec PyProof.Rows L2 PySem.Froz
/-! ## 15. set(text), a text of different ascii signs -/
section
variable {prog : Program} {w : World} {A : Around} {E : Value → Shared → Prop} {s : Shared}
theorem fresh_fits (led : Bool) : (SetTable.fresh 0 0 led).fits 0 = true := by cases led <;> decide +kernel
theorem run_ok {P : Program} : ∀ (cs : List Nat) (tk : Tok) (D : SD) (l : List Str), TxOk P w D l → ∃ l', TxOk P w (runD w cs tk D) l' ∧ l'.length = cs.length + l.length
  | [], _, D, l, F => ⟨l, F, by simp⟩
  | c :: r, tk, D, l, F => by
    obtain ⟨l', h1, h2⟩ := run_ok r (tk + 2) _ (sing c :: l) (add_ok tk F)
    exact ⟨l', h1, by rw [h2]; simp; omega⟩
theorem finU_get {s : Shared} {a it : Addr} {T : String} {X : SD} {n m : Nat} {o : Obj} (hne : a ≠ it) (h : s.heap.get? a = some o) : (finU s a T it X n m).heap.get? a = some (sObj T X) :=
  Heap.get?_push_of_some _ (Heap.get?_push_of_some _ (PySem.Heap.get?_update_of_ne _ (Ne.symm hne) (get_upd _ h rfl)))
theorem finU_old {s : Shared} {a it b : Addr} {T : String} {X : SD} {n m : Nat} {o : Obj} (h1 : b ≠ a) (h2 : b ≠ it) (h : s.heap.get? b = some o) : (finU s a T it X n m).heap.get? b = some o :=
  Heap.get?_push_of_some _ (Heap.get?_push_of_some _ (PySem.Heap.get?_update_of_ne _ (Ne.symm h2) (PySem.Heap.get?_update_of_ne _ (Ne.symm h1) h)))
theorem call_set_text {x : Str} {u : Tok} {Q : Value → Shared → Prop} (hh : A.handled = none) (ha : x.cps.all (· < 128) = true) (hnd : x.cps.toList.Nodup) (hlen : x.cps.size ≤ 1000)
    (h : ∀ (h' : Heap) (tk : Nat) (o : Obj) (es : Array (Int × Value)) (ep : Nat) (t : SetTable), h'.get? s.heap.objs.size = some o → o = sObj "set" (es, ep, t) → t.fits es.size = true → es.size = x.cps.size →
      (∀ b o, b < s.heap.objs.size → s.heap.get? b = some o → h'.get? b = some o) → Q (.ref s.heap.objs.size) { s with heap := h', toks := tk }) :
    wpAny (model prog w) A (call (.type "set") [.str x u]) Q E s := by
  obtain ⟨c, tl, hmro⟩ := PySem.F.called_set.mro
  have hmade := PySem.F.called_set.made
  have hsub := PySem.F.called_set.sub
  refine wpAny_call (codeAny_of_tree ?_)
  show wpAny _ _ (callAny (.type "set") _) _ _ _
  refine wpAny_pure ⟨Code.quiet_builtin _ (by decide +kernel), codeAny_builtin PySem.F.entry_type_call ?_⟩
  rw [Around.under_plain (weight_type_call_type "set" [.str x u] []) rfl]
  have h1 := PySem.F.called_set.notType
  have h2 := PySem.F.called_set.canCreate
  have hct := PySem.F.typeCall_set_1 (.str x u)
  repeat (any_goals (first | assumption | wp_step))
  refine codeAny_mono (code_set_new_1 (.str x u) (E := E) (Q₁ := fun obj s₁ => ∃ led : Bool, obj = .ref s.heap.objs.size ∧ s₁ = { s with heap := s.heap.push { cls := .type "set", dict := none, data := .set #[] 0 (.fresh 0 0 led) } }) fun led => ⟨led, rfl, rfl⟩) fun r s₁ hr => ?_
  cases r with
  | error e => exact hr
  | ok fl =>
    cases fl with
    | ret obj =>
      obtain ⟨led, rfl, rfl⟩ := hr
      have hS : (s.heap.push { cls := .type "set", dict := none, data := .set #[] 0 (.fresh 0 0 led) }).get? s.heap.objs.size = some { cls := .type "set", dict := none, data := .set #[] 0 (.fresh 0 0 led) } := Heap.get?_push_size _ rfl
      have hT : Shared.TypeIs { s with heap := s.heap.push { cls := .type "set", dict := none, data := .set #[] 0 (.fresh 0 0 led) } } (.ref s.heap.objs.size) "set" := ⟨_, hS, rfl⟩
      have hli := PySem.F.called_set.init.lookup
      have hbi := PySem.F.called_set.init.bind (.ref s.heap.objs.size)
      repeat (any_goals (first | assumption | wp_step))
      refine codeAny_mono (codeAny_call_builtin (R := wants (fun r s₂ => r = .none ∧ ∃ h' tk es ep t, s₂ = { s with heap := h', toks := tk } ∧
          h'.get? s.heap.objs.size = some (sObj "set" (es, ep, t)) ∧ t.fits es.size = true ∧ es.size = x.cps.size ∧
          (∀ b o, b < s.heap.objs.size → s.heap.get? b = some o → h'.get? b = some o)) E) PySem.F.called_set.init.plain PySem.F.entry_set_init (check_set_init_1 hT ?_)) fun r₂ s₂ hr₂ => ?_
      · have hsls := PySem.F.sub_str_set
        have hslf := PySem.F.sub_str_frozenset
        have hne : (Value.type "str" == Value.type "dict") = false := by decide
        unfold Builtin.«set.__init__» noKeywords Builtin.Frozenset.updateFrom
        generalize hPI : pyIter = PI
        wp_walk
        subst hPI
        refine wpAny_pyIter_ascii ha ?_
        refine wpAny_bind (wpAny_runValue ?_)
        have e1 : (s.heap.push { cls := .type "set", dict := none, data := .set #[] 0 (.fresh 0 0 led) }).objs.size = s.heap.objs.size + 1 := Heap.size_push _ _
        have hSz : (s.heap.push { cls := .type "set", dict := none, data := .set #[] 0 (.fresh 0 0 led) }).get? s.heap.objs.size = some (sObj "set" (#[], 0, .fresh 0 0 led)) := hS
        have hS2 : ((s.heap.push { cls := .type "set", dict := none, data := .set #[] 0 (.fresh 0 0 led) }).push { cls := .type "str_ascii_iterator", data := .fields #[.str x u, .int 0 0] }).get? s.heap.objs.size = some (sObj "set" (#[], 0, .fresh 0 0 led)) := Heap.get?_push_of_some _ hSz
        have hI2 : ((s.heap.push { cls := .type "set", dict := none, data := .set #[] 0 (.fresh 0 0 led) }).push { cls := .type "str_ascii_iterator", data := .fields #[.str x u, .int 0 0] }).get? (s.heap.objs.size + 1) = some (itObj x u 0) := by
          rw [← e1]; exact Heap.get?_push_size _ rfl
        have hne2 : s.heap.objs.size ≠ s.heap.objs.size + 1 := by omega
        rw [e1]
        refine code_update (P := prog) (w := w) (x := x) (u := u) (T := "set") hne2 (by simp [hh]) x.cps.toList 0 (#[], 0, .fresh 0 0 led) [] _ (by simp) hS2 hI2 (TxOk.nil (fresh_fits led)) (by simp) hnd (by rw [Array.length_toList]; unfold scanBound; simp; omega) ?_
        obtain ⟨l', F', hl'⟩ := run_ok (w := w) (P := prog) x.cps.toList s.toks (#[], 0, .fresh 0 0 led) [] (TxOk.nil (fresh_fits led))
        refine wpAny_pure (wpAny_pure ⟨rfl, _, _, _, _, _, rfl, finU_get (m := x.cps.toList.length) hne2 hS2, F'.fit, by rw [F'.sz, hl']; simp, fun b o hb e => ?_⟩)
        exact finU_old (m := x.cps.toList.length) (Nat.ne_of_lt hb) (Nat.ne_of_lt (Nat.lt_succ_of_lt hb)) (Heap.get?_push_of_some _ (Heap.get?_push_of_some _ e))
      · cases r₂ with
        | error e => exact hr₂
        | ok fl₂ =>
          cases fl₂ with
          | ret r =>
            obtain ⟨rfl, h', tk, es, ep, t, rfl, hS', hf, hsz, hk'⟩ := hr₂
            repeat (any_goals (first | assumption | wp_step))
            exact h _ _ _ es ep t hS' rfl hf hsz hk'
          | _ => exact hr₂.elim
    | _ => exact hr.elim
end
def tLenSetS (ta : TE) : TE := fun σ H Q => ta σ H fun x H1 => ∃ z : Str, x = .str z ∧ z.cps.all (· < 128) = true ∧ z.cps.toList.Nodup ∧ z.cps.size ≤ 1000 ∧ Q (.int (z.cps.size : Nat)) H1
theorem pe_lenSetS {X : Cx} {a : Expr} {ta : TE} {p p2 q pos : Pos} (hg : Gl X "len") (hm : X.mg "len" = none) (hg2 : Gl X "set") (hm2 : X.mg "set" = none) (ha : PE X a ta) (hc : X.calm = true := by rfl)
    (na : starEach [a] X.env = (false, eval a X.env) :: starEach [] X.env := by rfl) : PE X (.Call (.Name "len" p) [.Call (.Name "set" p2) [a] [] q] [] pos) (tLenSetS ta) := by
  refine ⟨fun pins s σ H Q I h => ?_⟩
  refine Call_ (ld_blt I hg hm boot_len ?_)
  refine PyProof.Rows.callWith_builtin1 (PyProof.Rows.args_cons ?_ rfl) rfl rfl
  refine Call_ (ld_blt I hg2 hm2 boot_set ?_)
  refine PyProof.Rows.callWith_type1 (PyProof.Rows.args_cons (thn (ha.run pins s σ H _ I h) fun v s1 ⟨x, H1, I1, r1, q1⟩ => PyProof.Rows.args_nil ?_) na) na rfl
  obtain ⟨z, rfl, ha1, hnd, hl, q1⟩ := q1
  obtain ⟨u, rfl⟩ := r1
  refine call_set_text (I1.ok.hd hc) ha1 hnd hl fun h' tk o es ep t ho he hf hn hk => ?_
  refine PyProof.Rows.args_nil ?_
  subst he
  have I2 : Inv X pins σ H1 { s1 with heap := h', toks := tk } := I1.kept fun b o e => hk b o (Heap.lt_size e) e
  exact call_len_set ho ⟨rfl, rfl, rfl⟩ rfl hf (by rw [hn] <;> omega) ⟨.int z.cps.size, H1, I2.tok _, ⟨_, by rw [hn]⟩, q1⟩
theorem ee_lenSetS {X : Cx} {σ : L2.St} {S : Hp} {a : Expr} {z : Str} {p p2 q pos : Pos} (hm : X.mg "len" = none) (hm2 : X.mg "set" = none) (ha : EE X σ S a (Dt X.K (.str z))) (h1 : z.cps.all (· < 128) = true) (h2 : z.cps.toList.Nodup) (h3 : z.cps.size ≤ 1000) (hc : X.calm = true := by rfl) (hg : Gl X "len" := by rfl) (hg2 : Gl X "set" := by rfl)
    (na : starEach [a] X.env = (false, eval a X.env) :: starEach [] X.env := by rfl) : EE X σ S (.Call (.Name "len" p) [.Call (.Name "set" p2) [a] [] q] [] pos) (Dt X.K (.int (z.cps.size : Nat))) := fun H s Q qq =>
  he_of (pe_lenSetS hg hm hg2 hm2 peb hc na) (ha H s _ fun v S1 H1 g1 pv => by
    cases pv
    exact ⟨z, rfl, h1, h2, h3, qq _ S1 H1 g1 (.int _)⟩)
end Z
namespace Y
open PySem PySem.Spec PyProof.Rows L2 Z
/-! ## enumerate over a tuple -/
theorem meets_enumT {v : Value} {o : Obj} {H : Heap → Prop} (B : Begins v o H) :
    Meets (Builtin.«enumerate.__new__» ⟨[.type "enumerate", v], []⟩) (fun _ R s => H s.heap ∧
      R (.ok (.ret (.ref (s.heap.push o).objs.size))) { s with heap := (s.heap.push o).push { cls := .type "enumerate", data := .fields #[.none, .bool false, .ref s.heap.objs.size, rawInt 0, .none, .none] } }) :=
  .of_wp fun prog w A R s h => by
    obtain ⟨hp, g, d, tk, os⟩ := s; obtain ⟨h1, h⟩ := h
    have hsub := sub_enumerate
    have q1 : ∀ {A' : Around} {E : Value → Shared → Prop} {Q : Value → Shared → Prop}, Q (.ref hp.objs.size) ⟨hp.push o, g, d, tk, os⟩ → wpAny (model prog w) A' (pyIter v) Q E ⟨hp, g, d, tk, os⟩ :=
      fun q => B.iter prog w _ _ ⟨hp, g, d, tk, os⟩ _ h1 q
    wp_walk using q1
    refine wpAny_stack_any fun st => wpAny_pure ?_
    split
    · rename_i c _ _ _ _ _
      cases (c == Value.type "enumerate")
      · wp_walk using q1
        exact ⟨_, rfl, h⟩
      · wp_walk using q1
        exact ⟨_, rfl, h⟩
    · wp_walk using q1
      exact ⟨_, rfl, h⟩
theorem call_enumT {prog : Program} {w : World} {A : Around} {E : Value → Shared → Prop} {s : Shared} {v : Value} {o : Obj} {H : Heap → Prop} {Q : Value → Shared → Prop} (B : Begins v o H) (h1 : H s.heap)
    (h : ∀ h', IsEnum h' (s.heap.objs.size + 1) s.heap.objs.size 0 .none → h'.get? s.heap.objs.size = some o → h'.objs.size = s.heap.objs.size + 2 →
      (∀ b o, s.heap.get? b = some o → h'.get? b = some o) → Q (.ref (s.heap.objs.size + 1)) { s with heap := h' }) :
    wpAny (model prog w) A (call (.type "enumerate") [v]) Q E s := by
  refine callType_new F.called_enumerate (by decide) (F.typeCall_enumerate_1 _) (F.newCall_enumerate_1 _) (fun obj => F.args_object_init_2 obj _) F.entry_enumerate_new
    (meets_enumT B) ⟨h1, ?_⟩
  have hz : (s.heap.push o).objs.size = s.heap.objs.size + 1 := Heap.size_push ..
  show _ ∧ _
  rw [hz]
  have he : IsEnum ((s.heap.push o).push { cls := .type "enumerate", data := .fields #[.none, .bool false, .ref s.heap.objs.size, rawInt 0, .none, .none] }) (s.heap.objs.size + 1) s.heap.objs.size 0 .none := by
    have := Heap.get?_push_size (s.heap.push o) (o := { cls := .type "enumerate", data := .fields #[.none, .bool false, .ref s.heap.objs.size, rawInt 0, .none, .none] }) rfl
    rw [hz] at this; exact this
  refine ⟨⟨_, he, rfl⟩, h _ he (Heap.get?_push_of_some _ (Heap.get?_push_size _ B.free)) (by rw [Heap.size_push, hz]) fun b o x => Heap.get?_push_of_some _ (Heap.get?_push_of_some _ x)⟩
/-- the tuple at a, each item in a new pair -/
def IteT (K : PySem.W.Frag) (a : Addr) : It :=
  ⟨fun i H => ∃ (xs : List V) (x : V), SqT K H a xs ∧ xs[i]? = some x, fun i H v H' => ∃ T x, v = .ref T ∧ H T = none ∧ H' = upd H T (.tup [.int (i : Nat), x]) ∧ ∀ xs, SqT K H a xs → xs[i]? = some x, fun i H => ∃ xs : List V, SqT K H a xs ∧ xs.length ≤ i⟩
theorem isTup_tuple {h : Heap} {a : Addr} {its : Array Value} (p : IsTup h a its) : h.IsTuple a its := by
  obtain ⟨o, e, c, n, d⟩ := p
  exact ⟨o, e, c, n, d⟩
theorem apart_tup {h : Heap} {a it : Addr} {its : Array Value} {i : Nat} (p : h.IsTuple a its) (q : h.IsTupleIter it a i) : a ≠ it := by
  rintro rfl
  obtain ⟨o, e, c, _⟩ := p
  obtain ⟨o', e', c', _⟩ := q
  rw [e] at e'; cases e'
  rw [c] at c'
  exact absurd c' (by decide)
theorem apart_en {h : Heap} {a e it : Addr} {its : Array Value} {k : Int} {old : Value} (p : h.IsTuple a its) (q : IsEnum h e it k old) : e ≠ a := by
  rintro rfl
  obtain ⟨o, e, c, _⟩ := p
  have e' := q
  unfold IsEnum at e'
  rw [e] at e'; cases e'
  exact absurd (Value.type.inj c) (by decide)
theorem turn_enumT {P : Program} {w : World} {K : PySem.W.Frag} {elts : List Expr} {kk : Nat} {tpos : Pos} (a e it : Addr) :
    Turn P w K (.Tuple elts kk tpos) (IteT K a) [e, it] e (fun i h => (∃ old, IsEnum h e it ((i : Nat) : Int) old) ∧ h.IsTupleIter it a i ∧ e ≠ it) where
  mem := by simp
  obj := fun i h st b hb => by
    obtain ⟨⟨old, he⟩, ⟨o, ho, hc, hd⟩, _⟩ := st
    have e' : b = e ∨ b = it := by simpa using hb
    rcases e' with z | z
    · rw [z]; exact ⟨_, he, fun v q => nomatch q⟩
    · rw [z]; exact ⟨o, ho, fun v q => by rw [hd] at q; cases q⟩
  keep := fun i h h' st k => let ⟨⟨old, he⟩, hi, hne⟩ := st; ⟨⟨old, k e (by simp) _ he⟩, hi.at fun o q => k it (by simp) o q, hne⟩
  item := by
    intro X hP hw hK hc i pins s σ H E I hf st hg
    subst hP hw hK
    obtain ⟨⟨old, he⟩, hit, hne⟩ := st
    obtain ⟨xs, x, hq, hx⟩ := hg
    obtain ⟨its, rv, p, hz⟩ := I.tuple hq
    have p := isTup_tuple p
    obtain ⟨u, hu, ru⟩ := rv.get hx
    have hel : e < s.heap.objs.size := Heap.lt_size he
    have hil : it < s.heap.objs.size := by obtain ⟨_, q, _⟩ := hit; exact Heap.lt_size q
    have D : Draws X.prog X.w X.A.in1 it [it, a] its.toArray.size (fun i v => its.toArray[i]? = some v) (fun i h => h.IsTupleIter it a i ∧ h.IsTuple a its.toArray) := Draws.tuple (show X.A.in1.handled = none from I.ok.hd hc) it a (apart_tup p hit) its.toArray
    refine wpAny_pyNext_enum_itemD D he ⟨hit, p⟩ (by
        have := (List.getElem?_eq_some_iff.mp hu).1
        simpa using this) hne (by
        intro z
        rcases List.mem_cons.mp z with z | z
        · exact hne z
        · exact apart_en p he (List.mem_singleton.mp z)) fun x' h' tk hx' ho hit' hT hsz hk => ?_
    have hx'' : its.toArray[i]? = some x' := hx'
    obtain rfl : x' = u := by
      have h2 : its[i]? = some x' := by simpa using hx''
      rw [hu] at h2; exact (Option.some.inj h2).symm
    refine ⟨_, rfl, wpAny_letOwnedTupleGo_enum (s := { s with heap := h', toks := tk + 1 }) ho fun h'' he' sb => ?_⟩
    have hT2 : h''.get? s.heap.objs.size = some { cls := .type "tuple", data := .seq #[.int i tk, x'] } := (sb.2 _ (Nat.ne_of_gt hel)).trans hT
    have new : ObjOk X.prog X.w (upd H s.heap.objs.size (.tup [.int (i : Nat), x])) h'' s.heap.objs.size (.tup [.int (i : Nat), x]) :=
      ⟨by show 2 ≤ sizeLine; decide, [.int i tk, x'], .cons ⟨_, rfl⟩ (.cons ru .nil), ⟨_, hT2, rfl, _, rfl⟩⟩
    have I1 : Inv X pins σ (upd H s.heap.objs.size (.tup [.int (i : Nat), x])) { s with heap := h'', toks := tk + 1 } :=
      I.turnedNew (ch := [e, it]) (fun b ob hb q => (sb.2 b (fun z => hb (by simp [z]))).trans (hk b ob (fun z => hb (by simp [z])) (fun z => hb (by simp [z])) q)) hf (Nat.le_refl _) new
    refine ⟨.ref s.heap.objs.size, _, I1, rfl, ⟨_, x, rfl, I.hok.fresh (Nat.le_refl _), rfl, fun ys hy => by rw [I.tuple_inj hy hq]; exact hx⟩, ⟨⟨x', ?_⟩, hit'.1.at fun o q => (sb.2 it (Ne.symm hne)).trans q, hne⟩, fun b hb => ?_⟩
    · have e1 : ((i + 1 : Nat) : Int) = (i : Int) + 1 := by omega
      rw [e1]; exact he'
    · have hb' : b < s.heap.objs.size := by
        have e' : b = e ∨ b = it := by simpa using hb
        rcases e' with z | z
        · rw [z]; exact hel
        · rw [z]; exact hil
      rw [upd_ne (Nat.ne_of_lt hb')]
      exact (hf b hb).1
  done := by
    intro X hP hw hK hc i pins s σ H E I hf st hg
    subst hP hw hK
    obtain ⟨⟨old, he⟩, hit, hne⟩ := st
    obtain ⟨xs, hq, hx⟩ := hg
    obtain ⟨its, rv, p, hz⟩ := I.tuple hq
    have p := isTup_tuple p
    obtain ⟨f0, f1, f2, f3, f4, f5⟩ := hf it (by simp)
    have hl := rv.length
    have hT : s.TypeIs (.ref e) "enumerate" := ⟨_, he, rfl⟩
    unfold pyNext
    refine wpAny_bind (wpAny_attempt (wpAny_callSpecial?_slot (name := Str.ofString "__next__") hT F.slot_enumerate_next
      (wpAny_call_entry F.slot_enumerate_next hT F.entry_enumerate_next ?_ (F.args_enumerate_next_1 _))))
    show wpAny _ _ (PySem.field (.ref e) 2 >>= _) _ _ _
    refine wpAny_bind (wpAny_field he rfl (x := .ref it) rfl ?_)
    refine wpAny_bind (wpAny_nextOf_tuple_end (I.ok.hd hc) hit p (by simp; omega) fun h' x he' hx' => ?_)
    obtain ⟨o, ho, hc'⟩ := hx'
    refine wpAny_bind (wpAny_isInstance (T := "StopIteration") (b := true) ⟨o, ho, hc'⟩ isSubtype_stop ?_)
    exact wpAny_pure ⟨rfl, I.turned (t' := s.toks) (fun b o hb q => he' b o hb q) f0 f1 f3 f4 f5⟩
  self := fun A i s Q E st h => let ⟨⟨_, he⟩, _⟩ := st; wpAny_pyIter_enum he h
def iEnumT (K : PySem.W.Frag) (ta : TA) : TI := fun σ H R => ta σ H fun vs H1 => ∃ a xs, vs = [.ref a] ∧ SqT K H1 a xs ∧ R (IteT K a) H1
theorem pi_enumT {X : Cx} {tg e : Expr} {ta : TA} {p pos tpos : Pos} {elts : List Expr} {kk : Nat} (hg : Gl X "enumerate") (hm : X.mg "enumerate" = none) (ha : PA X [e] ta) (hs : starEach [e] X.env = [(false, eval e X.env)] := by rfl) :
    PI X (.Tuple elts kk tpos) (.Call (.Name "enumerate" p) [e] [] pos) (iEnumT X.K ta) := by
  refine ⟨fun pins s σ H R I h => ?_⟩
  refine Call_ (ld_blt I hg hm boot_enumerate (PyProof.Rows.callWith_type1 (thn (ha.run pos pins s σ H _ I h) fun us s1 ⟨vs, H1, I1, r1, q1⟩ => ?_) hs rfl))
  obtain ⟨a, xs, ex, hq, q⟩ := q1
  subst ex
  cases r1 with
  | cons r rr =>
    cases rr
    cases r
    obtain ⟨its, rv, p', hz⟩ := I1.tuple hq
    refine call_enumT (begins_tuple a its.toArray) (isTup_tuple p') fun h' he hit hsz hk => wpAny_pyIter_enum he ?_
    have I2 : Inv X pins σ H1 { s1 with heap := h' } := I1.kept (t' := s1.toks) hk
    refine ⟨s1.heap.objs.size + 1, [s1.heap.objs.size + 1, s1.heap.objs.size], _, _, H1, rfl, I2, turn_enumT a (s1.heap.objs.size + 1) s1.heap.objs.size, ⟨⟨.none, he⟩, ⟨_, hit, rfl, rfl⟩, Nat.succ_ne_self _⟩, fun b hb => ?_, q⟩
    have e' : b = s1.heap.objs.size + 1 ∨ b = s1.heap.objs.size := by simpa using hb
    have hle : s1.heap.objs.size ≤ b := by
      rcases e' with z | z
      · rw [z]; exact Nat.le_add_right _ _
      · rw [z]; exact Nat.le_refl _
    exact I1.fpOk hle (I1.hok.fresh hle)
section
variable {X : Cx} {σ : L2.St} {S S' : Hp} {e a b c o : Expr} {es : List Expr} {P R : V → Hp → Prop} {pos p : Pos} {ds : List PyData}
theorem ei_enumT {elts : List Expr} {kk : Nat} {tpos : Pos} (hm : X.mg "enumerate" = none) (ha : EE X σ S a (Dt X.K (.tuple ds))) (hg : Gl X "enumerate" := by rfl) (hs : starEach [a] X.env = [(false, eval a X.env)] := by rfl) :
    EI X σ S (.Tuple elts kk tpos) (.Call (.Name "enumerate" p) [a] [] pos) (Ds X.K (enumD ds)) := fun H s R q =>
  hi_of (pi_enumT (tg := a) hg hm pab hs) ((ea_1 ha (by rw [hs]; rfl)).2 H s _ fun vs S1 H1 g1 al => by
    obtain ⟨v, rfl, pv⟩ := al.one
    obtain ⟨l, xs, rfl, hl, hx, _⟩ := pv.tup_inv
    have hlen : (Ds X.K (enumD ds)).length = xs.length := by rw [ds_len]; unfold enumD zipD; rw [List.length_zipWith, upto_len, hx.1]; omega
    refine ⟨l, xs, rfl, sqt_up g1.sub hl, q _ S1 H1 g1 ⟨fun i H hi hs => ?_, fun H hs => ?_, fun i H x H' hi hs y T st th => ?_⟩⟩
    · rw [hlen] at hi
      exact ⟨xs, xs[i], sqt_up hs hl, by simp [hi]⟩
    · rw [hlen]
      exact ⟨xs, sqt_up hs hl, Nat.le_refl _⟩
    · rw [hlen] at hi
      obtain ⟨t, x1, rfl, ht, rfl, k1⟩ := y
      have i1 : i < ds.length := by rw [← hx.1]; omega
      exact ⟨_, Gr.new th ht, _, ds_get (zipD_get (upto_get i1) (List.getElem?_eq_getElem i1)), pair_new th ht (.int _) ((hx.2 i _ _ (k1 xs (sqt_up hs hl)) (List.getElem?_eq_getElem i1)).up st)⟩)
end
end Y
namespace Y
open PySem PySem.Spec PyProof.Rows L2 Z
/-! ## own classes -/
/-- a known method -/
structure KM (P : Program) (w : World) (K : PySem.W.Frag) (mg : Str → Option Value) (base : Heap) (C : Addr) (m : Str) (k : Nat) (sp : Sp) : Prop where
  ex : ∃ f fd ps, FnOk P w K mg base CX0 k f fd ps sp ∧ PySem.W.findIn K (.ref C) m = some (some (.ref f)) ∧ PySem.W.isFn K (.ref f) = true ∧ PySem.W.keepIn K (.ref f) = true ∧ Binds K fd ps []
theorem KM.mono {P : Program} {w : World} {K : PySem.W.Frag} {mg : Str → Option Value} {base : Heap} {C : Addr} {m : Str} {j k : Nat} {sp : Sp} (h : KM P w K mg base C m j sp) (hk : j ≤ k) : KM P w K mg base C m k sp := by
  obtain ⟨f, fd, ps, F, r⟩ := h.ex
  exact ⟨f, fd, ps, F.mono hk, r⟩
/-- an instance of the class at C without the attribute m of its own -/
def InsP (C : Addr) (m : Str) (P : V → Hp → Prop) : Prop := ∀ v S, P v S → ∃ a dx fs, v = .ref a ∧ S a = some (.ins C dx fs) ∧ fs.lookup m = none
section
variable {X : Cx} {σ : L2.St} {S S' H : Hp} {e a b c o : Expr} {es : List Expr} {P P0 R : V → Hp → Prop} {Ps : List (V → Hp → Prop)} {pos p apos : Pos} {k : Nat} {x m f : Str} {sp : Sp} {C dx r : Addr} {fs : List (Str × V)} {v : V} {D : Ends} {rest : List Stmt}
/-- o.f, an attribute -/
theorem ee_fld (ho : EE X σ S o P0) (hP : ∀ w S1, P0 w S1 → ∃ a dx fs v, w = .ref a ∧ S1 a = some (.ins C dx fs) ∧ fs.lookup f = some v ∧ P v S1) (c : Cls X.K C) (n : NoAttr X.K C f) (hb : attributeBase o f X.env (eval o X.env) = eval o X.env := by rfl) : EE X σ S (.Attribute o f pos) P := fun H s Q q =>
  he_of (pe_fld peb hb) (ho H s _ fun w S1 H1 g1 pw => by
    obtain ⟨a, dx, fs, v, rfl, h1, h2, pv⟩ := hP w S1 pw
    exact ⟨a, C, dx, fs, v, rfl, g1.sub _ _ h1, c, n, h2, q v S1 H1 g1 pv⟩)
/-- self.f = e where self is not yet told in S -/
theorem hs_fld (hv : EE X σ S e P) (s : Same S H) (ho : ∀ S1, Same S S1 → EE X σ S1 o (fun w _ => w = .ref r)) (hH : H r = some (.ins C dx fs)) (c : Cls X.K C) (n : NoAttr X.K C f) (hl : fs.length < 1000)
    (q : ∀ v S' H', Gr S H S' H' → P v S' → H' r = some (.ins C dx fs) → HS X D rest σ (upd H' r (.ins C dx (putF f v fs)))) (hs : swapsWith e (some (.Attribute o f apos)) pos.line X.env = pure false := by rfl) : HS X D (.Assign [.Attribute o f apos] e pos :: rest) σ H :=
  hs_cons (ps_fld peb peb hs) (hv H s _ fun v S1 H1 g1 pv => by
    refine (ho S1 g1.st) H1 g1.sub _ fun w S2 H2 g2 pw => ?_
    subst pw
    have e1 := g1.hh _ _ hH
    have e2 := g2.hh _ _ e1
    refine ⟨r, C, dx, fs, rfl, e2, c, n, hl, ?_⟩
    have hS : S2 = S2 := rfl
    exact q v S1 H2 ⟨g1.st, g2.st.trans g2.sub, g1.hh.trans g2.hh, g1.old⟩ pv e2)
theorem ee_meth {pl : Sem Bool} (D : KM X.prog X.w X.K X.mg X.base C m k sp) (c : Cls X.K C) (hr : Room k X.A) (ho : EE X σ S o P0) [Mn P0] (hP : InsP C m P0) (ha : EA X σ S (e :: es) Ps) (hsp : SpE sp S (P0 :: Ps) R)
    (hst : starEach (e :: es) X.env = (false, eval e X.env) :: starEach es X.env := by rfl) (hpl : (backTo pos (starEach es X.env)).any (·.1) = false := by rfl)
    (ht : eval (.Call (.Attribute o m apos) (e :: es) [] pos) X.env = (do
      let ov ← eval o X.env
      standAt apos.atName
      let (f, first) ← holding [ov] (getMethod ov m pl)
      callWith pos f first (backTo pos (starEach (e :: es) X.env)) (backToKw pos (keywordEach [] X.env))) := by rfl) : EE X σ S (.Call (.Attribute o m apos) (e :: es) [] pos) R := fun H s Q q => by
  obtain ⟨f, fd, ps, F, hm, hf, hk, hb⟩ := D.ex
  refine he_of (pe_meth peb c ⟨hm, hf, hk⟩ F hr hb .nil pass0 pab hst hpl ht) (ho H s _ fun w S1 H1 g1 pw => ?_)
  obtain ⟨a, dx, fs, rfl, h1, h2⟩ := hP w S1 pw
  refine ⟨a, dx, fs, rfl, g1.sub _ _ h1, h2, (ha.up g1.st).2 H1 g1.sub _ fun vs S2 H2 g2 al => ?_⟩
  rw [List.append_nil]
  exact hsp _ S2 H2 (g1.st.trans g2.st) g2.sub (.cons (Mn.up g2.st pw) al) Q fun v S3 H3 g3 rv => q v S3 H3 ((g1.trans g2).trans g3) rv
theorem ee_meth0 {pl : Sem Bool} (D : KM X.prog X.w X.K X.mg X.base C m k sp) (c : Cls X.K C) (hr : Room k X.A) (ho : EE X σ S o P0) (hP : InsP C m P0) (hsp : SpE sp S [P0] R)
    (ht : eval (.Call (.Attribute o m apos) [] [] pos) X.env = (do
      let ov ← eval o X.env
      standAt apos.atName
      let (f, first) ← holding [ov] (getMethod ov m pl)
      callWith pos f first (backTo pos (starEach [] X.env)) (backToKw pos (keywordEach [] X.env))) := by rfl) : EE X σ S (.Call (.Attribute o m apos) [] [] pos) R := fun H s Q q => by
  obtain ⟨f, fd, ps, F, hm, hf, hk, hb⟩ := D.ex
  refine he_of (pe_meth0 peb c ⟨hm, hf, hk⟩ F hr hb .nil pass0 ht) (ho H s _ fun w S1 H1 g1 pw => ?_)
  obtain ⟨a, dx, fs, rfl, h1, h2⟩ := hP w S1 pw
  refine ⟨a, dx, fs, rfl, g1.sub _ _ h1, h2, ?_⟩
  exact hsp _ S1 H1 g1.st g1.sub (.cons pw .nil) Q fun v S3 H3 g3 rv => q v S3 H3 (g1.trans g3) rv
/-- a call anywhere below the body -/
theorem run_fnA {CX : CXT} {k : Nat} {f : Addr} {fd : FuncData} {ps : List Str} {E : XK} {A : Around} {pins : List (Addr × Obj)} {s : Shared} {Q : VK} {us : List Value} {vs : List V} (F : FnOk X.prog X.w X.K X.mg X.base CX k f fd ps sp) (hr : Room k A) (hA : A.frames = X.A.frames) (hb : Binds X.K fd ps []) (hx : Passes CX X E)
    (I : Inv X pins σ H s) (r : Vals vs us) (h : sp vs H Q E) : wpAny (model X.prog X.w) A (call (.ref f) us) (EP X pins σ Q) X.xe s := by
  have hl : (us ++ []).length = ps.length := by rw [List.append_nil, ← r.length]; exact F.len _ _ _ _ h
  have e0 : Env0 X.prog X.w X.K X.mg X.base A X.stack s H := by
    have e := I.env0
    exact ⟨by rw [hA]; exact e.frames, e.mod, e.bs, e.bsz, e.funs, e.frf, e.hok, e.bare⟩
  refine wpAny_call (codeAny_mono (F.run A X.stack s H ⟨us, []⟩ us vs Q E hr e0 (by have := hb s us I.kIn hl; simpa using this) r h) fun r s' hq => ?_)
  cases r with
  | error e => exact hx pins σ H s e s' I hq
  | ok fl =>
    cases fl with
    | ret u => exact I.after hq
    | next => exact False.elim hq
    | brk => exact False.elim hq
    | cont => exact False.elim hq
theorem insAt {pins : List (Addr × Obj)} {s : Shared} {r : Addr} (I : Inv X pins σ H s) (e : H r = some (.ins C dx fs)) : ∃ ox od, PySem.W.InstAt s.heap r ox C (some od) := by
  obtain ⟨mA, J, _⟩ := ins_get I.hok e
  obtain ⟨od, J, _⟩ := J.look
  exact ⟨_, od, J⟩
/-- v in o, an own __contains__ that gives a bool -/
def rInO (C : Addr) (sp : Sp) : R2 := fun x y H Q => ∃ r dx fs, y = .ref r ∧ H r = some (.ins C dx fs) ∧ sp [y, x] H (fun v H' => ∃ b, v = .bl b ∧ Q (.bl b) H') E0
theorem op_inO (D : KM X.prog X.w X.K X.mg X.base C "__contains__" k sp) (hr : Room k X.A) : OpR X (compareOp .In) (rInO C sp) := by
  intro pins s σ H x y v u Q I rx ry hq
  obtain ⟨r, dx, fs, rfl, hy, q⟩ := hq
  cases ry
  obtain ⟨f, fd, ps, F, hm, hf, hk, hb⟩ := D.ex
  obtain ⟨ox, od, J⟩ := insAt I hy
  obtain ⟨m, hF⟩ := I.fr
  refine PySem.W.in_K hF I.ok.mod.kin J hm hf (wpAny_mono (run_fnA (vs := [.ref r, x]) F hr rfl hb pass0 I (.cons rfl (.cons rx .nil)) q) (fun rv s' hq' => ?_) fun _ _ z => z)
  obtain ⟨w, H', I', rw', b, rfl, q'⟩ := hq'
  cases rw'
  exact wpAny_truthy_bool ⟨.bl b, H', I', rfl, q'⟩
/-- what v's type is, told apart from C -/
structure NotC (K : PySem.W.Frag) (C : Addr) (v : V) (H : Hp) : Prop where
  ty : (∃ r dx fs, v = .ref r ∧ H r = some (.ins C dx fs)) ∨ (∃ z, v = .str z) ∧ PySem.W.subIn K (.type "str") (.ref C) = some false
def rEqO (K : PySem.W.Frag) (C : Addr) (sp : Sp) : R2 := fun x y H Q => ∃ r dx fs, x = .ref r ∧ H r = some (.ins C dx fs) ∧ NotC K C y H ∧ sp [x, y] H (fun v H' => ∃ b, v = .bl b ∧ Q (.bl b) H') E0
theorem notC_ok {pins : List (Addr × Obj)} {s : Shared} {y : V} {u : Value} (I : Inv X pins σ H s) (ry : RelV y u) (h : NotC X.K C y H) : ∃ tb, PySem.W.Looks (model X.prog X.w) s.heap (typeOf u) tb ∧ PySem.W.notFirst X.K C tb = true := by
  rcases h.ty with ⟨r, dx, fs, rfl, e⟩ | ⟨⟨z, rfl⟩, e⟩
  · cases ry
    obtain ⟨ox, od, J⟩ := insAt I e
    exact ⟨_, J.type, by simp [PySem.W.notFirst]⟩
  · obtain ⟨t, rfl⟩ := ry
    exact ⟨.type "str", PySem.W.Looks.of_pure rfl, by simp [PySem.W.notFirst, e]⟩
end
section
open PySem.W
variable {prog : Program} {w : World} {A : Around} {E : Value → Shared → Prop} {s : Shared} {K : Frag} {x C L f : Addr} {h₀ : Heap} {m : Str → Option Value} {ox : Obj} {od : Option Obj} {b tb : Value}
theorem ifBound_B {M : Model} {name : Str} {id : String} {args : List Value} {Q : Option Value → Shared → Prop} (X : K.In s.heap) (I : InstAt s.heap x ox C od) (hs : findIn K (.ref C) name = some (some (.builtin id)))
    (hb : ∀ self, bindSpecial (.builtin id) self = pure (.builtin id, [self])) (h : wpAny M A (call (.builtin id) (.ref x :: args)) (fun v => Q (some v)) E s) : wpAny M A (callSpecialIfBound? (.ref x) name args) Q E s := by
  simp only [callSpecialIfBound?, bindSpecialIfBound?]
  refine wpAny_holding (wpAny_bind (wpAny_bind (wpAny_bind (I.type.here ((looks_findIn X hs).here ?_)))))
  refine wpAny_bind (wpAny_askSetting (wpAny_ite ?_))
  have fin : wpAny M A (call (.builtin id) ([.ref x] ++ args) >>= fun v => pure (some v)) Q E s := wpAny_bind (wpAny_mono h (fun v s' h' => wpAny_pure h') fun _ _ h' => h')
  split
  · exact wpAny_bind ((Looks.of_pure (hb _)).here (wpAny_pure (by exact fin)))
  · exact wpAny_tryCatch (wpAny_bind ((Looks.of_pure (hb _)).here (wpAny_pure (by exact fin))))
theorem ne_K {Q : Value → Shared → Prop} (hu : A.units + 1 < cLine) (F : Fr h₀ L s.heap m) (X₀ : K.In h₀) (I : InstAt s.heap x ox C od) (hb : Looks (model prog w) s.heap (typeOf b) tb) (hn : notFirst K C tb = true)
    (hne : findIn K (.ref C) "__ne__" = some (some (.builtin "object.__ne__"))) (hm : mroIn K C (.type "object") = some true) (hs : findIn K (.ref C) "__eq__" = some (some (.ref f))) (hf : isFn K (.ref f) = true)
    (h : wpAny (model prog w) A.in1 (call (.ref f) [.ref x, b]) (fun v s' => ∃ k, v = .bool k ∧ Q (.bool (!k)) s') E s) : wpAny (model prog w) A (richCompare .NotEq (.ref x) b) Q E s := by
  have X := X₀.keeps F.keep
  have inner : wpAny (model prog w) A.in1 (Builtin.«object.__ne__» ⟨[.ref x, b], []⟩) (fun fin s' => ∃ v, fin = .done (.ret v) ∧ (∃ k, v = .bool k ∧ Q (.bool k) s')) E s := by
    unfold Builtin.«object.__ne__»
    refine wpAny_bind (m := slotArgs "__ne__" 1 _) (wpAny_pure ?_)
    refine wpAny_bind (m := cRoomFor _ _) (wpAny_cRoomFor hu ?_)
    refine wpAny_bind (m := callSpecialIfBound? (.ref x) (Str.ofString "__eq__") [b]) (ifBound_K X I hs hf (wpAny_mono h (fun r s' hr => ?_) fun _ _ y => y))
    obtain ⟨k, rfl, hq⟩ := hr
    refine wpAny_bind (m := truthy (.bool k)) (wpAny_truthy_bool (wpAny_pure ⟨_, rfl, _, rfl, hq⟩))
  have one : wpAny (model prog w) A (tryCompare (.ref x) (cmpInfo .NotEq).2.1 b) (fun r s' => ∃ v, r = some v ∧ Q v s') E s := by
    unfold tryCompare
    refine wpAny_bind (ifBound_B X I hne PySem.F.slot_enumerate_ne.bind (wpAny_call (codeAny_call_builtin PySem.F.slot_enumerate_ne.plain PySem.F.cmpEntry_ne (check_slot (i := "object.__ne__") (owner := "object") (n := "__ne__") (by decide +kernel) (by decide +kernel) (I.type.andThen (looks_mroIn X hm)) (PySem.F.cmpArgs_ne _ _) ?_))))
    refine wpAny_mono inner (fun fin s' hq => ?_) fun _ _ e => e
    obtain ⟨v, rfl, k, rfl, q⟩ := hq
    exact wpAny_pure ⟨_, rfl, q⟩
  unfold richCompare
  simp only [oneThing_ref]
  refine wpAny_holding (wpAny_bind (wpAny_cRoomFor (Nat.lt_of_succ_lt hu) ?_))
  refine wpAny_bind (I.type.here (wpAny_bind (hb.here ?_)))
  split
  · rename_i q
    have e : subIn K tb (.ref C) = some false := by
      rcases Bool.or_eq_true_iff.mp hn with e | e
      · rw [beq_iff_eq.mp e] at q; simp at q
      · exact beq_iff_eq.mp e
    refine wpAny_bind ((looks_subIn X e).here ?_)
    simp only [Bool.false_eq_true, if_false]
    refine wpAny_bind (wpAny_mono one (fun r s' z => ?_) fun _ _ e => e)
    obtain ⟨v, rfl, hq⟩ := z
    exact wpAny_pure hq
  · refine wpAny_bind (wpAny_pure ?_)
    simp only [Bool.false_eq_true, if_false]
    refine wpAny_bind (wpAny_mono one (fun r s' z => ?_) fun _ _ e => e)
    obtain ⟨v, rfl, hq⟩ := z
    exact wpAny_pure hq
end
end Y
namespace Y
open PySem PySem.Spec PyProof.Rows L2 Z
section
variable {X : Cx} {σ : L2.St} {S S' H : Hp} {e a b c o : Expr} {es : List Expr} {P Pa Pb P0 R : V → Hp → Prop} {Ps : List (V → Hp → Prop)} {pos p apos : Pos} {k : Nat} {x m f : Str} {sp : Sp} {C dx r : Addr} {fs : List (Str × V)} {v : V} {D : Ends} {rest : List Stmt} {bo : Bool}
/-- the facts that an own class without __ne__ has -/
structure NeC (K : PySem.W.Frag) (C : Addr) : Prop where
  ne : PySem.W.findIn K (.ref C) "__ne__" = some (some (.builtin "object.__ne__"))
  ob : PySem.W.mroIn K C (.type "object") = some true
theorem op_neO (D : KM X.prog X.w X.K X.mg X.base C "__eq__" k sp) (N : NeC X.K C) (hr : Room (k + 1) X.A) : OpR X (compareOp .NotEq) (fun x y H Q => rEqO X.K C sp x y H (fun v H' => ∀ b, v = .bl b → Q (.bl (!b)) H')) := by
  intro pins s σ H x y v u Q I rx ry hq
  obtain ⟨r, dx, fs, rfl, hx, hy, q⟩ := hq
  cases rx
  obtain ⟨f, fd, ps, F, hm, hf, hk, hb⟩ := D.ex
  obtain ⟨ox, od, J⟩ := insAt I hx
  obtain ⟨m, hF⟩ := I.fr
  obtain ⟨tb, L, nf⟩ := notC_ok I ry hy
  show wpAny (model X.prog X.w) X.A (richCompare .NotEq (.ref r) u) _ _ _
  refine ne_K (by have := hr.in1.units0; simpa [Around.in1] using this) hF I.ok.mod.kin J L nf N.ne N.ob hm hf (wpAny_mono (run_fnA (vs := [.ref r, y]) F hr.in1 rfl hb pass0 I (.cons rfl (.cons ry .nil)) q) (fun rv s' hq' => ?_) fun _ _ z => z)
  obtain ⟨w, H', I', rw', b, rfl, q'⟩ := hq'
  cases rw'
  exact ⟨b, rfl, .bl (!b), H', I', rfl, q' b rfl⟩
/-- what the promise of an own == (or `in`) is to be: a bool -/
def CmpP (sp : Sp) (S : Hp) (Pa Pb : V → Hp → Prop) (b : Bool) : Prop := ∀ v w S1 H1, Same S S1 → Same S1 H1 → Pa v S1 → Pb w S1 → ∀ Q : VK, (∀ S2 H2, Gr S1 H1 S2 H2 → Q (.bl b) H2) → sp [v, w] H1 Q E0
theorem opE_neO [Mn Pa] [Mn Pb] (hC : ∀ w S1, Pa w S1 → ∃ r dx fs, w = .ref r ∧ S1 r = some (.ins C dx fs)) (hN : ∀ w S1, Pb w S1 → NotC X.K C w S1) (h : CmpP sp S Pa Pb bo) : OpE (fun x y H Q => rEqO X.K C sp x y H (fun v H' => ∀ b, v = .bl b → Q (.bl (!b)) H')) S Pa Pb (Dt X.K (.bool (!bo))) := fun x y S1 H1 st s px py Q q => by
  obtain ⟨r, dx, fs, rfl, e⟩ := hC x S1 px
  refine ⟨r, dx, fs, rfl, s _ _ e, ⟨?_⟩, h _ _ S1 H1 st s px py _ fun S2 H2 g => ⟨bo, rfl, fun b' eb => ?_⟩⟩
  · rcases (hN y S1 py).ty with ⟨r', dx', fs', rfl, e'⟩ | e'
    · exact Or.inl ⟨r', dx', fs', rfl, s _ _ e'⟩
    · exact Or.inr e'
  · cases eb
    exact q _ S2 H2 g (.bl _)
theorem et_neO [Mn Pa] [Mn Pb] (D : KM X.prog X.w X.K X.mg X.base C "__eq__" k sp) (N : NeC X.K C) (hr : Room (k + 1) X.A) (ha : EE X σ S a Pa) (hb : EE X σ S b Pb) (hC : ∀ w S1, Pa w S1 → ∃ r dx fs, w = .ref r ∧ S1 r = some (.ins C dx fs)) (hN : ∀ w S1, Pb w S1 → NotC X.K C w S1) (h : CmpP sp S Pa Pb bo) (hm : behindInMarks .NotEq b = false := by exact nomark _) : ET X σ S (.Compare a [.NotEq] [b] pos) (!bo) :=
  et_cmp (op_neO D N hr) ha hb (opE_neO hC hN h) hm
theorem opE_inO [Mn Pa] [Mn Pb] (hC : ∀ w S1, Pb w S1 → ∃ r dx fs, w = .ref r ∧ S1 r = some (.ins C dx fs)) (h : CmpP sp S Pb Pa bo) : OpE (rInO C sp) S Pa Pb (Dt X.K (.bool bo)) := fun x y S1 H1 st s px py Q q => by
  obtain ⟨r, dx, fs, rfl, e⟩ := hC y S1 py
  exact ⟨r, dx, fs, rfl, s _ _ e, h _ _ S1 H1 st s py px _ fun S2 H2 g => ⟨bo, rfl, q _ S2 H2 g (.bl _)⟩⟩
theorem ee_inO [Mn Pa] [Mn Pb] (D : KM X.prog X.w X.K X.mg X.base C "__contains__" k sp) (hr : Room k X.A) (ha : EE X σ S a Pa) (hb : EE X σ S b Pb) (hC : ∀ w S1, Pb w S1 → ∃ r dx fs, w = .ref r ∧ S1 r = some (.ins C dx fs)) (h : CmpP sp S Pb Pa bo) (hm : behindInMarks .In b = false := by rfl) : EE X σ S (.Compare a [.In] [b] pos) (Dt X.K (.bool bo)) :=
  ee_cmp (op_inO D hr) ha hb (opE_inO hC h) hm
end
/-! ## a new instance -/
structure GrI (a : Addr) (S H S' H' : Hp) : Prop where
  st : Same S S'
  sub : Same S' H'
  hh : ∀ z o, z ≠ a → H z = some o → H' z = some o
  old : ∀ z o, z ≠ a → H z = some o → NT o → S' z = S z
/-- what __init__ promises -/
def spI (C : Addr) (K : PySem.W.Frag) (F : List PyData → (Addr → V → Hp → Prop) → Prop) : Sp := fun vs H Q _ => ∃ S a dx ws ds R, vs = .ref a :: ws ∧ Same S H ∧ S a = none ∧ H a = some (.ins C dx []) ∧ Dts K ds ws S ∧ F ds R ∧ ∀ l S' H', GrI a S H S' H' → S l = none → R l (.ref a) S' → Q .non H'
/-- a thing whose part at l is new -/
def NewR (R : Addr → V → Hp → Prop) (S : Hp) : V → Hp → Prop := fun v S' => ∃ l, S l = none ∧ R l v S'
theorem NewR.dn {R : Addr → V → Hp → Prop} {S S0 S' : Hp} {v : V} (s : Same S0 S) (h : NewR R S v S') : NewR R S0 v S' := let ⟨l, a, b⟩ := h; ⟨l, s.free a, b⟩
instance {R : Addr → V → Hp → Prop} {S : Hp} [h : ∀ l, Mn (R l)] : Mn (NewR R S) := ⟨fun s ⟨l, a, b⟩ => ⟨l, a, (h l).up s b⟩⟩
theorem GrI.step {a : Addr} {S H S1 H1 S2 H2 : Hp} (i : GrI a S H S1 H1) (g : Gr S1 H1 S2 H2) : GrI a S H S2 H2 :=
  ⟨i.st.trans g.st, g.sub, fun z o n h => g.hh _ _ (i.hh z o n h), fun z o n h m => (g.old z o (i.hh z o n h) m).trans (i.old z o n h m)⟩
theorem GrI.put {a : Addr} {S H S1 H1 : Hp} {o : HO} (i : GrI a S H S1 H1) (h : S a = none) : GrI a S H (upd S1 a o) (upd H1 a o) :=
  ⟨fun z u e => by
    have ne : z ≠ a := fun q => by subst q; rw [h] at e; cases e
    rw [upd_ne ne]; exact i.st z u e, fun z u e => by
    by_cases ne : z = a
    · subst ne; rw [upd_same] at e ⊢; exact e
    · rw [upd_ne ne] at e ⊢; exact i.sub z u e, fun z u n e => by rw [upd_ne n]; exact i.hh z u n e, fun z u n e m => by rw [upd_ne n]; exact i.old z u n e m⟩
theorem GrI.start {a : Addr} {S H : Hp} {o : HO} (s : Same S H) (h : S a = none) (e : H a = some o) : GrI a S H (upd S a o) H :=
  ⟨Same.new h, fun z u q => by
    by_cases ne : z = a
    · subst ne; rw [upd_same] at q; rw [e]; exact q
    · rw [upd_ne ne] at q; exact s z u q, fun z u n q => q, fun z u n q _ => upd_ne n⟩
section
variable {X : Cx} {σ : L2.St} {S S' H : Hp} {e a b c o : Expr} {es : List Expr} {P P0 : V → Hp → Prop} {Ps : List (V → Hp → Prop)} {pos p apos : Pos} {k : Nat} {x m : Str} {sp : Sp} {C f : Addr} {fd : FuncData} {ps : List Str} {ds dd : List PyData} {dvs : List V} {us : List Value} {R : Addr → V → Hp → Prop}
theorem make_init {F : List PyData → (Addr → V → Hp → Prop) → Prop} {vs : List V} {S1 H1 : Hp} {a dx : Addr} {Q : Hp → Prop} (s : Same S1 H1) (hd : Dts X.K ds vs S1) (hF : F ds R) (ha : H1 a = none) (hdx : H1 dx = none) (hne : dx ≠ a) (q : ∀ S2 H2, Gr S1 H1 S2 H2 → NewR R S1 (.ref a) S2 → Q H2) :
    spI C X.K F (.ref a :: vs) (upd (upd H1 dx (.own a)) a (.ins C dx [])) (fun v H2 => v = .non ∧ Q H2) E0 := by
  have hst : Same H1 (upd (upd H1 dx (.own a)) a (.ins C dx [])) := (Same.new hdx).trans (Same.new (by rw [upd_ne hne.symm]; exact ha))
  refine ⟨S1, a, dx, vs, ds, R, rfl, s.trans hst, s.free ha, upd_same, hd, hF, fun l S' H' g hl r => ⟨rfl, q S' H' ⟨g.st, g.sub, fun z o hz => ?_, fun z o hz m => ?_⟩ ⟨l, hl, r⟩⟩⟩
  · exact g.hh z o (ne_of_none hz ha) (hst z o hz)
  · exact g.old z o (ne_of_none hz ha) (hst z o hz) m
theorem ee_make {F : List PyData → (Addr → V → Hp → Prop) → Prop} (M : Mk X.K C f) (G : FnOk X.prog X.w X.K X.mg X.base CX0 k f fd ps (spI C X.K F)) (hr : Room (k + 1) X.A) (hm : X.mg x = some (.ref C)) (hb : Binds X.K fd ps us) (hd : Vals dvs us) (hdd : ∀ S, Dts X.K dd dvs S) (ha : EA X σ S (e :: es) (Ds X.K ds)) (hF : F (ds ++ dd) R)
    (hg : Gl X x := by rfl) (hdb : (x == ("__debug__" : Str)) = false := by decide) (he : starEach (e :: es) X.env = (false, eval e X.env) :: starEach es X.env := by rfl) (hpl : (backTo pos (starEach es X.env)).any (·.1) = false := by rfl) : EE X σ S (.Call (.Name x p) (e :: es) [] pos) (NewR R S) := fun H s Q q =>
  he_of (pe_make M G hr hg hm hb hd pass0 pab hdb he hpl) (ha.2 H s _ fun vs S1 H1 g1 al a dx h1 h2 h3 =>
    make_init g1.sub ((al_dts al).append (hdd S1)) hF h1 h2 h3 fun S2 H2 g2 r => q _ S2 H2 (g1.trans g2) (r.dn g1.st))
end
end Y
namespace Y
open PySem PySem.Spec PyProof.Rows L2 Z
section
variable {X : Cx} {σ : L2.St} {S S' H : Hp} {e a b c o : Expr} {es : List Expr} {P Pa Pb P0 R : V → Hp → Prop} {Ps : List (V → Hp → Prop)} {pos p apos : Pos} {i j l : Int} {d : PyData} {ds : List PyData} {k : Bool}
/-- a <= b <= c -/
theorem et_chainLE (ha : EE X σ S a (Dt X.K (.int i))) (hb : EE X σ S b (Dt X.K (.int j))) (hc : EE X σ S c (Dt X.K (.int l))) (hm : lastMarks [.LtE, .LtE] [b, c] = false := by with_unfolding_all rfl) : ET X σ S (.Compare a [.LtE, .LtE] [b, c] pos) (decide (i ≤ j) && decide (j ≤ l)) := fun H s Q q =>
  ht_of (pt_chain op_le op_le peb peb peb hm) (ha H s _ fun x S1 H1 g1 px => (hb.up g1.st) H1 g1.sub _ fun y S2 H2 g2 py => by
    cases px; cases py
    refine ⟨i, j, rfl, rfl, decide (i ≤ j), rfl, ?_⟩
    by_cases h : i ≤ j
    · rw [if_pos (decide_eq_true h)]
      exact (hc.up (g1.st.trans g2.st)) H2 g2.sub _ fun z S3 H3 g3 pz => by
        cases pz
        refine ⟨j, l, rfl, rfl, decide (j ≤ l), rfl, ?_⟩
        have := q S3 H3 ((g1.trans g2).trans g3)
        rw [decide_eq_true h, Bool.true_and] at this
        exact this
    · rw [if_neg (by rw [decide_eq_false h]; exact Bool.false_ne_true)]
      refine ⟨false, rfl, ?_⟩
      have := q S2 H2 (g1.trans g2)
      rw [decide_eq_false h, Bool.false_and] at this
      exact this)
/-- a sign not in a text -/
theorem et_notInC {n : Nat} {z : Str} (ha : EE X σ S a (Dt X.K (.str ⟨#[n]⟩))) (hb : EE X σ S b (Dt X.K (.str z))) (hm : behindInMarks .NotIn b = false := by with_unfolding_all rfl) : ET X σ S (.Compare a [.NotIn] [b] pos) (!decide (n ∈ z.cps.toList)) :=
  et_cmp op_notIn_sign ha hb (fun v w S1 H1 _ s px py Q q => by cases px; cases py; exact ⟨n, z, rfl, rfl, q _ S1 H1 (Gr.refl s) (.bl _)⟩) hm
/-- isinstance(a, (list, tuple)) -/
theorem ee_isiLT (hk : k = (isD d "list" || isD d "tuple")) (hm : X.mg "isinstance" = none) (h1 : X.mg "list" = none) (h2 : X.mg "tuple" = none) (ha : EE X σ S a (Dt X.K d)) {p1 p2 p3 : Pos} {x1} (hg : Gl X "isinstance" := by rfl) (hg1 : Gl X "list" := by rfl) (hg2 : Gl X "tuple" := by rfl)
    (hs : starEach [a, .Tuple [.Name "list" p1, .Name "tuple" p2] x1 p3] X.env = (false, eval a X.env) :: starEach [.Tuple [.Name "list" p1, .Name "tuple" p2] x1 p3] X.env := by rfl) : EE X σ S (.Call (.Name "isinstance" p) [a, .Tuple [.Name "list" p1, .Name "tuple" p2] x1 p3] [] pos) (Dt X.K (.bool k)) := by
  haveI m1 : Mn (fun (w : V) (_ : Hp) => w = .ty "list") := ⟨fun _ h => h⟩
  haveI m2 : Mn (fun (w : V) (_ : Hp) => w = .ty "tuple") := ⟨fun _ h => h⟩
  haveI m3 : Mn (fun (w : V) (S : Hp) => ∃ t, w = .ref t ∧ S t = some (.tup [.ty "list", .ty "tuple"])) := ⟨fun s ⟨t, e, h⟩ => ⟨t, e, s _ _ h⟩⟩
  have ht : EE X σ S (.Tuple [.Name "list" p1, .Name "tuple" p2] x1 p3) (fun (w : V) (S : Hp) => ∃ t, w = .ref t ∧ S t = some (.tup [.ty "list", .ty "tuple"])) :=
    ee_tupA (vsP := fun vs _ => vs = [.ty "list", .ty "tuple"]) (fun H s Q q => (ea_2 (ee_bltn (P := fun w _ => w = .ty "list") (v := .ty "list") (u := .type "list") h1 (by first | rfl | decide +kernel | exact boot_list) rfl rfl hg1 (by decide) (by decide)) (ee_bltn (P := fun w _ => w = .ty "tuple") (v := .ty "tuple") (u := .type "tuple") h2 (by first | rfl | decide +kernel | exact boot_tuple) rfl rfl hg2 (by decide) (by decide)) rfl rfl).2 H s Q fun vs S' H' g al => q vs S' H' g (by
        obtain ⟨v, w, rfl, rfl, rfl⟩ := al.two
        rfl)) (fun vs _ e => by subst e; show 2 ≤ 16777216; decide) (fun vs S' t st ht e => by subst e; exact ⟨t, rfl, upd_same⟩)
  refine ee_callB call_isiT hm boot_isinstance (ea_2 ha ht hs rfl) (fun vs S1 H1 _ s al Q q => ?_) hg (he := hs) (hpl := by rfl)
  obtain ⟨v, w, rfl, pv, t, rfl, pw⟩ := al.two
  refine ⟨v, t, [.ty "list", .ty "tuple"], .type (tyN d), [.type "list", .type "tuple"], k, rfl, s _ _ pw, .cons (.ty "list") (.cons (.ty "tuple") .nil), tyX_of pv s, ?_, q _ S1 H1 (Gr.refl s) (.bl k)⟩
  subst hk
  refine kitAny_cons (kit_ty (isD_ok d (by simp))) (fun e => kitAny_cons (kit_ty (isD_ok d (by simp))) (fun e2 => ?_) (fun e2 => ?_)) (fun e => ?_)
  · rw [e, e2]; exact kitAny_nil
  · rw [e2]; simp
  · rw [e]; simp
/-- list(a): a new list -/
def NewL (K : PySem.W.Frag) (S : Hp) (ds : List PyData) : V → Hp → Prop := fun v S' => ∃ l xs, v = .ref l ∧ S l = none ∧ S' l = some (.lst xs) ∧ Dts K ds xs S' ∧ xs.length ≤ sizeLine
instance {K : PySem.W.Frag} {S : Hp} {ds : List PyData} : Mn (NewL K S ds) := ⟨fun s ⟨l, xs, e, h, h1, h2, z⟩ => ⟨l, xs, e, h, s _ _ h1, h2.up s, z⟩⟩
theorem NewL.dt {K : PySem.W.Frag} {S S' : Hp} {ds : List PyData} {v : V} (h : NewL K S ds v S') : Dt K (.list ds) v S' := by
  obtain ⟨l, xs, rfl, _, h1, h2, z⟩ := h
  exact Dt.lst_mk h1 h2 z
theorem NewL.dn {K : PySem.W.Frag} {S S0 S' : Hp} {ds : List PyData} {v : V} (s : Same S0 S) (h : NewL K S ds v S') : NewL K S0 ds v S' := by
  obtain ⟨l, xs, rfl, h0, h1, h2, z⟩ := h
  exact ⟨l, xs, rfl, s.free h0, h1, h2, z⟩
theorem ee_listN (hm : X.mg "list" = none) (hd : d = .list ds ∨ d = .tuple ds) (ha : EE X σ S a (Dt X.K d)) (hg : Gl X "list" := by rfl)
    (hs : starEach [a] X.env = (false, eval a X.env) :: starEach [] X.env := by rfl) : EE X σ S (.Call (.Name "list" p) [a] [] pos) (NewL X.K S ds) :=
  ee_callTy call_list_of hm boot_list (ea_1 ha hs) (fun vs S1 H1 st s al Q q => by
    obtain ⟨v, rfl, pv⟩ := al.one
    rcases hd with rfl | rfl
    · obtain ⟨l, xs, rfl, hl, hx, z⟩ := pv.lst_inv
      exact ⟨l, xs, rfl, .inl (sql_of (s _ _ hl)), fun t ht => q _ _ _ (Gr.new s ht) ⟨t, xs, rfl, st.free (s.free ht), upd_same, hx.up (Same.new (s.free ht)), z⟩⟩
    · obtain ⟨l, xs, rfl, hl, hx, z⟩ := pv.tup_inv
      exact ⟨l, xs, rfl, .inr (sqt_up s hl), fun t ht => q _ _ _ (Gr.new s ht) ⟨t, xs, rfl, st.free (s.free ht), upd_same, hx.up (Same.new (s.free ht)), z⟩⟩) hg (he := hs) (hpl := by rfl)
/-- (x,) * n -/
theorem tuple_mul1 (l : Addr) (items : Array Value) (n : Nat) (dd : Option Addr) (sl : Array (Option Value)) (u : Tok) :
    Meets (Builtin.«tuple.__mul__» ⟨[.ref l, .int 1 u], []⟩) (fun _ R s => s.heap.get? l = some { cls := .type "tuple", dict := dd, data := .seq items n, slots := sl } ∧ R (.ok (.ret (Value.ref l))) s) :=
  .of_wp fun prog w A R s h => by
    obtain ⟨hp, g, d, tk, os⟩ := s
    obtain ⟨hl, h⟩ := h
    have f1 := AutoSeq1.idx_int
    have c0 : (decide ((1 : Int) < -(2 ^ 63)) || decide ((1 : Int) ≥ 2 ^ 63)) = false := by decide
    have c1 : (items.isEmpty || (1 : Int) == 1) = true := by simp
    wp_walk using wpAny_loadPart' hl
    repeat (first
      | (refine wpAny_ite_false (decide_eq_false (by rw [c0]; exact Bool.false_ne_true)) ?_; wp_walk using wpAny_loadPart' hl)
      | (refine wpAny_ite_true (decide_eq_true c1) ?_; wp_walk using wpAny_loadPart' hl))
    exact ⟨_, rfl, h⟩
def rRep1 (K : PySem.W.Frag) : R2 := fun x y H Q => ∃ l xs, x = .ref l ∧ y = .int 1 ∧ SqT K H l xs ∧ Q (.ref l) H
theorem op_rep1 : OpR X (binaryOp .Mult) (rRep1 X.K) := by
  intro pins s σ H x y v u Q I rx ry h
  obtain ⟨l, xs, rfl, rfl, hT, q⟩ := h
  cases rx
  obtain ⟨t, rfl⟩ := ry
  obtain ⟨its, r, ⟨⟨cls, dd, data, sl⟩, ho, hc, n, hd⟩, hs⟩ := I.tuple hT
  simp only at hc hd
  subst hc hd
  refine wpAny_binaryOp_repeat_ref (T := "tuple") (U := "int") (by decide) ⟨_, ho, rfl⟩ (fun s' => typeIs_int s' 1 t) noFill_tuple_mul F.fills_int_mul F.slot_int_rmul repeat_tuple F.slot_int_index.lookup
    (call_meets F.slot_int_rmul (typeIs_int s 1 t) F.entry_int_rmul (F.args_int_rmul_2 _ _) (int_rmul_tuple 1 t l its.toArray n dd sl)
      ⟨ho, rfl, ⟨_, ho, rfl⟩, call_meets F.slot_tuple_mul ⟨_, ho, rfl⟩ F.entry_tuple_mul (F.args_tuple_mul_2 _ _) (tuple_mul1 l its.toArray n dd sl t) ⟨ho, ?_⟩⟩)
  exact ⟨.ref l, H, I, rfl, q⟩
theorem ee_repT {n : Nat} (hn : 1 ≤ n) (hz : n ≤ 1000) (hc : ds.length ≤ 1000) (hne : ds ≠ []) (ha : EE X σ S a (Dt X.K (.tuple ds))) (hb : EE X σ S b (Dt X.K (.int n))) : EE X σ S (.BinOp a .Mult b pos) (Dt X.K (.tuple (List.replicate n ds).flatten)) := by
  by_cases h1 : n = 1
  · subst h1
    refine (ee_op op_rep1 ha hb (R := Dt X.K (.tuple ds)) fun x y S1 H1 _ s px py Q q => ?_).isd (by simp)
    cases py
    obtain ⟨l, xs, rfl, hl, hx, z⟩ := px.tup_invS
    exact ⟨l, xs, rfl, rfl, sqt_up s hl.sq, q _ S1 H1 (Gr.refl s) (Dt.tup_mk hl hx z)⟩
  · refine ee_op op_repT ha hb fun x y S1 H1 _ s px py Q q => ?_
    cases py
    obtain ⟨l, xs, rfl, hl, hx, z⟩ := px.tup_inv
    refine ⟨l, n, xs, rfl, rfl, sqt_up s hl, fun e => hne ?_, by omega, by omega, by rw [hx.1]; exact hc, fun t ht => q _ _ _ (Gr.new s ht) ?_⟩
    · have := hx.1; rw [e] at this; exact List.eq_nil_of_length_eq_zero this.symm
    · have e : ((n : Int)).toNat = n := by omega
      rw [e]
      refine Dt.tup_mk (tus_of upd_same) ((flat_dts (d := .none) rfl hx _).up (Same.new (s.free ht))) ?_
      rw [flatten_len, hx.1]
      have : ds.length * n ≤ 1000 * 1000 := Nat.mul_le_mul hc hz
      show _ ≤ 16777216
      omega
end
end Y
namespace Y
open PySem PySem.Spec PyProof.Rows L2 Z
section
variable {X : Cx} {σ : L2.St} {S S' H : Hp} {e a b c o : Expr} {es : List Expr} {P Pa Pb P0 P1 R : V → Hp → Prop} {Ps : List (V → Hp → Prop)} {pos p apos kpos : Pos} {i j l : Int} {d : PyData} {ds ds1 ds2 : List PyData} {k : Nat} {x m f kn : Str} {sp : Sp} {C dx r : Addr} {D : Ends} {rest : List Stmt}
/-! ### o.m(k = e) -/
theorem run_fnK {CX : CXT} {k n : Nat} {f : Addr} {fd : FuncData} {ps ks : List Str} {E : XK} {pins : List (Addr × Obj)} {s : Shared} {Q : VK} {us ws : List Value} {vs zs : List V} {g : List Value → List Value → List Value} {gV : List V → List V → List V} (F : FnOk X.prog X.w X.K X.mg X.base CX k f fd ps sp) (hr : Room k X.A) (hb : KBn X.K fd ps n ks g gV) (hx : Passes CX X E)
    (I : Inv X pins σ H s) (r : Vals vs us) (rz : Vals zs ws) (l1 : vs.length = n) (l2 : zs.length = ks.length) (h : sp (gV vs zs) H Q E) : wpAny (model X.prog X.w) X.A (call (.ref f) us (ks.zip ws)) (EP X pins σ Q) X.xe s := by
  have r2 := hb.rel r rz
  refine wpAny_call (codeAny_mono (F.run X.A X.stack s H ⟨us, ks.zip ws⟩ (g us ws) (gV vs zs) Q E hr I.env0 (hb.to s us ws I.kIn (r.length.symm.trans l1) (rz.length.symm.trans l2)) r2 h) fun r s' hq => ?_)
  cases r with
  | error e => exact hx pins σ H s e s' I hq
  | ok fl =>
    cases fl with
    | ret u => exact I.after hq
    | next => exact False.elim hq
    | brk => exact False.elim hq
    | cont => exact False.elim hq
/-! ### a def with a star parameter -/
/-! ### f-strings -/
inductive EJ (X : Cx) (σ : L2.St) (S : Hp) : List Expr → List Str → Prop
  | nil : EJ X σ S [] []
  | cons {e : Expr} {es : List Expr} {y : Str} {ys : List Str} : EE X σ S e (Dt X.K (.str y)) → EJ X σ S es ys → EJ X σ S (e :: es) (y :: ys)
theorem EJ.run {es : List Expr} {ys : List Str} (h : EJ X σ S es ys) : ∀ (acc : Str) (S1 H1 : Hp) (Q : Str → Hp → Prop), Same S S1 → Same S1 H1 → acc.length + (ys.map (·.length)).sum ≤ sizeLine → (∀ S2 H2, Gr S1 H1 S2 H2 → Q (ys.foldl (· ++ ·) acc) H2) → tJs (es.map (bE X)) acc σ H1 Q := by
  induction h with
  | nil => intro acc S1 H1 Q _ s _ q; exact q S1 H1 (Gr.refl s)
  | @cons e es y ys he _ ih =>
    intro acc S1 H1 Q st s hz q
    rw [List.map_cons, List.sum_cons] at hz
    have el : (acc ++ y).length = acc.length + y.length := by
      show (acc.cps ++ y.cps).size = _
      rw [Array.size_append]; rfl
    refine (he.up st) H1 s _ fun v S2 H2 g2 pv => ?_
    cases pv
    exact ⟨y, rfl, by rw [el]; omega, ih (acc ++ y) S2 H2 Q (st.trans g2.st) g2.sub (by rw [el]; omega) fun S3 H3 g3 => q S3 H3 (g2.trans g3)⟩
/-! ### [*a, *b] -/
/-! ### a new list is changed -/
def del (S : Hp) (l : Addr) : Hp := fun a => if a = l then none else S a
theorem del_self {S : Hp} {l : Addr} : del S l l = none := by unfold del; rw [if_pos rfl]
theorem del_ne {S : Hp} {l a : Addr} (h : a ≠ l) : del S l a = S a := by unfold del; rw [if_neg h]
theorem Gr.cut {Sb Hb S H : Hp} {l : Addr} {o : HO} (g : Gr Sb Hb S H) (sb : Same Sb Hb) (h : Hb l = none) : Gr Sb Hb (del S l) (upd H l o) := by
  have hs : Sb l = none := sb.free h
  exact ⟨fun a u e => by
    have ne : a ≠ l := fun z => by subst z; rw [hs] at e; cases e
    rw [del_ne ne]; exact g.st a u e, fun a u e => by
    by_cases ne : a = l
    · subst ne; rw [del_self] at e; cases e
    · rw [del_ne ne] at e; rw [upd_ne ne]; exact g.sub a u e, fun a u e => by
    have ne : a ≠ l := fun z => by subst z; rw [h] at e; cases e
    rw [upd_ne ne]; exact g.hh a u e, fun a u e m => by
    have ne : a ≠ l := fun z => by subst z; rw [h] at e; cases e
    rw [del_ne ne]; exact g.old a u e m⟩
end
end Y
namespace Y
open PySem PySem.Spec PyProof.Rows L2 Z
section
variable {X : Cx} {σ : L2.St} {S S' H : Hp} {a b e : Expr} {Pa Pb : V → Hp → Prop} {pos p px py pt : Pos} {D : Ends} {rest : List Stmt} {x y : Str} {i j kt : Nat}
/-- x, y = a, b by a pair -/
theorem hs_unp2 [Mn Pa] [Mn Pb] {x1} (hc : X.calm = true) (hN : X.N.Nodup) (ha : EE X σ S a Pa) (hb : EE X σ S b Pb) (s : Same S H)
    (q : ∀ v w S' H', Pa v S' → Pb w S' → Gr S H S' H' → HS X D rest ((σ.set i (some v)).set j (some w)) H')
    (hi : X.N[i]? = some x := by rfl) (hj : X.N[j]? = some y := by rfl) (hx : Loc X.env.scope x := by first | exact Or.inl rfl | exact Or.inr rfl) (hy : Loc X.env.scope y := by first | exact Or.inl rfl | exact Or.inr rfl)
    (hfx : X.fn x = true ∨ X.env.scope.names.lookup x = some .local := by first | exact .inl rfl | exact .inr rfl) (hfy : X.fn y = true ∨ X.env.scope.names.lookup y = some .local := by first | exact .inl rfl | exact .inr rfl)
    (hn : (assignEach [.Name x px, .Name y py] X.env).length = 2 := by rfl) (hst : (assignEach [.Name x px, .Name y py] X.env).findIdx? (·.1) = none := by rfl)
    (h1 : (assignEach [.Name x px, .Name y py] X.env).map (·.2) = assign (.Name x px) X.env :: (assignEach [.Name y py] X.env).map (·.2) := by rfl) (h2 : (assignEach [.Name y py] X.env).map (·.2) = assign (.Name y py) X.env :: (assignEach [] X.env).map (·.2) := by rfl)
    (hss : swapsWithSole [.Tuple [.Name x px, .Name y py] kt pt] (.Tuple [a, b] x1 p) pos.line X.env = pure false := by rfl) (hw : swappedStores [.Tuple [.Name x px, .Name y py] kt pt] (.Tuple [a, b] x1 p) X.env = pure none := by rfl)
    (h3 : (assignEach [.Tuple [.Name x px, .Name y py] kt pt] X.env).map (·.2) = [assign (.Tuple [.Name x px, .Name y py] kt pt) X.env] := by rfl)
    (hs1 : starEach [a, b] X.env = (false, eval a X.env) :: starEach [b] X.env := by rfl) (hs2 : starEach [b] X.env = (false, eval b X.env) :: starEach [] X.env := by rfl) : HS X D (.Assign [.Tuple [.Name x px, .Name y py] kt pt] (.Tuple [a, b] x1 p) pos :: rest) σ H := by
  have ht : EE X σ S (.Tuple [a, b] x1 p) (fun v S' => ∃ l v1 v2, v = .ref l ∧ S' l = some (.tup [v1, v2]) ∧ Pa v1 S' ∧ Pb v2 S') :=
    ee_tupA (vsP := fun vs S' => ∃ v1 v2, vs = [v1, v2] ∧ Pa v1 S' ∧ Pb v2 S') (fun H s Q q => (ea_2 ha hb hs1 hs2).2 H s Q fun vs S' H' g al => q vs S' H' g (by
      obtain ⟨v, w, rfl, p1, p2⟩ := al.two
      exact ⟨v, w, rfl, p1, p2⟩)) (fun vs _ ⟨_, _, e, _⟩ => by subst e; show 2 ≤ 16777216; decide) (fun vs S' t st ht ⟨v1, v2, e, p1, p2⟩ => by subst e; exact ⟨t, v1, v2, rfl, upd_same, Mn.up (Same.new ht) p1, Mn.up (Same.new ht) p2⟩)
  exact hs_cons (ps_asg peb pgb hss hw h3) (ht H s _ fun v S' H' g ⟨l, v1, v2, e, hl, p1, p2⟩ => by
    subst e
    exact hg_of (pg_tup hc (pgs_cons (pg_name hN hi hx hfx) (pgs_cons (pg_name hN hj hy hfy) pgs_nil h2) h1) hn hst) ⟨l, _, rfl, .inl (.inl (g.sub _ _ hl)), rfl, _, _, rfl, _, _, rfl, rfl, q v1 v2 S' H' p1 p2 g⟩)
end
end Y
namespace Y
open PySem PySem.Spec PyProof.Rows L2 Z
end Y
namespace Y
open PySem PySem.Spec PyProof.Rows L2 Z
/-! ## own errors -/
section
end
end Y
namespace Y
open PySem PySem.Spec PyProof.Rows L2 Z
/-! ## try: .. except (A, B, C) as e: .. (the outline of the catch follows HandS.Exc's ps_try_as) -/
def bS (X : Cx) (st : Stmt) : TS := fun D σ H => ∀ (pins : List (Addr × Obj)) (s : Shared), Inv X pins σ H s → wpAny (model X.prog X.w) X.A (exec st X.env) (SP X pins D) X.xe s
end Y
namespace Y
open PySem PySem.Spec PyProof.Rows L2 Z
/-! ## objects shown to a call: untracked ones, told by their objects while the call runs -/
def shown (H : Hp) (a : Addr) (o : Obj) : Hp := upd H a (.frz o (.ext fun _ => True))
def shownL (H : Hp) : List (Addr × Obj) → Hp
  | [] => H
  | p :: L => shown (shownL H L) p.1 p.2
def delL (H : Hp) : List (Addr × Obj) → Hp
  | [] => H
  | p :: L => delL (L2.del H p.1) L
section
variable {P : Program} {w : World} {H H1 : Hp} {h h1 B : Heap} {a b : Addr} {o : Obj} {u : HO} {fs : List Addr}
theorem shown_same : shown H a o a = some (.frz o (.ext fun _ => True)) := upd_same
theorem shown_ne (hb : b ≠ a) : shown H a o b = H b := upd_ne hb
theorem shown_hok (x : HOk P w H h) (n : H a = none) (e : h.get? a = some o) : HOk P w (shown H a o) h := fun b v q => by
  by_cases hb : b = a
  · subst hb
    rw [shown_same] at q
    cases q
    exact ⟨e, trivial, ⟨o, e⟩, fun _ _ _ _ => trivial⟩
  · rw [shown_ne hb] at q
    exact (x b v q).stay (fun _ _ _ z => z) (fun c z => (shown_ne (ne_of_none z n)).trans z) (fun c xs z => (shown_ne (ne_of_none z n)).trans z)
end
/-- a thing that may be shown at this state -/
structure Show (base : Heap) (outer : List Env) (H : Hp) (s : Shared) (a : Addr) (o : Obj) : Prop where
  ob : s.heap.get? a = some o
  no : H a = none
  nf : a ∉ frs outer
  nb : base.get? a = none
theorem Show.skip {base : Heap} {outer : List Env} {H : Hp} {s : Shared} {a b : Addr} {o p : Obj} (x : Show base outer H s a o) (h : a ≠ b) : Show base outer (shown H b p) s a o := ⟨x.ob, (shown_ne h).trans x.no, x.nf, x.nb⟩
theorem Show.list {base : Heap} {outer : List Env} {H : Hp} {s : Shared} {a : Addr} {o : Obj} (x : Show base outer H s a o) : ∀ {L : List (Addr × Obj)}, a ∉ L.map (·.1) → Show base outer (shownL H L) s a o
  | [], _ => x
  | p :: L, h => by
    simp only [List.map_cons, List.mem_cons, not_or] at h
    exact (x.list h.2).skip h.1
section
end
section
end
end Y
namespace Y
open PySem PySem.Spec PyProof.Rows L2 Z
/-! ## the other way: shown things are taken out for a call (the cells of a closure) -/
abbrev Tr : HO := .ext fun _ => True
section
variable {P : Program} {w : World} {H H1 : Hp} {h h1 B : Heap} {a b : Addr} {o : Obj} {u : HO} {fs : List Addr}
theorem unshow_un (U : Un fs [] (L2.del H a) H1 h h1) (hH : H a = some (.frz o Tr)) : Un fs [] H (shown H1 a o) h h1 := by
  have ne : ∀ b v, H b = some v → (∀ p q, v ≠ .frz p q) → b ≠ a := fun b v e q z => by
    rw [z, hH] at e; cases e; exact q _ _ rfl
  have nn : ∀ b, H b = none → b ≠ a := fun b e z => by rw [z, hH] at e; cases e
  refine ⟨fun b ob q nb hf hx => U.keep b ob q ((L2.del_ne (nn b nb)).trans nb) hf hx, fun b ob q nb hf hx => U.slot b ob q ((L2.del_ne (nn b nb)).trans nb) hf hx, fun b ob q nb hx => (shown_ne (nn b nb)).trans (U.free b ob q ((L2.del_ne (nn b nb)).trans nb) hx), U.there, fun b xs q => ?_, fun b ob v q => ?_, fun b ps q => ?_⟩
  · have hb := ne b _ q fun _ _ z => by cases z
    exact (shown_ne hb).trans (U.tups b xs ((L2.del_ne hb).trans q))
  · by_cases hb : b = a
    · subst hb; rw [hH] at q; cases q; exact shown_same
    · exact (shown_ne hb).trans (U.frzs b ob v ((L2.del_ne hb).trans q))
  · have hb := ne b _ q fun _ _ z => by cases z
    obtain ⟨m, z⟩ := U.tbls b ps ((L2.del_ne hb).trans q)
    exact ⟨m, (shown_ne hb).trans z⟩
end
/-- a thing that is shown here -/
structure Shown (outer : List Env) (H : Hp) (s : Shared) (a : Addr) (o : Obj) : Prop where
  at_ : H a = some (.frz o Tr)
  ob : s.heap.get? a = some o
  nf : a ∉ frs outer
theorem Shown.skip {outer : List Env} {H : Hp} {s : Shared} {a b : Addr} {o : Obj} (x : Shown outer H s a o) (n : a ≠ b) : Shown outer (L2.del H b) s a o := ⟨(L2.del_ne n).trans x.at_, x.ob, x.nf⟩
/-- what leaves a call by an exception bears that a hidden thing is shown again -/
structure Bares (P : Program) (w : World) (CX : CXT) : Prop where
  mono : ∀ (outer : List Env) (H : Hp) (s : Shared) (E E' : XK) (u : Value) (s' : Shared), (∀ c d H', E c d H' → E' c d H') → CX outer H s E u s' → CX outer H s E' u s'
  show_ : ∀ (outer : List Env) (H : Hp) (a : Addr) (o : Obj) (s : Shared) (E : XK) (u : Value) (s' : Shared), Shown outer H s a o → CX outer (L2.del H a) s (fun cls d H' => H' a = none → E cls d (shown H' a o)) u s' → CX outer H s E u s'
theorem shownL_ne {b : Addr} : ∀ {L : List (Addr × Obj)} {H : Hp}, b ∉ L.map (·.1) → shownL H L b = H b
  | [], _, _ => rfl
  | p :: L, H, h => by
    rw [List.map_cons, List.mem_cons, not_or] at h
    exact (shown_ne h.1).trans (shownL_ne h.2)
section
variable {P : Program} {w : World} {K : PySem.W.Frag} {mg : Str → Option Value} {base : Heap} {A : Around} {outer : List Env} {s : Shared} {H : Hp} {a : Addr} {o : Obj} {CX : CXT} {c : Code} {Q : VK} {E : XK}
theorem bare (hd : Bares P w CX) (x : Shown outer H s a o) (h : codeAny (model P w) A c (CR CX outer P w (L2.del H a) s (fun v H' => H' a = none → Q v (shown H' a o)) (fun cls d H' => H' a = none → E cls d (shown H' a o))) s) : codeAny (model P w) A c (CR CX outer P w H s Q E) s := by
  refine codeAny_mono h fun r s' hq => ?_
  cases r with
  | error u => exact hd.show_ _ _ _ _ _ _ _ _ x hq
  | ok fl =>
    cases fl with
    | ret u =>
      obtain ⟨v, H', os, br, un, hok, r, q⟩ := hq
      have e1 : s'.heap.get? a = some o := un.keep a o x.ob L2.del_same x.nf (by simp)
      have n1 : H' a = none := un.free a o x.ob L2.del_same (by simp)
      exact ⟨v, shown H' a o, os, br, unshow_un un x.at_, shown_hok hok n1 e1, r, q n1⟩
    | next => exact False.elim hq
    | brk => exact False.elim hq
    | cont => exact False.elim hq
end
section
end
end Y
namespace Y
open PySem PySem.Spec PyProof.Rows L2 Z LamX NdefX
/-! ## lambdas that are kept: what one promises, called wherever (after HandS.Nested's nok_of and HandS.Lambda's pe_act) -/
/-- a lambda: its words, the cells that it captured, its code object, its defaults' tuple -/
structure LF where
  qual : Str
  params : Arguments
  body : Expr
  scope : Scope
  cl : List (Str × Addr)
  c : Addr
  dT : Option Addr
abbrev LF.nf (F : LF) : NF := ⟨"<lambda>", F.qual, F.params, [], F.scope, F.cl, F.c⟩
abbrev LF.fd (F : LF) (pm ctv : Value) : FuncData := { PySem.W.kla_fn "<lambda>" F.qual F.params F.body F.scope F.cl pm (.ref F.c) ctv with defaults := F.dT.elim .none .ref }
/-- the object at f is the lambda F -/
def LamO (f : Addr) (F : LF) : HO := .ext fun h => ∃ (pm ctv : Value), h.get? f = some ({ cls := .type "function", data := .func (F.fd pm ctv) } : Obj)
/-- its defaults stand in H -/
def LDef (F : LF) (dvs : List V) (H : Hp) : Prop := (F.dT = none → dvs = []) ∧ ∀ T, F.dT = some T → H T = some (.tup dvs)
/-- the promise of the lambda F at f: sp ws, ws what its captured cells hold at the call -/
structure LOk (P : Program) (w : World) (K : PySem.W.Frag) (mg : Str → Option Value) (base : Heap) (CX : CXT) (k : Nat) (f : Addr) (F : LF) (fr : List Str) (dvs : List V) (sp : List (Option V) → Hp → VK → XK → Prop) : Prop where
  run : ∀ (A : Around) (outer : List Env) (s : Shared) (H : Hp) (ws : List (Option V)) (Q : VK) (E : XK), Room k A → Env0 P w K mg base A outer s H → H f = some (LamO f F) → H F.c = some (CodeO F.c F.qual) → LDef F dvs H →
    CellsAt F.cl fr ws s.heap H → sp ws H Q E → codeAny (model P w) A (.call (.ref f) ⟨[], []⟩) (CR CX outer P w H s Q E) s
section
variable {CX : CXT} {P : Program} {w : World} {K : PySem.W.Frag} {mg : Str → Option Value} {base : Heap} {N ps fr : List Str} {F : LF} {f : Addr} {k j : Nat} {dvs : List V} {sp : List (Option V) → Hp → VK → XK → Prop}
theorem LOk.mono (o : LOk P w K mg base CX j f F fr dvs sp) (h : j ≤ k) : LOk P w K mg base CX k f F fr dvs sp := ⟨fun A outer s H ws Q E hr => o.run A outer s H ws Q E (hr.mono h)⟩
end
end Y
namespace Y
open PySem PySem.Spec PyProof.Rows L2 Z LamX NdefX
/-! ## a lambda is made, with defaults or without (after KE.KLam's kla_makeTail and HandS.Nested's ndef_make, which have no defaults) -/
section
end
end Y
namespace Y
open PySem PySem.Spec PyProof.Rows L2 Z LamX NdefX
theorem lamO_ne {f : Addr} {F : LF} (ps : Array Value) : LamO f F ≠ .tbl ps := fun z => by unfold LamO at z; cases z
section
end
end Y
namespace Y
open PySem PySem.Spec PyProof.Rows L2 Z LamX NdefX
/-! ## a kept lambda is called, its cells shown here -/
theorem delL_ne {b : Addr} : ∀ {L : List (Addr × Obj)} {H : Hp}, (∀ p ∈ L, p.1 ≠ b) → delL H L b = H b
  | [], _, _ => rfl
  | p :: L, H, h => (delL_ne (L := L) (H := L2.del H p.1) fun q hq => h q (List.mem_cons_of_mem _ hq)).trans (L2.del_ne (Ne.symm (h p List.mem_cons_self)))
theorem delL_none {b : Addr} : ∀ {L : List (Addr × Obj)} {H : Hp}, H b = none → delL H L b = none
  | [], _, h => h
  | p :: L, H, h => delL_none (L := L) (H := L2.del H p.1) (by
      by_cases hb : b = p.1
      · rw [hb]; exact L2.del_same
      · exact (L2.del_ne hb).trans h)
theorem delL_mem {b : Addr} : ∀ {L : List (Addr × Obj)} {H : Hp}, b ∈ L.map (·.1) → delL H L b = none
  | p :: L, H, h => by
    rw [List.map_cons, List.mem_cons] at h
    by_cases hb : b = p.1
    · exact delL_none (L := L) (H := L2.del H p.1) (by rw [hb]; exact L2.del_same)
    · exact delL_mem (L := L) (H := L2.del H p.1) (h.resolve_left hb)
/-- the captured cells among the shown things, what they hold (ws) -/
structure CellsL (cl : List (Str × Addr)) (fr : List Str) (ws : List (Option V)) (L : List (Addr × Obj)) : Prop where
  len : ws.length = fr.length
  all : ∀ y c, cl.lookup y = some c → ∃ o v, (c, o) ∈ L ∧ o.data = .cell v
  inj : ∀ x y c, cl.lookup x = some c → cl.lookup y = some c → x = y
  has : ∀ (i : Nat) (y : Str), fr[i]? = some y → ∃ c, cl.lookup y = some c ∧ ∀ v, ws[i]? = some (some v) → ∃ u o, L2.RelV v u ∧ (c, o) ∈ L ∧ o.data = .cell (some u)
theorem CellsL.at_ {cl : List (Str × Addr)} {fr : List Str} {ws : List (Option V)} {L : List (Addr × Obj)} {h : Heap} {H : Hp} (C : CellsL cl fr ws L) (hL : ∀ p ∈ L, h.get? p.1 = some p.2) : CellsAt cl fr ws h (delL H L) := by
  refine ⟨C.len, fun y c e => ?_, C.inj, fun i y e => ?_⟩
  · obtain ⟨o, v, m, d⟩ := C.all y c e
    exact ⟨delL_mem (List.mem_map.mpr ⟨_, m, rfl⟩), v, o, hL _ m, d⟩
  · obtain ⟨c, e1, e2⟩ := C.has i y e
    refine ⟨c, e1, fun v hv => ?_⟩
    obtain ⟨u, o, r, m, d⟩ := e2 v hv
    exact ⟨u, r, o, hL _ m, d⟩
/-- a kept lambda with its cells shown: what is known of it in H -/
structure Kept (F : LF) (f : Addr) (fr : List Str) (dvs : List V) (ws : List (Option V)) (L : List (Addr × Obj)) (H : Hp) : Prop where
  lam : H f = some (LamO f F)
  code : H F.c = some (CodeO F.c F.qual)
  dfl : LDef F dvs H
  shw : ∀ p ∈ L, H p.1 = some (.frz p.2 Tr)
  nd : (L.map (·.1)).Nodup
  cells : CellsL F.cl fr ws L
theorem Kept.ext {F : LF} {f : Addr} {fr : List Str} {dvs : List V} {ws : List (Option V)} {L : List (Addr × Obj)} {H H' : Hp} (k : Kept F f fr dvs ws L H) (s : Same H H') : Kept F f fr dvs ws L H' :=
  ⟨s _ _ k.lam, s _ _ k.code, ⟨k.dfl.1, fun T e => s _ _ (k.dfl.2 T e)⟩, fun p hp => s _ _ (k.shw p hp), k.nd, k.cells⟩
section
end
end Y
namespace Y
open PySem PySem.Spec PyProof.Rows L2 Z
/-! ## a text in a list of texts; what a caught error keeps -/
theorem dts_str {K : PySem.W.Frag} {H : Hp} {ns : List Str} {xs : List V} (h : Dts K (ns.map .str) xs H) : xs = ns.map V.str := by
  refine List.ext_getElem? fun i => ?_
  cases e : ns[i]? with
  | none =>
    rw [List.getElem?_map, e]
    refine List.getElem?_eq_none ?_
    rw [h.1, List.length_map]
    exact List.getElem?_eq_none_iff.mp e
  | some n =>
    obtain ⟨hi, _⟩ := List.getElem?_eq_some_iff.mp e
    have hx : i < xs.length := by rw [h.1, List.length_map]; exact hi
    have q := h.2 i xs[i] (.str n) (List.getElem?_eq_getElem hx) (by rw [List.getElem?_map, e]; rfl)
    rw [List.getElem?_map, e, List.getElem?_eq_getElem hx]
    cases hq : xs[i] with
    | str m => rw [hq] at q; cases q; rfl
    | _ => rw [hq] at q; cases q
section
end
/-- a shown own error, its code, the attribute n -/
def ExcAt (C : Addr) (code n : Str) (v : V) (w : V) (S : Hp) : Prop := ∃ (a : Addr) (oe : Obj) (dd : Addr) (fs : List (Str × V)), w = .ref a ∧ S a = some (.frz oe Tr) ∧ oe.cls = .ref C ∧ oe.dict = some dd ∧ (∃ vs, oe.data = .fields vs) ∧ S dd = some (.xd fs) ∧ fs.lookup ("code" : Str) = some (V.str code) ∧ fs.lookup n = some v
instance {C : Addr} {code n : Str} {v : V} : Mn (ExcAt C code n v) := ⟨fun s ⟨a, oe, dd, fs, h1, h2, h3, h4, h5, h6, h7, h8⟩ => ⟨a, oe, dd, fs, h1, s _ _ h2, h3, h4, h5, s _ _ h6, h7, h8⟩⟩
section
end
end Y
namespace Y
open PySem PySem.Spec PyProof.Rows L2 Z
/-- shown things put back on top -/
theorem Gr.shownL {S H S1 H1 : Hp} {L : List (Addr × Obj)} (g : Gr S (delL H L) S1 H1) (hL : ∀ p ∈ L, H1 p.1 = none) (hk : ∀ p ∈ L, H p.1 = some (.frz p.2 Tr)) (nd : (L.map (·.1)).Nodup) : Gr S H S1 (shownL H1 L) := by
  have atL : ∀ {L : List (Addr × Obj)} {p : Addr × Obj}, p ∈ L → (L.map (·.1)).Nodup → Y.shownL H1 L p.1 = some (.frz p.2 Tr) := by
    intro L
    induction L with
    | nil => intro p hp; cases hp
    | cons q L ih =>
      intro p hp nd
      rw [List.map_cons, List.nodup_cons] at nd
      rcases List.mem_cons.mp hp with e | e
      · rw [e]; exact shown_same
      · exact (shown_ne fun z => nd.1 (by rw [← z]; exact List.mem_map_of_mem e)).trans (ih e nd.2)
  have top : Same H1 (Y.shownL H1 L) := fun b o e => by
    have hb : b ∉ L.map (·.1) := fun z => by
      obtain ⟨p, hp, rfl⟩ := List.mem_map.mp z
      rw [hL p hp] at e; cases e
    exact (shownL_ne hb).trans e
  refine ⟨g.st, g.sub.trans top, fun b o e => ?_, fun b o e m => ?_⟩
  · by_cases hb : b ∈ L.map (·.1)
    · obtain ⟨p, hp, rfl⟩ := List.mem_map.mp hb
      rw [hk p hp] at e
      rw [atL hp nd]; exact e
    · exact top b o (g.hh b o ((delL_ne fun p hp z => hb (by rw [← z]; exact List.mem_map_of_mem hp)).trans e))
  · by_cases hb : b ∈ L.map (·.1)
    · obtain ⟨p, hp, rfl⟩ := List.mem_map.mp hb
      have n1 : S1 p.1 = none := g.sub.free (hL p hp)
      rw [n1, g.st.free n1]
    · exact g.old b o ((delL_ne fun p hp z => hb (by rw [← z]; exact List.mem_map_of_mem hp)).trans e) m
end Y
namespace Y
open PySem PySem.Spec PyProof.Rows L2 L2H Z
/-! ## a def called within an except suite, the caught exception pinned; it raises nothing there (after HandS.HotCalls, without its wish on the exception's context) -/
section
end
end Y
namespace Y
open PySem PySem.Spec PyProof.Rows L2 L2H Z
/-! ## attributes of the pinned exception -/
/-- the exception p: its class, its code, the value of its attribute n -/
def ExcP (C : Addr) (code n : Str) (v : V) (p : Addr × Obj) (S : Hp) : Prop := ∃ (dd : Addr) (fs : List (Str × V)), p.2.cls = .ref C ∧ p.2.dict = some dd ∧ (∃ vs, p.2.data = .fields vs) ∧ S dd = some (.xd fs) ∧ fs.lookup ("code" : Str) = some (V.str code) ∧ fs.lookup n = some v
theorem ExcP.up {C : Addr} {code n : Str} {v : V} {p : Addr × Obj} {S S' : Hp} (h : ExcP C code n v p S) (s : Same S S') : ExcP C code n v p S' := by
  obtain ⟨dd, fs, h1, h2, h3, h4, h5, h6⟩ := h
  exact ⟨dd, fs, h1, h2, h3, s _ _ h4, h5, h6⟩
section
end
end Y
namespace Y
open PySem PySem.Spec PyProof.Rows L2 Z
section
end
end Y
namespace Y
open PySem PySem.Spec PyProof.Rows L2 Z
/-! ## a list comprehension over things of any kind (Z3's ee_lcG with predicates for the items) -/
section
end
end Y
namespace Y
open PySem PySem.Spec PyProof.Rows L2 Z
section
end
/-- a closure's promise seen from the state with the cells: the state without them, and back -/
theorem Gr.under {S H S1 H1 : Hp} {L : List (Addr × Obj)} (s : Same S H) (hS : ∀ p ∈ L, S p.1 = some (.frz p.2 Tr)) (nd : (L.map (·.1)).Nodup) (g : Gr (delL S L) H S1 H1) : Gr S H (Y.shownL S1 L) H1 := by
  have atL : ∀ {L : List (Addr × Obj)} {p : Addr × Obj}, p ∈ L → (L.map (·.1)).Nodup → Y.shownL S1 L p.1 = some (.frz p.2 Tr) := by
    intro L
    induction L with
    | nil => intro p hp; cases hp
    | cons q L ih =>
      intro p hp nd
      rw [List.map_cons, List.nodup_cons] at nd
      rcases List.mem_cons.mp hp with e | e
      · rw [e]; exact shown_same
      · exact (shown_ne fun z => nd.1 (by rw [← z]; exact List.mem_map_of_mem e)).trans (ih e nd.2)
  have off : ∀ b, b ∉ L.map (·.1) → delL S L b = S b := fun b hb => delL_ne fun p hp z => hb (by rw [← z]; exact List.mem_map_of_mem hp)
  refine ⟨fun b o e => ?_, fun b o e => ?_, g.hh, fun b o e m => ?_⟩
  · by_cases hb : b ∈ L.map (·.1)
    · obtain ⟨p, hp, rfl⟩ := List.mem_map.mp hb
      rw [atL hp nd, ← hS p hp]; exact e
    · rw [shownL_ne hb]
      exact g.st b o ((off b hb).trans e)
  · by_cases hb : b ∈ L.map (·.1)
    · obtain ⟨p, hp, rfl⟩ := List.mem_map.mp hb
      rw [atL hp nd] at e
      rw [← e]
      exact g.hh _ _ (s _ _ (hS p hp))
    · rw [shownL_ne hb] at e
      exact g.sub b o e
  · by_cases hb : b ∈ L.map (·.1)
    · obtain ⟨p, hp, rfl⟩ := List.mem_map.mp hb
      rw [atL hp nd, hS p hp]
    · rw [shownL_ne hb]
      exact (g.old b o e m).trans (off b hb)
end Y
namespace Y
open PySem PySem.Spec PyProof.Rows L2 Z
section
end
end Y
namespace Y
open PySem PySem.Spec PyProof.Rows L2 Z
end Y
namespace Y
open PySem PySem.Spec PyProof.Rows L2 Z LamX NdefX
/-! ## the running frame's cells, shown to a call -/
section
end
section
end
/-! ## what is known without the tables -/
end Y
namespace Y
open PySem PySem.Spec PyProof.Rows L2 Z
section
variable {X : Cx} {σ : L2.St} {S S' H : Hp} {a b c e d0 tg : Expr} {pos p : Pos} {i j l m : Int} {b1 b2 b3 : Bool} {g1 g2 : Int → Int → V} {D : Ends} {rest body : List Stmt} {x : Str} {k n : Nat}
/-- a def over the box and one thing that is not fixed -/
theorem ee_callBE {F : List PyData → (PyData → Prop) → Prop} {W G : PyData → Prop} (D : KD X.prog X.w X.K X.mg X.base x k (spB X.K F)) (hr : Room k X.A) (hF : ∀ d, W d → ∃ G', F [d] G' ∧ ∀ r, G' r → G r) (hb : EE X σ S b BX) (he0 : EE X σ S e (Ex X.K W)) (hg : Gl X x := by rfl) (hdb : (x == ("__debug__" : Str)) = false := by decide)
    (hs : starEach [b, e] X.env = (false, eval b X.env) :: starEach [e] X.env := by rfl) (hs2 : starEach [e] X.env = (false, eval e X.env) :: starEach [] X.env := by rfl) (hpl : (backTo pos (starEach [e] X.env)).any (·.1) = false := by rfl) : EE X σ S (.Call (.Name x p) [b, e] [] pos) (Ex X.K G) :=
  ee_call D hr (ea_2 hb he0 hs hs2) (fun vs S1 H1 _ s al Q q => by
    obtain ⟨v, w, rfl, pv, d, wd, pw⟩ := al.two
    obtain ⟨G', h1, h2⟩ := hF d wd
    exact ⟨S1, v, [w], [d], G', rfl, s, pv, Dts.cons pw .nil, h1, fun r hr u S' H' g pu => q u S' H' g ⟨r, h2 r hr, pu⟩⟩) hg hdb hs hpl
/-- f(k1 = e1, k2 = e2), by name alone; the values stand the other way round in the def -/
def gS {α : Type} : List α → List α → List α
  | us, [a, b] => us ++ [b, a]
  | us, ws => us ++ ws
theorem gS_rel {vs zs : List V} {us ws : List Value} (r1 : Vals vs us) (r3 : Vals zs ws) : Vals (gS vs zs) (gS us ws) := by
  cases r3 with
  | nil => exact r1.append .nil
  | cons a t =>
    cases t with
    | nil => exact r1.append (.cons a .nil)
    | cons b t =>
      cases t with
      | nil => exact r1.append (.cons b (.cons a .nil))
      | cons c t => exact r1.append (.cons a (.cons b (.cons c t)))
end
section
end
end Y
namespace Y
open PySem PySem.Spec PyProof.Rows L2 Z
/-! ## an own error of the ValueErrors, told by one Bool -/
end Y
namespace Y
open PySem PySem.Spec PyProof.Rows L2 Z
/-! ## dicts whose keys are tuples of ints, whose values are ints -/
abbrev MapI := List (List Int × Int)
def kI (k : List Int) : List L2.Key := k.map Sum.inl
def kvM (m : MapI) : List (List L2.Key × V) := m.map fun q => (kI q.1, V.int q.2)
def getM (m : MapI) (k : List Int) : Option Int := (m.find? fun q => decide (q.1 = k)).map (·.2)
def putM (m : MapI) (k : List Int) (n : Int) : MapI := if (m.any fun q => decide (q.1 = k)) = true then m.map (fun q => if q.1 = k then (q.1, n) else q) else m ++ [(k, n)]
theorem kI_inj : ∀ {k l : List Int}, kI k = kI l → k = l
  | [], [], _ => rfl
  | [], _ :: _, h => by cases h
  | _ :: _, [], h => by cases h
  | a :: k, b :: l, h => by
    have h1 : Sum.inl a = Sum.inl b ∧ kI k = kI l := List.cons.inj h
    rw [Sum.inl.inj h1.1, kI_inj h1.2]
theorem kI_iff {k l : List Int} : kI k = kI l ↔ k = l := ⟨kI_inj, fun h => by rw [h]⟩
theorem kI_dec {k l : List Int} : decide (kI k = kI l) = decide (k = l) := decide_eq_decide.mpr kI_iff
theorem kI_kV (k : List Int) : (kI k).map kV = k.map V.int := by
  unfold kI
  rw [List.map_map]
  rfl
theorem valV_kvM (k : List Int) : ∀ m : MapI, valV (kvM m) (kI k) = (getM m k).map V.int
  | [] => rfl
  | q :: m => by
    have ih := valV_kvM k m
    unfold valV kvM getM at *
    rw [List.map_cons, List.find?_cons, List.find?_cons, kI_dec]
    cases decide (q.1 = k) with
    | true => rfl
    | false => exact ih
theorem any_kvM (k : List Int) : ∀ m : MapI, ((kvM m).any fun kv => decide (kv.1 = kI k)) = m.any fun q => decide (q.1 = k)
  | [] => rfl
  | q :: m => by
    unfold kvM
    rw [List.map_cons, List.any_cons, List.any_cons, kI_dec]
    exact congrArg _ (any_kvM k m)
theorem putK_kvM (m : MapI) (k : List Int) (n : Int) : putK (kvM m) (kI k) (.int n) = kvM (putM m k n) := by
  unfold putK putM
  rw [any_kvM]
  split
  · unfold kvM
    rw [List.map_map, List.map_map]
    refine List.map_congr_left fun q _ => ?_
    show (if kI q.1 = kI k then (kI q.1, V.int n) else (kI q.1, V.int q.2)) = (kI (if q.1 = k then (q.1, n) else q).1, V.int (if q.1 = k then (q.1, n) else q).2)
    by_cases h : q.1 = k
    · rw [if_pos (kI_iff.mpr h), if_pos h]
    · rw [if_neg (fun z => h (kI_inj z)), if_neg h]
  · unfold kvM
    rw [List.map_append]
    rfl
theorem kvM_len (m : MapI) : (kvM m).length = m.length := List.length_map ..
theorem putM_len (m : MapI) (k : List Int) (n : Int) : (putM m k n).length ≤ m.length + 1 := by
  unfold putM
  split
  · rw [List.length_map]; omega
  · rw [List.length_append]; simp
/-- v is a tuple of these ints -/
def KyP (k : List Int) (w : V) (S : Hp) : Prop := ∃ b, w = .ref b ∧ S b = some (.tup (k.map V.int))
instance {k : List Int} : Mn (KyP k) := ⟨fun s ⟨b, e, h⟩ => ⟨b, e, s _ _ h⟩⟩
theorem ky_of {K : PySem.W.Frag} {k : List Int} {v : V} {S : Hp} (h : Dt K (.tuple (k.map .int)) v S) (hk : k ≠ []) : KyP k v S := by
  obtain ⟨a, xs, rfl, hl, hx, _⟩ := h.tup_invS
  have e := dts_int hx
  subst e
  rcases hl with hl | ⟨e, _⟩
  · exact ⟨a, rfl, hl⟩
  · exact absurd (List.map_eq_nil_iff.mp e) hk
theorem KyP.dt {K : PySem.W.Frag} {k : List Int} {v : V} {S : Hp} (h : KyP k v S) (hz : k.length ≤ sizeLine) : Dt K (.tuple (k.map .int)) v S := by
  obtain ⟨b, rfl, h⟩ := h
  exact Dt.tup_mk (.inl h) (int_dts k S) (by rw [List.length_map]; exact hz)
section
variable {X : Cx} {σ : L2.St} {S S' H : Hp} {e f o i : Expr} {P : V → Hp → Prop} {pos pos' p apos cpos : Pos} {D : Ends} {rest : List Stmt} {a : Addr} {m : MapI} {k : List Int} {n : Int}
theorem EE.ky (h : EE X σ S e (Dt X.K (.tuple (k.map .int)))) (hk : k ≠ []) : EE X σ S e (KyP k) := h.imp fun _ _ q => ky_of q hk
/-- o.get(e, f) -/
theorem ee_dget2 (hu : X.A.units + 1 < cLine) (hd : S a = some (.dT (kvM m))) (ho : EE X σ S o (fun w _ => w = .ref a)) (he : EE X σ S e (KyP k)) (hf : EE X σ S f (Dt X.K (.int n))) (hm : M2 X o "get" apos e f cpos := by exact ⟨rfl, rfl, rfl, rfl⟩) :
    EE X σ S (.Call (.Attribute o "get" apos) [e, f] [] cpos) (Dt X.K (.int ((getM m k).getD n))) := fun H s Q q =>
  he_of (pe_dget2 hu peb peb peb hm) (ho H s _ fun w S1 H1 g1 pw => by
    subst pw
    refine ⟨a, rfl, .inr ⟨_, .inl (g1.sub _ _ (g1.st _ _ hd))⟩, (he.up g1.st) H1 g1.sub _ fun y S2 H2 g2 py => ((hf.up g1.st).up g2.st) H2 g2.sub _ fun z S3 H3 g3 pz => ?_⟩
    cases pz
    obtain ⟨b, rfl, hb⟩ := py
    have g := (g1.trans g2).trans g3
    refine ⟨_, DGet.t (k := kI k) (g.sub _ _ (g.st _ _ hd)) (by rw [kI_kV]; exact g3.sub _ _ (g3.st _ _ hb)), ?_⟩
    rw [valV_kvM]
    have e : ((getM m k).map V.int).getD (V.int n) = V.int ((getM m k).getD n) := by cases getM m k <;> rfl
    rw [e]
    exact q _ S3 H3 g (.int _))
/-- o[i], there -/
theorem ee_dix (hu : X.A.units + 1 < cLine) (hd : S a = some (.dT (kvM m))) (hk : getM m k = some n) (ho : EE X σ S o (fun w _ => w = .ref a)) (hi : EE X σ S i (KyP k)) (hs : NoSl i := by exact fun _ _ => rfl) : EE X σ S (.Subscript o i pos) (Dt X.K (.int n)) := fun H s Q q =>
  he_of (pe_dget hu peb peb hs) (ho H s _ fun w S1 H1 g1 pw => (hi.up g1.st) H1 g1.sub _ fun y S2 H2 g2 py => by
    subst pw
    obtain ⟨b, rfl, hb⟩ := py
    have g := g1.trans g2
    refine ⟨a, .int n, rfl, ?_, q _ S2 H2 g (.int _)⟩
    have h := DGet.t (k := kI k) (g.sub _ _ (g.st _ _ hd)) (by rw [kI_kV]; exact g2.sub _ _ hb)
    rw [valV_kvM, hk] at h
    exact h)
/-- {} -/
theorem hs_dnew {x : Str} {j : Nat} (hN : X.N.Nodup) (q : ∀ b, H b = none → HS X D rest (σ.set j (some (.ref b))) (upd H b (.dT (kvM [])))) (hi : X.N[j]? = some x := by rfl) (hx : Loc X.env.scope x := by first | exact Or.inl rfl | exact Or.inr rfl)
    (hs : swapsWith (.Dict [] [] p) (some (.Name x pos')) pos.line X.env = pure false := by rfl) (hf : X.fn x = true ∨ X.env.scope.names.lookup x = some .local := by first | exact .inl rfl | exact .inr rfl) : HS X D (.Assign [.Name x pos'] (.Dict [] [] p) pos :: rest) σ H :=
  hs_cons (ps_set hN hi hx pe_dnewT hs hf) fun b hb => q b hb
/-- len(o) -/
theorem ee_dlen (hm : X.mg "len" = none) (hd : S a = some (.dT (kvM m))) (ho : EE X σ S o (fun w _ => w = .ref a)) (hg : Gl X "len" := by rfl) (hs : starEach [o] X.env = (false, eval o X.env) :: starEach [] X.env := by rfl) : EE X σ S (.Call (.Name "len" p) [o] [] pos) (Dt X.K (.int m.length)) := by
  haveI := mn_eq (v := .ref a)
  exact ee_callB call_len_dT hm boot_len (ea_1 ho hs) (fun vs S1 H1 s0 s al Q q => by
    obtain ⟨v, rfl, pv⟩ := al.one
    subst pv
    refine ⟨a, _, rfl, s _ _ (s0 _ _ hd), ?_⟩
    rw [kvM_len]
    exact q _ S1 H1 (Gr.refl s) (.int _)) hg (he := hs) (hpl := by rfl)
end
end Y
namespace Y
open PySem PySem.Spec PyProof.Rows L2 Z
/-! ## sorted, of data -/
def SortOk {β : Type} (enc : β → PyData) (bs : List β) (u : Nat) : Prop := PySem.W.AllAlike (bs.map enc) ∧ PySem.W.Sortable (bs.map enc) ∧ ∀ b ∈ bs, u + 2 + (enc b).depth < cLine
def srt {β : Type} (enc : β → PyData) (bs : List β) : List β := bs.mergeSort (PySem.W.dataLe false enc)
section
variable {β : Type} {enc : β → PyData}
/-- u stands for b's data -/
def Rd0 (K : PySem.W.Frag) (S : Hp) (enc : β → PyData) (u : Value) (b : β) : Prop := ∃ x, RelV x u ∧ Dt K (enc b) x S
theorem each_of {K : PySem.W.Frag} {S : Hp} : ∀ {bs : List β} {xs : List V} {us : List Value}, Vals xs us → Dts K (bs.map enc) xs S → PySem.W.EachIs (Rd0 K S enc) us bs
  | [], _, _, r, h => by
    have e := h.1
    cases r with
    | nil => exact .nil
    | cons _ _ => simp at e
  | b :: bs, _, _, r, h => by
    cases r with
    | nil => have e := h.1; simp at e
    | cons r0 rr =>
      have h' := dts_al h
      cases h' with
      | cons p q => exact .cons ⟨_, r0, p⟩ (each_of rr (al_dts q))
theorem of_each {K : PySem.W.Frag} {S : Hp} {us : List Value} {bs : List β} (h : PySem.W.EachIs (Rd0 K S enc) us bs) : ∃ xs, Vals xs us ∧ Dts K (bs.map enc) xs S := by
  induction h with
  | nil => exact ⟨[], .nil, .nil⟩
  | cons h _ ih =>
    obtain ⟨x, r, d⟩ := h
    obtain ⟨xs, rs, ds⟩ := ih
    exact ⟨x :: xs, .cons r rs, .cons d ds⟩
end
section
variable {X : Cx} {β : Type} {enc : β → PyData}
def rSortL (K : PySem.W.Frag) (u : Nat) (enc : β → PyData) (bs : List β) : List V → Hp → VK → Prop := fun vs H Q => ∃ (a : Addr) (xs : List V) (S : Hp), vs = [.ref a] ∧ Same S H ∧ SqL K H a xs ∧ Dts K (bs.map enc) xs S ∧ SortOk enc bs u ∧
  ∀ (ys : List V) (p : Addr), H p = none → Dts K ((srt enc bs).map enc) ys S → ys.length ≤ sizeLine → Q (.ref p) (upd H p (.lst ys))
theorem cr_sortL {bs : List β} : CallR X (.builtin "sorted") (rSortL X.K X.A.units enc bs) := by
  intro pins s σ H vs us Q I r h
  obtain ⟨a, xs, S, rfl, ss, hs, hd, ⟨hal, hk, hu⟩, q⟩ := h
  obtain ⟨its, rv, hl, hz⟩ := I.list hs
  rw [Vals.ref1 r]
  have hlen : bs.length = xs.length := by rw [hd.1, List.length_map]
  have he := each_of (enc := enc) (bs := bs) rv hd
  refine PySem.W.sorted_data (enc := enc) (bs := bs) hl.isList he (he.mono fun v b hb => ?_) hal hk (by rw [hlen]; exact hz) hu fun out hol hout => ?_
  · obtain ⟨x, rx, dx⟩ := hb
    exact Dp.reads I (enc b) x v (dx.up ss).dp rx
  · obtain ⟨ys, vy, dy⟩ := of_each hout
    obtain ⟨ep, he'⟩ := PyProof.Rows.sortedAll_at s.heap its out.toArray
    have hn : H (s.heap.objs.size + 1) = none := I.hok.fresh (Nat.le_succ _)
    have hyl : ys.length ≤ sizeLine := by rw [vy.length, hol, hlen]; exact hz
    refine ⟨.ref _, upd H (s.heap.objs.size + 1) (.lst ys), I.laid (t' := s.toks) (fun _ _ => PyProof.Rows.sortedAll_old) (Nat.le_succ _) ⟨hyl, out, ep, vy, by simpa using he'⟩, rfl, q ys _ hn dy hyl⟩
theorem ee_sortL {σ : L2.St} {S : Hp} {e : Expr} {p pos : Pos} {bs : List β} (hm : X.mg "sorted" = none) (hok : SortOk enc bs X.A.units) (he : EE X σ S e (Dt X.K (.list (bs.map enc)))) (hg : Gl X "sorted" := by rfl) (hs : starEach [e] X.env = (false, eval e X.env) :: starEach [] X.env := by rfl) :
    EE X σ S (.Call (.Name "sorted" p) [e] [] pos) (Dt X.K (.list ((srt enc bs).map enc))) :=
  ee_callB (cr_sortL (enc := enc) (bs := bs)) hm (by first | rfl | exact boot_sorted) (ea_1 he hs) (fun vs S1 H1 _ s al Q q => by
    obtain ⟨v, rfl, pv⟩ := al.one
    obtain ⟨l, xs, rfl, hl, hx, z⟩ := pv.lst_inv
    exact ⟨l, xs, S1, rfl, s, sql_of (s _ _ hl), hx, hok, fun ys p hp hy hz => q _ _ _ (Gr.new s hp) (Dt.lst_mk upd_same (hy.up (Same.new (s.free hp))) hz)⟩) hg (he := hs) (hpl := by rfl)
end
end Y
namespace Y
open PySem PySem.Spec PyProof.Rows L2 Z
/-! ## sorted(d), d a dict with tuple keys -/
/-- S, and the tuples of H -/
def learn (S H : Hp) : Hp := fun a => match S a with
  | some o => some o
  | none => match H a with
    | some (.tup xs) => some (.tup xs)
    | _ => none
theorem learn_l {S H : Hp} : Same S (learn S H) := fun a o h => by unfold learn; rw [h]
theorem learn_sub {S H : Hp} (s : Same S H) : Same (learn S H) H := fun a o h => by
  unfold learn at h
  cases e : S a with
  | some u => rw [e] at h; cases h; exact s a _ e
  | none =>
    rw [e] at h
    cases e2 : H a with
    | none => rw [e2] at h; cases h
    | some u =>
      rw [e2] at h
      cases u with
      | tup xs => exact h
      | _ => cases h
theorem learn_tup {S H : Hp} (s : Same S H) {a : Addr} {xs : List V} (h : H a = some (.tup xs)) : learn S H a = some (.tup xs) := by
  unfold learn
  cases e : S a with
  | some u =>
    have h2 := s a u e
    rw [h] at h2
    exact h2.symm
  | none =>
    rw [h]
theorem Gr.learn {S H : Hp} (s : Same S H) : Gr S H (Y.learn S H) H := ⟨learn_l, learn_sub s, Same.refl H, fun a o h n => by
  unfold Y.learn
  cases e : S a with
  | some u => rfl
  | none =>
    rw [h]
    cases o with
    | tup xs => exact absurd rfl (n xs)
    | _ => rfl⟩
abbrev tI' (k : List Int) : PyData := .tuple (k.map .int)
theorem readsAll_ints : ∀ {h : Heap} {us : List Value} {k : List Int} {as : List Addr}, ReadsAll h us (k.map PyData.int) as → as = []
  | _, _, [], _, r => by
    generalize e : ([] : List Int).map PyData.int = ds at r
    cases r with
    | nil => rfl
    | cons _ _ => cases e
  | h, us, i :: k, as, r => by
    generalize e : (i :: k).map PyData.int = ds at r
    cases r with
    | nil => cases e
    | cons r1 r2 =>
      cases e
      cases r1
      rw [readsAll_ints r2]
      rfl
theorem reads_tI {h : Heap} {u : Value} {k : List Int} {as : List Addr} (r : Reads h u (tI' k) as) : as = [] := by
  cases r with
  | tuple _ _ _ h4 => exact readsAll_ints h4
theorem each_keys {R : Value → List Int → Prop} {H : Hp} : ∀ {m : MapI} {ks : List (List L2.Key × Addr × Value)}, Paired (fun (p : List L2.Key × V) (q : List L2.Key × Addr × Value) => p.1 = q.1 ∧ H q.2.1 = some (.tup (p.1.map kV)) ∧ RelV p.2 q.2.2) (kvM m) ks → (∀ k b, H b = some (.tup (k.map V.int)) → R (.ref b) k) → PySem.W.EachIs R (ks.map fun x => Value.ref x.2.1) (m.map (·.1))
  | [], _, h, _ => by
    generalize e : kvM [] = l at h
    cases h with
    | nil => exact .nil
    | cons _ _ => cases e
  | q :: m, _, h, hR => by
    generalize e : kvM (q :: m) = l at h
    cases h with
    | nil => cases e
    | cons h1 h2 =>
      have e1 := (List.cons.inj e).1
      have e2 := (List.cons.inj e).2
      subst e1
      subst e2
      refine .cons (hR _ _ ?_) (each_keys h2 hR)
      have := h1.2.1
      rw [kI_kV] at this
      exact this
theorem refs_of_each {R : Value → List Int → Prop} {us : List Value} {bs : List (List Int)} (h : PySem.W.EachIs R us bs) {T : V → List Int → Prop} (hR : ∀ u k, R u k → ∃ b, u = .ref b ∧ T (.ref b) k) : ∃ ys, Vals ys us ∧ PySem.W.EachIs T ys bs := by
  induction h with
  | nil => exact ⟨[], .nil, .nil⟩
  | cons h _ ih =>
    obtain ⟨ys, v, e⟩ := ih
    obtain ⟨b, rfl, t⟩ := hR _ _ h
    exact ⟨.ref b :: ys, .cons rfl v, .cons t e⟩
section
variable {X : Cx}
def keysM (m : MapI) : List (List Int) := m.map (·.1)
def rSortDT (u : Nat) : List V → Hp → VK → Prop := fun vs H Q => ∃ (a : Addr) (m : MapI), vs = [.ref a] ∧ H a = some (.dT (kvM m)) ∧ SortOk tI' (keysM m) u ∧
  ∀ (ys : List V) (p : Addr), H p = none → PySem.W.EachIs (fun x k => KyP k x H) ys (srt tI' (keysM m)) → ys.length ≤ sizeLine → Q (.ref p) (upd H p (.lst ys))
theorem cr_sortDT (hcalm : X.calm = true) : CallR X (.builtin "sorted") (rSortDT X.A.units) := fun pins s σ H vs us Q I r ⟨a, m, ev, hd, ⟨hal, hk, hu⟩, q⟩ => by
  subst ev
  rw [Vals.ref1 r]
  obtain ⟨z, hs, ks, pr, o, es, ep, ho, hx, hdt, he, hn⟩ := (show ObjOk X.prog X.w H s.heap a (.dT (kvM m)) from I.hok a _ hd)
  have l1 : es.size = ks.length := size_of_entries he
  have l2 : (kvM m).length = ks.length := Paired.length pr
  refine Calls.call_function_entry PyProof.Rows.kind_sorted PyProof.Rows.plain_sorted PyProof.Rows.entry_sorted (PyProof.Rows.args_sorted1 _) ?_
  unfold Builtin.«sorted»
  refine wpAny_bind (m := checkCount "sorted" 1 1 _) (wpAny_pure ?_)
  refine wpAny_bind (PySem.W.kdu_collect (A := X.A.in1) (kdl_raw hs hx hdt) (I.ok.hd hcalm) ho (by omega) fun h' tk acc hkp hacc => ?_)
  have ea : acc.toList = ks.map fun x => Value.ref x.2.1 := by
    refine List.ext_getElem? fun j => ?_
    have hl : acc.toList.length = ks.length := by rw [Array.length_toList, hacc.1]; exact l1
    rw [List.getElem?_map]
    by_cases hj : j < ks.length
    · have hj2 : j < acc.toList.length := by omega
      obtain ⟨en, hen, hv⟩ := hacc.2 j acc.toList[j] (by rw [← Array.getElem?_toList]; exact List.getElem?_eq_getElem hj2)
      have qe := entry_at he j
      rw [hen, List.getElem?_eq_getElem hj] at qe
      have e2 := Option.some.inj qe
      rw [List.getElem?_eq_getElem hj2, List.getElem?_eq_getElem hj, hv, e2]
      rfl
    · rw [List.getElem?_eq_none (by omega), List.getElem?_eq_none (by omega)]
      rfl
  have I1 : Inv X pins σ H { s with heap := h', toks := tk } := I.kept hkp
  have hml : m.length = ks.length := by rw [← l2, kvM_len]
  have hal' : acc.toList.length = m.length := by rw [ea, List.length_map, hml]
  refine wpAny_bind (wpAny_newList ?_ (by rw [hal']; omega))
  have hoL : (h'.push (seqObj "list" acc.toList.toArray 0)).get? h'.objs.size = some (seqObj "list" acc.toList.toArray 0) := Heap.get?_push_size _ rfl
  have e0 : PySem.W.EachIs (fun v k => ∃ b, v = Value.ref b ∧ H b = some (.tup (k.map V.int))) acc.toList (keysM m) := by
    rw [ea]
    exact each_keys pr fun k b hb => ⟨b, rfl, hb⟩
  show wpAny _ _ _ _ _ { s with heap := h'.push (seqObj "list" acc.toList.toArray 0), toks := tk }
  refine wpAny_bind (wpAny_holding (wpAny_mono (PySem.W.list_sort_data (A := X.A.in1) (s := { s with heap := h'.push (seqObj "list" acc.toList.toArray 0), toks := tk }) (enc := tI') (bs := keysM m) (Q := fun _ s' => EP X pins σ Q (.ref h'.objs.size) s') hoL e0 (e0.mono fun v k hv => ?_) hal hk (by unfold keysM; rw [List.length_map]; omega) (fun b hb => ?_) fun out hol hout => ?_) (fun _ s' x => wpAny_pure ⟨_, rfl, x⟩) fun _ _ e => e))
  · obtain ⟨b, rfl, hb⟩ := hv
    have hz : k.length ≤ sizeLine := by
      obtain ⟨w, _⟩ := (show ObjOk X.prog X.w H s.heap b (.tup (k.map V.int)) from I.hok b _ hb)
      rw [List.length_map] at w
      exact w
    obtain ⟨as, ra⟩ := Dp.reads I1 (tI' k) (.ref b) (.ref b) ((show KyP k (.ref b) H from ⟨b, rfl, hb⟩).dt (K := X.K) hz).dp rfl
    have e := reads_tI ra
    subst e
    exact ⟨[], PyProof.Rows.Reads.keeps (fun b o q => Heap.get?_push_of_some _ q) ra, List.not_mem_nil⟩
  · have := hu b hb
    show X.A.units + 1 + 1 + _ < _
    omega
  · obtain ⟨ys, vy, ey⟩ := refs_of_each hout (T := fun x k => KyP k x H) fun u k ⟨b, e, hb⟩ => ⟨b, e, b, rfl, hb⟩
    obtain ⟨en, he'⟩ := PyProof.Rows.sortedHeap_at (h := h'.push (seqObj "list" acc.toList.toArray 0)) (out := out.toArray) hoL
    have hnL : H h'.objs.size = none := I1.hok.fresh (Nat.le_refl _)
    have hyl : ys.length ≤ sizeLine := by rw [vy.length, hol]; unfold keysM; rw [List.length_map]; omega
    refine ⟨.ref _, upd H h'.objs.size (.lst ys), I1.laid (t' := tk) (a := h'.objs.size) (fun b ob hb => ?_) (Nat.le_refl _) ⟨hyl, out, en, vy, by simpa using he'⟩, rfl, q ys _ hnL ey hyl⟩
    have hlt := Heap.lt_size hb
    rw [PyProof.Rows.sortedHeap_old (Nat.ne_of_lt hlt) (by rw [Heap.size_push]; exact Nat.lt_succ_of_lt hlt)]
    exact Heap.get?_push_of_some _ hb
end
end Y
namespace Y
open PySem PySem.Spec PyProof.Rows L2 Z
/-! ## sorted(d) as an expression; sums of tuples -/
theorem dts_of_each {K : PySem.W.Frag} {H S : Hp} (h : ∀ v k, KyP k v H → KyP k v S) : ∀ {ks : List (List Int)} {ys : List V}, PySem.W.EachIs (fun x k => KyP k x H) ys ks → (∀ k ∈ ks, k.length ≤ sizeLine) → Dts K (ks.map tI') ys S
  | [], _, e, _ => by cases e; exact .nil
  | k :: ks, _, e, hz => by
    cases e with
    | cons p r => exact Dts.cons ((h _ _ p).dt (hz k (List.mem_cons_self ..))) (dts_of_each h r fun j hj => hz j (List.mem_cons_of_mem _ hj))
theorem mem_srt {β : Type} {enc : β → PyData} {bs : List β} {b : β} : b ∈ srt enc bs ↔ b ∈ bs := (List.mergeSort_perm ..).mem_iff
section
variable {X : Cx} {σ : L2.St} {S H : Hp} {e : Expr} {p pos : Pos} {a : Addr} {m : MapI}
theorem ee_sortDT (hc : X.calm = true) (hm : X.mg "sorted" = none) (hok : SortOk tI' (keysM m) X.A.units) (hz : ∀ k ∈ keysM m, k.length ≤ sizeLine) (hd : S a = some (.dT (kvM m))) (he : EE X σ S e (fun w _ => w = .ref a)) (hg : Gl X "sorted" := by rfl) (hs : starEach [e] X.env = (false, eval e X.env) :: starEach [] X.env := by rfl) :
    EE X σ S (.Call (.Name "sorted" p) [e] [] pos) (Dt X.K (.list ((srt tI' (keysM m)).map tI'))) := by
  haveI := mn_eq (v := .ref a)
  exact ee_callB (cr_sortDT hc) hm (by first | rfl | exact boot_sorted) (ea_1 he hs) (fun vs S1 H1 s0 s al Q q => by
    obtain ⟨v, rfl, pv⟩ := al.one
    subst pv
    refine ⟨a, m, rfl, s _ _ (s0 _ _ hd), hok, fun ys p hp hy hl => ?_⟩
    have g1 := Gr.learn s
    have g2 := Gr.new (H := H1) (S := learn S1 H1) (o := .lst ys) g1.sub hp
    refine q _ _ _ (g1.trans g2) (Dt.lst_mk upd_same ((show Dts X.K ((srt tI' (keysM m)).map tI') ys (learn S1 H1) from dts_of_each (fun v k ⟨b, e, h⟩ => ⟨b, e, learn_tup s h⟩) hy fun k hk => hz k (mem_srt.mp hk)).up g2.st) hl)) hg (he := hs) (hpl := by rfl)
end
end Y
namespace Y
open PySem PySem.Spec PyProof.Rows L2 Z
section
variable {X : Cx} {σ : L2.St} {S S' H : Hp} {a b c e d0 tg o i : Expr} {pos pos' p : Pos} {D : Ends} {rest body : List Stmt} {r : Addr} {m : MapI} {k : List Int} {n : Int}
/-- for: what is kept is told of the whole heap (a thing that S does not tell may change) -/
theorem hs_forH {iter : Expr} {Ps : List (V → Hp → Prop)} (hp : PassesOwn (model X.prog X.w) X.A X.env X.xe) (hc : X.calm = true) (hi : EI X σ S tg iter Ps) (s : Same S H)
    (q : ∀ S1 H1, Gr S H S1 H1 → ∃ Iv : Nat → L2.St → Hp → Prop, Iv 0 σ H1 ∧ (∀ i σ' H', Iv i σ' H' → Same S1 H') ∧
      (∀ i P σ1 H2 x H3, Ps[i]? = some P → Iv i σ1 H2 → (∀ T, Same S1 T → Same T H2 → ∃ T', Gr T H2 T' H3 ∧ P x T') → HG X tg x σ1 H3 fun σ3 H4 => HS X { D with nx := Iv (i + 1), ct := Iv (i + 1), bk := fun σ' H' => HS X D rest σ' H' } body σ3 H4) ∧
      (∀ σ1 H2, Iv Ps.length σ1 H2 → HS X D rest σ1 H2))
    (hs : ∀ x, foldedSetIterable iter X.env x = pure x := by intro _; rfl) : HS X D (.For tg iter body [] pos :: rest) σ H :=
  hs_cons (ps_for hp hc pib pgb psb hs) (hi H s _ fun J S1 H1 g1 it => by
    obtain ⟨Iv, h0, hsame, step, done⟩ := q S1 H1 g1
    refine for_it it Iv h0 (fun i σ' H' _ iv => hsame i σ' H' iv) (fun i x σ' H2 H3 hlt iv y => ?_) done
    have hl : ∃ P, Ps[i]? = some P := ⟨_, List.getElem?_eq_getElem hlt⟩
    obtain ⟨P, hP⟩ := hl
    refine step i P σ' H2 x H3 hP iv fun T sT tH => ?_
    obtain ⟨T', g, P', hP', px⟩ := y T sT tH
    rw [hP] at hP'
    cases hP'
    exact ⟨T', g, px⟩)
/-- o[i] = e, what stands is told -/
theorem hs_dputS (hu : X.A.units + 1 < cLine) (he : EE X σ S e (Dt X.K (.int n))) (ho : EE X σ S o (fun w _ => w = .ref r)) (hi : EE X σ S i (KyP k)) (s : Same S H) (hd : S r = some (.dT (kvM m))) (hl : m.length < 16777216) (q : ∀ S' H', Gr S H S' H' → HS X D rest σ (upd H' r (.dT (kvM (putM m k n)))))
    (hs : swapsWith e (some (.Subscript o i pos')) pos.line X.env = pure false := by rfl) : HS X D (.Assign [.Subscript o i pos'] e pos :: rest) σ H :=
  haveI := mn_eq (v := .ref r)
  hs_cons (ps_dput hu peb peb peb hs) (he H s _ fun v S1 H1 g1 pv => (ho.up g1.st) H1 g1.sub _ fun w S2 H2 g2 pw => ((hi.up g1.st).up g2.st) H2 g2.sub _ fun y S3 H3 g3 py => by
    cases pv
    subst pw
    obtain ⟨b, rfl, hb⟩ := py
    have g := (g1.trans g2).trans g3
    refine ⟨r, _, rfl, DPut.t (k := kI k) (g.sub _ _ (g.st _ _ hd)) (by rw [kI_kV]; exact g3.sub _ _ hb) (by rw [kvM_len]; exact hl), ?_⟩
    rw [putK_kvM]
    exact q S3 H3 g)
/-- from a new thing b to the old one a -/
theorem GrI.under {a b : Addr} {S H S1 H1 T H' : Hp} {o : HO} (i : GrI a S H S1 H1) (hb : H1 b = none) (j : GrI b S1 (upd H1 b o) T H') : GrI a S H T H' :=
  ⟨i.st.trans j.st, j.sub, fun z u n e => by
    have e1 := i.hh z u n e
    have nz : z ≠ b := fun q => by subst q; rw [hb] at e1; cases e1
    exact j.hh z u nz (by rw [upd_ne nz]; exact e1), fun z u n e m => by
    have e1 := i.hh z u n e
    have nz : z ≠ b := fun q => by subst q; rw [hb] at e1; cases e1
    exact (j.old z u nz (by rw [upd_ne nz]; exact e1) m).trans (i.old z u n e m)⟩
theorem sub_new {S H : Hp} {b : Addr} {o : HO} (s : Same S H) (hb : H b = none) : Same S (upd H b o) := fun z u e => by
  have nz : z ≠ b := fun q => by subst q; rw [s _ _ e] at hb; cases hb
  rw [upd_ne nz]; exact s _ _ e
end
end Y
namespace Y
open PySem PySem.Spec PyProof.Rows L2 Z
/-! ## a list comprehension, its list told as new (after Z3's ee_lcG) -/
section
variable {X : Cx} {σ : L2.St} {S : Hp} {elt tg iter : Expr} {ifs : List Expr} {scope : Scope} {own : List (Str × Nat)} {pos : Pos} {ds : List PyData} {p : PyData → Bool} {G : PyData → PyData → Prop}
theorem lc_loopNw (hz : ds.length ≤ sizeLine)
    (hel : ∀ d ∈ ds, ∀ v S', Same S S' → Dt X.K d v S' → ∃ τ, wipe τ (own.map (·.2)) = wipe σ (own.map (·.2)) ∧ ∀ (s : Shared) (H0 : Hp) (C : Addr) (cl : List (Str × Addr)) (fp : List Addr),
      EG (X.blk s H0 scope (compEnvC scope cl C X.env) fp) S' tg v (wipe σ (own.map (·.2))) τ ∧ ETs (X.blk s H0 scope (compEnvC scope cl C X.env) fp) τ S' ifs (p d) ∧ (p d = true → EE (X.blk s H0 scope (compEnvC scope cl C X.env) fp) τ S' elt (Ex X.K (G d)))) {H : Hp} (Q : VK) (q : ∀ v S' H', Gr S H S' H' → (∃ rs, Paired G (ds.filter p) rs ∧ NewL X.K S rs v S') → Q v H') {J : It} {S1 H1 : Hp} (g1 : Gr S H S1 H1) (it : ItP J S1 (Ds X.K ds)) :
    ∀ D, H1 D = none → ∃ W : Nat → Nat → Hp → Prop, (∃ m, W 0 m (upd H1 D (.lst []))) ∧ ∀ i m H, W i m H →
      (J.stop i H ∧ Q (.ref D) H) ∨ (J.go i H ∧ ∃ Nx : Hp → Prop, (∀ H', Nx H' → ∃ m', m' < m ∧ W (i + 1) m' H') ∧ ∀ x H', J.yld i H x H' → gBlk X scope tg x (wipe σ (own.map (·.2))) H' fun σ2 H2 => wipe σ2 (own.map (·.2)) = wipe σ (own.map (·.2)) ∧ tBlk X scope ifs σ2 H2 fun b H3 =>
        if b = true then eBlk X scope elt σ2 H3 fun y H4 => ∃ acc, H4 D = some (.lst acc) ∧ acc.length < sizeLine ∧ Nx (upd H4 D (.lst (acc ++ [y]))) else Nx H3) := by
  intro D hD
  have hD1 : S1 D = none := g1.sub.free hD
  have hlen : (Ds X.K ds).length = ds.length := ds_len
  refine lc_it (g := gBlk X scope tg) (tt := tBlk X scope ifs) (te := eBlk X scope elt) (vs := own.map (·.2)) (σ := σ) (Qd := Q (.ref D)) it (fun i H' => ∃ S' xs rs, Same S1 S' ∧ Same S' H' ∧ Same H1 H' ∧ (∀ a o, H1 a = some o → NT o → S' a = S1 a) ∧ S' D = none ∧ H' D = some (.lst xs) ∧ Paired G ((ds.take i).filter p) rs ∧ Dts X.K rs xs S' ∧ xs.length ≤ i)
    ⟨S1, [], [], Same.refl _, Same.mut g1.sub hD1, Same.new hD, fun _ _ _ _ => rfl, hD1, upd_same, .nil, .nil, Nat.le_refl _⟩ (fun i H' _ ⟨S', _, _, a, b, _⟩ => a.trans b) ?_ ?_
  · intro i x H2 H3 hi2 ⟨S2, xs, rs, k1, k2, k3, k4, k5, k6, k7, k8, k9⟩ y
    rw [hlen] at hi2
    obtain ⟨S3, g3, P, hP, px⟩ := y S2 k1 k2
    obtain ⟨d, hd⟩ : ∃ d, ds[i]? = some d := ⟨ds[i], List.getElem?_eq_getElem hi2⟩
    rw [ds_get hd] at hP
    obtain rfl := Option.some.inj hP
    have sS3 : Same S S3 := g1.st.trans (k1.trans g3.st)
    obtain ⟨τ, hw, hb⟩ := hel d (List.mem_of_getElem? hd) x S3 sS3 px
    have hf : ∀ q, p d = q → (ds.take (i + 1)).filter p = (ds.take i).filter p ++ (if q = true then [d] else []) := fun q hq => by
      rw [take_snoc hd, List.filter_append]
      cases q with
      | true => simp [hq]
      | false => simp [hq]
    intro sh H0 C cl fp
    refine (hb sh H0 C cl fp).1 H3 g3.sub _ ⟨hw, ?_⟩
    intro sh' H0' C' cl' fp'
    refine (hb sh' H0' C' cl' fp').2.1 H3 g3.sub _ fun S4 H4 g4 => ?_
    have g34 := g3.trans g4
    cases hpd : p d with
    | false =>
      refine iteF ⟨S4, xs, rs, k1.trans g34.st, g34.sub, k3.trans g34.hh, fun a o h n => (g34.old a o (k3 a o h) n).trans (k4 a o h n), (g34.old D _ k6 (fun _ z => nomatch z)).trans k5, g34.hh _ _ k6, ?_, k8.up g34.st, by omega⟩
      rw [hf false hpd]
      simpa using k7
    | true =>
      refine iteT ?_
      intro sh'' H0'' C'' cl'' fp''
      refine ((hb sh'' H0'' C'' cl'' fp'').2.2 hpd).up g4.st H4 g4.sub _ fun w S5 H5 g5 ⟨r, hr, hrw⟩ => ?_
      have g := g34.trans g5
      have hD5 : S5 D = none := (g.old D _ k6 (fun _ z => nomatch z)).trans k5
      refine ⟨xs, g.hh _ _ k6, Nat.lt_of_le_of_lt k9 (Nat.lt_of_lt_of_le hi2 hz), S5, xs ++ [w], rs ++ [r], k1.trans g.st, Same.mut g.sub hD5, fun a o h => ?_, fun a o h n => (g.old a o (k3 a o h) n).trans (k4 a o h n), hD5, upd_same, ?_, (k8.up g.st).snoc hrw, by rw [List.length_append]; show xs.length + 1 ≤ i + 1; omega⟩
      · rw [upd_ne (ne_of_none h hD)]; exact g.hh _ _ (k3 a o h)
      · rw [hf true hpd]
        exact paired_snoc k7 hr
  · intro H2 ⟨S2, xs, rs, k1, k2, k3, k4, k5, k6, k7, k8, k9⟩
    rw [hlen] at k7 k9
    rw [List.take_length] at k7
    refine q _ (upd S2 D (.lst xs)) H2 (g1.trans ⟨k1.trans (Same.new k5), fun a o h => ?_, k3, fun a o h n => by rw [upd_ne (ne_of_none h hD)]; exact k4 a o h n⟩) ⟨rs, k7, D, xs, rfl, g1.st.free hD1, upd_same, k8.up (Same.new k5), Nat.le_trans k9 hz⟩
    by_cases ha : a = D
    · subst ha; rw [upd_same] at h; rw [k6]; exact h
    · rw [upd_ne ha] at h; exact k2 a o h
theorem lc_readNw (hi : EI X σ S tg iter (Ds X.K ds)) (hz : ds.length ≤ sizeLine)
    (hel : ∀ d ∈ ds, ∀ v S', Same S S' → Dt X.K d v S' → ∃ τ, wipe τ (own.map (·.2)) = wipe σ (own.map (·.2)) ∧ ∀ (s : Shared) (H0 : Hp) (C : Addr) (cl : List (Str × Addr)) (fp : List Addr),
      EG (X.blk s H0 scope (compEnvC scope cl C X.env) fp) S' tg v (wipe σ (own.map (·.2))) τ ∧ ETs (X.blk s H0 scope (compEnvC scope cl C X.env) fp) τ S' ifs (p d) ∧ (p d = true → EE (X.blk s H0 scope (compEnvC scope cl C X.env) fp) τ S' elt (Ex X.K (G d)))) {H : Hp} (s : Same S H) (Q : VK) (q : ∀ v S' H', Gr S H S' H' → (∃ rs, Paired G (ds.filter p) rs ∧ NewL X.K S rs v S') → Q v H') :
    tLc (bI X tg iter) (gBlk X scope tg) (tBlk X scope ifs) (eBlk X scope elt) (own.map (·.2)) σ H Q := hi H s _ fun J S1 H1 g1 it => lc_loopNw hz hel Q q g1 it
theorem ee_lcGN (hc : X.calm = true) (hN : X.N.Nodup) (ok : BlkOk X.N X.env.scope scope own) (hi : EI X σ S tg iter (Ds X.K ds)) (hz : ds.length ≤ sizeLine)
    (hel : ∀ d ∈ ds, ∀ v S', Same S S' → Dt X.K d v S' → ∃ τ, wipe τ (own.map (·.2)) = wipe σ (own.map (·.2)) ∧ ∀ (s : Shared) (H0 : Hp) (C : Addr) (cl : List (Str × Addr)) (fp : List Addr),
      EG (X.blk s H0 scope (compEnvC scope cl C X.env) fp) S' tg v (wipe σ (own.map (·.2))) τ ∧ ETs (X.blk s H0 scope (compEnvC scope cl C X.env) fp) τ S' ifs (p d) ∧ (p d = true → EE (X.blk s H0 scope (compEnvC scope cl C X.env) fp) τ S' elt (Ex X.K (G d))))
    (hs : ∀ x, foldedSetIterable iter X.env x = pure x := by intro _; rfl) :
    EE X σ S (.ListComp elt [⟨tg, iter, ifs, 0⟩] scope pos) (fun v S' => ∃ rs, Paired G (ds.filter p) rs ∧ NewL X.K S rs v S') := fun H s Q q =>
  he_of (pe_lc (own := own) (wi := bI X tg iter) (g := gBlk X scope tg) (tt := tBlk X scope ifs) (te := eBlk X scope elt) hc hN pib ok
    (fun s H0 C cl fp => ⟨fun pins sh σ' H' v u Q' I r h => h s H0 C cl fp pins sh u I r⟩) (fun s H0 C cl fp => ⟨fun pins sh σ' H' Q' I h => h s H0 C cl fp pins sh I⟩) (fun s H0 C cl fp => ⟨fun pins sh σ' H' Q' I h => h s H0 C cl fp pins sh I⟩) hs) (lc_readNw hi hz hel s Q q)
end
section
variable {X : Cx} {σ : L2.St} {S : Hp} {elt iter : Expr} {scope : Scope} {pos px : Pos} {ds : List PyData} {α : Type} {enc : α → PyData} {i : Nat} {x : Str}
theorem ee_lcNw {f : PyData → α} (hc : X.calm = true) (hN : X.N.Nodup) (ok : BlkOk X.N X.env.scope scope [(x, i)]) (hi : EI X σ S (.Name x px) iter (Ds X.K ds)) (hz : ds.length ≤ sizeLine)
    (hel : ∀ d ∈ ds, ∀ v S', Same S S' → Dt X.K d v S' → ∀ (s : Shared) (H0 : Hp) (C : Addr) (cl : List (Str × Addr)) (fp : List Addr), EE (X.blk s H0 scope (compEnvC scope cl C X.env) fp) ((wipe σ [i]).set i (some v)) S' elt (Dt X.K (enc (f d))))
    (hix : X.N[i]? = some x := by rfl) (hx : ∀ (s : Shared) (H0 : Hp) (C : Addr) (cl : List (Str × Addr)) (fp : List Addr), Loc (X.blk s H0 scope (compEnvC scope cl C X.env) fp).env.scope x ∧ ((X.blk s H0 scope (compEnvC scope cl C X.env) fp).fn x = true ∨ (X.blk s H0 scope (compEnvC scope cl C X.env) fp).env.scope.names.lookup x = some .local) := by
      intros; exact ⟨by first | exact Or.inl rfl | exact Or.inr rfl, by first | exact .inl rfl | exact .inr rfl⟩)
    (hs : ∀ x, foldedSetIterable iter X.env x = pure x := by intro _; rfl) :
    EE X σ S (.ListComp elt [⟨.Name x px, iter, [], 0⟩] scope pos) (NewL X.K S ((ds.map f).map enc)) := by
  refine (ee_lcGN (own := [(x, i)]) (p := fun _ => true) (G := fun d r => r = enc (f d)) hc hN ok hi hz (fun d hd v S' s hv => ⟨(wipe σ [i]).set i (some v), wipe1, fun sh H0 C cl fp => ?_⟩) hs).imp fun v S' h => ?_
  · obtain ⟨k1, k2⟩ := hx sh H0 C cl fp
    exact ⟨eg_name hN hix k1 k2, ets_nil, fun _ => (hel d hd v S' s hv sh H0 C cl fp).imp fun w S2 hw => ⟨_, rfl, hw⟩⟩
  · obtain ⟨rs, h1, h2⟩ := h
    rw [filter_true] at h1
    rw [paired_map h1] at h2
    have e : ds.map (fun d => enc (f d)) = (ds.map f).map enc := by rw [List.map_map]; rfl
    rw [← e]
    exact h2
theorem NewL.is {K : PySem.W.Frag} {S S' : Hp} {ds ds' : List PyData} {v : V} (h : NewL K S ds v S') (e : ds = ds') : NewL K S ds' v S' := e ▸ h
end
end Y
namespace Y
open PySem PySem.Spec PyProof.Rows L2 Z
/-! ## name = [elt for x, y in iter] on one line, the name a local; the same for one target -/
def unT (d : PyData) : PyData × PyData := match d with
  | .tuple [a, b] => (a, b)
  | _ => (.none, .none)
section
end
end Y
namespace Y
open PySem PySem.Spec PyProof.Rows L2 Z
/-! ## own == with a list on the right -/
section
end
end Y
namespace Y
open PySem PySem.Spec PyProof.Rows L2 Z
/-! ## dict([]), list(d) of a dict with tuple keys -/
section
end
end Y
namespace Y
open PySem PySem.Spec PyProof.Rows L2 Z
section
variable {X : Cx} {σ : L2.St} {S : Hp} {a b e : Expr} {pos p1 p2 p3 : Pos} {d : PyData} {ds : List PyData} {k : Nat}
/-- a not in b, b a list of data -/
theorem et_notInD (hu : X.A.units + 65 < cLine) (h1 : SeqAt.shaped d = true) (h2 : SeqAt.shaped (.list ds) = true) (ha : EE X σ S a (Dt X.K d)) (hb : EE X σ S b (Dt X.K (.list ds))) (hm : behindInMarks .NotIn b = false := by first | rfl | with_unfolding_all rfl) : ET X σ S (.Compare a [.NotIn] [b] pos) (!ds.any fun z => PyData.eqv z d) :=
  et_cmp (op_notInD hu) ha hb (fun v w S1 H1 _ s pv pw Q q => ⟨d, ds, (pv.up s).dp, (pw.up s).dp, h1, h2, q _ S1 H1 (Gr.refl s) (.bl _)⟩) hm
end
end Y
namespace Y
open PySem PySem.Spec PyProof.Rows L2 Z
/-! ## own + and * of two things of one class -/
section
end
end Y
namespace Y
open PySem PySem.Spec PyProof.Rows L2 Z
/-! ## own ** with an int on the right -/
section
open PySem.W
end
section
end
end Y
namespace Y
open PySem PySem.Spec PyProof.Rows L2 Z
/-! ## a list comprehension with two clauses, the second list the same for each item of the first -/
section
end
end Y
namespace Y
open PySem PySem.Spec PyProof.Rows L2 Z LamX NdefX
/-! ## sorted(e, key=lambda x: x[1]) -/
/-- an item that is a tuple, its second part the key k -/
def PairKey (h : Heap) (v : Value) (k : PyData) : Prop := ∃ t its u, v = .ref t ∧ IsTup h t its ∧ its[1]? = some u ∧ Reads h u k []
theorem PairKey.keeps {h h' : Heap} {v : Value} {k : PyData} (p : PairKey h v k) (hk : ∀ b o, h.get? b = some o → h'.get? b = some o) : PairKey h' v k := by
  obtain ⟨t, its, u, e, ht, hu, hr⟩ := p
  exact ⟨t, its, u, e, ht.keeps hk, hu, PyProof.Rows.Reads.keeps hk hr⟩
section
end
end Y
namespace Y
open PySem PySem.Spec PyProof.Rows L2 Z
/-! ## a dict comprehension whose store is told by a rule (after HandS.DictComp's dc_core, which is for keys that are ints or texts) -/
section
end
end Y
namespace Y
open PySem PySem.Spec PyProof.Rows L2 Z
/-! ## a dict with tuple keys that is not changed any more: locked; what is read of it -/
def DcO (m : MapI) (d : Addr) (S : Hp) : Prop := ∃ o, S d = some (.frz o (.dT (kvM m)))
theorem DcO.up {m : MapI} {d : Addr} {S S' : Hp} (h : DcO m d S) (s : Same S S') : DcO m d S' := h.elim fun o e => ⟨o, s _ _ e⟩
def DcV (m : MapI) (v : V) (S : Hp) : Prop := ∃ d, v = .ref d ∧ DcO m d S
instance {m : MapI} : Mn (DcV m) := ⟨fun s ⟨d, e, h⟩ => ⟨d, e, h.up s⟩⟩
theorem DcO.rd {m : MapI} {d : Addr} {S : Hp} (h : DcO m d S) : Rd S d (.dT (kvM m)) := .inr h
section
end
/-! ### for a, b in o.items() -/
section
end
section
end
end Y
namespace Y
open PySem PySem.Spec PyProof.Rows L2 Z
/-! ## o.items() as a value; list of it; a display of two -/
/-- S, all that is new in T, the tuples of H -/
def grown (S H T : Hp) : Hp := fun a => match S a with
  | some o => some o
  | none => match H a with
    | none => T a
    | some (.tup xs) => some (.tup xs)
    | some _ => none
theorem grown_S {S H T : Hp} {a : Addr} {o : HO} (h : S a = some o) : grown S H T a = some o := by unfold grown; rw [h]
theorem Gr.all {S H T : Hp} (s : Same S H) (st : Same H T) : Gr S H (grown S H T) T := by
  refine ⟨fun a o h => grown_S h, fun a o h => ?_, st, fun a o h n => ?_⟩
  · unfold grown at h
    cases e : S a with
    | some u => rw [e] at h; cases h; exact st a _ (s a _ e)
    | none =>
      rw [e] at h
      cases q : H a with
      | none => simp only [q] at h; exact h
      | some u =>
        cases u <;> simp only [q] at h <;> first | cases h | skip
        exact st a _ q
  · unfold grown
    cases e : S a with
    | some u => rfl
    | none =>
      cases q : H a with
      | none => rw [q] at h; cases h
      | some u =>
        rw [q] at h
        cases h
        cases o <;> first | rfl | exact absurd rfl (n _)
/-- the items view at p of the locked dict at d -/
def ItV (m : MapI) (v : V) (S : Hp) : Prop := ∃ p d, v = .ref p ∧ S p = some (L2.DX.itemsO p d) ∧ DcO m d S
instance {m : MapI} : Mn (ItV m) := ⟨fun s ⟨p, d, e, h, q⟩ => ⟨p, d, e, s _ _ h, q.up s⟩⟩
section
end
end Y
namespace Y
open PySem PySem.Spec PyProof.Rows L2 Z
/-! ## {kx: vx for x in iter}, keys tuples of ints, values ints -/
section
end
end Y
namespace Y
open PySem PySem.Spec PyProof.Rows L2 Z
/-! ## == of two dicts with tuple keys and ints as values -/
def eqM (m1 m2 : MapI) : Bool := decide (m1.length = m2.length) && m1.all fun p => decide (getM m2 p.1 = some p.2)
section
end
section
end
end Y
namespace Y
open PySem PySem.Spec PyProof.Rows L2 Z
/-! ## len(o), bool(o) of an own thing -/
section
end
/-! ## a staticmethod def m(*xs, kn=d), called through its class -/
section
variable {X : Cx} {σ : L2.St} {S S' H : Hp} {a e e0 : Expr} {es : List Expr} {P P0 P1 R : V → Hp → Prop} {Ps : List (V → Hp → Prop)} {pos p apos kpos : Pos} {k : Nat} {x m kn : Str} {dv : V} {sp : List V → V → Hp → VK → Prop} {C : Addr}
theorem get_static {pins : List (Addr × Obj)} {s : Shared} {p g : Addr} {mc : Value} {pl : Sem Bool} {A : Around} {E : Value → Shared → Prop} {Q : Value × List Value → Shared → Prop} (I : Inv X pins σ H s) (r : ClX.CRead X.K C mc) (h1 : PySem.W.findCls X.K (.ref C) mc m = some (.get (.builtin "staticmethod.__get__") (.ref p) .none (.ref C))) (h2 : ∃ rest, PySem.W.recIn X.K p "staticmethod" = some (.ref g :: rest))
    (h : ∀ s', Inv X pins σ H s' → Q (.ref g, []) s') : wpAny (model X.prog X.w) A (getMethod (.ref C) m pl) Q E s := by
  obtain ⟨rest, h2⟩ := h2
  refine PySem.W.method_cls I.kIn r.ga (PySem.W.cls_bind I.kIn r.rd h1 (wpAny_call (PySem.W.sm_get (s := { s with toks := s.toks + 1 }) I.kIn h2 (PySem.W.handed_on rfl (h _ (I.tok _))))))
end
end Y
namespace Y
open PySem PySem.Spec PyProof.Rows L2 Z
/-! ## a def m(*xs, kn=d) by its body -/
section
end
end Y
namespace Y
open PySem PySem.Spec PyProof.Rows L2 Z
section
end
end Y
namespace Y
open PySem PySem.Spec PyProof.Rows L2 Z LamX NdefX
/-! ## expressions and statements that may raise an own error -/
/-- a kind of own error: its class, its code, the attribute that it keeps -/
structure EK where
  C : Addr
  code : Str
  fn : Option Str
/-- E is met by an error of the kind k that keeps g -/
def XErr (K : PySem.W.Frag) (k : EK) (g : PyData) (S H : Hp) (E : XK) : Prop := ∀ d fs S3 H3, Gr S H S3 H3 → H d = none → S3 d = some (.xd fs) → fs.lookup ("code" : Str) = some (V.str k.code) → (k.fn = none → g = .none) → (∀ x, k.fn = some x → ∃ v, fs.lookup x = some v ∧ Dt K g v S3) → E (.ref k.C) (some d) H3
theorem XErr.up {K : PySem.W.Frag} {k : EK} {g : PyData} {S H S1 H1 : Hp} {E : XK} (h : XErr K k g S H E) (gr : Gr S H S1 H1) : XErr K k g S1 H1 E := fun d fs S3 H3 g3 hd hx hc hn hf => h d fs S3 H3 (gr.trans g3) (gr.hh.free hd) hx hc hn hf
/-- e gives P, or raises as O -/
def ER (X : Cx) (E : XK) (σ : L2.St) (S : Hp) (e : Expr) (P : V → Hp → Prop) (O : EK → PyData → Prop) : Prop := ∀ H, Same S H → (∀ k g, O k g → XErr X.K k g S H E) → ∀ Q : VK, (∀ v S1 H1, Gr S H S1 H1 → P v S1 → Q v H1) → HE X e σ H Q
section
variable {X : Cx} {σ : L2.St} {S S' H : Hp} {e a b c o : Expr} {es : List Expr} {P Pa Pb P0 P1 R : V → Hp → Prop} {Ps : List (V → Hp → Prop)} {pos p apos pos2 kpos : Pos} {k : Nat} {x m f kn : Str} {sp : Sp} {C : Addr} {D : Ends} {rest : List Stmt} {O : EK → PyData → Prop} {E : XK} {op : Operator}
theorem ER.imp (h : ER X E σ S e P O) (f : ∀ v S', P v S' → R v S') : ER X E σ S e R O := fun H s hx Q q => h H s hx Q fun v S1 H1 g p => q v S1 H1 g (f v S1 p)
theorem ER.up (h : ER X E σ S e P O) (s : Same S S') (hk : ∀ H, Same S' H → (∀ k g, O k g → XErr X.K k g S' H E) → ∀ k g, O k g → XErr X.K k g S H E) (hq : ∀ v S1 H1 H, Same S' H → Gr S H S1 H1 → P v S1 → ∃ S2, Gr S' H S2 H1 ∧ P v S2) : ER X E σ S' e P O := fun H s' hx Q q => h H (s.trans s') (hk H s' hx) Q fun v S1 H1 g p => let ⟨S2, g2, p2⟩ := hq v S1 H1 H s' g p; q v S2 H1 g2 p2
/-! ### statements -/
end
/-! ### kept lambdas that may raise -/
end Y
namespace Y
open PySem PySem.Spec PyProof.Rows L2 Z
/-! ## staticmethods that may raise (after Y45, Y46) -/
section
end
section
end
end Y
namespace Y
open PySem PySem.Spec PyProof.Rows L2 L2H Z LamX NdefX
/-! ## what a caught error keeps: any kind -/
def fldAt : List Str := ["InvalidSystem", "InvalidFact", "InvalidFactor", "InvalidGroup", "InvalidClaim", "InvalidSums", "InvalidDeed", "InvalidCommand", "WrongSchema", "TooHigh", "EqualSums"]
def fldNm : List Str := ["InvalidName", "WrongKind", "DuplicateName", "UnknownName"]
def fldNo : List Str := ["InvalidText", "Boundless", "NoTable", "NotThere", "Empty", "NothingLeft"]
/-- the attribute that is read of an error with a code -/
def fieldOf (c : Str) : Option Str := if (fldAt.any fun m => decide (m = c)) = true then some "at" else if (fldNm.any fun m => decide (m = c)) = true then some "name" else if (fldNo.any fun m => decide (m = c)) = true then none else if decide (c = "InvalidPage") = true then some "line" else if decide (c = "WrongWidth") = true then some "width" else if decide (c = "TooMany") = true then some "most" else if decide (c = "Full") = true then some "limit" else some "given"
/-- what a kind of error must tell to be caught and read -/
structure KOk (K : PySem.W.Frag) (tup : List Value) (k : EK) : Prop where
  T : XfC K k.C
  cd : PySem.W.findIn K (.ref k.C) "code" = some none
  at_ : ∀ x, k.fn = some x → PySem.W.findIn K (.ref k.C) x = some none
  ex : PySem.W.exmAny K (.ref k.C) tup = some true
  fld : k.fn = fieldOf k.code
  nt : decide (k.code = "Tight") = false
  nb : decide (k.code = "BrokenClaim") = false
/-- the pinned exception is of the kind k, and keeps g -/
def ExcG (K : PySem.W.Frag) (k : EK) (g : PyData) (p : Addr × Obj) (S : Hp) : Prop := ∃ (dd : Addr) (fs : List (Str × V)), p.2.cls = .ref k.C ∧ p.2.dict = some dd ∧ (∃ vs, p.2.data = .fields vs) ∧ S dd = some (.xd fs) ∧ fs.lookup ("code" : Str) = some (V.str k.code) ∧ (k.fn = none → g = .none) ∧ ∀ x, k.fn = some x → ∃ v, fs.lookup x = some v ∧ Dt K g v S
theorem ExcG.up {K : PySem.W.Frag} {k : EK} {g : PyData} {p : Addr × Obj} {S S' : Hp} (h : ExcG K k g p S) (s : Same S S') : ExcG K k g p S' := by
  obtain ⟨dd, fs, h1, h2, h3, h4, h5, h6, h7⟩ := h
  exact ⟨dd, fs, h1, h2, h3, s _ _ h4, h5, h6, fun x hx => let ⟨v, a, b⟩ := h7 x hx; ⟨v, a, b.up s⟩⟩
section
end
section
variable {P : Program} {w : World} {K : PySem.W.Frag} {mg : Str → Option Value} {base : Heap}
/-- an ask: a kept lambda with what it may answer -/
structure AskI (P : Program) (w : World) (K : PySem.W.Frag) (mg : Str → Option Value) (base : Heap) (tup : List Value) (k : Nat) where
  Od : PyData → Prop
  O : EK → PyData → Prop
  f : Addr
  F : LF
  fr : List Str
  dvs : List V
  ws : List (Option V)
  L : List (Addr × Obj)
  sp : List (Option V) → Hp → VK → XK → Prop
  S0 : Hp
  lok : LOk P w K mg base (L2.CX P w) k f F fr dvs sp
  ok : ∀ e g, O e g → KOk K tup e
  hR : ∀ S2 H2 Q' E', Same S0 S2 → Same S2 H2 → (∀ v S1 H1, Gr S2 H2 S1 H1 → Ex K Od v S1 → Q' v H1) → (∀ e g, O e g → XErr K e g S2 H2 E') → sp ws H2 Q' E'
def AskJ {tup : List Value} {k : Nat} (it : AskI P w K mg base tup k) (v : V) (S : Hp) : Prop := v = .ref it.f ∧ Kept it.F it.f it.fr it.dvs it.ws it.L S ∧ Same it.S0 (delL S it.L)
theorem delL_mono : ∀ {L : List (Addr × Obj)} {S S' : Hp}, Same S S' → Same (delL S L) (delL S' L)
  | [], _, _, s => s
  | p :: L, S, S', s => delL_mono (L := L) (S := L2.del S p.1) (S' := L2.del S' p.1) fun b o e => by
      by_cases hb : b = p.1
      · rw [hb, L2.del_same] at e; cases e
      · rw [L2.del_ne hb] at e ⊢; exact s b o e
instance askMn {tup : List Value} {k : Nat} {it : AskI P w K mg base tup k} : Mn (AskJ it) := ⟨fun s ⟨h1, h2, h3⟩ => ⟨h1, h2.ext s, h3.trans (delL_mono s)⟩⟩
end
/-! ## lambdas in a list -/
def LamF (e : Expr) (qual : Str) (cells : List (Str × Addr)) (c : Addr) (dT : Option Addr) : LF := match e with
  | .Lambda params body scope _ => ⟨qual, params, body, scope, cloFrom cells scope.names [], c, dT⟩
  | e => ⟨qual, default, e, default, [], c, dT⟩
/-- the lambda at f, in a state -/
def AskS (F : LF) (f : Addr) (dvs : List V) (S : Hp) : Prop := S f = some (LamO f F) ∧ S F.c = some (CodeO F.c F.qual) ∧ LDef F dvs S
theorem AskS.up {F : LF} {f : Addr} {dvs : List V} {S S' : Hp} (h : AskS F f dvs S) (s : Same S S') : AskS F f dvs S' := ⟨s _ _ h.1, s _ _ h.2.1, ⟨h.2.2.1, fun T e => s _ _ (h.2.2.2 T e)⟩⟩
theorem codeO_ne' {c : Addr} {q : Str} (ps : Array Value) : CodeO c q ≠ .tbl ps := fun z => by unfold CodeO at z; cases z
theorem AskS.ext {F : LF} {f : Addr} {dvs : List V} {H H' : Hp} (h : AskS F f dvs H) (s : ExtN H H') : AskS F f dvs H' := ⟨s _ _ h.1 lamO_ne, s _ _ h.2.1 codeO_ne', ⟨h.2.2.1, fun T e => s _ _ (h.2.2.2 T e) (fun _ z => nomatch z)⟩⟩
/-- v is the lambda e (b: it has a default) -/
def AskE (cells : List (Str × Addr)) (q : Str) (e : Expr) (b : Bool) (v : V) (S : Hp) : Prop := ∃ f c dT, v = .ref f ∧ (b = false → dT = none) ∧ (b = true → ∃ T, dT = some T) ∧ AskS (LamF e q cells c dT) f (if b = true then [.int 0] else []) S
theorem AskE.ext {cells : List (Str × Addr)} {q : Str} {e : Expr} {b : Bool} {v : V} {H H' : Hp} (h : AskE cells q e b v H) (s : ExtN H H') : AskE cells q e b v H' := let ⟨f, c, dT, h1, h2, h3, h4⟩ := h; ⟨f, c, dT, h1, h2, h3, h4.ext s⟩
instance {cells : List (Str × Addr)} {q : Str} {e : Expr} {b : Bool} : Mn (AskE cells q e b) := ⟨fun s ⟨f, c, dT, h1, h2, h3, h4⟩ => ⟨f, c, dT, h1, h2, h3, h4.up s⟩⟩
section
end
/-! ## a call to which the running frame's cells are shown -/
section
end
section
end
end Y
namespace Y
open PySem PySem.Spec PyProof.Rows L2 Z
/-! ## staticmethods def m(a, b, ..) of plain parameters, called x.m(e, ..) -/
structure KSP (P : Program) (w : World) (K : PySem.W.Frag) (mg : Str → Option Value) (base : Heap) (ctx : L2.CXT) (C : Addr) (m : Str) (k : Nat) (sp : Sp) : Prop where
  ex : ∃ (p g : Addr) (mc : Value) (fd : FuncData) (ps : List Str), ClX.CRead K C mc ∧ PySem.W.findCls K (.ref C) mc m = some (.get (.builtin "staticmethod.__get__") (.ref p) .none (.ref C)) ∧ (∃ rest, PySem.W.recIn K p "staticmethod" = some (.ref g :: rest)) ∧ PySem.W.keepIn K (.ref g) = true ∧ FnOk P w K mg base ctx k g fd ps sp ∧ Binds K fd ps []
section
variable {X : Cx} {σ : L2.St} {S : Hp} {e : Expr} {es : List Expr} {R : V → Hp → Prop} {Ps : List (V → Hp → Prop)} {pos p apos : Pos} {k : Nat} {x m : Str} {sp : Sp} {O : EK → PyData → Prop} {E : XK} {C : Addr}
theorem ee_staticP {pl : Sem Bool} (D : KSP X.prog X.w X.K X.mg X.base CX0 C m k sp) (hr : Room k X.A) (hxc : X.mg x = some (.ref C)) (ha : EA X σ S (e :: es) Ps) (hsp : SpE sp S Ps R) (hg : Gl X x := by rfl) (hd : (x == ("__debug__" : Str)) = false := by decide)
    (hpl : (backTo pos (starEach es X.env)).any (·.1) = false := by rfl) (hst : starEach (e :: es) X.env = (false, eval e X.env) :: starEach es X.env := by rfl)
    (ht : eval (.Call (.Attribute (.Name x p) m apos) (e :: es) [] pos) X.env = (do
      let ov ← eval (.Name x p) X.env
      standAt apos.atName
      let (f, first) ← holding [ov] (getMethod ov m pl)
      callWith pos f first (backTo pos (starEach (e :: es) X.env)) (backToKw pos (keywordEach [] X.env))) := by rfl) : EE X σ S (.Call (.Attribute (.Name x p) m apos) (e :: es) [] pos) R := fun H s Q q => by
  obtain ⟨p, g, mc, fd, ps, r, h1, h2, hk, F, hb⟩ := D.ex
  intro pins s0 I
  refine PySem.W.methodCall_KW (pl := pl) (ld_glob I hg hxc (get_static I r h1 h2 fun s1 I1 => ?_) hd) ht
  refine PySem.W.callWith_K (h₀ := X.base) (first := []) I.ok.mod.kin hk (thn (ha.2 H s (fun vs H1 => ∃ S1, Gr S H S1 H1 ∧ Al Ps vs S1) (fun vs S1 H1 g1 al => ⟨S1, g1, al⟩) pos pins s1 I1) fun us s2 ⟨vs, H1, I2, rv, S1, g1, al⟩ => ⟨I2.kIn, ?_⟩) hst hpl
  exact run_fn (dvs := []) (E := E0) F hr hb .nil pass0 I2 rv (by
    rw [List.append_nil]
    exact hsp vs S1 H1 g1.st g1.sub al Q fun u S3 H3 g3 rr => q u S3 H3 (g1.trans g3) rr)
end
end Y
namespace Y
open PySem PySem.Spec PyProof.Rows L2 L2H Z LamX NdefX
/-! ## what stays when cells and tables are hidden -/
def NF (o : HO) : Prop := (∀ x, o ≠ .frz x Tr) ∧ ∀ ps, o ≠ .tbl ps
def Les (S S' : Hp) : Prop := ∀ a o, S a = some o → NF o → S' a = some o
class Rb (P : V → Hp → Prop) : Prop where
  rb : ∀ {v : V} {S S' : Hp}, Les S S' → P v S → P v S'
theorem dt_rb {K : PySem.W.Frag} {d : PyData} {v : V} {S S' : Hp} (h : Dt K d v S) (e : Les S S') : Dt K d v S' := by
  induction h with
  | non => exact .non
  | bl b => exact .bl b
  | int i => exact .int i
  | str x => exact .str x
  | lst h l z _ ih => exact .lst (e _ _ h ⟨(fun _ z => nomatch z), (fun _ z => nomatch z)⟩) l z fun i x d hx hd => ih i x d hx hd e
  | tup h l z _ ih =>
    refine .tup ?_ l z fun i x d hx hd => ih i x d hx hd e
    rcases h with h | ⟨e0, (h | ⟨o', h⟩) | h⟩
    · exact .inl (e _ _ h ⟨(fun _ z => nomatch z), (fun _ z => nomatch z)⟩)
    · exact .inl (e _ _ h ⟨(fun _ z => nomatch z), (fun _ z => nomatch z)⟩)
    · exact .inr ⟨e0, .inl (.inr ⟨o', (e _ _ h ⟨(fun _ z => nomatch z), (fun _ z => nomatch z)⟩)⟩)⟩
    · exact .inr ⟨e0, .inr h⟩
instance {K : PySem.W.Frag} {d : PyData} : Rb (Dt K d) := ⟨fun e h => dt_rb h e⟩
instance {K : PySem.W.Frag} {F : PyData → Prop} : Rb (Ex K F) := ⟨fun e ⟨d, hd, h⟩ => ⟨d, hd, dt_rb h e⟩⟩
def NoV : V → Hp → Prop := fun _ _ => False
instance : Rb NoV := ⟨fun _ h => h⟩
instance : Mn NoV := ⟨fun _ h => h⟩
/-! ## asks whose answers need not be data -/
section
variable {P : Program} {w : World} {K : PySem.W.Frag} {mg : Str → Option Value} {base : Heap}
/-- an ask: a kept lambda with what it may answer -/
structure AskIV (P : Program) (w : World) (K : PySem.W.Frag) (mg : Str → Option Value) (base : Heap) (tup : List Value) (k : Nat) where
  R : V → Hp → Prop
  rb : Rb R
  O : EK → PyData → Prop
  f : Addr
  F : LF
  fr : List Str
  dvs : List V
  ws : List (Option V)
  L : List (Addr × Obj)
  sp : List (Option V) → Hp → VK → XK → Prop
  S0 : Hp
  lok : LOk P w K mg base (L2.CX P w) k f F fr dvs sp
  ok : ∀ e g, O e g → KOk K tup e
  hR : ∀ S2 H2 Q' E', Same S0 S2 → Same S2 H2 → (∀ v S1 H1, Gr S2 H2 S1 H1 → R v S1 → Q' v H1) → (∀ e g, O e g → XErr K e g S2 H2 E') → sp ws H2 Q' E'
def AskJV {tup : List Value} {k : Nat} (it : AskIV P w K mg base tup k) (v : V) (S : Hp) : Prop := v = .ref it.f ∧ Kept it.F it.f it.fr it.dvs it.ws it.L S ∧ Same it.S0 (delL S it.L)
instance askMnV {tup : List Value} {k : Nat} {it : AskIV P w K mg base tup k} : Mn (AskJV it) := ⟨fun s ⟨h1, h2, h3⟩ => ⟨h1, h2.ext s, h3.trans (delL_mono s)⟩⟩
end
/-! ## a list comprehension whose elements are of any kind -/
section
end
/-! ## a call to which the running frame's cells are shown -/
section
end
section
end
end Y
namespace Y
open PySem PySem.Spec PyProof.Rows L2 L2H Z LamX NdefX
/-! ## pairs of things of any kind -/
class Mn2 (P : V → V → Hp → Prop) : Prop where
  up : ∀ {v u : V} {H H' : Hp}, Same H H' → P v u H → P v u H'
/-- a pair whose parts are as P says -/
def PrP (P : V → V → Hp → Prop) (v : V) (S : Hp) : Prop := ∃ l a b, v = .ref l ∧ S l = some (.tup [a, b]) ∧ P a b S
instance {P : V → V → Hp → Prop} [m : Mn2 P] : Mn (PrP P) := ⟨fun s ⟨l, a, b, h1, h2, h3⟩ => ⟨l, a, b, h1, s _ _ h2, m.up s h3⟩⟩
section
/-! ## displays of things of any kind -/
end
end Y
namespace Y
open PySem PySem.Spec PyProof.Rows L2 L2H Z LamX NdefX
section
end
end Y
namespace Y
open PySem PySem.Spec PyProof.Rows L2 L2H Z LamX NdefX
/-! ## lambdas where several code tables are told -/
section
end
end Y
namespace Y
open PySem PySem.Spec PyProof.Rows L2 L2H Z
section
end
end Y
namespace Y
open PySem PySem.Spec PyProof.Rows L2 L2H Z LamX NdefX PySem.W
section
end
end Y
namespace L2
open PySem PySem.Spec PyProof.Rows
section
end
end L2
namespace Y
open PySem PySem.Spec PyProof.Rows L2 Z
/-! ## own errors without an attribute -/
section
/-! ## methods def m(self, *xs) that raise -/
end
end Y
namespace Y
open PySem PySem.Spec PyProof.Rows L2 Z
/-! ## texts: count, partition, split, index -/
section
end
end Y
noncomputable section
namespace Y
open PySem PySem.Spec PyProof.Rows L2 PySem.Froz Z
/-! ## set(text), a text of ascii signs, equal ones among them -/
section
end
section
end
section
end
end Y
namespace Y
open PySem PySem.Spec PyProof.Rows L2 Z
/-! ## zip(text, list), zip(text, tuple) -/
end Y
namespace Y
open PySem PySem.Spec PyProof.Rows L2 L2H Z
section
end
end Y
namespace Y
open PySem PySem.Spec PyProof.Rows L2 Z
/-! ## name = [elt for x, y in iter if t] on one line, the name a local -/
section
end
end Y
namespace Y
open PySem PySem.Spec PyProof.Rows L2 Z
section
end
end Y
namespace Y
open PySem PySem.Spec PyProof.Rows L2 Z
section
end
end Y
namespace Y
open PySem PySem.Spec PyProof.Rows L2 Z
section
end
end Y
namespace Y
open PySem PySem.Spec PyProof.Rows L2 Z
section
end
end Y
namespace Y
open PySem PySem.Spec PyProof.Rows L2 L2H Z
section
end
end Y
namespace Y
open PySem PySem.Spec PyProof.Rows L2 Z
/-- a list l that grows: H knows it, S does not; all else that is known is S -/
structure Acc (K : PySem.W.Frag) (Sb Hb : Hp) (l : Addr) (ds : List PyData) (S H : Hp) : Prop where
  g : Gr Sb Hb S H
  n : S l = none
  sb : Same Sb Hb
  nb : Hb l = none
  ex : ∃ xs, H l = some (.lst xs) ∧ Dts K ds xs S ∧ xs.length ≤ sizeLine
theorem Acc.gr {K : PySem.W.Frag} {Sb Hb S H S1 H1 : Hp} {l : Addr} {ds : List PyData} (a : Acc K Sb Hb l ds S H) (g : Gr S H S1 H1) : Acc K Sb Hb l ds S1 H1 := by
  obtain ⟨xs, h1, h2, h3⟩ := a.ex
  exact ⟨a.g.trans g, (g.old l _ h1 (fun _ z => nomatch z)).trans a.n, a.sb, a.nb, xs, g.hh _ _ h1, h2.up g.st, h3⟩
/-- the list, told with all else -/
theorem Acc.full {K : PySem.W.Frag} {Sb Hb S H : Hp} {l : Addr} {ds : List PyData} (a : Acc K Sb Hb l ds S H) : ∃ S', Gr Sb Hb S' H ∧ Same S S' ∧ Dt K (.list ds) (.ref l) S' ∧ (∀ S2 H2, Gr S' H S2 H2 → Acc K Sb Hb l ds (del S2 l) H2 ∧ Same S (del S2 l)) := by
  obtain ⟨xs, h1, h2, h3⟩ := a.ex
  have sS : Same S (upd S l (.lst xs)) := Same.new a.n
  have hsb : Sb l = none := a.sb.free a.nb
  have sub : Same (upd S l (.lst xs)) H := fun b o e => by
    by_cases hb : b = l
    · subst hb; rw [upd_same] at e; rw [h1]; exact e
    · rw [upd_ne hb] at e; exact a.g.sub b o e
  have G : Gr Sb Hb (upd S l (.lst xs)) H := ⟨a.g.st.trans sS, sub, a.g.hh, fun b o e m => by
    have ne : b ≠ l := fun z => by subst z; rw [a.nb] at e; cases e
    rw [upd_ne ne]; exact a.g.old b o e m⟩
  refine ⟨_, G, sS, Dt.lst_mk upd_same (h2.up sS) h3, fun S2 H2 g => ?_⟩
  have hl : H2 l = some (.lst xs) := g.hh _ _ h1
  have e2 : upd H2 l (.lst xs) = H2 := by
    funext b
    by_cases hb : b = l
    · subst hb; rw [upd_same, hl]
    · rw [upd_ne hb]
  have G2 := Gr.cut (o := .lst xs) (G.trans g) a.sb a.nb
  rw [e2] at G2
  have s2 : Same S (del S2 l) := fun b o e => by
    have ne : b ≠ l := fun z => by subst z; rw [a.n] at e; cases e
    rw [del_ne ne]; exact g.st _ _ (sS _ _ e)
  exact ⟨⟨G2, del_self, a.sb, a.nb, xs, hl, h2.up s2, h3⟩, s2⟩
section
variable {X : Cx} {σ : L2.St} {S H Sb Hb : Hp} {e o : Expr} {pos p apos : Pos} {D : Ends} {rest body : List Stmt} {l : Addr} {ds : List PyData} {d : PyData}
/-- x = [] -/
theorem hs_acc0 {i : Nat} {x : Str} {pos' pl : Pos} (s : Same S H) (hN : X.N.Nodup) (q : ∀ l H', Acc X.K S H l [] S H' → HS X D rest (σ.set i (some (.ref l))) H') (hi : X.N[i]? = some x := by rfl) (hx : Loc X.env.scope x := by first | exact Or.inl rfl | exact Or.inr rfl)
    (hs : swapsWith (.List [] pl) (some (.Name x pos')) pos.line X.env = pure false := by rfl) (hf : X.fn x = true ∨ X.env.scope.names.lookup x = some .local := by first | exact .inl rfl | exact .inr rfl | assumption) : HS X D (.Assign [.Name x pos'] (.List [] pl) pos :: rest) σ H := by
  refine hs_cons (ps_set hN hi hx (pe_lst pab) hs hf) (ha_of pa_nil ⟨Nat.zero_le _, fun l hl => ?_⟩)
  refine q l _ ⟨⟨Same.refl S, fun b u e => ?_, Same.new hl, fun _ _ _ _ => rfl⟩, s.free hl, s, hl, [], upd_same, .nil, Nat.zero_le _⟩
  rw [upd_ne (ne_of_none (s b u e) hl)]
  exact s b u e
theorem Acc.put {K : PySem.W.Frag} {xs : List V} {es : List PyData} {ys : List V} (a : Acc K Sb Hb l ds S H) (hl : H l = some (.lst xs)) (hd : Dts K es ys S) (hz : xs.length + ys.length ≤ sizeLine) : Acc K Sb Hb l (ds ++ es) S (upd H l (.lst (xs ++ ys))) := by
  obtain ⟨xs', h1, h2, h3⟩ := a.ex
  rw [hl] at h1
  cases h1
  have G2 := Gr.cut (o := .lst (xs ++ ys)) a.g a.sb a.nb
  have e : del S l = S := by
    funext b
    by_cases hb : b = l
    · subst hb; rw [del_self, a.n]
    · rw [del_ne hb]
  rw [e] at G2
  exact ⟨G2, a.n, a.sb, a.nb, _, upd_same, h2.append hd, by rw [List.length_append]; exact hz⟩
/-- o.append(e) -/
theorem hs_accApp (a : Acc X.K Sb Hb l ds S H) (hz : ds.length < 100000) (ho : EE X σ S o (fun w _ => w = .ref l)) (he : EE X σ S e (Dt X.K d)) (q : ∀ S' H', Same S S' → Acc X.K Sb Hb l (ds ++ [d]) S' H' → HS X D rest σ H') (hbase : attributeBase o "append" X.env (eval o X.env) = eval o X.env := by rfl) (hline : (apos.endLine == p.line) = true := by rfl)
    (hs : swapsWith (.Call (.Attribute o "append" apos) [e] [] p) none pos.line X.env = pure false := by rfl) (hst : starEach [e] X.env = (false, eval e X.env) :: starEach [] X.env := by rfl)
    (hfew : ((backTo p (starEach [e] X.env)).all (fun x => !x.1) && (backToKw p (keywordEach [] X.env)).all (fun x => x.1.isSome) && decide ([e].length + ([] : List Keyword).length + (if ([] : List Keyword).isEmpty then 0 else 1) < 30)) = true := by rfl) : HS X D (.Expr (.Call (.Attribute o "append" apos) [e] [] p) pos :: rest) σ H :=
  hs_cons (ps_expr (pe_bm PySem.F.plainAttrs_list PySem.F.slot_list_append PySem.F.type_list_append mt_append peb (pa_cons (te := bE X e) (t := tNil) peb pa_nil hst) hbase hfew hline hst (by rfl)) hs) (ho H a.g.sub _ fun w S1 H1 g1 pw => by
    subst pw
    have a1 := a.gr g1
    obtain ⟨xs, h1, h2, h3⟩ := a1.ex
    refine ⟨.inl ⟨rfl, _, .inl (.inl h1)⟩, ?_⟩
    exact (he.up g1.st) H1 g1.sub _ fun v S2 H2 g2 pv => ⟨l, xs, v, rfl, rfl, g2.hh _ _ h1, by rw [h2.1]; show _ < 16777216; omega, q S2 _ (g1.st.trans g2.st) ((a1.gr g2).put (g2.hh _ _ h1) (.cons pv .nil) (by rw [h2.1]; show _ ≤ 16777216; simp only [List.length_singleton]; omega))⟩)
/-- x += e, a list -/
theorem hs_accExt {i : Nat} {x : Str} {pos' : Pos} {es : List PyData} (a : Acc X.K Sb Hb l ds S H) (hz : ds.length + es.length < 100000) (hN : X.N.Nodup) (hv : σ[i]? = some (some (.ref l))) (he : EE X σ S e (Dt X.K (.list es))) (q : ∀ S' H', Same S S' → Acc X.K Sb Hb l (ds ++ es) S' H' → HS X D rest σ H')
    (hi : X.N[i]? = some x := by rfl) (hx : Loc X.env.scope x := by first | exact Or.inl rfl | exact Or.inr rfl) (hf : X.fn x = true ∨ X.env.scope.names.lookup x = some .local := by first | exact .inl rfl | exact .inr rfl | assumption) : HS X D (.AugAssign (.Name x pos') .Add e pos :: rest) σ H :=
  hs_cons (ps_aug hN hi hx peb (iop_ext (X := X)) hf) ⟨.ref l, hv, he H a.g.sub _ fun y S1 H1 g1 py => by
    have a1 := a.gr g1
    obtain ⟨xs, h1, h2, h3⟩ := a1.ex
    obtain ⟨b, zs, rfl, hb, hd, hl⟩ := py.lst_inv
    refine ⟨l, b, xs, zs, rfl, rfl, h1, g1.sub _ _ hb, by rw [h2.1, hd.1]; show _ ≤ 16777216; omega, ?_⟩
    have e0 : σ.set i (some (V.ref l)) = σ := by
      apply List.ext_getElem?
      intro j
      by_cases hj : j = i
      · subst hj
        rw [hv]
        have hlt := (List.getElem?_eq_some_iff.mp hv).1
        rw [List.getElem?_set_self hlt]
      · rw [List.getElem?_set_ne (Ne.symm hj)]
    show HS X D rest (σ.set i (some (V.ref l))) _
    rw [e0]
    exact q S1 _ g1.st (a1.put h1 hd (by rw [h2.1, hd.1]; show _ ≤ 16777216; omega))⟩
/-- for, with a growing list -/
theorem hs_forAcc {tg iter : Expr} {Ps : List (V → Hp → Prop)} (f : Nat → List PyData) (J : Nat → L2.St → Hp → Prop) (hp : PassesOwn (model X.prog X.w) X.A X.env X.xe) (hc : X.calm = true) (a : Acc X.K Sb Hb l (f 0) S H) (hi : EI X σ S tg iter Ps) (h0 : ∀ S', Same S S' → J 0 σ S') (hJ : ∀ i σ S S', Same S S' → J i σ S → J i σ S')
    (step : ∀ S0, Same S S0 → ∀ i P σ1 S1 H1 x, Ps[i]? = some P → Same S0 S1 → Acc X.K Sb Hb l (f i) S1 H1 → J i σ1 S1 → P x S1 → HG X tg x σ1 H1 fun σ3 H4 => HS X { D with nx := fun σ' H' => ∃ S', Same S0 S' ∧ Acc X.K Sb Hb l (f (i + 1)) S' H' ∧ J (i + 1) σ' S', ct := fun σ' H' => ∃ S', Same S0 S' ∧ Acc X.K Sb Hb l (f (i + 1)) S' H' ∧ J (i + 1) σ' S', bk := fun σ' H' => HS X D rest σ' H' } body σ3 H4)
    (done : ∀ σ1 S1 H1, Same S S1 → Acc X.K Sb Hb l (f Ps.length) S1 H1 → J Ps.length σ1 S1 → HS X D rest σ1 H1)
    (hs : ∀ x, foldedSetIterable iter X.env x = pure x := by intro _; rfl) : HS X D (.For tg iter body [] pos :: rest) σ H := by
  refine hs_forH hp hc hi a.g.sub (fun S1 H1 g1 => ⟨fun i σ' H' => ∃ S', Same S1 S' ∧ Acc X.K Sb Hb l (f i) S' H' ∧ J i σ' S', ⟨S1, Same.refl _, a.gr g1, h0 S1 g1.st⟩, fun i σ' H' ⟨S', s', a', _⟩ => s'.trans a'.g.sub, ?_, ?_⟩) hs
  · rintro i P σ1 H2 x H3 hP ⟨S2, s2, a2, j2⟩ hx
    obtain ⟨T, gT, px⟩ := hx S2 s2 a2.g.sub
    exact step S1 g1.st i P σ1 T H3 x hP (s2.trans gT.st) (a2.gr gT) (hJ i σ1 S2 T gT.st j2) px
  · rintro σ1 H2 ⟨S2, s2, a2, j2⟩
    exact done σ1 S2 H2 (g1.st.trans s2) a2 j2
/-- int(b) -/
theorem ee_intB {b : Bool} {a : Expr} (hm : X.mg "int" = none) (ha : EE X σ S a (Dt X.K (.bool b))) (hg : Gl X "int" := by rfl) (hs : starEach [a] X.env = (false, eval a X.env) :: starEach [] X.env := by rfl) : EE X σ S (.Call (.Name "int" p) [a] [] pos) (Dt X.K (.int (if b then 1 else 0))) :=
  ee_callTy call_int1 hm boot_int (ea_1 ha hs) (fun vs S1 H1 _ s al Q q => by
    obtain ⟨v, rfl, pv⟩ := al.one
    cases pv
    exact .inr ⟨b, rfl, q _ S1 H1 (Gr.refl s) (.int _)⟩) hg (he := hs) (hpl := by rfl)
end
end Y
namespace Y
open PySem PySem.Spec PyProof.Rows L2 Z
/-! ## a staticmethod of plain parameters, called x.m(k1=e1, k2=e2, k3=e3) in reversed order -/
def g3r {α : Type} : List α → List α → List α
  | us, [a, b, c] => us ++ [c, b, a]
  | us, ws => us ++ ws
theorem g3r_rel {vs zs : List V} {us ws : List Value} (r1 : Vals vs us) (r3 : Vals zs ws) : Vals (g3r vs zs) (g3r us ws) := by
  cases r3 with
  | nil => exact r1.append .nil
  | cons a t =>
    cases t with
    | nil => exact r1.append (.cons a .nil)
    | cons b t =>
      cases t with
      | nil => exact r1.append (.cons a (.cons b .nil))
      | cons c t =>
        cases t with
        | nil => exact r1.append (.cons c (.cons b (.cons a .nil)))
        | cons d t => exact r1.append (.cons a (.cons b (.cons c (.cons d t))))
structure KSK (P : Program) (w : World) (K : PySem.W.Frag) (mg : Str → Option Value) (base : Heap) (C : Addr) (m : Str) (ks : List Str) (k : Nat) (sp : Sp) : Prop where
  ex : ∃ (p g : Addr) (mc : Value) (fd : FuncData) (ps : List Str), ClX.CRead K C mc ∧ PySem.W.findCls K (.ref C) mc m = some (.get (.builtin "staticmethod.__get__") (.ref p) .none (.ref C)) ∧ (∃ rest, PySem.W.recIn K p "staticmethod" = some (.ref g :: rest)) ∧ PySem.W.keepIn K (.ref g) = true ∧ FnOk P w K mg base CX0 k g fd ps sp ∧ KBn K fd ps 0 ks g3r g3r
section
variable {X : Cx} {σ : L2.St} {S : Hp} {e1 e2 e3 : Expr} {R P1 P2 P3 : V → Hp → Prop} {pos p apos q1 q2 q3 : Pos} {k : Nat} {x m k1 k2 k3 : Str} {sp : Sp} {C : Addr}
theorem ee_staticK3 {pl : Sem Bool} [Mn P1] [Mn P2] [Mn P3] (D : KSK X.prog X.w X.K X.mg X.base C m [k1, k2, k3] k sp) (hr : Room k X.A) (hxc : X.mg x = some (.ref C)) (h1 : EE X σ S e1 P1) (h2 : EE X σ S e2 P2) (h3 : EE X σ S e3 P3) (hsp : SpE sp S [P3, P2, P1] R) (hg : Gl X x := by rfl) (hd : (x == ("__debug__" : Str)) = false := by decide)
    (hall : (backToKw pos (keywordEach [⟨some k1, e1, q1⟩, ⟨some k2, e2, q2⟩, ⟨some k3, e3, q3⟩] X.env)).all (·.1.isSome) = true := by rfl) (hks : (backToKw pos (keywordEach [⟨some k1, e1, q1⟩, ⟨some k2, e2, q2⟩, ⟨some k3, e3, q3⟩] X.env)).filterMap (·.1) = [k1, k2, k3] := by rfl)
    (hpl : ((backTo pos (starEach [] X.env)).any (·.1) || (backToKw pos (keywordEach [⟨some k1, e1, q1⟩, ⟨some k2, e2, q2⟩, ⟨some k3, e3, q3⟩] X.env)).any (·.1.isNone)) = false := by rfl)
    (ht : eval (.Call (.Attribute (.Name x p) m apos) [] [⟨some k1, e1, q1⟩, ⟨some k2, e2, q2⟩, ⟨some k3, e3, q3⟩] pos) X.env = (do
      let ov ← eval (.Name x p) X.env
      standAt apos.atName
      let (f, first) ← holding [ov] (getMethod ov m pl)
      callWith pos f first (backTo pos (starEach [] X.env)) (backToKw pos (keywordEach [⟨some k1, e1, q1⟩, ⟨some k2, e2, q2⟩, ⟨some k3, e3, q3⟩] X.env))) := by rfl) : EE X σ S (.Call (.Attribute (.Name x p) m apos) [] [⟨some k1, e1, q1⟩, ⟨some k2, e2, q2⟩, ⟨some k3, e3, q3⟩] pos) R := fun H s Q q => by
  obtain ⟨p, g, mc, fd, ps, r, c1, c2, hk, F, hb⟩ := D.ex
  intro pins s0 I
  refine PySem.W.methodCall_KW (pl := pl) (ld_glob I hg hxc (get_static I r c1 c2 fun s1 I1 => ?_) hd) ht
  refine PySem.W.callWith_KW0 (h₀ := X.base) (first := []) I.ok.mod.kin hk hall ?_ hpl
  refine thn ((pk_cons (te := bE X e1) (t := tCons (bE X e2) (tCons (bE X e3) tNil)) peb (pk_cons (te := bE X e2) (t := tCons (bE X e3) tNil) peb (pk_cons (te := bE X e3) (t := tNil) peb pk_nil))).run pos pins s1 σ H (fun zs H2 => ∃ u v w S2, zs = [u, v, w] ∧ Gr S H S2 H2 ∧ P1 u S2 ∧ P2 v S2 ∧ P3 w S2) I1 (h1 H s _ fun u S1 H1 g1 pu => (h2.up g1.st) H1 g1.sub _ fun v S2 H2 g2 pv => ((h3.up g1.st).up g2.st) H2 g2.sub _ fun w S3 H3 g3 pw => ⟨u, v, w, S3, rfl, (g1.trans g2).trans g3, Mn.up (g2.st.trans g3.st) pu, Mn.up g3.st pv, pw⟩)) fun ws s2 ⟨zs, H2, I2, rz, u, v, w, S2, ez, gg, pu, pv, pw⟩ => ⟨I2.kIn, ?_⟩
  subst ez
  rw [hks]
  exact run_fnK (us := []) (vs := []) (zs := [u, v, w]) F hr hb pass0 I2 .nil rz rfl rfl (hsp _ S2 H2 gg.st gg.sub (.cons pw (.cons pv (.cons pu .nil))) Q fun v S3 H3 g3 rv => q v S3 H3 (gg.trans g3) rv)
/-- for .. in range(e), e not fixed -/
theorem hs_forRE {D : Ends} {H : Hp} {a tg : Expr} {body rest : List Stmt} {W : Nat → Prop} (hp : PassesOwn (model X.prog X.w) X.A X.env X.xe) (hc : X.calm = true) (hm : X.mg "range" = none) (hW : ∀ n, W n → (n : Int) < 2 ^ 62) (ha : EE X σ S a (Ex X.K fun d => ∃ n : Nat, d = .int n ∧ W n)) (s : Same S H)
    (q : ∀ n S1 H1, W n → Gr S H S1 H1 → ∃ Iv : Nat → L2.St → Hp → Prop, Iv 0 σ H1 ∧ (∀ i σ1 H2, i < n → Iv i σ1 H2 → HG X tg (.int (i : Nat)) σ1 H2 fun σ3 H3 => HS X { D with nx := Iv (i + 1), ct := Iv (i + 1), bk := fun σ' H' => HS X D rest σ' H' } body σ3 H3) ∧ (∀ σ1 H2, Iv n σ1 H2 → HS X D rest σ1 H2))
    (hg : Gl X "range" := by rfl) (hs1 : starEach [a] X.env = [(false, eval a X.env)] := by rfl) (hs : ∀ x, foldedSetIterable (.Call (.Name "range" p) [a] [] pos) X.env x = pure x := by intro _; rfl) {pos2 : Pos} :
    HS X D (.For tg (.Call (.Name "range" p) [a] [] pos) body [] pos2 :: rest) σ H :=
  hs_cons (ps_for hp hc (pi_range1 hg hm pab hs1) pgb psb hs) ((ea_1 ha (by rw [hs1]; rfl)).2 H s _ fun vs S1 H1 g1 al => by
    obtain ⟨v, rfl, pv⟩ := al.one
    obtain ⟨_, ⟨n, rfl, hn⟩, pv⟩ := pv
    cases pv
    obtain ⟨Iv, h0, step, done⟩ := q n S1 H1 hn g1
    refine ⟨(n : Int), rfl, by omega, hW n hn, for_it (G := fun _ => True) (Y := fun i H x H' => H' = H ∧ x = .int (0 + (i : Int))) (n := n) ⟨fun i H hi _ => ?_, fun H _ => ?_, fun i H x H' _ _ y => y⟩ Iv h0 (fun _ _ _ _ _ => trivial) (fun i x σ' H2 H3 hi iv y => ?_) done⟩
    · show i < ((n : Int)).toNat
      omega
    · show ((n : Int)).toNat ≤ n
      omega
    · obtain ⟨rfl, rfl⟩ := y
      rw [Int.zero_add]
      exact step i σ' H3 hi iv)
/-- o.append(e), e not fixed -/
theorem hs_accAppE {D : Ends} {H Sb Hb : Hp} {o e : Expr} {rest : List Stmt} {l : Addr} {ds : List PyData} {F : PyData → Prop} (a : Acc X.K Sb Hb l ds S H) (hz : ds.length < 100000) (ho : EE X σ S o (fun w _ => w = .ref l)) (he : EE X σ S e (Ex X.K F)) (q : ∀ d S' H', F d → Same S S' → Acc X.K Sb Hb l (ds ++ [d]) S' H' → HS X D rest σ H') (hbase : attributeBase o "append" X.env (eval o X.env) = eval o X.env := by rfl) (hline : (apos.endLine == p.line) = true := by rfl)
    (hs : swapsWith (.Call (.Attribute o "append" apos) [e] [] p) none pos.line X.env = pure false := by rfl) (hst : starEach [e] X.env = (false, eval e X.env) :: starEach [] X.env := by rfl)
    (hfew : ((backTo p (starEach [e] X.env)).all (fun x => !x.1) && (backToKw p (keywordEach [] X.env)).all (fun x => x.1.isSome) && decide ([e].length + ([] : List Keyword).length + (if ([] : List Keyword).isEmpty then 0 else 1) < 30)) = true := by rfl) : HS X D (.Expr (.Call (.Attribute o "append" apos) [e] [] p) pos :: rest) σ H :=
  hs_cons (ps_expr (pe_bm PySem.F.plainAttrs_list PySem.F.slot_list_append PySem.F.type_list_append mt_append peb (pa_cons (te := bE X e) (t := tNil) peb pa_nil hst) hbase hfew hline hst (by rfl)) hs) (ho H a.g.sub _ fun w S1 H1 g1 pw => by
    subst pw
    have a1 := a.gr g1
    obtain ⟨xs, h1, h2, h3⟩ := a1.ex
    refine ⟨.inl ⟨rfl, _, .inl (.inl h1)⟩, ?_⟩
    exact (he.up g1.st) H1 g1.sub _ fun v S2 H2 g2 ⟨d, hd, pv⟩ => ⟨l, xs, v, rfl, rfl, g2.hh _ _ h1, by rw [h2.1]; show _ < 16777216; omega, q d S2 _ hd (g1.st.trans g2.st) ((a1.gr g2).put (g2.hh _ _ h1) (.cons pv .nil) (by rw [h2.1]; show _ ≤ 16777216; simp only [List.length_singleton]; omega))⟩)
end
end Y
namespace Y
open PySem PySem.Spec PyProof.Rows L2 Z
/-! ## name = [elt for x in iter if ..] on one line, the name a local -/
section
variable {α : Type} {enc : α → PyData} {X : Cx} {σ : L2.St} {S H : Hp} {elt iter : Expr} {ifs : List Expr} {scope : Scope} {pos px py0 spos : Pos} {ds : List PyData} {i m : Nat} {x z : Str} {D : Ends} {rest : List Stmt}
theorem hs_setLc1f {p : PyData → Bool} {f : PyData → α} (hc : X.calm = true) (hN : X.N.Nodup) (s : Same S H) (ok : BlkOk X.N X.env.scope scope [(x, i)]) (hi : EI X σ S (.Name x px) iter (Ds X.K ds)) (hz : ds.length ≤ sizeLine)
    (hel : ∀ d ∈ ds, ∀ v S', Same S S' → Dt X.K d v S' → ∀ (s : Shared) (H0 : Hp) (C : Addr) (cl : List (Str × Addr)) (fp : List Addr),
      ETs (X.blk s H0 scope (compEnvC scope cl C X.env) fp) ((wipe σ [i]).set i (some v)) S' ifs (p d) ∧ (p d = true → EE (X.blk s H0 scope (compEnvC scope cl C X.env) fp) ((wipe σ [i]).set i (some v)) S' elt (Dt X.K (enc (f d)))))
    (q : ∀ v S' H', Gr S H S' H' → Dt X.K (.list (((ds.filter p).map f).map enc)) v S' → HS X D rest (σ.set m (some v)) H')
    (hix : X.N[i]? = some x := by rfl) (hx : ∀ (s : Shared) (H0 : Hp) (C : Addr) (cl : List (Str × Addr)) (fp : List Addr), Loc (X.blk s H0 scope (compEnvC scope cl C X.env) fp).env.scope x ∧ ((X.blk s H0 scope (compEnvC scope cl C X.env) fp).fn x = true ∨ (X.blk s H0 scope (compEnvC scope cl C X.env) fp).env.scope.names.lookup x = some .local) := by
      intros; exact ⟨by first | exact Or.inl rfl | exact Or.inr rfl, by first | exact .inl rfl | exact .inr rfl⟩)
    (hs : ∀ x, foldedSetIterable iter X.env x = pure x := by intro _; rfl)
    (hy : X.N[m]? = some z := by rfl) (hyl : X.env.scope.names.lookup z = some .local := by rfl)
    (hsw : swapsWith (.ListComp elt [⟨.Name x px, iter, ifs, 0⟩] scope pos) (some (.Name z py0)) spos.line X.env = pure true := by rfl) :
    HS X D (.Assign [.Name z py0] (.ListComp elt [⟨.Name x px, iter, ifs, 0⟩] scope pos) spos :: rest) σ H := by
  refine hs_setLcG (i := m) (own := [(x, i)]) (p := p) (G := fun d r => r = enc (f d)) hc hN hy hyl hsw ok hi hz (fun d hd v S' s hv => ⟨(wipe σ [i]).set i (some v), wipe1, fun sh H0 C cl fp => ?_⟩) s (fun v S' H' g ⟨rs, h1, h2⟩ => q v S' H' g ?_) hs
  · obtain ⟨h1, h2⟩ := hel d hd v S' s hv sh H0 C cl fp
    obtain ⟨k1, k2⟩ := hx sh H0 C cl fp
    exact ⟨eg_name hN hix k1 k2, h1, fun hp => (h2 hp).imp fun w S2 hw => ⟨_, rfl, hw⟩⟩
  · have e : (ds.filter p).map (fun d => enc (f d)) = ((ds.filter p).map f).map enc := by rw [List.map_map]; rfl
    rw [← e, ← paired_map h1]
    exact h2
theorem hs_setLc1 {f : PyData → α} (hc : X.calm = true) (hN : X.N.Nodup) (s : Same S H) (ok : BlkOk X.N X.env.scope scope [(x, i)]) (hi : EI X σ S (.Name x px) iter (Ds X.K ds)) (hz : ds.length ≤ sizeLine)
    (hel : ∀ d ∈ ds, ∀ v S', Same S S' → Dt X.K d v S' → ∀ (s : Shared) (H0 : Hp) (C : Addr) (cl : List (Str × Addr)) (fp : List Addr), EE (X.blk s H0 scope (compEnvC scope cl C X.env) fp) ((wipe σ [i]).set i (some v)) S' elt (Dt X.K (enc (f d))))
    (q : ∀ v S' H', Gr S H S' H' → Dt X.K (.list ((ds.map f).map enc)) v S' → HS X D rest (σ.set m (some v)) H')
    (hix : X.N[i]? = some x := by rfl) (hx : ∀ (s : Shared) (H0 : Hp) (C : Addr) (cl : List (Str × Addr)) (fp : List Addr), Loc (X.blk s H0 scope (compEnvC scope cl C X.env) fp).env.scope x ∧ ((X.blk s H0 scope (compEnvC scope cl C X.env) fp).fn x = true ∨ (X.blk s H0 scope (compEnvC scope cl C X.env) fp).env.scope.names.lookup x = some .local) := by
      intros; exact ⟨by first | exact Or.inl rfl | exact Or.inr rfl, by first | exact .inl rfl | exact .inr rfl⟩)
    (hs : ∀ x, foldedSetIterable iter X.env x = pure x := by intro _; rfl)
    (hy : X.N[m]? = some z := by rfl) (hyl : X.env.scope.names.lookup z = some .local := by rfl)
    (hsw : swapsWith (.ListComp elt [⟨.Name x px, iter, [], 0⟩] scope pos) (some (.Name z py0)) spos.line X.env = pure true := by rfl) :
    HS X D (.Assign [.Name z py0] (.ListComp elt [⟨.Name x px, iter, [], 0⟩] scope pos) spos :: rest) σ H :=
  hs_setLc1f (p := fun _ => true) (f := f) hc hN s ok hi hz (fun d hd v S' s' hv sh H0 C cl fp => ⟨ets_nil, fun _ => hel d hd v S' s' hv sh H0 C cl fp⟩) (fun v S' H' g h => q v S' H' g (by rw [filter_true] at h; exact h)) hix hx hs hy hyl hsw
end
end Y
namespace K18
open PySem PySem.Spec PyProof.Rows L2 Z Y
abbrev FnT (K : PySem.W.Frag) (x : Str) (st : Stmt) (f : Addr) (fd : FuncData) : Prop := FunD K x x (defArgs st) (defBody st) (defScope st) [] [] f fd
/-! ## data in short -/
def tI (l : List Int) : PyData := .tuple (l.map .int)
def lI (l : List Int) : PyData := .list (l.map .int)
def tP (a b : List Int) : PyData := .tuple [tI a, tI b]
def isNum (d : PyData) (l : Int) : Bool := match d with
  | .int i => decide (l ≤ i)
  | _ => false
def leNum (d : PyData) (m : Int) : Bool := match d with
  | .int i => decide (i ≤ m)
  | _ => false
def isExp (d : PyData) (w : Int) : Bool := match d with
  | .tuple ds => decide ((ds.length : Int) = w) && ds.all fun x => isNum x 0 && leNum x 6
  | _ => false
def isDir (d : PyData) (w : Int) : Bool := match d with
  | .tuple ds => decide ((ds.length : Int) = w) && ds.all fun x => isNum x 0
  | _ => false
def dotI (a b : List Int) : Int := ((a.zip b).map fun p => p.1 * p.2).sum
def monoI : List Int → List Int → Int
  | e :: es, n :: ns => n ^ e.toNat * monoI es ns
  | _, _ => 1
theorem map_all {α : Type} (f : α → Bool) (l : List α) : (l.map f).all (fun b => b) = l.all f := by
  induction l with
  | nil => rfl
  | cons a l ih => simp [List.map_cons, List.all_cons, ih]
theorem tI_zip (a b : List Int) : (a.map PyData.int).zip (b.map PyData.int) = (a.zip b).map fun p => (PyData.int p.1, PyData.int p.2) := by
  rw [List.zip_map]; rfl
def mulD (q : PyData × PyData) : Int := match q with
  | (.int x, .int y) => x * y
  | _ => 0
theorem zip_int (a b : List Int) : zipD (a.map PyData.int) (b.map PyData.int) = ((a.zip b).map fun p => (PyData.int p.1, PyData.int p.2)).map tupP := by
  rw [zipD_eq, tI_zip]
theorem zip_mul (a b : List Int) : (((a.zip b).map fun p => (PyData.int p.1, PyData.int p.2)).map mulD).sum = dotI a b := by
  rw [List.map_map]; rfl
/-- the facts as data; what a row must keep -/
def ruleD (p : List Int × List Int) : PyData := tP p.1 p.2
def keepsI (ps : List (List Int × List Int)) (r : List Int) : Bool := ps.all fun p => decide (monoI p.1 r ≤ monoI p.2 r)
/-- n to the power e, of a bounded size -/
def PowOk (n e : Int) : Prop := 0 ≤ e ∧ (max 1 n.natAbs) ^ e.toNat < 2 ^ 2000000
theorem natAbs_pow' (n : Int) : ∀ e : Nat, (n ^ e).natAbs = n.natAbs ^ e
  | 0 => by simp
  | e + 1 => by rw [Int.pow_succ, Nat.pow_succ, Int.natAbs_mul, natAbs_pow' n e]
theorem pow_bd {n : Int} {e a : Nat} (h : (max 1 n.natAbs) ^ e < 2 ^ 2000000) (ha : a ≤ e) : (n ^ a).natAbs < 2 ^ 2000000 := by
  rw [natAbs_pow']
  refine Nat.lt_of_le_of_lt ?_ h
  refine Nat.le_trans (Nat.pow_le_pow_left (Nat.le_max_right 1 _) a) (Nat.pow_le_pow_right (by omega) ha)
theorem pow_mulx {n : Int} {e a b : Nat} (h : (max 1 n.natAbs) ^ e < 2 ^ 2000000) (ha : a ≤ e) (hb : b ≤ e) : CMulX (n ^ a) (n ^ b) := mulx_ok (pow_bd h ha) (pow_bd h hb) (by decide)
theorem monoI_snoc : ∀ (es ns : List Int) (e n : Int), es.length = ns.length → monoI (es ++ [e]) (ns ++ [n]) = monoI es ns * n ^ e.toNat
  | [], [], e, n, _ => by show n ^ e.toNat * 1 = 1 * n ^ e.toNat; rw [Int.mul_one, Int.one_mul]
  | [], _ :: _, _, _, h => by simp at h
  | _ :: _, [], _, _, h => by simp at h
  | a :: es, b :: ns, e, n, h => by
    show b ^ a.toNat * monoI (es ++ [e]) (ns ++ [n]) = b ^ a.toNat * monoI es ns * n ^ e.toNat
    rw [monoI_snoc es ns e n (by simpa using h), Int.mul_assoc]
/-- the monomials are of a bounded size -/
def MonoOk (es ns : List Int) : Prop := es.length = ns.length ∧ es.length ≤ 60 ∧ ∀ p ∈ es.zip ns, PowOk p.2 p.1
theorem powOk_bd {n e : Int} (h : PowOk n e) : (n ^ e.toNat).natAbs < 2 ^ 2000000 := pow_bd h.2 (Nat.le_refl _)
theorem monoI_bd : ∀ {es ns : List Int}, es.length = ns.length → (∀ p ∈ es.zip ns, PowOk p.2 p.1) → (monoI es ns).natAbs < 2 ^ (2000000 * es.length + 1)
  | [], [], _, _ => by show 1 < 2 ^ (0 + 1); decide
  | [], _ :: _, h, _ => by simp at h
  | _ :: _, [], h, _ => by simp at h
  | a :: es, b :: ns, h, hp => by
    show (b ^ a.toNat * monoI es ns).natAbs < 2 ^ (2000000 * (es.length + 1) + 1)
    have h1 := powOk_bd (hp (a, b) (by simp))
    have h2 := monoI_bd (es := es) (ns := ns) (by simpa using h) fun p hq => hp p (by simp [hq])
    have e : 2000000 * (es.length + 1) + 1 = 2000000 + (2000000 * es.length + 1) := by omega
    rw [Int.natAbs_mul, e, Nat.pow_add]
    exact Nat.mul_lt_mul'' h1 h2
theorem zip_take' : ∀ (es ns : List Int) (i : Nat), (es.take i).zip (ns.take i) = (es.zip ns).take i
  | _, _, 0 => by simp
  | [], _, i + 1 => by simp
  | _ :: _, [], i + 1 => by simp
  | a :: es, b :: ns, i + 1 => by simp [zip_take' es ns i]
theorem monoOk_take {es ns : List Int} (h : MonoOk es ns) (i : Nat) : (es.take i).length = (ns.take i).length ∧ ∀ p ∈ (es.take i).zip (ns.take i), PowOk p.2 p.1 := by
  refine ⟨by rw [List.length_take, List.length_take, h.1], fun p hp => h.2.2 p ?_⟩
  rw [zip_take'] at hp
  exact List.mem_of_mem_take hp
theorem mono_mulx {es ns : List Int} (h : MonoOk es ns) {i : Nat} {e n : Int} (hi : i < 60) (hn : PowOk n e) : CMulX (monoI (es.take i) (ns.take i)) (n ^ e.toNat) := by
  have h2 := monoI_bd (monoOk_take h i).1 (monoOk_take h i).2
  have hl : (es.take i).length ≤ i := by rw [List.length_take]; omega
  exact mulx_ok (a := 2000000 * 60 + 1) (Nat.lt_of_lt_of_le h2 (Nat.pow_le_pow_right (by decide) (by omega))) (powOk_bd hn) (by decide)
def kindN : PyData → Nat
  | .none => 0
  | .bool _ => 1
  | .int _ => 2
  | .str _ => 3
  | .list _ => 4
  | .tuple _ => 5
  | .dict _ => 6
def marksL (d : PyData) : List Bool := [decide (kindN d = 0), isD d "bool", isD d "int", isD d "str"] ++ [isD d "list", isD d "tuple", true]
theorem marks_at (d : PyData) : (marksL d)[kindN d]? = some true := by cases d <;> rfl
theorem marks_no (d : PyData) : ∀ m, m < kindN d → (marksL d)[m]? = some false := by
  cases d with
  | none => exact fun m h => absurd h (Nat.not_lt_zero _)
  | bool b => exact fun
    | 0, _ => rfl
    | m + 1, h => absurd (show m + 1 < 1 from h) (by omega)
  | int b => exact fun
    | 0, _ => rfl
    | 1, _ => rfl
    | m + 2, h => absurd (show m + 2 < 2 from h) (by omega)
  | str b => exact fun
    | 0, _ => rfl
    | 1, _ => rfl
    | 2, _ => rfl
    | m + 3, h => absurd (show m + 3 < 3 from h) (by omega)
  | list b => exact fun
    | 0, _ => rfl
    | 1, _ => rfl
    | 2, _ => rfl
    | 3, _ => rfl
    | m + 4, h => absurd (show m + 4 < 4 from h) (by omega)
  | tuple b => exact fun
    | 0, _ => rfl
    | 1, _ => rfl
    | 2, _ => rfl
    | 3, _ => rfl
    | 4, _ => rfl
    | m + 5, h => absurd (show m + 5 < 5 from h) (by omega)
  | dict b => exact fun
    | 0, _ => rfl
    | 1, _ => rfl
    | 2, _ => rfl
    | 3, _ => rfl
    | 4, _ => rfl
    | 5, _ => rfl
    | m + 6, h => absurd (show m + 6 < 6 from h) (by omega)
theorem dt_non {K : PySem.W.Frag} {d : PyData} {v : V} {S : Hp} (h : Dt K d v S) : decide (v = .non) = decide (kindN d = 0) := by
  cases h <;> rfl
/-- data without dicts, at most n deep -/
def Bd : Nat → PyData → Prop
  | _, .none => True
  | _, .bool _ => True
  | _, .int _ => True
  | _, .str _ => True
  | 0, .list _ => False
  | 0, .tuple _ => False
  | n + 1, .list xs => ∀ x ∈ xs, Bd n x
  | n + 1, .tuple xs => ∀ x ∈ xs, Bd n x
  | _, .dict _ => False
theorem zip_self (xs : List PyData) : xs.zip xs = xs.map fun x => (x, x) := by
  induction xs with
  | nil => rfl
  | cons a l ih => simp [ih]
section
variable {P : Program} {w : World} {K : PySem.W.Frag} {mg : Str → Option Value} {base : Heap} {f : Addr} {fd : FuncData}
def FisNumber : List PyData → PyData → Prop := fun ds r => ∃ d l, ds = [d, .int l] ∧ r = .bool (isNum d l)
theorem sc_is_number : FnScope ["value", "least"] ["value", "least"] (defScope sis_number) := ⟨rfl, rfl, rfl, by decide +kernel, rfl, by decide +kernel, by decide +kernel⟩
theorem ok_is_number (F : FnT K "is_number" sis_number f fd) (g1 : mg "isinstance" = none) (g2 : mg "int" = none) (g3 : mg "bool" = none) : FnOk P w K mg base CX0 1 f fd ["value", "least"] (spD K FisNumber) := by
  refine fn_hs F sc_is_number (fun vs H Q E h => ?_) (fun cdv A outer sh H vs Q E hr h => ?_)
  · obtain ⟨S, ds, d, _, hd, ⟨_, _, rfl, _⟩, _⟩ := h
    exact hd.1
  · obtain ⟨S, ds, r, s, hd, ⟨d, l, rfl, rfl⟩, q⟩ := h
    obtain ⟨v1, v2, rfl, p1, p2⟩ := hd.two
    refine hs_ret ((ee_and (ee_isi (isD_ok d (T := "int") (by simp)) g1 g2 boot_int (ee_var 0 rfl p1)) fun h1 =>
      ee_and (ee_not (ee_isi (isD_ok d (T := "bool") (by simp)) g1 g3 boot_bool (ee_var 0 rfl p1))) fun h2 => ee_one (P := Dt K (.bool (isNum d l))) ?_).isd ?_) s q
    · cases d <;> first | (exact ee_ge (ee_var 0 rfl p1) (ee_var 1 rfl p2)) | (exfalso; simp [isDi, isDb] at h1 h2; done)
    · cases d <;> rfl
def Fpower_of : List PyData → PyData → Prop := fun ds r => ∃ n e, ds = [.int n, .int e] ∧ r = .int (n ^ e.toNat) ∧ PowOk n e
theorem sc_power_of : FnScope ["number", "exponent", "found", "square", "rest"] ["number", "exponent"] (defScope spower_of) := ⟨rfl, rfl, rfl, by decide +kernel, rfl, by decide +kernel, by decide +kernel⟩
theorem ok_power_of (F : FnT K "power_of" spower_of f fd) : FnOk P w K mg base CX0 1 f fd ["number", "exponent"] (spD K Fpower_of) := by
  refine fn_hs F sc_power_of (fun vs H Q E h => ?_) (fun cdv A outer sh H vs Q E hr h => ?_)
  · obtain ⟨S, ds, d, _, hd, ⟨_, _, rfl, _⟩, _⟩ := h
    exact hd.1
  · obtain ⟨S, ds, r, s, hd, ⟨n, e, rfl, rfl, h0, hb⟩, q⟩ := h
    obtain ⟨v1, v2, rfl, p1, p2⟩ := hd.two
    obtain ⟨en, rfl⟩ : ∃ en : Nat, e = (en : Int) := ⟨e.toNat, by omega⟩
    rw [Int.toNat_natCast] at hb q
    refine hs_par3 (i := 2) (j := 3) (l := 4) rfl sc_power_of.nd ee_int (ee_var 0 rfl p1) (ee_var 1 rfl p2) s rfl fun w1 w2 w3 S1 H1 g1 q1 q2 q3 => ?_
    refine hs_while (fun m σ S2 => ∃ a b : Nat, a + b * m = en ∧ ∃ x y z, σ = [some v1, some v2, some x, some y, some z] ∧ Dt K (.int (n ^ a)) x S2 ∧ Dt K (.int (n ^ b)) y S2 ∧ Dt K (.int (m : Nat)) z S2) en PassesOwn.never g1.sub ⟨0, 1, by omega, w1, w2, w3, rfl, by rw [Int.pow_zero]; exact q1, by rw [Int.pow_succ, Int.pow_zero, Int.one_mul]; exact q2, q3⟩ ?_
    rintro m σ S2 H2 g2 ⟨a, b, hab, x, y, z, rfl, px, py, pz⟩
    refine ⟨decide ((0 : Int) < (m : Nat)), et_gt (ee_var 4 rfl pz) ee_int, fun hm S3 H3 g3 => ?_, fun hm S3 H3 g3 => ?_⟩
    · have hm : 0 < m := by simpa using hm
      have hbe : b ≤ b * m := Nat.le_mul_of_pos_right b hm
      have px := px.up g3.st
      have py := py.up g3.st
      have pz := pz.up g3.st
      have hmod : m = 2 * (m / 2) + m % 2 := (Nat.div_add_mod m 2).symm
      refine hs_ifJ (fun σ' S4 => ∃ (a' : Nat) (x' : V), a' + (b + b) * (m / 2) = en ∧ Dt K (.int (n ^ a')) x' S4 ∧ σ' = [some v1, some v2, some x', some y, some z]) (et_tru (d := .int ((m % 2 : Nat) : Int)) (ee_op op_odd (ee_var 4 rfl pz) ee_int fun x y S4 H4 _ s4 pa pb Q qq => by
        cases pa; cases pb; exact ⟨m, rfl, rfl, qq _ S4 H4 (Gr.refl s4) (.int _)⟩) (fun _ h => nomatch h)) g3.sub (fun ho S4 H4 g4 => ?_) (fun ho S4 H4 g4 => ?_) ?_
      · have ho : m % 2 = 1 := by simp [truD] at ho; omega
        refine hs_set (i := 2) (ee_mul (pow_mulx hb (by omega) (by omega)) (ee_var 2 rfl (px.up g4.st)) (ee_var 3 rfl (py.up g4.st))) g4.sub sc_power_of.nd fun x' S5 H5 g5 px' => hs_nil ?_
        rw [← Int.pow_add] at px'
        refine ⟨S5, g5, a + b, x', ?_, px', rfl⟩
        rw [← hab]
        conv => rhs; rw [hmod, ho]
        rw [Nat.mul_add, Nat.add_mul, ← Nat.mul_assoc, Nat.mul_comm b 2, Nat.mul_assoc]
        omega
      · have ho : m % 2 = 0 := by simp [truD] at ho; omega
        refine hs_nil ⟨S4, Gr.refl g4.sub, a, x, ?_, px.up g4.st, rfl⟩
        rw [← hab]
        conv => rhs; rw [hmod, ho]
        rw [Nat.add_zero, Nat.add_mul, ← Nat.mul_assoc, Nat.mul_comm b 2, Nat.mul_assoc]
        omega
      rintro σ' S4 H4 g4 ⟨a', x', ha', px', rfl⟩
      refine hs_set (i := 4) (P := Dt K (.int ((m / 2 : Nat) : Int))) (ee_op op_halfN (ee_var 4 rfl (pz.up g4.st)) ee_int fun x y S5 H5 _ s5 pa pb Q qq => by
        cases pa; cases pb; exact ⟨m, rfl, rfl, qq _ S5 H5 (Gr.refl s5) (.int _)⟩) g4.sub sc_power_of.nd fun z' S5 H5 g5 pz' => ?_
      by_cases hm2 : 0 < m / 2
      · have hb2 : b + b ≤ (b + b) * (m / 2) := Nat.le_mul_of_pos_right _ hm2
        refine hs_ifT ((et_gt (ee_var 4 rfl pz') ee_int).is (decide_eq_true (by omega))) g5.sub fun S6 H6 g6 => ?_
        refine hs_set (i := 3) (ee_mul (pow_mulx hb (by omega) (by omega)) (ee_var 3 rfl (((py.up g4.st).up g5.st).up g6.st)) (ee_var 3 rfl (((py.up g4.st).up g5.st).up g6.st))) g6.sub sc_power_of.nd fun y' S7 H7 g7 py' => hs_nil (hs_nil ?_)
        rw [← Int.pow_add] at py'
        exact ⟨S7, g4.trans (g5.trans (g6.trans g7)), m / 2, by omega, a', b + b, ha', x', y', z', rfl, ((px'.up g5.st).up g6.st).up g7.st, py', (pz'.up g6.st).up g7.st⟩
      · have hm0 : m / 2 = 0 := by omega
        refine hs_ifN ((et_gt (ee_var 4 rfl pz') ee_int).is (decide_eq_false (by omega))) g5.sub fun S6 H6 g6 => hs_nil ?_
        rw [hm0, Nat.mul_zero] at ha'
        exact ⟨S6, g4.trans (g5.trans g6), m / 2, by omega, a', b, by rw [hm0]; omega, x', y, z', rfl, (px'.up g5.st).up g6.st, ((py.up g4.st).up g5.st).up g6.st, pz'.up g6.st⟩
    · have hm : m = 0 := by simpa using hm
      subst hm
      refine hs_ret (ee_var 2 rfl (px.up g3.st)) g3.sub fun v S4 H4 g4 pv => q v S4 H4 (g1.trans (g2.trans (g3.trans g4))) ?_
      have e1 : a = en := by omega
      rw [e1] at pv
      exact pv
def FisExp : List PyData → PyData → Prop := fun ds r => ∃ d w, ds = [d, .int w] ∧ r = .bool (isExp d w)
theorem sc_is_exponent : FnScope ["value", "width", "item"] ["value", "width"] (defScope sis_exponent) := ⟨rfl, rfl, rfl, by decide +kernel, rfl, by decide +kernel, by decide +kernel⟩
theorem ok_is_exponent (F : FnT K "is_exponent" sis_exponent f fd) (D1 : KD P w K mg base "is_number" 1 (spD K FisNumber)) (g1 : mg "isinstance" = none) (g2 : mg "tuple" = none) (g3 : mg "len" = none) (g4 : mg "all" = none) (g5 : ∃ t, mg "MOST_EXPONENT" = some (.int 6 t)) : FnOk P w K mg base CX0 2 f fd ["value", "width"] (spD K FisExp) := by
  refine fn_hs F sc_is_exponent (fun vs H Q E h => ?_) (fun cdv A outer sh H vs Q E hr h => ?_)
  · obtain ⟨S, ds, d, _, hd, ⟨_, _, rfl, _⟩, _⟩ := h
    exact hd.1
  · obtain ⟨S, ds, r, s, hd, ⟨d, w', rfl, rfl⟩, q⟩ := h
    obtain ⟨v1, v2, rfl, p1, p2⟩ := hd.two
    obtain ⟨t, g5⟩ := g5
    by_cases hd' : ∃ es, d = .tuple es
    · obtain ⟨es, rfl⟩ := hd'
      refine hs_if (et_w (ew_or (et_not (et_val (ee_isi (isD_ok (.tuple es) (T := "tuple") (by simp)) g1 g2 boot_tuple (ee_var 0 rfl p1)))) fun _ => ew_or1 (et_neI (ee_len g3 rfl (ee_var 0 rfl p1)) (ee_var 1 rfl p2)))) s (fun h1 S1 H1 g => ?_) (fun h1 S1 H1 g => hs_nil ?_)
      · have hl : ¬ ((es.length : Int) = w') := by simpa [isDt] using h1
        refine hs_ret ee_bl g.sub fun v S2 H2 g2 pv => q v S2 H2 (g.trans g2) ?_
        have e : isExp (.tuple es) w' = false := by unfold isExp; simp [hl]
        rw [e]; exact pv
      · have hl : (es.length : Int) = w' := by simpa [isDt] using h1
        have hz : es.length ≤ sizeLine := by obtain ⟨l, xs, _, _, hx, z⟩ := p1.tup_inv; rw [← hx.1]; exact z
        refine hs_ret ((ee_all (bs := es.map fun x => isNum x 0 && leNum x 6) rfl g4 (ee_lc (i := 2) (enc := .bool) (f := fun x => isNum x 0 && leNum x 6) rfl sc_is_exponent.nd (blkOk_by (N := ["value", "width", "item"]) (sc := defScope sis_exponent) (by decide +kernel)) (ei_tup (ee_var 0 rfl (p1.up g.st))) hz ?_)).isd ?_) g.sub fun v S2 H2 g2 pv => q v S2 H2 (g.trans g2) pv
        · intro x hx v S2 s2 pv sh' H0 C cl fp
          refine ee_and (k1 := isNum x 0) (k2 := leNum x 6) (ee_callD D1 hr ⟨x, 0, rfl, rfl⟩ (ea_2 (ee_var 2 rfl pv) ee_int)) fun h2 => ee_one (P := Dt K (.bool (leNum x 6))) ?_
          cases x with
          | int i => exact ee_le (ee_var 2 rfl pv) (ee_globI g5)
          | _ => exfalso; simp [isNum] at h2; done
        · rw [map_all]
          unfold isExp
          simp [hl]
    · refine hs_ifT ((et_w (ew_or (k2 := true) (et_not (et_val (ee_isi (isD_ok d (T := "tuple") (by simp)) g1 g2 boot_tuple (ee_var 0 rfl p1)))) fun h1 => ?_)).is ?_) s fun S1 H1 g => hs_ret ee_bl g.sub fun v S2 H2 g2 pv => q v S2 H2 (g.trans g2) ?_
      · exfalso; cases d <;> first | (simp [isDt] at h1; done) | exact hd' ⟨_, rfl⟩
      · simp
      · have e : isExp d w' = false := by cases d <;> first | rfl | exact absurd ⟨_, rfl⟩ hd'
        rw [e]; exact pv
def FisDir : List PyData → PyData → Prop := fun ds r => ∃ d w, ds = [d, .int w] ∧ r = .bool (isDir d w)
theorem sc_is_direction : FnScope ["value", "width", "item"] ["value", "width"] (defScope sis_direction) := ⟨rfl, rfl, rfl, by decide +kernel, rfl, by decide +kernel, by decide +kernel⟩
theorem ok_is_direction (F : FnT K "is_direction" sis_direction f fd) (D1 : KD P w K mg base "is_number" 1 (spD K FisNumber)) (g1 : mg "isinstance" = none) (g2 : mg "tuple" = none) (g3 : mg "len" = none) (g4 : mg "all" = none) : FnOk P w K mg base CX0 2 f fd ["value", "width"] (spD K FisDir) := by
  refine fn_hs F sc_is_direction (fun vs H Q E h => ?_) (fun cdv A outer sh H vs Q E hr h => ?_)
  · obtain ⟨S, ds, d, _, hd, ⟨_, _, rfl, _⟩, _⟩ := h
    exact hd.1
  · obtain ⟨S, ds, r, s, hd, ⟨d, w', rfl, rfl⟩, q⟩ := h
    obtain ⟨v1, v2, rfl, p1, p2⟩ := hd.two
    by_cases hd' : ∃ es, d = .tuple es
    · obtain ⟨es, rfl⟩ := hd'
      have hz : es.length ≤ sizeLine := by obtain ⟨l, xs, _, _, hx, z⟩ := p1.tup_inv; rw [← hx.1]; exact z
      refine hs_ret ((ee_and (ee_isi (isD_ok (.tuple es) (T := "tuple") (by simp)) g1 g2 boot_tuple (ee_var 0 rfl p1)) fun _ => ee_and (ee_eqI (ee_len g3 rfl (ee_var 0 rfl p1)) (ee_var 1 rfl p2)) fun _ => ee_one
        (ee_all (bs := es.map fun x => isNum x 0) rfl g4 (ee_lc (i := 2) (enc := .bool) (f := fun x => isNum x 0) rfl sc_is_direction.nd (blkOk_by (N := ["value", "width", "item"]) (sc := defScope sis_direction) (by decide +kernel)) (ei_tup (ee_var 0 rfl p1)) hz ?_))).isd ?_) s q
      · intro x hx v S2 s2 pv sh' H0 C cl fp
        exact ee_callD D1 hr ⟨x, 0, rfl, rfl⟩ (ea_2 (ee_var 2 rfl pv) ee_int)
      · rw [map_all]
        unfold isDir
        simp [isDt]
    · have e0 : isD d "tuple" = false := by cases d <;> first | rfl | exact absurd ⟨_, rfl⟩ hd'
      refine hs_ret ((ee_and (k2 := false) (ee_isi (isD_ok d (T := "tuple") (by simp)) g1 g2 boot_tuple (ee_var 0 rfl p1)) fun h1 => ?_).isd ?_) s q
      · rw [e0] at h1; cases h1
      · have e : isDir d w' = false := by cases d <;> first | rfl | exact absurd ⟨_, rfl⟩ hd'
        rw [e]; simp
def Fmonomial : List PyData → PyData → Prop := fun ds r => ∃ es ns, ds = [tI es, tI ns] ∧ r = .int (monoI es ns) ∧ MonoOk es ns
theorem sc_monomial : FnScope ["exponent", "row", "found", "power", "number"] ["exponent", "row"] (defScope smonomial) := ⟨rfl, rfl, rfl, by decide +kernel, rfl, by decide +kernel, by decide +kernel⟩
theorem ok_monomial (F : FnT K "monomial" smonomial f fd) (D1 : KD P w K mg base "power_of" 1 (spD K Fpower_of)) (g1 : mg "zip" = none) : FnOk P w K mg base CX0 2 f fd ["exponent", "row"] (spD K Fmonomial) := by
  refine fn_hs F sc_monomial (fun vs H Q E h => ?_) (fun cdv A outer sh H vs Q E hr h => ?_)
  · obtain ⟨S, ds, d, _, hd, ⟨_, _, rfl, _⟩, _⟩ := h
    exact hd.1
  · obtain ⟨S, ds, r, s, hd, ⟨es, ns, rfl, rfl, hm⟩, q⟩ := h
    obtain ⟨v1, v2, rfl, p1, p2⟩ := hd.two
    refine hs_set (i := 2) ee_int s sc_monomial.nd fun w1 S1 H1 g2 q1 => ?_
    have hlen : ∀ K, (Ds K (zipD (es.map PyData.int) (ns.map PyData.int))).length = es.length := fun K => by rw [ds_len, zipD_eq, List.length_map, List.length_zip, List.length_map, List.length_map, ← hm.1]; omega
    refine hs_for (fun i σ S2 => ∃ x a b, σ = [some v1, some v2, some x, a, b] ∧ Dt K (.int (monoI (es.take i) (ns.take i))) x S2) PassesOwn.never rfl (ei_zipT g1 (ee_var 0 rfl (p1.up g2.st)) (ee_var 1 rfl (p2.up g2.st))) g2.sub (fun S2 H2 g3 => ⟨w1, none, none, rfl, q1.up g3.st⟩) ?_ ?_
    · rintro i Pi σ1 S2 H2 x S3 H3 hP g3 ⟨y, a, b, rfl, py⟩ g4 px
      have hi : i < es.length := by
        have := (List.getElem?_eq_some_iff.mp hP).1
        rw [hlen] at this; exact this
      have hi2 : i < ns.length := by rw [← hm.1]; exact hi
      have hz : (zipD (es.map PyData.int) (ns.map PyData.int))[i]? = some (.tuple [.int es[i], .int ns[i]]) := zipD_get (by rw [List.getElem?_map, List.getElem?_eq_getElem hi]; rfl) (by rw [List.getElem?_map, List.getElem?_eq_getElem hi2]; rfl)
      rw [ds_get hz] at hP
      obtain rfl := Option.some.inj hP
      obtain ⟨u1, u2, k1, k2, hg⟩ := eg_pair (σ := [some v1, some v2, some y, a, b]) (i := 3) (j := 4) (x := "power") (y := "number") (kk := _) (px := _) (py := _) (pos := _) (X := (cxOf CX0 P w K mg base ["exponent", "row", "found", "power", "number"] "monomial" (defScope smonomial) f cdv A outer sh H E).nox) rfl sc_monomial.nd rfl rfl (Or.inl rfl) (Or.inl rfl) px
      refine hg H3 g4.sub _ ?_
      have hpo : PowOk ns[i] es[i] := hm.2.2 (es[i], ns[i]) (List.mem_of_getElem? (i := i) (by rw [List.getElem?_zip_eq_some]; exact ⟨List.getElem?_eq_getElem hi, List.getElem?_eq_getElem hi2⟩))
      refine hs_set (i := 2) (ee_mul (mono_mulx hm (by have := hm.2.1; omega) hpo) (ee_var 2 rfl (py.up g4.st)) (ee_callD D1 hr ⟨ns[i], es[i], rfl, rfl, hpo⟩ (ea_2 (ee_var 4 rfl k2) (ee_var 3 rfl k1)))) g4.sub sc_monomial.nd fun z S4 H4 g5 pz => hs_nil ?_
      refine ⟨S4, g5, z, some u1, some u2, rfl, ?_⟩
      rw [take_snoc (List.getElem?_eq_getElem hi), take_snoc (List.getElem?_eq_getElem hi2), monoI_snoc _ _ _ _ (monoOk_take hm i).1]
      exact pz
    · rintro σ1 S2 H2 g3 ⟨y, a, b, rfl, py⟩
      rw [hlen, List.take_length, hm.1, List.take_length] at py
      exact hs_ret (ee_var 2 rfl py) g3.sub fun v S3 H3 g4 pv => q v S3 H3 (g2.trans (g3.trans g4)) pv
def spOpen0 (K : PySem.W.Frag) : Sp := fun vs H Q _ => ∃ (a : Addr) (ns : List Int), vs = [.ref a] ∧ SqL K H a (ns.map V.int) ∧ ns.length ≤ 63 ∧ ∀ (b c : Addr) (ms : List Int) (k : Int) (H' : Hp), H b = none → H c = none → b ≠ c → Same H H' → ms.length ≤ 63 → 0 ≤ k → k < 100000 →
  H' c = some (.lst (ms.map V.int)) → H' b = some (.lst [.ref c, .int 0, .int 0, .int k, .int 0]) → Q (.ref b) H'
def spOpen (K : PySem.W.Frag) : Sp := fun vs H Q _ => ∃ (a : Addr) (ns : List Int), vs = [.ref a] ∧ SqL K H a (ns.map V.int) ∧ ns.length ≤ 63 ∧ ∀ v H', Same H H' → BX v H' → Q v H'
theorem scL_open : FnScope ["_law_script"] ["_law_script"] (defScope sL_open) := ⟨rfl, rfl, rfl, by decide +kernel, rfl, by decide +kernel, by decide +kernel⟩
theorem cut_ints (ns : List Int) (k : Nat) : cutV (ns.map V.int) none (some (k : Int)) = (ns.take k).map V.int := by
  unfold cutV
  rw [HT.sIx_none, HT.sIx_nat, List.drop_zero, List.map_take, Nat.sub_zero]
  by_cases h : k ≤ (ns.map V.int).length
  · rw [Nat.min_eq_left h]
  · rw [Nat.min_eq_right (by omega), List.take_of_length_le (Nat.le_refl _), List.take_of_length_le (by omega)]
theorem ok_L_open0 (F : FnT K "_law_open" sL_open f fd) (g1 : mg "list" = none) (g2 : mg "len" = none) : FnOk P w K mg base CX0 1 f fd ["_law_script"] (spOpen0 K) := by
  refine fn_hs F scL_open (fun vs H Q E h => ?_) (fun cdv A outer sh H vs Q E hr h => ?_)
  · obtain ⟨a, ns, rfl, _⟩ := h
    rfl
  · obtain ⟨a, ns, rfl, hS, hl, q⟩ := h
    refine hs_cons (ps_ret (pe_lst (pa_cons (pe_callTy call_list_of (by rfl) g1 boot_list (pa_cons (pe_slice sl_list (pv 0) po_none (po_some pe_int)) pa_nil)) (pa_cons pe_int (pa_cons pe_int (pa_cons (pe_op op_add pe_int (pe_op op_mul pe_int (pe_callB call_len_seq (by rfl) g2 PySem.boot_len (pa_cons (pv 0) pa_nil)))) (pa_cons pe_int pa_nil))))))) ?_
    refine ⟨_, rfl, _, rfl, a, _, rfl, hS, fun p hp => ⟨p, _, rfl, .inl (sql_of upd_same), fun c hc => ?_⟩⟩
    have s1 : Same H (upd H p (.lst (cutV (ns.map V.int) none (some 63)))) := Same.new hp
    have hcp : p ≠ c := ne_of_none upd_same hc
    have hc0 : H c = none := s1.free hc
    have s2 := s1.trans (Same.new (o := .lst (cutV (ns.map V.int) none (some 63))) hc)
    refine ⟨_, rfl, a, _, rfl, .inl (sql_up s2 hS), 7, ((ns.map V.int).length : Int), rfl, rfl, .inl (by decide), 12016, 7 * ((ns.map V.int).length : Int), rfl, rfl, (by show 5 ≤ 16777216; decide), fun b hb => ?_⟩
    have hbc : b ≠ c := (ne_of_none upd_same hb).symm
    rw [List.length_map]
    refine q b c (ns.take 63) _ _ (s2.free hb) hc0 hbc (s2.trans (Same.new hb)) (by rw [List.length_take]; omega) (by omega) (by omega) ?_ upd_same
    rw [upd_ne hbc.symm, upd_same]
    exact congrArg (fun l => some (HO.lst l)) (cut_ints ns 63)
theorem ok_L_open (F : FnT K "_law_open" sL_open f fd) (g1 : mg "list" = none) (g2 : mg "len" = none) : FnOk P w K mg base CX0 1 f fd ["_law_script"] (spOpen K) := by
  refine FnOk.close (ok_L_open0 F g1 g2) (fun vs H Q E h => by obtain ⟨a, ns, rfl, _⟩ := h; rfl) fun vs H Q E h => ?_
  obtain ⟨a, ns, rfl, hS, hl, q⟩ := h
  refine ⟨a, ns, rfl, hS, hl, fun b c ms k H' nb nc nbc sm hm k0 k1 hc hb => ⟨b, _, boxPhi b c, nb, hb, sm, fun h' o => box_of ⟨0, 0, k, 0, rfl, by omega, by omega, k0, by omega, by omega⟩ o, box_stab, ?_⟩⟩
  refine q _ _ (fun x o e => by rw [upd_ne (ne_of_none e nb)]; exact sm _ _ e) ⟨b, c, ms, rfl, nbc, upd_same, by rw [upd_ne nbc.symm]; exact hc, hm⟩
def spTake0 : Sp := fun vs H Q _ => ∃ (b c : Addr) (ns : List Int) (sz : Int) (xs : List V), vs = [.ref b, .int sz] ∧ b ≠ c ∧ H b = some (.lst xs) ∧ BoxV c xs ∧ H c = some (.lst (ns.map V.int)) ∧ ns.length ≤ 63 ∧ 0 < sz ∧ sz < 1073741824 ∧
  ∀ (n : Int) (H' : Hp) (ys : List V), 0 ≤ n → n < sz → (∀ a o, H a = some o → a ≠ b → H' a = some o) → H' b = some (.lst ys) → BoxV c ys → Q (.int n) H'
def Ftake : List PyData → (PyData → Prop) → Prop := fun ds G => ∃ sz, ds = [.int sz] ∧ 0 < sz ∧ sz < 1073741824 ∧ G = fun d => ∃ n, d = .int n ∧ 0 ≤ n ∧ n < sz
theorem scL_take : FnScope ["_law_box", "_law_size", "_law_cell", "_law_digit", "_law_seed"] ["_law_box", "_law_size"] (defScope sL_take) := ⟨rfl, rfl, rfl, by decide +kernel, rfl, by decide +kernel, by decide +kernel⟩
theorem bound_mod {x y : Int} (h : 0 < y) : 0 ≤ x % y ∧ x % y < y := ⟨Int.emod_nonneg x (by omega), Int.emod_lt_of_pos x h⟩
/-- the box at b in H', all else as in H -/
structure TkI (H : Hp) (b c : Addr) (H' : Hp) (i g m k : Int) : Prop where
  hb : H' b = some (.lst [.ref c, .int i, .int g, .int m, .int k])
  ot : ∀ a o, H a = some o → a ≠ b → H' a = some o
  i0 : 0 ≤ i
  g0 : 0 ≤ g
  m0 : 0 ≤ m
  m1 : m < 2147483648
  k0 : 0 ≤ k
theorem TkI.up {H : Hp} {b c : Addr} {H1 H2 : Hp} {i g m k : Int} (t : TkI H b c H1 i g m k) (s : Same H1 H2) : TkI H b c H2 i g m k := ⟨s _ _ t.hb, fun a o h n => s _ _ (t.ot a o h n), t.i0, t.g0, t.m0, t.m1, t.k0⟩
theorem TkI.put {H : Hp} {b c : Addr} {H1 : Hp} {i g m k i' g' m' k' : Int} (t : TkI H b c H1 i g m k) (xs : List V) (e : xs = [.ref c, .int i', .int g', .int m', .int k']) (a0 : 0 ≤ i') (a1 : 0 ≤ g') (a2 : 0 ≤ m') (a3 : m' < 2147483648) (a4 : 0 ≤ k') : TkI H b c (upd H1 b (.lst xs)) i' g' m' k' := by
  subst e
  exact ⟨upd_same, fun a o h n => by rw [upd_ne n]; exact t.ot a o h n, a0, a1, a2, a3, a4⟩
theorem small64' {z : Int} (h0 : 0 ≤ z) (h : z < 2147483648) : -(2 ^ 64) < z ∧ z < 2 ^ 64 := by
  have e : (2 : Int) ^ 64 = 18446744073709551616 := by decide
  omega
theorem ok_L_take0 (F : FnT K "_law_take" sL_take f fd) (g1 : mg "len" = none) (g2 : mg "int" = none) : FnOk P w K mg base CX0 1 f fd ["_law_box", "_law_size"] spTake0 := by
  refine fn_hs F scL_take (fun vs H Q E h => ?_) (fun cdv A outer sh H vs Q E hr h => ?_)
  · obtain ⟨b, c, ns, sz, xs, rfl, _⟩ := h
    rfl
  · obtain ⟨b, c, ns, sz, xs, rfl, hbc, hb, hx, hc, hl, z0, z1, q⟩ := h
    obtain ⟨i, g, m, k, rfl, i0, g0, m0, m1, k0⟩ := hx.ex
    have T0 : TkI H b c H i g m k := ⟨hb, fun a o h _ => h, i0, g0, m0, m1, k0⟩
    have eb : ∀ {σ : L2.St} {S : Hp} {pos : Pos}, σ[0]? = some (some (V.ref b)) → EE (cxOf CX0 P w K mg base ["_law_box", "_law_size", "_law_cell", "_law_digit", "_law_seed"] "_law_take" (defScope sL_take) f cdv A outer sh H E).nox σ S (.Name "_law_box" pos) (fun w _ => w = .ref b) := fun h => ee_var 0 h rfl
    have hnz : ns.length ≤ sizeLine := Nat.le_trans hl (by decide)
    have ec : ∀ {S : Hp} {i g m k : Int} {σ : L2.St} {p1 p2 p3 : Pos} {n : Nat}, TkI H b c S i g m k → σ[0]? = some (some (V.ref b)) → EE (cxOf CX0 P w K mg base ["_law_box", "_law_size", "_law_cell", "_law_digit", "_law_seed"] "_law_take" (defScope sL_take) f cdv A outer sh H E).nox σ S (.Subscript (.Name "_law_box" p1) (.Constant (.int 0) n p2) p3) (Dt K (lI ns)) := fun {S i g m k} _ _ _ _ _ T h =>
      ee_ixB T.hb (eb h) ee_int (v := .ref c) rfl fun S' s => Dt.lst_mk (s _ _ (T.ot _ _ hc hbc.symm)) (int_dts ns S') (by rw [List.length_map]; exact hnz)
    refine hs_ifR (S := H) (fun σ' H' => ∃ (v : Option V) (i g m k : Int), σ' = [some (.ref b), some (.int sz), v, none, none] ∧ TkI H b c H' i g m k)
      (et_w (ew_and (et_eqI (ee_ixB hb (eb rfl) ee_int (v := .int g) rfl fun _ _ => .int g) ee_int) fun _ => ew_and1 (et_lt (ee_ixB hb (eb rfl) ee_int (v := .int i) rfl fun _ _ => .int i) (ee_len g1 (n := ns.length) (by simp [lI, lenD]) (ec T0 rfl))))) (Same.refl H) (fun hk S1 H1 g1' => ?_) (fun hk S1 H1 g1' => hs_nil ⟨none, i, g, m, k, rfl, T0.up g1'.hh⟩) ?_
    · -- a cell is taken
      have hi : i < (ns.length : Int) := by
        have h2 := (Bool.and_eq_true_iff.mp hk).2
        exact of_decide_eq_true h2
      have T1 := T0.up g1'.hh
      have hget : atI (ns.map PyData.int) i = some (.int (ns[i.toNat]'(by omega))) := by
        unfold atI ixN
        rw [if_pos i0, List.length_map, if_pos hi]
        show (ns.map PyData.int)[i.toNat]? = _
        rw [List.getElem?_map, List.getElem?_eq_getElem (by omega)]
        rfl
      refine hs_set (S := H1) (i := 2) (ee_ixL hget (ec T1 rfl) (ee_ixB T1.hb (eb rfl) ee_int (v := .int i) rfl fun _ _ => .int i)) (Same.refl _) scL_take.nd fun v S2 H2 g2' pv => ?_
      cases pv
      have T2 := T1.up g2'.hh
      refine hs_setL (ee_add (ee_ixB T2.hb (eb rfl) ee_int (v := .int i) rfl fun _ _ => .int i) ee_int) (eb rfl) ee_int T2.hb (j := 1) rfl fun v H3 s3 pv => ?_
      cases pv
      have T3 := (T2.up s3).put ([.ref c, .int i, .int g, .int m, .int k].set 1 (.int (i + 1))) rfl (by omega) g0 m0 m1 k0
      refine hs_if (S := _) (et_ge (ee_var 2 rfl (Dt.int (K := K) _)) (ee_pow (by exact ⟨by decide, by decide, by decide⟩) ee_int ee_int)) (Same.refl _) (fun hk4 S4 H4 g4 => ?_) (fun hk4 S4 H4 g4 => ?_)
      · have T4 := T3.up g4.hh
        have hge := of_decide_eq_true hk4
        refine hs_setL (ee_var 2 rfl (Dt.int (K := K) _)) (eb rfl) ee_int T4.hb (j := 2) rfl fun v H5 s5 pv => hs_nil (hs_nil ?_)
        cases pv
        have e18 : (0 : Int) ≤ 10 ^ (18 : Int).toNat := by decide
        exact ⟨_, i + 1, _, m, k, rfl, (T4.up s5).put _ rfl (by omega) (by omega) m0 m1 k0⟩
      · have T4 := T3.up g4.hh
        have b1 := @bound_mod (ns[i.toNat]'(by omega)) 2147483497 (by decide)
        refine hs_setL (ee_mod (by decide) (ee_intOf g2 (ee_add (ee_add (ee_mulS (.inr (by decide)) (ee_ixB T4.hb (eb rfl) ee_int (v := .int m) rfl fun _ _ => .int m) ee_int) (ee_mulS (.inr (by decide)) (ee_mod (by decide) (ee_intOf g2 (ee_var 2 rfl (Dt.int (K := K) _))) ee_int) ee_int)) ee_int)) ee_int) (eb rfl) ee_int T4.hb (j := 3) rfl fun v H5 s5 pv => hs_nil (hs_nil ?_)
        cases pv
        have b2 := @bound_mod (m * 39119 + ns[i.toNat]'(by omega) % 2147483497 * 6143 + 53) 2147483563 (by decide)
        exact ⟨_, i + 1, g, _, k, rfl, (T4.up s5).put _ rfl (by omega) g0 b2.1 (by omega) k0⟩
    · rintro σ' H2 ⟨v, i, g, m, k, rfl, T2⟩
      have g0 := T2.g0
      have m0 := T2.m0
      refine hs_if (S := H2) (et_gt (ee_ixB T2.hb (eb rfl) ee_int (v := .int g) rfl fun _ _ => .int g) ee_int) (Same.refl _) (fun hk S3 H3 g3 => ?_) (fun hk S3 H3 g3 => hs_nil ?_)
      · have T3 := T2.up g3.hh
        refine hs_set (S := H3) (i := 3) (ee_mod z0 (ee_intOf g2 (ee_ixB T3.hb (eb rfl) ee_int (v := .int g) rfl fun _ _ => .int g)) (ee_var 1 rfl (Dt.int (K := K) sz))) (Same.refl _) scL_take.nd fun v S4 H4 g4 pv => ?_
        cases pv
        have T4 := T3.up g4.hh
        have b3 := @bound_mod g sz z0
        refine hs_setL (ee_fdiv (wide_div (b := 31) z0 (by omega) (by decide) (by decide)) (ee_ixB T4.hb (eb rfl) ee_int (v := .int g) rfl fun _ _ => .int g) (ee_var 1 rfl (Dt.int (K := K) sz))) (eb rfl) ee_int T4.hb (j := 2) rfl fun v H5 s5 pv => ?_
        cases pv
        have T5 := (T4.up s5).put ([.ref c, .int i, .int g, .int m, .int k].set 2 (.int (g / sz))) rfl T2.i0 (Int.ediv_nonneg g0 (by omega)) T2.m0 T2.m1 T2.k0
        refine hs_ret (S := _) (ee_var 3 rfl (Dt.int (K := K) _)) (Same.refl _) fun v S6 H6 g6 pv => ?_
        cases pv
        have T6 := T5.up g6.hh
        exact q _ H6 _ b3.1 b3.2 T6.ot T6.hb ⟨i, g / sz, m, k, rfl, T6.i0, T6.g0, T6.m0, T6.m1, T6.k0⟩
      · have T3 := T2.up g3.hh
        refine hs_setL (ee_add (ee_ixB T3.hb (eb rfl) ee_int (v := .int k) rfl fun _ _ => .int k) ee_int) (eb rfl) ee_int T3.hb (j := 4) rfl fun v H4 s4 pv => ?_
        cases pv
        have k0 := T3.k0
        have T4 := (T3.up s4).put ([.ref c, .int i, .int g, .int m, .int k].set 4 (.int (k + 1))) rfl T3.i0 T3.g0 T3.m0 T3.m1 (by omega)
        refine hs_set (S := _) (i := 4) (ee_ixB (P := Dt K (.int m)) T4.hb (eb rfl) ee_int (v := .int m) rfl fun _ _ => .int m) (Same.refl _) scL_take.nd fun v S5 H5 g5 pv => ?_
        cases pv
        have T5 := T4.up g5.hh
        refine hs_setL (ee_mod (by decide) (ee_intOf g2 (ee_add (ee_add (ee_add (ee_mulS (.inl (small64' m0 T2.m1)) (ee_var 4 rfl (Dt.int (K := K) m)) (ee_var 4 rfl (Dt.int (K := K) m))) (ee_mulS (.inr (by decide)) (ee_var 4 rfl (Dt.int (K := K) m)) ee_int)) (ee_mulS (.inr (by decide)) (ee_ixB T5.hb (eb rfl) ee_int (v := .int (k + 1)) rfl fun _ _ => .int (k + 1)) ee_int)) ee_int)) ee_int) (eb rfl) ee_int T5.hb (j := 3) rfl fun v H6 s6 pv => ?_
        cases pv
        have b2 := @bound_mod (m * m + m * 28411 + (k + 1) * 1500007 + 90001) 2147483587 (by decide)
        have T6 := (T5.up s6).put ([.ref c, .int i, .int g, .int m, .int (k + 1)].set 3 (.int ((m * m + m * 28411 + (k + 1) * 1500007 + 90001) % 2147483587))) rfl T5.i0 T5.g0 b2.1 (by omega) (by omega)
        refine hs_ret (S := _) (ee_mod z0 (ee_intOf g2 (ee_add (ee_fdiv (wide_div (b := 31) (by decide) (by decide) (by decide) (by decide)) (ee_ixB T6.hb (eb rfl) ee_int (P := Dt K (.int ((m * m + m * 28411 + (k + 1) * 1500007 + 90001) % 2147483587))) (v := .int ((m * m + m * 28411 + (k + 1) * 1500007 + 90001) % 2147483587)) rfl fun _ _ => .int _) ee_int) (ee_mulS (.inr (by decide)) (ee_mod (by decide) (ee_intOf g2 (ee_ixB T6.hb (eb rfl) ee_int (P := Dt K (.int ((m * m + m * 28411 + (k + 1) * 1500007 + 90001) % 2147483587))) (v := .int ((m * m + m * 28411 + (k + 1) * 1500007 + 90001) % 2147483587)) rfl fun _ _ => .int _)) ee_int) ee_int))) (ee_var 1 rfl (Dt.int (K := K) sz))) (Same.refl _) fun v S7 H7 g7 pv => ?_
        cases pv
        have T7 := T6.up g7.hh
        exact q _ H7 _ (bound_mod z0).1 (bound_mod z0).2 T7.ot T7.hb ⟨_, _, _, _, rfl, T7.i0, T7.g0, T7.m0, T7.m1, T7.k0⟩
theorem ok_L_take (F : FnT K "_law_take" sL_take f fd) (g1 : mg "len" = none) (g2 : mg "int" = none) : FnOk P w K mg base CX0 1 f fd ["_law_box", "_law_size"] (spB K Ftake) := by
  refine FnOk.box (ok_L_take0 F g1 g2) (fun vs H Q E h => ?_) fun vs H Q E h => ?_
  · obtain ⟨S, v, ws, ds, G, rfl, _, _, hd, ⟨sz, rfl, _⟩, _⟩ := h
    have := hd.1
    simp at this
    simp [this]
  · obtain ⟨S, v, ws, ds, G, rfl, s, ⟨b, c, ns, rfl, hbc, hb, hc, hl⟩, hd, ⟨sz, rfl, z0, z1, rfl⟩, q⟩ := h
    obtain ⟨u, rfl, pu⟩ := hd.one
    cases pu
    refine ⟨b, boxPhi b c, s _ _ hb, fun h p => ?_⟩
    obtain ⟨xs, hx, ox⟩ := of_box (P := P) (w := w) (H := H) p
    refine ⟨xs, ox, b, c, ns, sz, xs, rfl, hbc, upd_same, hx, by rw [upd_ne hbc.symm]; exact s _ _ hc, hl, z0, z1, fun n H' ys n0 n1 ot hy hys => ⟨ys, hy, fun h' o => box_of hys o, fun a o e ne => ot a o (by rw [upd_ne ne]; exact e) ne, ?_⟩⟩
    have sm : Same H (upd H' b (.ext (boxPhi b c))) := fun a o e => by
      by_cases ha : a = b
      · subst ha; rw [upd_same]; rw [s _ _ hb] at e; exact e
      · rw [upd_ne ha]; exact ot a o (by rw [upd_ne ha]; exact e) ha
    exact q (.int n) ⟨n, rfl, n0, n1⟩ _ S _ ⟨Same.refl S, s.trans sm, sm, fun _ _ _ _ => rfl⟩ (Dt.int n)
def Fone : List PyData → (PyData → Prop) → Prop := fun ds G => ∃ xs, ds = [.list xs] ∧ 0 < xs.length ∧ xs.length < 1073741824 ∧ G = fun d => d ∈ xs
theorem scL_one : FnScope ["_law_box", "_law_some"] ["_law_box", "_law_some"] (defScope sL_one) := ⟨rfl, rfl, rfl, by decide +kernel, rfl, by decide +kernel, by decide +kernel⟩
theorem ok_L_one (F : FnT K "_law_one" sL_one f fd) (D1 : KD P w K mg base "_law_take" 1 (spB K Ftake)) (g1 : mg "len" = none) : FnOk P w K mg base CX0 2 f fd ["_law_box", "_law_some"] (spB K Fone) := by
  refine fn_hs F scL_one (fun vs H Q E h => ?_) (fun cdv A outer sh H vs Q E hr h => ?_)
  · obtain ⟨S, v, ws, ds, G, rfl, _, _, hd, ⟨xs, rfl, _⟩, _⟩ := h
    have := hd.1
    simp at this
    simp [this]
  · obtain ⟨S, v, ws, ds, G, rfl, s, hb, hd, ⟨xs, rfl, z0, z1, rfl⟩, q⟩ := h
    obtain ⟨u, rfl, pu⟩ := hd.one
    refine hs_ret (ee_ixE (ee_var 1 rfl pu) ((ee_callBx D1 hr ⟨xs.length, rfl, by omega, by omega, rfl⟩ (ea_2 (ee_var 0 rfl hb) (ee_len g1 rfl (ee_var 1 rfl pu)))).exi fun d ⟨n, e, n0, n1⟩ => ⟨n, e, n0, n1⟩)) s ?_
    rintro v S' H' g ⟨d, hd, pd⟩
    exact q d hd v S' H' g pd
def Fexp : List PyData → (PyData → Prop) → Prop := fun ds G => ∃ (n : Nat) (m : Int), ds = [.int n, .int m] ∧ n ≤ 1000 ∧ 0 ≤ m ∧ m < 1000000 ∧ G = fun d => ∃ l : List Int, d = tI l ∧ l.length = n ∧ ∀ x ∈ l, 0 ≤ x ∧ x ≤ m
theorem scL_exp : FnScope ["_law_box", "_law_many", "_law_most", "_law_at"] ["_law_box", "_law_many", "_law_most"] (defScope sL_exp) := ⟨rfl, rfl, rfl, by decide +kernel, rfl, by decide +kernel, by decide +kernel⟩
theorem paired_ints {ds rs : List PyData} {G : Int → Prop} (h : Paired (fun _ d => ∃ i, d = .int i ∧ G i) ds rs) : ∃ l : List Int, rs = l.map .int ∧ l.length = ds.length ∧ ∀ x ∈ l, G x := by
  induction h with
  | nil => exact ⟨[], rfl, rfl, fun _ h => nomatch h⟩
  | cons g _ ih =>
    obtain ⟨i, rfl, gi⟩ := g
    obtain ⟨l, rfl, h2, h3⟩ := ih
    exact ⟨i :: l, rfl, by simp [h2], fun x hx => by
      rcases List.mem_cons.mp hx with rfl | hx
      · exact gi
      · exact h3 x hx⟩
theorem ok_L_exp (F : FnT K "_law_exp" sL_exp f fd) (D1 : KD P w K mg base "_law_take" 1 (spB K Ftake)) (g1 : mg "tuple" = none) (g2 : mg "range" = none) : FnOk P w K mg base CX0 2 f fd ["_law_box", "_law_many", "_law_most"] (spB K Fexp) := by
  refine fn_hs F scL_exp (fun vs H Q E h => ?_) (fun cdv A outer sh H vs Q E hr h => ?_)
  · obtain ⟨S, v, ws, ds, G, rfl, _, _, hd, ⟨n, m, rfl, _⟩, _⟩ := h
    have := hd.1
    simp at this
    simp [this]
  · obtain ⟨S, v, ws, ds, G, rfl, s, hb, hd, ⟨n, m, rfl, hn, m0, m1, rfl⟩, q⟩ := h
    obtain ⟨v1, v2, rfl, p1, p2⟩ := hd.two
    refine hs_ret ((ee_tupleE g1 (ee_lcN (i := 3) rfl scL_exp.nd (blkOk_by (N := ["_law_box", "_law_many", "_law_most", "_law_at"]) (sc := defScope sL_exp) (by decide +kernel)) (ei_range g2 (by omega) (ee_var 1 rfl p1)) (by rw [upto_len]; show _ ≤ 16777216; omega)
      (F := fun _ d => ∃ i, d = .int i ∧ 0 ≤ i ∧ i ≤ m) fun x hx v S2 s2 pv sh' H0 C cl fp => ?_)).exi (G := fun d => ∃ l : List Int, d = tI l ∧ l.length = n ∧ ∀ x ∈ l, 0 ≤ x ∧ x ≤ m) fun d ⟨rs, e, hp⟩ => ?_) s ?_
    · exact (ee_callBx D1 hr ⟨m + 1, rfl, by omega, by omega, rfl⟩ (ea_2 (ee_var 0 rfl (Mn.up s2 hb)) (ee_add (ee_var 2 rfl (p2.up s2)) ee_int))).exi fun d ⟨i, e, i0, i1⟩ => ⟨i, e, i0, by omega⟩
    · obtain ⟨l, rfl, h2, h3⟩ := paired_ints hp
      exact ⟨l, e, by rw [h2, upto_len], h3⟩
    · rintro v S' H' g ⟨d, hd, pd⟩
      exact q d hd v S' H' g pd
def Fkind : List PyData → PyData → Prop := fun ds r => ∃ d, ds = [d] ∧ r = .int (kindN d : Nat)
theorem scL_kind : FnScope ["_law_thing", "_law_marks"] ["_law_thing"] (defScope sL_kind) := ⟨rfl, rfl, rfl, by decide +kernel, rfl, by decide +kernel, by decide +kernel⟩
theorem ok_L_kind (F : FnT K "_law_kind" sL_kind f fd) (g1 : mg "isinstance" = none) (g2 : mg "bool" = none) (g3 : mg "int" = none) (g4 : mg "str" = none) (g5 : mg "list" = none) (g6 : mg "tuple" = none) : FnOk P w K mg base CX0 1 f fd ["_law_thing"] (spD K Fkind) := by
  refine fn_hs F scL_kind (fun vs H Q E h => ?_) (fun cdv A outer sh H vs Q E hr h => ?_)
  · obtain ⟨S, ds, d, _, hd, ⟨_, rfl, _⟩, _⟩ := h
    exact hd.1
  · obtain ⟨S, ds, r, s, hd, ⟨d, rfl, rfl⟩, q⟩ := h
    obtain ⟨v, rfl, p⟩ := hd.one
    refine hs_set (i := 1) (ee_lst (ds := [.bool (decide (kindN d = 0)), .bool (isD d "bool"), .bool (isD d "int"), .bool (isD d "str")]) (ea_cons (by rw [← dt_non p]; exact ee_isN (ee_var 0 rfl rfl)) (ea_cons (ee_isi (isD_ok d (T := "bool") (by simp)) g1 g2 boot_bool (ee_var 0 rfl p)) (ea_cons (ee_isi (isD_ok d (T := "int") (by simp)) g1 g3 boot_int (ee_var 0 rfl p)) (ea_cons (ee_isi (isD_ok d (T := "str") (by simp)) g1 g4 boot_str (ee_var 0 rfl p)) ea_nil))))) s scL_kind.nd fun m1 S1 H1 gr1 pm1 => ?_
    have p1 := p.up gr1.st
    refine hs_set (i := 1) (ee_catL (by show _ ≤ 16777216; exact Nat.le_of_ble_eq_true rfl) (ee_var 1 rfl pm1) (ee_lst (ds := [.bool (isD d "list"), .bool (isD d "tuple"), .bool true]) (ea_cons (ee_isi (isD_ok d (T := "list") (by simp)) g1 g5 boot_list (ee_var 0 rfl p1)) (ea_cons (ee_isi (isD_ok d (T := "tuple") (by simp)) g1 g6 boot_tuple (ee_var 0 rfl p1)) (ea_cons ee_bl ea_nil))))) gr1.sub scL_kind.nd fun m2 S2 H2 gr2 pm2 => ?_
    exact hs_ret (ee_indexT (bs := marksL d) (marks_at d) (marks_no d) (ee_var 1 rfl pm2) ee_bl) gr2.sub fun v S3 H3 gr3 pv => q v S3 H3 (gr1.trans (gr2.trans gr3)) pv
def Fsame (n : Nat) : List PyData → PyData → Prop := fun ds r => ∃ d, ds = [d, d] ∧ Bd n d ∧ r = .bool true
theorem scL_same : FnScope ["_law_found", "_law_due", "_law_a", "_law_b"] ["_law_found", "_law_due"] (defScope sL_same) := ⟨rfl, rfl, rfl, by decide +kernel, rfl, by decide +kernel, by decide +kernel⟩
theorem okL_same_all (xs : List PyData) : ((xs.zip xs).map fun _ => true).all (fun b => b) = true := by
  rw [List.all_eq_true]
  intro b hb
  obtain ⟨_, _, rfl⟩ := List.mem_map.mp hb
  rfl
theorem ok_L_same (F : FnT K "_law_same" sL_same f fd) (hm : mg "_law_same" = some (.ref f)) (hb : Binds K fd ["_law_found", "_law_due"] []) (D1 : KD P w K mg base "_law_kind" 1 (spD K Fkind)) (g1 : mg "len" = none) (g2 : mg "all" = none) (g3 : mg "zip" = none) : ∀ n : Nat, FnOk P w K mg base CX0 (n + 2) f fd ["_law_found", "_law_due"] (spD K (Fsame n)) := by
  have step : ∀ n : Nat, (∀ m, n = m + 1 → FnOk P w K mg base CX0 (m + 2) f fd ["_law_found", "_law_due"] (spD K (Fsame m))) → FnOk P w K mg base CX0 (n + 2) f fd ["_law_found", "_law_due"] (spD K (Fsame n)) := fun n ih => by
    refine fn_hs F scL_same (fun vs H Q E h => ?_) (fun cdv A outer sh H vs Q E hr h => ?_)
    · obtain ⟨S, ds, d, _, hd, ⟨_, rfl, _⟩, _⟩ := h
      exact hd.1
    · obtain ⟨S, ds, r, s, hd, ⟨d, rfl, hbd, rfl⟩, q⟩ := h
      obtain ⟨v1, v2, rfl, p1, p2⟩ := hd.two
      refine hs_ifN ((et_neI (ee_callD D1 (hr.mono (by omega)) ⟨d, rfl, rfl⟩ (ea_1 (ee_var 0 rfl p1))) (ee_callD D1 (hr.mono (by omega)) ⟨d, rfl, rfl⟩ (ea_1 (ee_var 1 rfl p2)))).is (by simp)) s fun S1 H1 g4 => ?_
      have p1 := p1.up g4.st
      have p2 := p2.up g4.st
      refine hs_if (et_inT (ns := [4, 5]) (ee_callD D1 (hr.mono (by omega)) ⟨d, rfl, rfl⟩ (ea_1 (ee_var 1 rfl p2))) (ee_tup (ds := [.int 4, .int 5]) (ea_2 ee_int ee_int))) g4.sub (fun hk S2 H2 g5 => ?_) (fun hk S2 H2 g5 => hs_nil ?_)
      · have p1 := p1.up g5.st
        have p2 := p2.up g5.st
        obtain ⟨m, rfl⟩ : ∃ m, n = m + 1 := by
          cases n with
          | zero => exfalso; cases d <;> first | (simp [kindN] at hk; done) | exact hbd
          | succ m => exact ⟨m, rfl⟩
        have D2 : KD P w K mg base "_law_same" (m + 2) (spD K (Fsame m)) := ⟨f, fd, _, ih m rfl, hm, F.kp, hb⟩
        cases d with
        | list xs =>
          have hz : xs.length ≤ sizeLine := by obtain ⟨l, ys, _, _, hx, z⟩ := p1.lst_inv; rw [← hx.1]; exact z
          refine hs_ret ((ee_and (ee_eqI (ee_len g1 rfl (ee_var 0 rfl p1)) (ee_len g1 rfl (ee_var 1 rfl p2))) fun _ => ee_one (ee_all (bs := (xs.zip xs).map fun _ => true) rfl g2
            (ee_lc2 (i := 2) (j := 3) (enc := .bool) (f := fun _ => true) rfl scL_same.nd (blkOk_by (N := ["_law_found", "_law_due", "_law_a", "_law_b"]) (sc := defScope sL_same) (by decide +kernel)) (by rw [← zipD_eq]; exact ei_zipL g3 (ee_var 0 rfl p1) (ee_var 1 rfl p2)) (by rw [zip_self, List.length_map]; exact hz) ?_))).isd ?_) g5.sub fun v S3 H3 g6 pv => q v S3 H3 (g4.trans (g5.trans g6)) pv
          · intro p hp v u S2 s2 pv pu sh' H0 C cl fp
            rw [zip_self] at hp
            obtain ⟨x, hx, rfl⟩ := List.mem_map.mp hp
            exact ee_callD D2 (hr.mono (by omega)) ⟨x, rfl, hbd x hx, rfl⟩ (ea_2 (ee_var 2 rfl pv) (ee_var 3 rfl pu))
          · rw [okL_same_all]; simp
        | tuple xs =>
          have hz : xs.length ≤ sizeLine := by obtain ⟨l, ys, _, _, hx, z⟩ := p1.tup_inv; rw [← hx.1]; exact z
          refine hs_ret ((ee_and (ee_eqI (ee_len g1 rfl (ee_var 0 rfl p1)) (ee_len g1 rfl (ee_var 1 rfl p2))) fun _ => ee_one (ee_all (bs := (xs.zip xs).map fun _ => true) rfl g2
            (ee_lc2 (i := 2) (j := 3) (enc := .bool) (f := fun _ => true) rfl scL_same.nd (blkOk_by (N := ["_law_found", "_law_due", "_law_a", "_law_b"]) (sc := defScope sL_same) (by decide +kernel)) (by rw [← zipD_eq]; exact ei_zipT g3 (ee_var 0 rfl p1) (ee_var 1 rfl p2)) (by rw [zip_self, List.length_map]; exact hz) ?_))).isd ?_) g5.sub fun v S3 H3 g6 pv => q v S3 H3 (g4.trans (g5.trans g6)) pv
          · intro p hp v u S2 s2 pv pu sh' H0 C cl fp
            rw [zip_self] at hp
            obtain ⟨x, hx, rfl⟩ := List.mem_map.mp hp
            exact ee_callD D2 (hr.mono (by omega)) ⟨x, rfl, hbd x hx, rfl⟩ (ea_2 (ee_var 2 rfl pv) (ee_var 3 rfl pu))
          · rw [okL_same_all]; simp
        | _ => exfalso; simp [kindN] at hk; done
      · have p1 := p1.up g5.st
        have p2 := p2.up g5.st
        have fin : ∀ b : Bool, b = true → ∀ v S3 H3, Gr S2 H2 S3 H3 → Dt K (.bool b) v S3 → Q v H3 := fun b hb v S3 H3 g6 pv => q v S3 H3 (g4.trans (g5.trans g6)) (hb ▸ pv)
        cases d with
        | none => exact hs_ret (ee_eq hr (by decide +kernel) (by decide +kernel) (ee_var 0 rfl p1) (ee_var 1 rfl p2)) g5.sub (fin _ rfl)
        | bool b => exact hs_ret (ee_eq hr (by cases b <;> decide +kernel) (by cases b <;> decide +kernel) (ee_var 0 rfl p1) (ee_var 1 rfl p2)) g5.sub (fin _ (by cases b <;> rfl))
        | int i => exact hs_ret (ee_eqI (ee_var 0 rfl p1) (ee_var 1 rfl p2)) g5.sub (fin _ (by simp))
        | str x => exact hs_ret (ee_eqS (ee_var 0 rfl p1) (ee_var 1 rfl p2)) g5.sub (fin _ (by simp))
        | list xs => exfalso; simp [kindN] at hk; done
        | tuple xs => exfalso; simp [kindN] at hk; done
        | dict xs => exfalso; cases n <;> exact hbd
  intro n
  induction n with
  | zero => exact step 0 fun m h => nomatch h
  | succ n ih => exact step (n + 1) fun m h => by cases h; exact ih
theorem scL_pow : FnScope ["_law_size", "_law_power", "_law_found", "_law_late", "_law_rest"] ["_law_size", "_law_power"] (defScope sL_pow) := ⟨rfl, rfl, rfl, by decide +kernel, rfl, by decide +kernel, by decide +kernel⟩
def FL_pow : List PyData → PyData → Prop := fun ds r => ∃ n e, ds = [.int n, .int e] ∧ r = .int (n ^ e.toNat) ∧ PowOk n e
theorem ok_L_pow (F : FnT K "_law_pow" sL_pow f fd) (gi : mg "int" = none) : FnOk P w K mg base CX0 1 f fd ["_law_size", "_law_power"] (spD K FL_pow) := by
  refine fn_hs F scL_pow (fun vs H Q E h => ?_) (fun cdv A outer sh H vs Q E hr h => ?_)
  · obtain ⟨S, ds, d, _, hd, ⟨_, _, rfl, _⟩, _⟩ := h
    exact hd.1
  · obtain ⟨S, ds, r, s, hd, ⟨n, e, rfl, rfl, h0, hb⟩, q⟩ := h
    obtain ⟨v1, v2, rfl, p1, p2⟩ := hd.two
    obtain ⟨en, rfl⟩ : ∃ en : Nat, e = (en : Int) := ⟨e.toNat, by omega⟩
    rw [Int.toNat_natCast] at hb q
    refine hs_par3 (i := 2) (j := 3) (l := 4) rfl scL_pow.nd ee_int (ee_var 0 rfl p1) (ee_var 1 rfl p2) s rfl fun w1 w2 w3 S1 H1 g1 q1 q2 q3 => ?_
    refine hs_while (fun m σ S2 => ∃ a b : Nat, a + b * m = en ∧ ∃ x y z, σ = [some v1, some v2, some x, some y, some z] ∧ Dt K (.int (n ^ a)) x S2 ∧ Dt K (.int (n ^ b)) y S2 ∧ Dt K (.int (m : Nat)) z S2) en PassesOwn.never g1.sub ⟨0, 1, by omega, w1, w2, w3, rfl, by rw [Int.pow_zero]; exact q1, by rw [Int.pow_succ, Int.pow_zero, Int.one_mul]; exact q2, q3⟩ ?_
    rintro m σ S2 H2 g2 ⟨a, b, hab, x, y, z, rfl, px, py, pz⟩
    refine ⟨decide ((0 : Int) < (m : Nat)), et_gt (ee_var 4 rfl pz) ee_int, fun hm S3 H3 g3 => ?_, fun hm S3 H3 g3 => ?_⟩
    · have hm : 0 < m := by simpa using hm
      have hbe : b ≤ b * m := Nat.le_mul_of_pos_right b hm
      have px := px.up g3.st
      have py := py.up g3.st
      have pz := pz.up g3.st
      have hmod : m = 2 * (m / 2) + m % 2 := (Nat.div_add_mod m 2).symm
      refine hs_ifJ (fun σ' S4 => ∃ (a' : Nat) (x' : V), a' + (b + b) * (m / 2) = en ∧ Dt K (.int (n ^ a')) x' S4 ∧ σ' = [some v1, some v2, some x', some y, some z]) (et_eqI (ee_mod (by decide) (ee_intOf gi (ee_var 4 rfl pz)) ee_int) ee_int) g3.sub (fun ho S4 H4 g4 => ?_) (fun ho S4 H4 g4 => ?_) ?_
      · have ho : m % 2 = 1 := by have := of_decide_eq_true ho; omega
        refine hs_set (i := 2) (ee_mul (pow_mulx hb (by omega) (by omega)) (ee_var 2 rfl (px.up g4.st)) (ee_var 3 rfl (py.up g4.st))) g4.sub scL_pow.nd fun x' S5 H5 g5 px' => hs_nil ?_
        rw [← Int.pow_add] at px'
        refine ⟨S5, g5, a + b, x', ?_, px', rfl⟩
        rw [← hab]
        conv => rhs; rw [hmod, ho]
        rw [Nat.mul_add, Nat.add_mul, ← Nat.mul_assoc, Nat.mul_comm b 2, Nat.mul_assoc]
        omega
      · have ho : m % 2 = 0 := by have := of_decide_eq_false ho; omega
        refine hs_nil ⟨S4, Gr.refl g4.sub, a, x, ?_, px.up g4.st, rfl⟩
        rw [← hab]
        conv => rhs; rw [hmod, ho]
        rw [Nat.add_zero, Nat.add_mul, ← Nat.mul_assoc, Nat.mul_comm b 2, Nat.mul_assoc]
        omega
      rintro σ' S4 H4 g4 ⟨a', x', ha', px', rfl⟩
      refine hs_set (i := 4) (P := Dt K (.int ((m / 2 : Nat) : Int))) ((ee_fdiv (wide_div (b := 31) (by decide) (by decide) (by decide) (by decide)) (ee_var 4 rfl (pz.up g4.st)) ee_int).isd (by rw [Int.natCast_ediv]; rfl)) g4.sub scL_pow.nd fun z' S5 H5 g5 pz' => ?_
      by_cases hm2 : 0 < m / 2
      · have hb2 : b + b ≤ (b + b) * (m / 2) := Nat.le_mul_of_pos_right _ hm2
        refine hs_set (i := 3) (P := Dt K (.int (n ^ b * n ^ b))) (ee_if ((et_gt (ee_var 4 rfl pz') ee_int).is (decide_eq_true (by omega))) (fun _ => ee_mul (pow_mulx hb (by omega) (by omega)) (ee_var 3 rfl ((py.up g4.st).up g5.st)) (ee_var 3 rfl ((py.up g4.st).up g5.st))) (fun h => nomatch h)) g5.sub scL_pow.nd fun y' S7 H7 g7 py' => hs_nil ?_
        rw [← Int.pow_add] at py'
        exact ⟨S7, g4.trans (g5.trans g7), m / 2, by omega, a', b + b, ha', x', y', z', rfl, (px'.up g5.st).up g7.st, py', pz'.up g7.st⟩
      · have hm0 : m / 2 = 0 := by omega
        refine hs_set (i := 3) (P := Dt K (.int (n ^ b))) (ee_if ((et_gt (ee_var 4 rfl pz') ee_int).is (decide_eq_false (by omega))) (fun h => nomatch h) (fun _ => ee_var 3 rfl ((py.up g4.st).up g5.st))) g5.sub scL_pow.nd fun y' S7 H7 g7 py' => hs_nil ?_
        rw [hm0, Nat.mul_zero] at ha'
        exact ⟨S7, g4.trans (g5.trans g7), m / 2, by omega, a', b, by rw [hm0]; omega, x', y', z', rfl, (px'.up g5.st).up g7.st, py', pz'.up g7.st⟩
    · have hm : m = 0 := by simpa using hm
      subst hm
      refine hs_ret (ee_var 2 rfl (px.up g3.st)) g3.sub fun v S4 H4 g4 pv => q v S4 H4 (g1.trans (g2.trans (g3.trans g4))) ?_
      have e1 : a = en := by omega
      rw [e1] at pv
      exact pv
end
def gcdI (l : List Int) : Nat := l.foldl (fun g x => Nat.gcd g x.natAbs) 0
def lowI (l : List Int) : List Int := l.map fun x => x / (max (gcdI l : Int) 1)
def Flowest : List PyData → PyData → Prop := fun ds r => ∃ l : List Int, (ds = [lI l] ∨ ds = [tI l]) ∧ r = lI (lowI l) ∧ l.length ≤ 1000 ∧ ∀ x ∈ l, x.natAbs < 2 ^ 1000
section
variable {P : Program} {w : World} {K : PySem.W.Frag} {mg : Str → Option Value} {base : Heap} {f : Addr} {fd : FuncData}
def Fdot : List PyData → PyData → Prop := fun ds r => ∃ a b, ds = [tI a, tI b] ∧ r = .int (dotI a b) ∧ a.length ≤ 100 ∧ ∀ p ∈ a.zip b, CMulX p.1 p.2
theorem sc_dot : FnScope ["one", "other", "left", "right"] ["one", "other"] (defScope sdot) := ⟨rfl, rfl, rfl, by decide +kernel, rfl, by decide +kernel, by decide +kernel⟩
theorem ok_dot (F : FnT K "dot" sdot f fd) (g1 : mg "sum" = none) (g2 : mg "zip" = none) : FnOk P w K mg base CX0 1 f fd ["one", "other"] (spD K Fdot) := by
  refine fn_hs F sc_dot (fun vs H Q E h => ?_) (fun cdv A outer sh H vs Q E hr h => ?_)
  · obtain ⟨S, ds, d, _, hd, ⟨_, _, rfl, _⟩, _⟩ := h
    exact hd.1
  · obtain ⟨S, ds, r, s, hd, ⟨a, b, rfl, rfl, hl, hm⟩, q⟩ := h
    obtain ⟨v1, v2, rfl, p1, p2⟩ := hd.two
    refine hs_ret ((ee_sum rfl g1 (ee_lc2 (i := 2) (j := 3) (enc := .int) (f := mulD) (ps := (a.zip b).map fun p => (PyData.int p.1, PyData.int p.2)) rfl sc_dot.nd (blkOk_by (N := ["one", "other", "left", "right"]) (sc := defScope sdot) (by decide +kernel))
      (by rw [← zip_int]; exact ei_zipT g2 (ee_var 0 rfl p1) (ee_var 1 rfl p2)) ?_ ?_)).isd ?_) s q
    · rw [List.length_map, List.length_zip]
      show _ ≤ 16777216
      omega
    · intro p hp v u S2 s2 pv pu sh' H0 C cl fp
      obtain ⟨⟨x, y⟩, hxy, rfl⟩ := List.mem_map.mp hp
      exact ee_mul (hm (x, y) hxy) (ee_var 2 rfl pv) (ee_var 3 rfl pu)
    · rw [zip_mul]
theorem sc_lowest : FnScope ["numbers", "common", "number", "rest"] ["numbers"] (defScope slowest) := ⟨rfl, rfl, rfl, by decide +kernel, rfl, by decide +kernel, by decide +kernel⟩
theorem gcd_turn (a b : Nat) : Nat.gcd b (a % b) = Nat.gcd a b := by
  rw [Nat.gcd_comm, ← Nat.gcd_rec, Nat.gcd_comm]
theorem gcdI_take (l : List Int) {i : Nat} (hi : i < l.length) : gcdI (l.take (i + 1)) = Nat.gcd (gcdI (l.take i)) (l[i]).natAbs := by
  unfold gcdI
  rw [take_snoc (List.getElem?_eq_getElem hi), List.foldl_append]
  rfl
theorem gcd_lt {l : List Int} (h : ∀ x ∈ l, x.natAbs < 2 ^ 1000) : gcdI l < 2 ^ 1000 := by
  unfold gcdI
  have key : ∀ (l : List Int) (g : Nat), g < 2 ^ 1000 → (∀ x ∈ l, x.natAbs < 2 ^ 1000) → l.foldl (fun g x => Nat.gcd g x.natAbs) g < 2 ^ 1000 := fun l => by
    induction l with
    | nil => intro g hg _; exact hg
    | cons a l ih =>
      intro g hg hl
      refine ih _ ?_ fun x hx => hl x (List.mem_cons_of_mem _ hx)
      by_cases h0 : g = 0
      · subst h0; show Nat.gcd 0 a.natAbs < 2 ^ 1000; rw [Nat.gcd_zero_left]; exact hl a (List.mem_cons_self ..)
      · exact Nat.lt_of_le_of_lt (Nat.gcd_le_left _ (by omega)) hg
  exact key l 0 (Nat.pow_pos (by decide)) h
theorem ee_abs {X : Cx} {σ : L2.St} {S : Hp} {a : Expr} {p pos : Pos} {i : Int} (hm : X.mg "abs" = none) (ha : EE X σ S a (Dt X.K (.int i))) (hg : Gl X "abs" := by rfl) (hs : starEach [a] X.env = (false, eval a X.env) :: starEach [] X.env := by rfl) : EE X σ S (.Call (.Name "abs" p) [a] [] pos) (Dt X.K (.int (i.natAbs : Nat))) :=
  ee_callB call_abs hm (by first | rfl | decide +kernel | exact boot_abs) (ea_1 ha hs) (fun vs S1 H1 _ s al Q q => by
    obtain ⟨v, rfl, pv⟩ := al.one
    cases pv
    refine ⟨i, rfl, ?_⟩
    have e : (if i < 0 then -i else i) = ((i.natAbs : Nat) : Int) := by split <;> omega
    rw [e]
    exact q _ S1 H1 (Gr.refl s) (.int _)) hg (he := hs) (hpl := by rfl)
theorem ee_max2 {X : Cx} {σ : L2.St} {S : Hp} {a b : Expr} {p pos : Pos} {i j : Int} (hc : X.calm = true) (hm : X.mg "max" = none) (ha : EE X σ S a (Dt X.K (.int i))) (hb : EE X σ S b (Dt X.K (.int j))) (hg : Gl X "max" := by rfl) (hs : starEach [a, b] X.env = (false, eval a X.env) :: starEach [b] X.env := by rfl) (hs2 : starEach [b] X.env = (false, eval b X.env) :: starEach [] X.env := by rfl) (hpl : (backTo pos (starEach [b] X.env)).any (·.1) = false := by rfl) : EE X σ S (.Call (.Name "max" p) [a, b] [] pos) (Dt X.K (.int (max i j))) :=
  ee_callB (call_max2 hc) hm (by first | rfl | decide +kernel | exact boot_max) (ea_2 ha hb hs hs2) (fun vs S1 H1 _ s al Q q => by
    obtain ⟨v, w, rfl, pv, pw⟩ := al.two
    cases pv; cases pw
    refine ⟨i, j, rfl, ?_⟩
    have e : (if j > i then j else i) = max i j := by split <;> omega
    rw [e]
    exact q _ S1 H1 (Gr.refl s) (.int _)) hg (he := hs) (hpl := hpl)
theorem ok_lowest (F : FnT K "lowest" slowest f fd) (g1 : mg "abs" = none) (g2 : mg "max" = none) : FnOk P w K mg base CX0 1 f fd ["numbers"] (spD K Flowest) := by
  refine fn_hs F sc_lowest (fun vs H Q E h => ?_) (fun cdv A outer sh H vs Q E hr h => ?_)
  · obtain ⟨S, ds, d, _, hd, ⟨_, h, _⟩, _⟩ := h
    rcases h with rfl | rfl <;> exact hd.1
  · obtain ⟨S, ds, r, s, hd, ⟨l, hds, rfl, hl, hb⟩, q⟩ := h
    have hei : ∀ {σ : L2.St} {S1 : Hp} {tg : Expr} {p : Pos} {v : V}, σ[0]? = some (some v) → Dts K ds [v] S1 → EI (cxOf CX0 P w K mg base ["numbers", "common", "number", "rest"] "lowest" (defScope slowest) f cdv A outer sh H E).nox σ S1 tg (.Name "numbers" p) (Ds K (l.map .int)) := fun h0 hv => by
      rcases hds with rfl | rfl
      · obtain ⟨u, e, pu⟩ := hv.one
        cases e
        exact ei_list (ee_var 0 h0 pu)
      · obtain ⟨u, e, pu⟩ := hv.one
        cases e
        exact ei_tup (ee_var 0 h0 pu)
    obtain ⟨v1, rfl⟩ : ∃ v1, vs = [v1] := by
      rcases hds with rfl | rfl <;> (obtain ⟨u, e, _⟩ := hd.one; exact ⟨u, e⟩)
    refine hs_set (i := 1) ee_int s sc_lowest.nd fun w1 S1 H1 g1' q1 => ?_
    have hlen : ∀ K, (Ds K (l.map PyData.int)).length = l.length := fun K => by rw [ds_len, List.length_map]
    refine hs_for (fun i σ S2 => ∃ x a b, σ = [some v1, some x, a, b] ∧ Dt K (.int ((gcdI (l.take i) : Nat) : Int)) x S2) PassesOwn.never rfl (hei rfl (hd.up g1'.st)) g1'.sub (fun S2 H2 g3 => ⟨w1, none, none, rfl, q1.up g3.st⟩) ?_ ?_
    · rintro i Pi σ1 S2 H2 x S3 H3 hP g3 ⟨y, a, b, rfl, py⟩ g4 px
      have hi : i < l.length := by
        have := (List.getElem?_eq_some_iff.mp hP).1
        rw [hlen] at this; exact this
      have hz : (l.map PyData.int)[i]? = some (.int l[i]) := by rw [List.getElem?_map, List.getElem?_eq_getElem hi]; rfl
      rw [ds_get hz] at hP
      obtain rfl := Option.some.inj hP
      refine (eg_name (i := 2) sc_lowest.nd rfl (Or.inl rfl)) H3 g4.sub _ ?_
      refine hs_set (i := 3) (ee_abs g1 (ee_var 2 rfl px)) g4.sub sc_lowest.nd fun z S4 H4 g5 pz => ?_
      refine hs_while (fun m σ S5 => ∃ c : Nat, Nat.gcd c m = gcdI (l.take (i + 1)) ∧ ∃ y2 z2, σ = [some v1, some y2, some x, some z2] ∧ Dt K (.int ((c : Nat) : Int)) y2 S5 ∧ Dt K (.int ((m : Nat) : Int)) z2 S5) (l[i]).natAbs PassesOwn.never g5.sub ⟨gcdI (l.take i), (gcdI_take l hi).symm, y, z, rfl, py.up (g4.st.trans g5.st), pz⟩ ?_
      rintro m σ S5 H5 g6 ⟨c, hc, y2, z2, rfl, py2, pz2⟩
      refine ⟨decide ((0 : Int) < (m : Nat)), et_gt (ee_var 3 rfl pz2) ee_int, fun hm S6 H6 g7 => ?_, fun hm S6 H6 g7 => ?_⟩
      · have hm : 0 < m := by simpa using hm
        have py2 := py2.up g7.st
        have pz2 := pz2.up g7.st
        refine hs_unp2 (i := 1) (j := 3) rfl sc_lowest.nd (ee_var 3 rfl pz2) ((ee_mod (by omega) (ee_var 1 rfl py2) (ee_var 3 rfl pz2)).isd (d' := .int ((c % m : Nat) : Int)) (by push_cast; rfl)) g7.sub fun u1 u2 S7 H7 pu1 pu2 g8 => hs_nil ?_
        exact ⟨S7, g8, c % m, Nat.mod_lt c hm, m, by rw [gcd_turn]; exact hc, u1, u2, rfl, pu1, pu2⟩
      · have hm : m = 0 := by simpa using hm
        subst hm
        rw [Nat.gcd_zero_right] at hc
        refine hs_nil ⟨S6, g5.trans (g6.trans g7), y2, some x, some z2, rfl, ?_⟩
        rw [← hc]; exact py2.up g7.st
    · rintro σ1 S2 H2 g3 ⟨y, a, b, rfl, py⟩
      rw [hlen, List.take_length] at py
      refine hs_ret ((ee_lc (i := 2) (enc := .int) (f := fun d => (match d with | .int x => x | _ => 0) / max ((gcdI l : Nat) : Int) 1) rfl sc_lowest.nd (blkOk_by (N := ["numbers", "common", "number", "rest"]) (sc := defScope slowest) (by decide +kernel)) (hei rfl (hd.up (g1'.st.trans g3.st))) (by rw [List.length_map]; show _ ≤ 16777216; omega) ?_).isd ?_) g3.sub fun v S3 H3 g4 pv => q v S3 H3 (g1'.trans (g3.trans g4)) pv
      · intro d hd' v S4 s4 pv sh' H0 C cl fp
        obtain ⟨x, hx, rfl⟩ := List.mem_map.mp hd'
        have pv : Dt K (.int x) v S4 := pv
        refine ee_fdiv (wide_div (b := 1001) (by omega) ?_ (by decide) (by decide)) (ee_var 2 rfl pv) (ee_max2 rfl g2 (ee_var 1 rfl (py.up s4)) ee_int)
        have h1 := gcd_lt hb
        have h2 : (2 : Nat) ^ 1000 < 2 ^ 1001 := Nat.pow_lt_pow_right (by decide) (by decide)
        have h3 : 1 < 2 ^ 1001 := Nat.one_lt_two_pow (by decide)
        rcases Int.max_def ((gcdI l : Nat) : Int) 1 with h | h
        have h4 : (max ((gcdI l : Nat) : Int) 1).natAbs = max (gcdI l) 1 := by omega
        rw [h4]
        exact Nat.max_lt.mpr ⟨by omega, h3⟩
      · unfold lI lowI
        simp only [List.map_map, Function.comp_def]
end
end K18
namespace K18
open PySem PySem.Spec PyProof.Rows L2 Z Y
def alpha : Str := "abcdefghijklmnopqrstuvwxyz"
theorem alpha_at : ∀ n : Nat, n < 26 → atI alpha.cps.toList (n : Int) = some (97 + n) := by
  have h : ((List.range 26).all fun n => decide (atI alpha.cps.toList ((n : Nat) : Int) = some (97 + n))) = true := by decide +kernel
  intro n hn
  exact of_decide_eq_true (List.all_eq_true.mp h n (List.mem_range.mpr hn))
theorem alpha_len : alpha.length ≤ sizeLine := by decide +kernel
/-- the columns that a law draws -/
def colCode (a s : Int) (i : Nat) : Nat := 97 + ((a + s * (i : Int)) % 26).toNat
def cols (a s : Int) (n : Nat) : Str := ⟨((List.range n).map (colCode a s)).toArray⟩
def stepOk (s : Int) : Prop := s ∈ ([1, 25, 3, 7, 11] : List Int)
theorem col_range (a s : Int) (i : Nat) : 97 ≤ colCode a s i ∧ colCode a s i ≤ 122 := by
  unfold colCode
  have h1 := Int.emod_nonneg (a + s * (i : Int)) (show (26 : Int) ≠ 0 by decide)
  have h2 := Int.emod_lt_of_pos (a + s * (i : Int)) (show (0 : Int) < 26 by decide)
  omega
theorem col_inj {a s : Int} (hs : stepOk s) {i j : Nat} (hi : i < 3) (hj : j < 3) (h : colCode a s i = colCode a s j) : i = j := by
  unfold colCode at h
  have hs : s = 1 ∨ s = 25 ∨ s = 3 ∨ s = 7 ∨ s = 11 := by simpa [stepOk] using hs
  have hi : i = 0 ∨ i = 1 ∨ i = 2 := by omega
  have hj : j = 0 ∨ j = 1 ∨ j = 2 := by omega
  rcases hs with rfl | rfl | rfl | rfl | rfl <;> rcases hi with rfl | rfl | rfl <;> rcases hj with rfl | rfl | rfl <;> omega
theorem cols_nodup {a s : Int} (hs : stepOk s) {n : Nat} (hn : n ≤ 3) : ((List.range n).map (colCode a s)).Nodup := by
  rw [List.nodup_iff_pairwise_ne, List.pairwise_map]
  refine List.Pairwise.imp_of_mem (fun {x y} hx hy hxy h => hxy ?_) List.nodup_range
  rw [List.mem_range] at hx hy
  exact col_inj hs (by omega) (by omega) h
theorem cols_size (a s : Int) (n : Nat) : (cols a s n).cps.size = n := by unfold cols; simp
theorem joinL_nil : ∀ ps : List (List Nat), TL.joinL [] ps = ps.flatten
  | [] => rfl
  | [p] => by simp [TL.joinL]
  | p :: q :: r => by
    show p ++ ([] ++ TL.joinL [] (q :: r)) = _
    rw [joinL_nil (q :: r), List.nil_append]
    simp
theorem join_signs (cs : List Nat) : Txt.join Str.empty (cs.map fun c => (⟨#[c]⟩ : Str)) = ⟨cs.toArray⟩ := by
  refine TL.ext_tl ?_
  rw [TL.join_eq, TL.tl_join]
  show TL.joinL [] _ = cs
  rw [joinL_nil, List.map_map]
  induction cs with
  | nil => rfl
  | cons c cs ih => rw [List.map_cons, List.flatten_cons, ih]; rfl
section
variable {P : Program} {w : World} {K : PySem.W.Frag} {mg : Str → Option Value} {base : Heap} {f : Addr} {fd : FuncData}
def Fletters : List PyData → (PyData → Prop) → Prop := fun ds G => ∃ n : Nat, ds = [.int n] ∧ n ≤ 1000 ∧ G = fun d => ∃ a st : Int, d = .str (cols a st n) ∧ stepOk st
theorem scL_letters : FnScope ["_law_box", "_law_many", "_law_letters_here", "_law_first", "_law_step", "_law_at"] ["_law_box", "_law_many"] (defScope sL_letters) := ⟨rfl, rfl, rfl, by decide +kernel, rfl, by decide +kernel, by decide +kernel⟩
theorem ok_L_letters (F : FnT K "_law_letters" sL_letters f fd) (D1 : KD P w K mg base "_law_take" 1 (spB K Ftake)) (D2 : KD P w K mg base "_law_one" 2 (spB K Fone)) (g1 : mg "range" = none) (g2 : mg "int" = none) : FnOk P w K mg base CX0 3 f fd ["_law_box", "_law_many"] (spB K Fletters) := by
  refine fn_hs F scL_letters (fun vs H Q E h => ?_) (fun cdv A outer sh H vs Q E hr h => ?_)
  · obtain ⟨S, v, ws, ds, G, rfl, _, _, hd, ⟨n, rfl, _⟩, _⟩ := h
    have := hd.1
    simp at this
    simp [this]
  · obtain ⟨S, v, ws, ds, G, rfl, s, hb, hd, ⟨n, rfl, hn, rfl⟩, q⟩ := h
    obtain ⟨v1, rfl, p1⟩ := hd.one
    refine hs_set (i := 2) ee_str s scL_letters.nd fun w1 S1 H1 gr1 q1 => ?_
    have hb1 : BX v S1 := Mn.up gr1.st hb
    refine hs_unpackE (i := 3) (j := 4) (F := fun d => ∃ a : Int, d = .int a ∧ 0 ≤ a ∧ a < 26) (G := fun d => ∃ a : Int, d = .int a ∧ stepOk a) rfl scL_letters.nd
      (ee_pairE ((ee_callBx D1 (hr.mono (by decide)) ⟨26, rfl, by decide, by decide, rfl⟩ (ea_2 (ee_var 0 rfl hb1) ee_int)).exi fun d h => h)
        ((ee_callBx D2 hr ⟨[.int 1, .int 25, .int 3, .int 7, .int 11], rfl, by decide, by decide, rfl⟩ (ea_2 (ee_var 0 rfl hb1) (ee_lst (ds := [.int 1, .int 25, .int 3, .int 7, .int 11]) (ea_cons ee_int (ea_cons ee_int (ea_cons ee_int (ea_cons ee_int (ea_cons ee_int ea_nil)))))))).exi fun d h => by
          rcases List.mem_cons.mp h with rfl | h
          · exact ⟨1, rfl, by simp [stepOk]⟩
          rcases List.mem_cons.mp h with rfl | h
          · exact ⟨25, rfl, by simp [stepOk]⟩
          rcases List.mem_cons.mp h with rfl | h
          · exact ⟨3, rfl, by simp [stepOk]⟩
          rcases List.mem_cons.mp h with rfl | h
          · exact ⟨7, rfl, by simp [stepOk]⟩
          rcases List.mem_cons.mp h with rfl | h
          · exact ⟨11, rfl, by simp [stepOk]⟩
          cases h)) gr1.sub ?_
    rintro d1 d2 u1 u2 S2 H2 ⟨a, rfl, a0, a1⟩ ⟨st, rfl, hst⟩ gr2 k1 k2
    have p2 := (p1.up gr1.st).up gr2.st
    have q2 : Dt K (.str alpha) w1 S2 := q1.up gr2.st
    let el : PyData → Str := fun d => match d with
      | .int i => ⟨#[colCode a st i.toNat]⟩
      | _ => Str.empty
    have hst' : st = 1 ∨ st = 25 ∨ st = 3 ∨ st = 7 ∨ st = 11 := by simpa [stepOk] using hst
    have e0 : (upto n).map el = ((List.range n).map (colCode a st)).map fun c => (⟨#[c]⟩ : Str) := by
      unfold upto
      rw [List.map_map, List.map_map]
      rfl
    have elen : ∀ z ∈ (upto n).map el, z.length = 1 := fun z hz => by
      rw [e0] at hz
      obtain ⟨c, _, rfl⟩ := List.mem_map.mp hz
      rfl
    have esum : (((upto n).map el).map (·.length)).sum = n := by
      have e1 : ((upto n).map el).map (·.length) = (upto n).map fun _ => 1 := by
        rw [List.map_map]
        refine List.map_congr_left fun d hd => elen (el d) (List.mem_map.mpr ⟨d, hd, rfl⟩)
      rw [e1]
      have : ∀ l : List PyData, (l.map fun _ => 1).sum = l.length := fun l => by
        induction l with
        | nil => rfl
        | cons a l ih => simp [ih]; omega
      rw [this, upto_len]
    refine hs_ret (ee_join (z := Str.empty) (ys := (upto n).map el) (by rw [esum, List.length_map, upto_len]; show n + n * 0 ≤ _; omega) ee_str (ee_lc (i := 5) (enc := .str) (f := el) rfl scL_letters.nd (blkOk_by (N := ["_law_box", "_law_many", "_law_letters_here", "_law_first", "_law_step", "_law_at"]) (sc := defScope sL_letters) (by decide +kernel))
      (ei_range g1 (by omega) (ee_var 1 rfl p2)) (by rw [upto_len]; show _ ≤ 16777216; omega) ?_)) gr2.sub ?_
    · intro d hd v S3 s3 pv sh' H0 C cl fp
      obtain ⟨i, hi, rfl⟩ := List.mem_map.mp hd
      rw [List.mem_range] at hi
      have b := @Int.emod_nonneg (a + st * (i : Nat)) 26 (by decide)
      have b2 := Int.emod_lt_of_pos (a + st * (i : Nat)) (show (0 : Int) < 26 by decide)
      have hat := alpha_at ((a + st * (i : Nat)) % 26).toNat (by omega)
      rw [Int.toNat_of_nonneg b] at hat
      exact ee_ixS alpha_len hat (ee_var 2 rfl (q2.up s3)) (ee_mod (by decide) (ee_intOf g2 (ee_add (ee_var 3 rfl (k1.up s3)) (ee_mulS (.inl (by rcases hst' with rfl | rfl | rfl | rfl | rfl <;> decide)) (ee_var 4 rfl (k2.up s3)) (ee_var 5 rfl pv)))) ee_int)
    · intro u S3 H3 gr3 pu
      rw [e0, join_signs] at pu
      exact q _ ⟨a, st, rfl, hst⟩ u S3 H3 (gr1.trans (gr2.trans gr3)) pu
def Fsome : List PyData → (PyData → Prop) → Prop := fun ds G => ∃ (n : Nat) (m z : Int), ds = [.int n, .int m, .int z] ∧ n ≤ 1000 ∧ 0 ≤ m ∧ m < 1000000 ∧ 0 ≤ z ∧ z < 1000 ∧
  G = fun d => ∃ ps : List (List Int × List Int), d = .list (ps.map ruleD) ∧ (ps.length : Int) ≤ z ∧ ∀ p ∈ ps, (p.1.length = n ∧ ∀ x ∈ p.1, 0 ≤ x ∧ x ≤ m) ∧ (p.2.length = n ∧ ∀ x ∈ p.2, 0 ≤ x ∧ x ≤ m)
theorem scL_some : FnScope ["_law_box", "_law_many", "_law_most", "_law_size", "_law_at"] ["_law_box", "_law_many", "_law_most", "_law_size"] (defScope sL_some_facts) := ⟨rfl, rfl, rfl, by decide +kernel, rfl, by decide +kernel, by decide +kernel⟩
theorem paired_any {α : Type} {enc : α → PyData} {ds rs : List PyData} {G : α → Prop} (h : Paired (fun _ d => ∃ i, d = enc i ∧ G i) ds rs) : ∃ l : List α, rs = l.map enc ∧ l.length = ds.length ∧ ∀ x ∈ l, G x := by
  induction h with
  | nil => exact ⟨[], rfl, rfl, fun _ h => nomatch h⟩
  | cons g _ ih =>
    obtain ⟨i, rfl, gi⟩ := g
    obtain ⟨l, rfl, h2, h3⟩ := ih
    exact ⟨i :: l, rfl, by simp [h2], fun x hx => by
      rcases List.mem_cons.mp hx with rfl | hx
      · exact gi
      · exact h3 x hx⟩
theorem ok_L_some_facts (F : FnT K "_law_some_facts" sL_some_facts f fd) (D1 : KD P w K mg base "_law_take" 1 (spB K Ftake)) (D2 : KD P w K mg base "_law_exp" 2 (spB K Fexp)) (g1 : mg "range" = none) : FnOk P w K mg base CX0 3 f fd ["_law_box", "_law_many", "_law_most", "_law_size"] (spB K Fsome) := by
  refine fn_hs F scL_some (fun vs H Q E h => ?_) (fun cdv A outer sh H vs Q E hr h => ?_)
  · obtain ⟨S, v, ws, ds, G, rfl, _, _, hd, ⟨n, m, z, rfl, _⟩, _⟩ := h
    have := hd.1
    simp at this
    simp [this]
  · obtain ⟨S, v, ws, ds, G, rfl, s, hb, hd, ⟨n, m, z, rfl, hn, m0, m1, z0, z1, rfl⟩, q⟩ := h
    obtain ⟨v1, v2, v3, rfl, p1, p2, p3⟩ := hd.three
    refine hs_ret ((ee_lcW (i := 4) (F := fun _ d => ∃ p : List Int × List Int, d = ruleD p ∧ (p.1.length = n ∧ ∀ x ∈ p.1, 0 ≤ x ∧ x ≤ m) ∧ (p.2.length = n ∧ ∀ x ∈ p.2, 0 ≤ x ∧ x ≤ m)) rfl scL_some.nd (blkOk_by (N := ["_law_box", "_law_many", "_law_most", "_law_size", "_law_at"]) (sc := defScope sL_some_facts) (by decide +kernel))
      (eiw_range (F := fun k => (k : Int) ≤ z) g1 (fun k hk => by omega) ((ee_callBx D1 (hr.mono (by decide)) ⟨z + 1, rfl, by omega, by omega, rfl⟩ (ea_2 (ee_var 0 rfl hb) (ee_add (ee_var 3 rfl p3) ee_int))).exi fun d ⟨i, e, i0, i1⟩ => ⟨i.toNat, by rw [e]; congr 1; omega, by omega⟩)) (fun ds ⟨k, hk, e⟩ => by rw [e, upto_len]; show _ ≤ 16777216; omega) ?_).exi
      (G := fun d => ∃ ps : List (List Int × List Int), d = .list (ps.map ruleD) ∧ (ps.length : Int) ≤ z ∧ ∀ p ∈ ps, (p.1.length = n ∧ ∀ x ∈ p.1, 0 ≤ x ∧ x ≤ m) ∧ (p.2.length = n ∧ ∀ x ∈ p.2, 0 ≤ x ∧ x ≤ m)) fun d ⟨rs, e, ds, ⟨k, hk, e2⟩, hp⟩ => ?_) s ?_
    · intro ds hds d hd v S2 s2 pv sh' H0 C cl fp
      have hb2 : BX _ S2 := Mn.up s2 hb
      refine (ee_pairE (ee_callBx D2 hr ⟨n, m, rfl, hn, m0, m1, rfl⟩ (ea_cons (ee_var 0 rfl hb2) (ea_2 (ee_var 1 rfl (p1.up s2)) (ee_var 2 rfl (p2.up s2))))) (ee_callBx D2 hr ⟨n, m, rfl, hn, m0, m1, rfl⟩ (ea_cons (ee_var 0 rfl hb2) (ea_2 (ee_var 1 rfl (p1.up s2)) (ee_var 2 rfl (p2.up s2)))))).exi ?_
      rintro d ⟨d1, d2, rfl, ⟨l1, rfl, h1⟩, ⟨l2, rfl, h2⟩⟩
      exact ⟨(l1, l2), rfl, h1, h2⟩
    · obtain ⟨l, rfl, h2, h3⟩ := paired_any (enc := ruleD) hp
      exact ⟨l, e, by rw [h2, e2, upto_len]; exact hk, h3⟩
    · rintro v S' H' g ⟨d, hd, pd⟩
      exact q d hd v S' H' g pd
end
abbrev FnM (K : PySem.W.Frag) (x q : Str) (st : Stmt) (f : Addr) (fd : FuncData) : Prop := FunD K x q (defArgs st) (defBody st) (defScope st) [] [] f fd
/-! ## schemas -/
def ColOk (z : Str) : Prop := z.cps.all (· < 128) = true ∧ z.cps.toList.Nodup ∧ 1 ≤ z.cps.size ∧ z.cps.size ≤ 3 ∧ ∀ c ∈ z.cps.toList, 97 ≤ c ∧ c ≤ 122
def RuleOk (n : Nat) (p : List Int × List Int) : Prop := (p.1.length = n ∧ ∀ x ∈ p.1, 0 ≤ x ∧ x ≤ 6) ∧ (p.2.length = n ∧ ∀ x ∈ p.2, 0 ≤ x ∧ x ≤ 6)
abbrev Rules := List (List Int × List Int)
def SchOk (z : Str) (ps : Rules) : Prop := ColOk z ∧ ps.length ≤ 4 ∧ ∀ p ∈ ps, RuleOk z.cps.size p
def schF (z : Str) (l : Addr) : List (Str × V) := [("columns", .str z), ("width", .int z.cps.size), ("_facts", .ref l)]
def SchL (K : PySem.W.Frag) (C : Addr) (z : Str) (ps : Rules) (l : Addr) : V → Hp → Prop := fun v S => ∃ a dx xs, v = .ref a ∧ S a = some (.ins C dx (schF z l)) ∧ S l = some (.lst xs) ∧ Dts K (ps.map ruleD) xs S ∧ xs.length ≤ sizeLine
def SchP (K : PySem.W.Frag) (C : Addr) (z : Str) (ps : Rules) : V → Hp → Prop := fun v S => ∃ l, SchL K C z ps l v S
instance {K : PySem.W.Frag} {C : Addr} {z : Str} {ps : Rules} {l : Addr} : Mn (SchL K C z ps l) := ⟨fun s ⟨a, dx, xs, e, h1, h2, h3, h4⟩ => ⟨a, dx, xs, e, s _ _ h1, s _ _ h2, h3.up s, h4⟩⟩
instance {K : PySem.W.Frag} {C : Addr} {z : Str} {ps : Rules} : Mn (SchP K C z ps) := ⟨fun s ⟨l, h⟩ => ⟨l, Mn.up s h⟩⟩
/-- the width is told -/
def WidP (C : Addr) (w : Int) (P0 : V → Hp → Prop) : Prop := ∀ v S, P0 v S → ∃ a dx fs, v = .ref a ∧ S a = some (.ins C dx fs) ∧ fs.lookup ("width" : Str) = some (.int w)
theorem SchP.ins {K : PySem.W.Frag} {C : Addr} {z : Str} {ps : Rules} : ∀ v S, SchP K C z ps v S → ∃ a dx fs, v = .ref a ∧ S a = some (.ins C dx fs) := fun v S ⟨l, a, dx, xs, e, h, _⟩ => ⟨a, dx, _, e, h⟩
theorem SchP.insP {K : PySem.W.Frag} {C : Addr} {z : Str} {ps : Rules} {m : Str} (h : ∀ l, (schF z l).lookup m = none := by intro _; rfl) : InsP C m (SchP K C z ps) := fun v S ⟨l, a, dx, xs, e, q, _⟩ => ⟨a, dx, _, e, q, h l⟩
/-- a method that tells data -/
def spO (K : PySem.W.Frag) (F : (V → Hp → Prop) → List PyData → PyData → Prop) : Sp := fun vs H Q _ => ∃ S P0 v ws ds d, vs = v :: ws ∧ Same S H ∧ Mn P0 ∧ P0 v S ∧ Dts K ds ws S ∧ F P0 ds d ∧ ∀ u S' H', Gr S H S' H' → Dt K d u S' → Q u H'
theorem spO_E {K : PySem.W.Frag} {S : Hp} {ds : List PyData} {d : PyData} {P0 : V → Hp → Prop} {F : (V → Hp → Prop) → List PyData → PyData → Prop} [m : Mn P0] (hF : F P0 ds d) : SpE (spO K F) S (P0 :: Ds K ds) (Dt K d) := fun vs S1 H1 _ s al Q q => by
  cases al with
  | cons p r => exact ⟨S1, P0, _, _, ds, d, rfl, s, m, p, al_dts r, hF, q⟩
section
variable {P : Program} {w : World} {K : PySem.W.Frag} {mg : Str → Option Value} {base : Heap} {f : Addr} {fd : FuncData}
def stepI (p : List Int × List Int) : List Int := (p.1.zip p.2).map fun q => q.2 - q.1
def unI (d : PyData) : List Int := match d with
  | .tuple ds => ds.map fun x => match x with | .int i => i | _ => 0
  | _ => []
theorem unI_tI (l : List Int) : unI (tI l) = l := by
  show (l.map PyData.int).map _ = l
  rw [List.map_map]
  exact (List.map_congr_left (fun _ _ => rfl)).trans (List.map_id l)
def subD (q : PyData × PyData) : Int := match q with
  | (.int x, .int y) => y - x
  | _ => 0
theorem zip_sub (a b : List Int) : ((a.zip b).map fun p => (PyData.int p.1, PyData.int p.2)).map subD = stepI (a, b) := by
  rw [List.map_map]; rfl
def isRow (d : PyData) (w : Int) : Bool := match d with
  | .tuple ds => decide ((ds.length : Int) = w) && ds.all fun x => isNum x 1
  | _ => false
theorem nums_of {l : Int} : ∀ {ds : List PyData}, (ds.all fun x => isNum x l) = true → ∃ ns : List Int, ds = ns.map PyData.int ∧ ∀ n ∈ ns, l ≤ n
  | [], _ => ⟨[], rfl, fun _ h => nomatch h⟩
  | d :: ds, h => by
    rw [List.all_cons, Bool.and_eq_true] at h
    obtain ⟨ns, e, hn⟩ := nums_of h.2
    cases d with
    | int i =>
      have hi : l ≤ i := of_decide_eq_true h.1
      exact ⟨i :: ns, by rw [e]; rfl, fun n hn' => by
        rcases List.mem_cons.mp hn' with rfl | h2
        · exact hi
        · exact hn n h2⟩
    | _ => exact absurd h.1 (by simp [isNum])
def SmallD (d : PyData) : Prop := ∀ i ∈ unI d, i.natAbs ≤ 10000000
theorem powOk_small {n e : Int} (hn : n.natAbs ≤ 10000000) (h0 : 0 ≤ e) (h6 : e ≤ 6) : PowOk n e := by
  refine ⟨h0, ?_⟩
  have h1 : max 1 n.natAbs ≤ 2 ^ 24 := by omega
  have h2 : (max 1 n.natAbs) ^ e.toNat ≤ (2 ^ 24) ^ e.toNat := Nat.pow_le_pow_left h1 _
  have h3 : ((2 : Nat) ^ 24) ^ e.toNat ≤ (2 ^ 24) ^ 6 := Nat.pow_le_pow_right (by decide) (by omega)
  have h4 : ((2 : Nat) ^ 24) ^ 6 < 2 ^ 2000000 := by
    rw [← Nat.pow_mul]
    exact Nat.pow_lt_pow_right (by decide) (by decide)
  omega
theorem monoOk_small {es ns : List Int} {n : Nat} (h3 : n ≤ 3) (h1 : es.length = n) (h2 : ns.length = n) (he : ∀ x ∈ es, 0 ≤ x ∧ x ≤ 6) (hn : ∀ i ∈ ns, i.natAbs ≤ 10000000) : MonoOk es ns := by
  refine ⟨by omega, by omega, fun p hp => ?_⟩
  have a := List.of_mem_zip hp
  exact powOk_small (hn _ a.2) (he _ a.1).1 (he _ a.1).2
theorem bits_small {i : Int} (h : i.natAbs ≤ 10000000) : Builtin.Int.intBits i ≤ 100 := by
  unfold Builtin.Int.intBits
  split
  · omega
  · have h1 : i.natAbs.log2 ≤ 24 := by
      by_cases h0 : i.natAbs = 0
      · rw [h0]; decide
      · have := (Nat.log2_lt h0 (k := 25)).mpr (by omega)
        omega
    omega
theorem mulx_small {i j : Int} (hi : i.natAbs ≤ 10000000) (hj : j.natAbs ≤ 10000000) : CMulX i j := by
  unfold CMulX
  have := bits_small hi
  have := bits_small hj
  omega
theorem step_small {n : Nat} {p : List Int × List Int} (h : RuleOk n p) : ∀ i ∈ stepI p, i.natAbs ≤ 10000000 := fun i hi => by
  unfold stepI at hi
  obtain ⟨q, hq, rfl⟩ := List.mem_map.mp hi
  have a := List.of_mem_zip hq
  have b := h.1.2 _ a.1
  have c := h.2.2 _ a.2
  show (q.2 - q.1).natAbs ≤ 10000000
  omega
theorem step_len {n : Nat} {p : List Int × List Int} (h : RuleOk n p) : (stepI p).length = n := by
  unfold stepI
  rw [List.length_map, List.length_zip, h.1.1, h.2.1]; omega
def ruleQ (p : List Int × List Int) : PyData × PyData := (tI p.1, tI p.2)
theorem ruleQ_t (ps : Rules) : (ps.map ruleQ).map tupP = ps.map ruleD := by
  rw [List.map_map]; rfl
def compScope (e : Expr) : Scope := match e with
  | .ListComp _ _ sc _ => sc
  | _ => defScope (.Pass ⟨0, 0, 0, 0⟩)
def retE (b : List Stmt) : Expr := match b with
  | [.Return (some e) _] => e
  | _ => .Constant .none 0 ⟨0, 0, 0, 0⟩
def FchkC : List PyData → PyData → Prop := fun ds r => ∃ z, ds = [.str z] ∧ r = .none ∧ ColOk z
theorem sc_check_columns : FnScope ["columns", "letter"] ["columns"] (defScope scheck_columns) := ⟨rfl, rfl, rfl, by decide +kernel, rfl, by decide +kernel, by decide +kernel⟩
theorem abc_mem {c : Nat} (h : 97 ≤ c ∧ c ≤ 122) : c ∈ ("abcdefghijklmnopqrstuvwxyz" : Str).cps.toList := by
  have key : ∀ k, k < 26 → 97 + k ∈ ("abcdefghijklmnopqrstuvwxyz" : Str).cps.toList := by decide +kernel
  have := key (c - 97) (by omega)
  rwa [show 97 + (c - 97) = c by omega] at this
theorem ok_check_columns (F : FnT K "check_columns" scheck_columns f fd) (g1 : mg "isinstance" = none) (g2 : mg "str" = none) (g3 : mg "len" = none) (g4 : mg "set" = none) : FnOk P w K mg base CX0 1 f fd ["columns"] (spD K FchkC) := by
  refine fn_hs F sc_check_columns (fun vs H Q E h => ?_) (fun cdv A outer sh H vs Q E hr h => ?_)
  · obtain ⟨S, ds, d, _, hd, ⟨_, rfl, _⟩, _⟩ := h
    exact hd.1
  · obtain ⟨S, ds, r, s, hd, ⟨z, rfl, rfl, ha, hnd, h1, h3, hc⟩, q⟩ := h
    obtain ⟨v1, rfl, p1⟩ := hd.one
    have hz : z.length ≤ sizeLine := Nat.le_trans h3 (by show 3 ≤ 16777216; decide)
    refine hs_ifN ((et_w (ew_or (et_not (et_val (ee_isi (isD_ok (.str z) (T := "str") (by simp)) g1 g2 boot_str (ee_var 0 rfl p1)))) fun _ => ew_or (et_not (et_chainLE ee_int (ee_len g3 rfl (ee_var 0 rfl p1) (fun x hx => by cases hx; exact hz)) ee_int)) fun _ =>
      ew_or1 (et_neI (ee_lenSetS g3 g4 (ee_var 0 rfl p1) ha hnd (by omega) rfl) (ee_len g3 rfl (ee_var 0 rfl p1) (fun x hx => by cases hx; exact hz))))).is ?_) s fun S1 H1 g => ?_
    · have e1 : ((1 : Int) ≤ (z.length : Int)) := by have : z.length = z.cps.size := rfl; omega
      have e2 : ((z.length : Int) ≤ 3) := by have : z.length = z.cps.size := rfl; omega
      have e3 : ((z.cps.size : Nat) : Int) = (z.length : Int) := rfl
      simp [isDs, e1, e2, e3]
    · refine hs_for (fun i σ S2 => ∃ a, σ = [some (.str z), a]) PassesOwn.never rfl (ei_str (ee_var 0 rfl (p1.up g.st))) g.sub (fun S2 H2 g3 => ⟨none, by cases p1; rfl⟩) ?_ ?_
      · rintro i Pi σ1 S2 H2 x S3 H3 hP g3 ⟨a, rfl⟩ g4 px
        have hi : i < z.cps.toList.length := by
          have := (List.getElem?_eq_some_iff.mp hP).1
          rw [ds_len] at this; unfold strD at this; simpa using this
        have hzi : (strD z)[i]? = some (.str ⟨#[z.cps.toList[i]]⟩) := by unfold strD; rw [List.getElem?_map, List.getElem?_eq_getElem hi]; rfl
        rw [ds_get hzi] at hP
        obtain rfl := Option.some.inj hP
        refine (eg_name (i := 1) sc_check_columns.nd rfl (Or.inl rfl)) H3 g4.sub _ ?_
        have hm := abc_mem (hc _ (List.getElem_mem hi))
        refine hs_ifN ((et_notInC (ee_var 1 rfl px) ee_str).is ?_) g4.sub fun S4 H4 g5 => hs_nil ?_
        · rw [decide_eq_true hm]; rfl
        · exact ⟨S4, g5, _, rfl⟩
      · rintro σ1 S2 H2 g3 ⟨a, rfl⟩
        exact hs_nil (q _ _ _ (g.trans g3) .non)
def Fsch_isExp (C : Addr) : (V → Hp → Prop) → List PyData → PyData → Prop := fun P0 ds d => ∃ x w, WidP C w P0 ∧ ds = [x] ∧ d = .bool (isExp x w)
theorem sc_Sis_exponent : FnScope ["self", "value"] ["self", "value"] (defScope sSchema__is_exponent) := ⟨rfl, rfl, rfl, by decide +kernel, rfl, by decide +kernel, by decide +kernel⟩
theorem ok_Sis_exponent {C : Addr} (F : FnM K "is_exponent" "Schema.is_exponent" sSchema__is_exponent f fd) (D1 : KD P w K mg base "is_exponent_schemas" 2 (spD K FisExp)) (c : Cls K C) (n1 : NoAttr K C "width") : FnOk P w K mg base CX0 3 f fd ["self", "value"] (spO K (Fsch_isExp C)) := by
  refine fn_hs F sc_Sis_exponent (fun vs H Q E h => ?_) (fun cdv A outer sh H vs Q E hr h => ?_)
  · obtain ⟨S, P0, v, ws, ds, d, rfl, _, _, _, hd, ⟨_, _, _, rfl, _⟩, _⟩ := h
    have := hd.1
    simp at this
    simp [this]
  · obtain ⟨S, P0, v, ws, ds, d, rfl, s, m, pv, hd, ⟨x, w', hw, rfl, rfl⟩, q⟩ := h
    obtain ⟨u, rfl, pu⟩ := hd.one
    haveI := m
    exact hs_ret (ee_callD D1 hr ⟨x, w', rfl, rfl⟩ (ea_2 (ee_var 1 rfl pu) (ee_fld (P := Dt K (.int w')) (ee_var 0 rfl pv) (fun v S1 h => by
      obtain ⟨a, dx, fs, e, h1, h2⟩ := hw v S1 h
      exact ⟨a, dx, fs, .int w', e, h1, h2, .int w'⟩) c n1))) s q
theorem SchP.wfld {K : PySem.W.Frag} {C : Addr} {z : Str} {ps : Rules} : ∀ v S1, SchP K C z ps v S1 → ∃ a dx fs u, v = .ref a ∧ S1 a = some (.ins C dx fs) ∧ fs.lookup ("width" : Str) = some u ∧ Dt K (.int z.cps.size) u S1 := fun v S ⟨l, a, dx, xs, e, h, _⟩ => ⟨a, dx, _, _, e, h, rfl, .int _⟩
theorem SchP.ffld {K : PySem.W.Frag} {C : Addr} {z : Str} {ps : Rules} : ∀ v S1, SchP K C z ps v S1 → ∃ a dx fs u, v = .ref a ∧ S1 a = some (.ins C dx fs) ∧ fs.lookup ("_facts" : Str) = some u ∧ Dt K (.list (ps.map ruleD)) u S1 := fun v S ⟨l, a, dx, xs, e, h, h2, h3, h4⟩ => ⟨a, dx, _, _, e, h, rfl, Dt.lst_mk h2 h3 h4⟩
def FScont (C : Addr) (K : PySem.W.Frag) : (V → Hp → Prop) → List PyData → PyData → Prop := fun P0 ds r => ∃ z ps d, P0 = SchP K C z ps ∧ SchOk z ps ∧ ds = [d] ∧ SmallD d ∧ r = .bool (isRow d z.cps.size && keepsI ps (unI d))
theorem sc_Scont : FnScope ["self", "row", "item", "low", "high"] ["self", "row"] (defScope sSchema____contains__) := ⟨rfl, rfl, rfl, by decide +kernel, rfl, by decide +kernel, by decide +kernel⟩
theorem ok_Scont {C : Addr} (F : FnM K "__contains__" "Schema.__contains__" sSchema____contains__ f fd) (D1 : KD P w K mg base "is_number" 1 (spD K FisNumber)) (D2 : KD P w K mg base "monomial" 2 (spD K Fmonomial)) (g1 : mg "isinstance" = none) (g2 : mg "tuple" = none) (g3 : mg "len" = none) (g4 : mg "all" = none) (c : Cls K C) (n1 : NoAttr K C "_facts") (n2 : NoAttr K C "width") : FnOk P w K mg base CX0 3 f fd ["self", "row"] (spO K (FScont C K)) := by
  refine fn_hs F sc_Scont (fun vs H Q E h => ?_) (fun cdv A outer sh H vs Q E hr h => ?_)
  · obtain ⟨S, P0, v, ws, ds, d, rfl, _, _, _, hd, ⟨_, _, _, _, _, rfl, _⟩, _⟩ := h
    have := hd.1
    simp at this
    simp [this]
  · obtain ⟨S, P0, v, ws, ds, r, rfl, s, m, pv, hd, ⟨z, ps, d, rfl, ho, rfl, hsm, rfl⟩, q⟩ := h
    obtain ⟨u, rfl, pu⟩ := hd.one
    have h3 := ho.1.2.2.2.1
    by_cases hd' : ∃ es, d = .tuple es
    · obtain ⟨es, rfl⟩ := hd'
      have hz : es.length ≤ sizeLine := by obtain ⟨l, xs, _, _, hx, z⟩ := pu.tup_inv; rw [← hx.1]; exact z
      refine hs_if (et_w (ew_or (et_not (et_val (ee_isi (isD_ok (.tuple es) (T := "tuple") (by simp)) g1 g2 boot_tuple (ee_var 1 rfl pu)))) fun _ => ew_or (et_neI (ee_len g3 rfl (ee_var 1 rfl pu)) (ee_fld (ee_var 0 rfl pv) SchP.wfld c n2)) fun _ =>
        ew_or1 (et_not (et_val ((ee_all (bs := es.map fun x => isNum x 1) rfl g4 (ee_lc (i := 2) (enc := .bool) (f := fun x => isNum x 1) rfl sc_Scont.nd (blkOk_by (N := ["self", "row", "item", "low", "high"]) (sc := defScope sSchema____contains__) (by decide +kernel)) (ei_tup (ee_var 1 rfl pu)) hz ?_)).isd (d' := .bool (es.all fun x => isNum x 1)) (by rw [map_all])))))) s (fun h1 S1 H1 g => ?_) (fun h1 S1 H1 g => hs_nil ?_)
      · intro x hx v' S2 s2 pv' sh' H0 C' cl fp
        exact ee_callD D1 (hr.mono (by decide)) ⟨x, 1, rfl, rfl⟩ (ea_2 (ee_var 2 rfl pv') ee_int)
      · have hl : isRow (.tuple es) z.cps.size = false := by
          unfold isRow
          simp [isDt] at h1 ⊢
          rcases h1 with h1 | h1
          · exact fun a => absurd a h1
          · exact fun _ => h1
        refine hs_ret ee_bl g.sub fun v S2 H2 g2 pv => q v S2 H2 (g.trans g2) ?_
        rw [hl]; exact pv
      · have hl : ((es.length : Int) = z.cps.size) ∧ (es.all fun x => isNum x 1) = true := by
          simpa [isDt] using h1
        obtain ⟨ns, rfl, hn⟩ := nums_of hl.2
        have hu : unI (.tuple (ns.map .int)) = ns := unI_tI ns
        have hlen : ns.length = z.cps.size := by have := hl.1; rw [List.length_map] at this; omega
        have hsm' : ∀ i ∈ ns, i.natAbs ≤ 10000000 := by unfold SmallD at hsm; rw [hu] at hsm; exact hsm
        refine hs_ret ((ee_all (bs := (ps.map ruleQ).map fun q => decide (monoI (unI q.1) ns ≤ monoI (unI q.2) ns)) rfl g4 (ee_lc2 (i := 3) (j := 4) (enc := .bool) (f := fun q => decide (monoI (unI q.1) ns ≤ monoI (unI q.2) ns)) (ps := ps.map ruleQ) rfl sc_Scont.nd (blkOk_by (N := ["self", "row", "item", "low", "high"]) (sc := defScope sSchema____contains__) (by decide +kernel))
          (by rw [ruleQ_t]; exact ei_list (ee_fld (ee_var 0 rfl (Mn.up g.st pv)) SchP.ffld c n1)) (by rw [List.length_map]; exact Nat.le_trans ho.2.1 (by show 4 ≤ 16777216; decide)) ?_)).isd ?_) g.sub fun v S2 H2 g2 pv => q v S2 H2 (g.trans g2) pv
        · intro p0 hp0 v1 v2 S2 s2 p1 p2 sh' H0 C' cl fp
          obtain ⟨p, hp, rfl⟩ := List.mem_map.mp hp0
          have hro := ho.2.2 p hp
          have e : decide (monoI (unI (ruleQ p).1) ns ≤ monoI (unI (ruleQ p).2) ns) = decide (monoI p.1 ns ≤ monoI p.2 ns) := by
            show decide (monoI (unI (tI p.1)) ns ≤ monoI (unI (tI p.2)) ns) = _
            rw [unI_tI, unI_tI]
          rw [e]
          have pu2 : Dt K (tI ns) u S2 := pu.up (g.st.trans s2)
          exact ee_le (ee_callD D2 hr ⟨p.1, ns, rfl, rfl, monoOk_small h3 hro.1.1 hlen hro.1.2 hsm'⟩ (ea_2 (ee_var 3 rfl p1) (ee_var 1 rfl pu2))) (ee_callD D2 hr ⟨p.2, ns, rfl, rfl, monoOk_small h3 hro.2.1 hlen hro.2.2 hsm'⟩ (ea_2 (ee_var 4 rfl p2) (ee_var 1 rfl pu2)))
        · rw [map_all]
          have hi : isRow (.tuple (ns.map .int)) z.cps.size = true := by
            unfold isRow
            simp only [Bool.and_eq_true, decide_eq_true_eq]
            exact hl
          rw [hi, hu, Bool.true_and]
          congr 1
          unfold keepsI
          rw [List.all_map]
          congr 1
          funext p
          show decide (monoI (unI (tI p.1)) ns ≤ monoI (unI (tI p.2)) ns) = _
          rw [unI_tI, unI_tI]
    · refine hs_ifT ((et_w (ew_or (k2 := true) (et_not (et_val (ee_isi (isD_ok d (T := "tuple") (by simp)) g1 g2 boot_tuple (ee_var 1 rfl pu)))) fun h1 => ?_)).is ?_) s fun S1 H1 g => hs_ret ee_bl g.sub fun v S2 H2 g2 pv => q v S2 H2 (g.trans g2) ?_
      · exfalso; cases d <;> first | (simp [isDt] at h1; done) | exact hd' ⟨_, rfl⟩
      · simp
      · have e : isRow d z.cps.size = false := by cases d <;> first | rfl | exact absurd ⟨_, rfl⟩ hd'
        rw [e]; exact pv
theorem can_ints : ∀ l : List Int, PyData.canLayAll0 (l.map .int) = true
  | [] => by simp [PyData.canLayAll0]
  | a :: l => by simp [PyData.canLayAll0, PyData.canLay0, can_ints l]
theorem dep_ints : ∀ l : List Int, PyData.depthAll (l.map .int) ≤ 1
  | [] => by simp [PyData.depthAll]
  | a :: l => by have := dep_ints l; simp [PyData.depthAll, PyData.depth]; omega
structure IsiC (K : PySem.W.Frag) (C : Addr) : Prop where
  cls : PySem.W.findIn K (.ref C) "__class__" = some (some (.builtin "object.__class__"))
  str : PySem.W.kitOne K (.type "str") (.ref C) = some false
  sp : PySem.W.specialIn K (.builtin "object.__class__") "__get__" = some (some (.builtin "getset_descriptor.__get__"))
  tk : PySem.W.takesIn K (.builtin "object.__class__") = some true
  ob : PySem.W.mroIn K C (.type "object") = some true
theorem ee_isiO {X : Cx} {σ : L2.St} {S : Hp} {a : Expr} {p p2 pos : Pos} {cn : Str} {C : Addr} {Pa : V → Hp → Prop} {k : Bool} [Mn Pa] (hm : X.mg "isinstance" = none) (hmC : X.mg cn = some (.ref C)) (ha : EE X σ S a Pa) (ht : ∀ v S1 H1, Same S1 H1 → Pa v S1 → ∃ t, TyX X.K H1 v t ∧ PySem.W.kitOne X.K t (.ref C) = some k)
    (hg : Gl X "isinstance" := by rfl) (hgT : Gl X cn := by rfl) (hn : cn ≠ "__name__" := by decide) (hdb : (cn == ("__debug__" : Str)) = false := by decide)
    (hs : starEach [a, .Name cn p2] X.env = (false, eval a X.env) :: starEach [.Name cn p2] X.env := by rfl) : EE X σ S (.Call (.Name "isinstance" p) [a, .Name cn p2] [] pos) (Dt X.K (.bool k)) := by
  haveI : Mn (fun (w : V) (_ : Hp) => w = .ref C) := ⟨fun _ h => h⟩
  refine ee_callB call_isi hm boot_isinstance (ea_2 ha (ee_glob (P := fun w _ => w = .ref C) (v := .ref C) (u := .ref C) hmC rfl rfl hgT hdb) hs rfl) (fun vs S1 H1 _ s al Q q => ?_) hg (he := hs) (hpl := by rfl)
  obtain ⟨v, w, rfl, pv, rfl⟩ := al.two
  obtain ⟨t, h1, h2⟩ := ht v S1 H1 s pv
  exact ⟨v, .ref C, t, .ref C, k, rfl, .own C, h1, h2, q _ S1 H1 (Gr.refl s) (.bl k)⟩
inductive TD : PyData → Prop
  | int (i : Int) : TD (.int i)
  | tup {ds : List PyData} : (∀ d ∈ ds, TD d) → TD (.tuple ds)
theorem td_ints (l : List Int) : TD (.tuple (l.map .int)) := .tup fun d hd => by
  obtain ⟨i, _, rfl⟩ := List.mem_map.mp hd
  exact .int i
theorem td_rule (p : List Int × List Int) : TD (ruleD p) := .tup (ds := [tI p.1, tI p.2]) fun d hd => by
  rcases List.mem_cons.mp hd with rfl | hd
  · exact td_ints _
  · obtain rfl := List.mem_singleton.mp hd
    exact td_ints _
/-- data of tuples and ints stand where the tuples stand -/
theorem td_keep {K : PySem.W.Frag} {S S' : Hp} (k : ∀ b ys, TuS K S b ys → TuS K S' b ys) {d : PyData} (t : TD d) : ∀ {v : V}, Dt K d v S → Dt K d v S' := by
  induction t with
  | int i => intro v h; obtain rfl := h.int_inv; exact .int i
  | tup _ ih =>
    intro v h
    obtain ⟨a, xs, rfl, ht, hx, z⟩ := h.tup_invS
    exact Dt.tup_mk (k _ _ ht) ⟨hx.1, fun i x d hi hd => ih d (List.mem_of_getElem? hd) (hx.2 i x d hi hd)⟩ z
theorem tds_keep {K : PySem.W.Frag} {S S' : Hp} (k : ∀ b ys, TuS K S b ys → TuS K S' b ys) {ds : List PyData} (t : ∀ d ∈ ds, TD d) {xs : List V} (h : Dts K ds xs S) : Dts K ds xs S' :=
  ⟨h.1, fun i x d hi hd => td_keep k (t d (List.mem_of_getElem? hd)) (h.2 i x d hi hd)⟩
theorem rules_keep {K : PySem.W.Frag} {S S' : Hp} {ps : Rules} {xs : List V} (k : ∀ b ys, TuS K S b ys → TuS K S' b ys) (h : Dts K (ps.map ruleD) xs S) : Dts K (ps.map ruleD) xs S' :=
  tds_keep k (fun d hd => by obtain ⟨p, _, rfl⟩ := List.mem_map.mp hd; exact td_rule p) h
theorem sqt_put0 {K : PySem.W.Frag} {S : Hp} {a : Addr} {o u : HO} (h : S a = some o) (n1 : ∀ xs, o ≠ .tup xs) (n2 : ∀ x y, o ≠ .frz x y) : ∀ b ys, SqT K S b ys → SqT K (upd S a u) b ys := fun b ys q => by
  rcases q with (q | ⟨w, q⟩) | q
  · exact .inl (.inl (by rw [upd_ne (fun z => by subst z; rw [h] at q; cases q; exact n1 _ rfl)]; exact q))
  · exact .inl (.inr ⟨w, by rw [upd_ne (fun z => by subst z; rw [h] at q; cases q; exact n2 _ _ rfl)]; exact q⟩)
  · exact .inr q
theorem sqt_put {K : PySem.W.Frag} {S : Hp} {a : Addr} {o u : HO} (h : S a = some o) (n1 : ∀ xs, o ≠ .tup xs) (n2 : ∀ x y, o ≠ .frz x y) : ∀ b ys, TuS K S b ys → TuS K (upd S a u) b ys := fun b ys q => by
  rcases q with q | ⟨e, q⟩
  · exact .inl (by rw [upd_ne (fun z => by subst z; rw [h] at q; cases q; exact n1 _ rfl)]; exact q)
  · exact .inr ⟨e, sqt_put0 h n1 n2 _ _ q⟩
def Finit (K : PySem.W.Frag) (C : Addr) : List PyData → (Addr → V → Hp → Prop) → Prop := fun ds R => ∃ z d ps, ds = [.str z, d] ∧ (d = .list (ps.map ruleD) ∨ d = .tuple (ps.map ruleD)) ∧ SchOk z ps ∧ R = SchL K C z ps
theorem sc_Sinit : FnScope ["self", "columns", "facts", "at", "fact"] ["self", "columns", "facts"] (defScope sSchema____init__) := ⟨rfl, rfl, rfl, by decide +kernel, rfl, by decide +kernel, by decide +kernel⟩
theorem exp_rule {n : Nat} {l : List Int} (h1 : l.length = n) (h2 : ∀ x ∈ l, 0 ≤ x ∧ x ≤ 6) : isExp (tI l) n = true := by
  show (decide (((l.map PyData.int).length : Int) = n) && (l.map PyData.int).all fun x => isNum x 0 && leNum x 6) = true
  rw [List.length_map, h1, List.all_map, Bool.and_eq_true]
  refine ⟨by simp, ?_⟩
  rw [List.all_eq_true]
  intro x hx
  show (decide (0 ≤ x) && decide (x ≤ 6)) = true
  rw [Bool.and_eq_true, decide_eq_true_eq, decide_eq_true_eq]
  exact h2 x hx
/-- C.f, a constant of the class -/
theorem ee_cval {X : Cx} {σ : L2.St} {S : Hp} {x f : Str} {p pos : Pos} {C : Addr} {mc : Value} {v : V} {u : Value} {P : V → Hp → Prop} (hm : X.mg x = some (.ref C)) (r : ClX.CRead X.K C mc) (k : ClX.CVal X.K C mc f v u) (h : ∀ S1, P v S1) (hg : Gl X x := by rfl) (hd : (x == ("__debug__" : Str)) = false := by decide) (hb : attributeBase (.Name x p) f X.env (eval (.Name x p) X.env) = eval (.Name x p) X.env := by rfl) : EE X σ S (.Attribute (.Name x p) f pos) P := fun H s Q q =>
  he_of (ClX.pe_cval (pe_glob hg hm (v := .ref C) rfl hd) hb) ⟨C, mc, v, u, rfl, r, k, q v S H (Gr.refl s) (h S)⟩
theorem enum_get {ds : List PyData} {i : Nat} {d : PyData} (h : ds[i]? = some d) : (enumD ds)[i]? = some (.tuple [.int i, d]) := by
  unfold enumD
  have hi := (List.getElem?_eq_some_iff.mp h).1
  exact zipD_get (upto_get hi) h
theorem enum_len {K : PySem.W.Frag} {ds : List PyData} : (Ds K (enumD ds)).length = ds.length := by
  rw [ds_len]; unfold enumD zipD; rw [List.length_zipWith, upto_len]; omega
theorem ok_Sinit {C : Addr} {mc : Value} {dvs : List V} {t : Tok} (F : FunD K "__init__" "Schema.__init__" (defArgs sSchema____init__) (defBody sSchema____init__) (defScope sSchema____init__) dvs [] f fd) (D1 : KD P w K mg base "check_columns" 1 (spD K FchkC)) (D2 : KM P w K mg base C "is_exponent" 3 (spO K (Fsch_isExp C))) (c : Cls K C)
    (n1 : NoAttr K C "columns") (n2 : NoAttr K C "width") (n3 : NoAttr K C "_facts") (gS : mg "Schema" = some (.ref C)) (cr : ClX.CRead K C mc) (cv : ClX.CVal K C mc "MOST" (.int 4) (.int 4 t)) (g1 : mg "len" = none) (g2 : mg "isinstance" = none) (g3 : mg "list" = none) (g4 : mg "tuple" = none) (g5 : mg "enumerate" = none) :
    FnOk P w K mg base CX0 4 f fd ["self", "columns", "facts"] (spI C K (Finit K C)) := by
  refine fn_hs F sc_Sinit (fun vs H Q E h => ?_) (fun cdv A outer sh H vs Q E hr h => ?_)
  · obtain ⟨S, a, dx, ws, ds, R, rfl, _, _, _, hd, ⟨_, _, _, rfl, _⟩, _⟩ := h
    have := hd.1
    simp at this
    simp [this]
  · obtain ⟨S, a, dx, ws, ds, R, rfl, s, hSa, hHa, hd, ⟨z, d, ps, rfl, hdd, ho, rfl⟩, q⟩ := h
    obtain ⟨vc, vf, rfl, p1, p2⟩ := hd.two
    obtain rfl := p1.str_inv
    have h3 := ho.1.2.2.2.1
    have i0 := GrI.start (o := .ins C dx []) s hSa hHa
    refine hs_expr (ee_callD D1 (hr.mono (by decide)) ⟨z, rfl, rfl, ho.1⟩ (ea_1 (ee_var 1 rfl (.str z)))) i0.sub fun _ S1 H1 g6 _ => ?_
    have i1 := i0.step g6
    have a1 : S1 a = some (.ins C dx []) := g6.st _ _ upd_same
    refine hs_fld (P := Dt K (.str z)) (r := a) (C := C) (dx := dx) (fs := []) (ee_var 1 rfl (.str z)) i1.sub (fun S2 _ => ee_var 0 rfl rfl) (i1.sub _ _ a1) c n1 (by decide) fun v S2 H2 g7 pv e2 => ?_
    obtain rfl := pv.str_inv
    have i2 := (i1.step g7).put (o := .ins C dx [("columns", .str z)]) hSa
    refine hs_fld (P := Dt K (.int (z.length : Nat))) (r := a) (C := C) (dx := dx) (fs := [("columns", .str z)]) (ee_len g1 rfl (ee_var 1 rfl (.str z)) (fun x hx => by cases hx; exact Nat.le_trans h3 (by show 3 ≤ 16777216; decide))) i2.sub (fun S3 _ => ee_var 0 rfl rfl) upd_same c n2 (show 1 < 1000 by decide) fun v S3 H3 g8 pv e3 => ?_
    obtain rfl := pv.int_inv
    have i3 := (i2.step g8).put (o := .ins C dx [("columns", .str z), ("width", .int (z.length : Nat))]) hSa
    have eH3 : upd H3 a (.ins C dx (putF "width" (.int (z.length : Nat)) [("columns", .str z)])) = upd H3 a (.ins C dx [("columns", .str z), ("width", .int (z.length : Nat))]) := rfl
    rw [eH3]
    have p23 : Dt K d vf (upd S3 a (.ins C dx [("columns", .str z), ("width", .int (z.length : Nat))])) := p2.up i3.st
    generalize hS4 : upd S3 a (.ins C dx [("columns", .str z), ("width", .int (z.length : Nat))]) = S4 at i3 p23
    have a4 : S4 a = some (.ins C dx [("columns", .str z), ("width", .int (z.length : Nat))]) := by rw [← hS4]; exact upd_same
    generalize upd H3 a (.ins C dx [("columns", .str z), ("width", .int (z.length : Nat))]) = H4 at i3
    have hlt : (isD d "list" || isD d "tuple") = true := by rcases hdd with rfl | rfl <;> rfl
    refine hs_ifN ((et_not (et_val (ee_isiLT rfl g2 g3 g4 (ee_var 2 rfl p23)))).is (by rw [hlt]; rfl)) i3.sub fun S5 H5 g9 => ?_
    have i5 := i3.step g9
    have a5 := g9.st _ _ a4
    have p25 := p23.up g9.st
    have hps : ps.length ≤ sizeLine := Nat.le_trans ho.2.1 (by show 4 ≤ 16777216; decide)
    let SP : V → Hp → Prop := fun v S => v = .ref a ∧ S a = some (.ins C dx [("columns", .str z), ("width", .int (z.length : Nat))])
    haveI mSP : Mn SP := ⟨fun s ⟨e, h⟩ => ⟨e, s _ _ h⟩⟩
    have hSPw : WidP C (z.length : Nat) SP := fun v S ⟨e, h⟩ => ⟨a, dx, _, e, h, rfl⟩
    have hSPi : InsP C "is_exponent" SP := fun v S ⟨e, h⟩ => ⟨a, dx, _, e, h, rfl⟩
    refine hs_for (Ps := Ds K (enumD (ps.map ruleD))) (fun i σ S2 => ∃ x y, σ = [some (.ref a), some (.str z), some vf, x, y]) PassesOwn.never rfl (by
      rcases hdd with rfl | rfl
      · exact ei_enumL g5 (ee_var 2 rfl p25)
      · exact ei_enumT g5 (ee_var 2 rfl p25)) i5.sub (fun S2 H2 g3 => ⟨none, none, rfl⟩) ?_ ?_
    · rintro i Pi σ1 S6 H6 x S7 H7 hP g10 ⟨y, y', rfl⟩ g11 px
      have hi : i < ps.length := by
        have := (List.getElem?_eq_some_iff.mp hP).1
        rw [enum_len, List.length_map] at this; exact this
      have hz : (ps.map ruleD)[i]? = some (ruleD ps[i]) := by rw [List.getElem?_map, List.getElem?_eq_getElem hi]; rfl
      rw [ds_get (enum_get hz)] at hP
      obtain rfl := Option.some.inj hP
      have hro := ho.2.2 ps[i] (List.getElem_mem hi)
      obtain ⟨u1, u2, k1, k2, hg⟩ := eg_pair (σ := [some (.ref a), some (.str z), some vf, y, y']) (i := 3) (j := 4) (x := "at") (y := "fact") (kk := _) (px := _) (py := _) (pos := _) (X := (cxOf CX0 P w K mg base ["self", "columns", "facts", "at", "fact"] "Schema.__init__" (defScope sSchema____init__) f cdv A outer sh H E).nox) rfl sc_Sinit.nd rfl rfl (Or.inl rfl) (Or.inl rfl) px
      refine hg H7 g11.sub _ ?_
      have a7 := g11.st _ _ (g10.st _ _ a5)
      refine hs_ifN ((et_w (ew_or (et_not (et_val (ee_isi (isD_ok (ruleD ps[i]) (T := "tuple") (by simp)) g2 g4 boot_tuple (ee_var 4 rfl k2)))) fun _ => ew_or1 (et_neI (ee_len g1 (d := ruleD ps[i]) (n := 2) rfl (ee_var 4 rfl k2)) ee_int))).is (by rfl)) g11.sub fun S8 H8 g12 => ?_
      have k8 := k2.up g12.st
      have a8 : SP (.ref a) S8 := ⟨rfl, g12.st _ _ a7⟩
      refine hs_ifN ((et_w (ew_or (et_not (et_val ((ee_meth D2 c (hr.mono (by decide)) (ee_var (P := SP) 0 rfl a8) hSPi (ea_1 (ee_ixT (ds := [tI ps[i].1, tI ps[i].2]) (d := tI ps[i].1) rfl (ee_var 4 rfl k8) ee_int)) (spO_E (F := Fsch_isExp C) (P0 := SP) (ds := [tI ps[i].1]) (d := .bool (isExp (tI ps[i].1) (z.length : Nat))) ⟨_, _, hSPw, rfl, rfl⟩))))) fun _ =>
        ew_or1 (et_not (et_val ((ee_meth D2 c (hr.mono (by decide)) (ee_var (P := SP) 0 rfl a8) hSPi (ea_1 (ee_ixT (ds := [tI ps[i].1, tI ps[i].2]) (d := tI ps[i].2) rfl (ee_var 4 rfl k8) ee_int)) (spO_E (F := Fsch_isExp C) (P0 := SP) (ds := [tI ps[i].2]) (d := .bool (isExp (tI ps[i].2) (z.length : Nat))) ⟨_, _, hSPw, rfl, rfl⟩))))))).is ?_) g12.sub fun S9 H9 g13 => hs_nil ?_
      · rw [exp_rule (n := z.length) hro.1.1 hro.1.2, exp_rule (n := z.length) hro.2.1 hro.2.2]; rfl
      · exact ⟨S9, g12.trans g13, _, _, rfl⟩
    · rintro σ1 S6 H6 g10 ⟨y, y', rfl⟩
      have i6 := i5.step g10
      have a6 := g10.st _ _ a5
      have p26 := p25.up g10.st
      have hlen : lenD d = some ps.length := by rcases hdd with rfl | rfl <;> (show some (ps.map ruleD).length = _; rw [List.length_map])
      refine hs_ifN ((et_gt (ee_len g1 hlen (ee_var 2 rfl p26) (fun x hx => by rcases hdd with rfl | rfl <;> cases hx)) (ee_cval (P := Dt K (.int 4)) gS cr cv (fun _ => .int 4))).is (by have := ho.2.1; rw [decide_eq_false (by omega)])) i6.sub fun S7 H7 g11 => ?_
      have i7 := i6.step g11
      have a7 := g11.st _ _ a6
      refine hs_fld (r := a) (C := C) (dx := dx) (fs := [("columns", .str z), ("width", .int (z.length : Nat))]) (ee_listN g3 hdd (ee_var 2 rfl (p26.up g11.st))) i7.sub (fun S3 _ => ee_var 0 rfl rfl) (i7.sub _ _ a7) c n3 (show 2 < 1000 by decide) fun v S8 H8 g12 pv e8 => hs_nil ?_
      obtain ⟨l, xs, rfl, h0, hl1, hx, hz⟩ := pv
      have a8 := g12.st _ _ a7
      have i8 := (i7.step g12).put (o := .ins C dx (schF z l)) hSa
      have lne : l ≠ a := fun e => by subst e; rw [a7] at h0; cases h0
      refine q l _ _ i8 (i7.st.free h0) ⟨a, dx, xs, rfl, upd_same, by rw [upd_ne lne]; exact hl1, rules_keep (sqt_put a8 (fun _ z => nomatch z) (fun _ _ z => nomatch z)) hx, hz⟩
/-- Schema is made: by two values, by one, by names -/
structure MkS (P : Program) (w : World) (K : PySem.W.Frag) (mg : Str → Option Value) (base : Heap) (C : Addr) : Prop where
  ex : ∃ fi fdi ps dv, Mk K C fi ∧ FnOk P w K mg base CX0 4 fi fdi ps (spI C K (Finit K C)) ∧ Binds K fdi ps [] ∧ (∃ us, Vals [dv] us ∧ Binds K fdi ps us) ∧ (∀ S, Dt K (.tuple []) dv S) ∧ ∃ g gV, KBn K fdi ps 1 ["facts", "columns"] g gV ∧ ∀ s v w, gV [s] [v, w] = [s, w, v]
section
end
theorem newR_sch {K : PySem.W.Frag} {C : Addr} {z : Str} {ps : Rules} {S S' : Hp} {v : V} (h : NewR (SchL K C z ps) S v S') : SchP K C z ps v S' := let ⟨l, _, h⟩ := h; ⟨l, h⟩
def FSsteps (C : Addr) (K : PySem.W.Frag) : (V → Hp → Prop) → List PyData → PyData → Prop := fun P0 ds d => ∃ z ps, P0 = SchP K C z ps ∧ SchOk z ps ∧ ds = [] ∧ d = .list (ps.map fun p => tI (stepI p))
theorem sc_Ssteps : FnScope ["self", "low", "high", "down", "up"] ["self"] (defScope sSchema__steps) := ⟨rfl, rfl, rfl, by decide +kernel, rfl, by decide +kernel, by decide +kernel⟩
theorem ok_Ssteps {C : Addr} (F : FnM K "steps" "Schema.steps" sSchema__steps f fd) (g1 : mg "tuple" = none) (g2 : mg "zip" = none) (c : Cls K C) (n1 : NoAttr K C "_facts") : FnOk P w K mg base CX0 1 f fd ["self"] (spO K (FSsteps C K)) := by
  refine fn_hs F sc_Ssteps (fun vs H Q E h => ?_) (fun cdv A outer sh H vs Q E hr h => ?_)
  · obtain ⟨S, P0, v, ws, ds, d, rfl, _, _, _, hd, ⟨_, _, _, _, rfl, _⟩, _⟩ := h
    have := hd.1
    simp at this
    simp [this]
  · obtain ⟨S, P0, v, ws, ds, d, rfl, s, m, pv, hd, ⟨z, ps, rfl, ho, rfl, rfl⟩, q⟩ := h
    obtain rfl : ws = [] := List.eq_nil_of_length_eq_zero hd.1
    refine hs_ret ((ee_lc2 (i := 1) (j := 2) (enc := fun d => d) (f := fun q => PyData.tuple ((stepI (unI q.1, unI q.2)).map .int)) (ps := ps.map ruleQ) rfl sc_Ssteps.nd (blkOk_by (N := ["self", "low", "high", "down", "up"]) (sc := defScope sSchema__steps) (by decide +kernel))
      (by rw [ruleQ_t]; exact ei_list (ee_fld (ee_var 0 rfl pv) SchP.ffld c n1)) (by rw [List.length_map]; exact Nat.le_trans ho.2.1 (by show 4 ≤ 16777216; decide)) ?_).isd ?_) s q
    · intro p0 hp0 v1 v2 S2 s2 p1 p2 sh' H0 C' cl fp
      obtain ⟨p, hp, rfl⟩ := List.mem_map.mp hp0
      have hr := ho.2.2 p hp
      refine ee_tupleOf g1 ((ee_lc2 (i := 3) (j := 4) (enc := .int) (f := subD) (ps := (p.1.zip p.2).map fun p => (PyData.int p.1, PyData.int p.2)) rfl sc_Ssteps.nd (blkOk_by (N := ["self", "low", "high", "down", "up"]) (sc := compScope (retE (defBody sSchema__steps))) (by decide +kernel))
        (by rw [← zip_int]; exact ei_zipT g2 (ee_var 1 rfl p1) (ee_var 2 rfl p2)) ?_ ?_).isd ?_)
      · rw [List.length_map, List.length_zip, hr.1.1, hr.2.1]
        have := ho.1.2.2.2.1
        show _ ≤ 16777216
        omega
      · intro p' hp' u1 u2 S3 s3 pu1 pu2 sh2 H2 C2 cl2 fp2
        obtain ⟨⟨x, y⟩, hxy, rfl⟩ := List.mem_map.mp hp'
        exact ee_sub (ee_var 4 rfl pu2) (ee_var 3 rfl pu1)
      · rw [zip_sub]
        show PyData.list ((stepI (p.1, p.2)).map .int) = .list ((stepI (unI (tI p.1), unI (tI p.2))).map .int)
        rw [unI_tI, unI_tI]
    · rw [List.map_map, List.map_map]
      congr 1
      refine List.map_congr_left fun p _ => ?_
      show PyData.tuple ((stepI (unI (tI p.1), unI (tI p.2))).map .int) = tI (stepI p)
      rw [unI_tI, unI_tI]; rfl
def FSfits (C : Addr) (K : PySem.W.Frag) : (V → Hp → Prop) → List PyData → PyData → Prop := fun P0 ds r => ∃ z ps d, P0 = SchP K C z ps ∧ SchOk z ps ∧ ds = [d] ∧ SmallD d ∧ r = .bool (isDir d z.cps.size && ps.all fun p => decide (0 ≤ dotI (stepI p) (unI d)))
theorem sc_Sfits : FnScope ["self", "value", "step"] ["self", "value"] (defScope sSchema__fits) := ⟨rfl, rfl, rfl, by decide +kernel, rfl, by decide +kernel, by decide +kernel⟩
theorem dir_ints {d : PyData} {w : Int} (h : isDir d w = true) : ∃ ns : List Int, d = tI ns ∧ (ns.length : Int) = w ∧ ∀ n ∈ ns, 0 ≤ n := by
  cases d with
  | tuple ds =>
    unfold isDir at h
    simp only [Bool.and_eq_true, decide_eq_true_eq] at h
    obtain ⟨ns, rfl, hn⟩ := nums_of h.2
    exact ⟨ns, rfl, by rw [← h.1, List.length_map], hn⟩
  | _ => exact absurd h (by simp [isDir])
theorem ok_Sfits {C : Addr} (F : FnM K "fits" "Schema.fits" sSchema__fits f fd) (D1 : KD P w K mg base "is_direction" 2 (spD K FisDir)) (D2 : KD P w K mg base "dot" 1 (spD K Fdot)) (D3 : KM P w K mg base C "steps" 1 (spO K (FSsteps C K))) (g1 : mg "all" = none) (c : Cls K C) (n1 : NoAttr K C "width") : FnOk P w K mg base CX0 3 f fd ["self", "value"] (spO K (FSfits C K)) := by
  refine fn_hs F sc_Sfits (fun vs H Q E h => ?_) (fun cdv A outer sh H vs Q E hr h => ?_)
  · obtain ⟨S, P0, v, ws, ds, d, rfl, _, _, _, hd, ⟨_, _, _, _, _, rfl, _⟩, _⟩ := h
    have := hd.1
    simp at this
    simp [this]
  · obtain ⟨S, P0, v, ws, ds, r, rfl, s, m, pv, hd, ⟨z, ps, d, rfl, ho, rfl, hsm, rfl⟩, q⟩ := h
    obtain ⟨u, rfl, pu⟩ := hd.one
    have h3 := ho.1.2.2.2.1
    refine hs_ret (ee_and (k1 := isDir d z.cps.size) (k2 := ps.all fun p => decide (0 ≤ dotI (stepI p) (unI d))) (ee_callD D1 hr ⟨d, z.cps.size, rfl, rfl⟩ (ea_2 (ee_var 1 rfl pu) (ee_fld (ee_var 0 rfl pv) SchP.wfld c n1))) fun h1 => ee_one ?_) s q
    obtain ⟨ns, rfl, hlen, hn⟩ := dir_ints h1
    have hsm' : ∀ i ∈ ns, i.natAbs ≤ 10000000 := by unfold SmallD at hsm; rw [unI_tI] at hsm; exact hsm
    refine (ee_all (bs := (ps.map fun p => tI (stepI p)).map fun d => decide (0 ≤ dotI (unI d) ns)) rfl g1 (ee_lc (i := 2) (enc := .bool) (f := fun d => decide (0 ≤ dotI (unI d) ns)) rfl sc_Sfits.nd (blkOk_by (N := ["self", "value", "step"]) (sc := defScope sSchema__fits) (by decide +kernel))
      (ei_list (ee_meth0 D3 c (hr.mono (by decide)) (ee_var 0 rfl pv) SchP.insP (spO_E (ds := []) ⟨z, ps, rfl, ho, rfl, rfl⟩))) (by rw [List.length_map]; exact Nat.le_trans ho.2.1 (by show 4 ≤ 16777216; decide)) ?_)).isd ?_
    · intro d0 hd0 v1 S2 s2 p1 sh' H0 C' cl fp
      obtain ⟨p, hp, rfl⟩ := List.mem_map.mp hd0
      have hro := ho.2.2 p hp
      rw [show decide (0 ≤ dotI (unI (tI (stepI p))) ns) = decide (0 ≤ dotI (stepI p) ns) by rw [unI_tI]]
      have pu2 : Dt K (tI ns) u S2 := pu.up s2
      exact ee_ge (ee_callD D2 (hr.mono (by decide)) ⟨stepI p, ns, rfl, rfl, by rw [step_len hro]; omega, fun q hq => mulx_small (Nat.le_trans (step_small hro _ (List.of_mem_zip hq).1) (by decide)) (Nat.le_trans (hsm' _ (List.of_mem_zip hq).2) (by decide))⟩ (ea_2 (ee_var 2 rfl p1) (ee_var 1 rfl pu2))) ee_int
    · rw [map_all, List.all_map]
      congr 1
      congr 1
      funext p
      show decide (0 ≤ dotI (unI (tI (stepI p))) ns) = decide (0 ≤ dotI (stepI p) (unI (tI ns)))
      rw [unI_tI, unI_tI]
end
end K18
namespace K18
open PySem PySem.Spec PyProof.Rows L2 Z Y
/-! ## tables, plainly -/
abbrev Grp := Int × List Int
def totG (gs : List Grp) (r : List Int) : Int := (gs.map fun g => if g.2 = r then g.1 else 0).sum
def accF (m : MapI) (gs : List Grp) : MapI := gs.foldl (fun m g => putM m g.2 ((getM m g.2).getD 0 + g.1)) m
def accM (gs : List Grp) : MapI := accF [] gs
def rowsS (gs : List Grp) : List (List Int) := srt tI' (keysM (accM gs))
def norm (gs : List Grp) : List Grp := (rowsS gs).map fun r => (totG gs r, r)
theorem getM_put (m : MapI) (k j : List Int) (n : Int) : getM (putM m k n) j = if j = k then some n else getM m j := by
  unfold putM
  split
  · rename_i h
    induction m with
    | nil => simp at h
    | cons q m ih =>
      unfold getM at ih ⊢
      rw [List.map_cons, List.find?_cons, List.find?_cons]
      by_cases hq : q.1 = k
      · rw [if_pos hq]
        by_cases hj : j = k
        · subst hj; simp [hq]
        · simp only [hq, if_neg hj]
          have hkj : ¬ k = j := fun e => hj e.symm
          simp only [hkj, decide_false]
          clear ih h
          induction m with
          | nil => rfl
          | cons p m ih2 =>
            rw [List.map_cons, List.find?_cons, List.find?_cons]
            by_cases hp : p.1 = k
            · rw [if_pos hp]; simp only [hp, hkj, decide_false]; exact ih2
            · rw [if_neg hp]
              cases e : decide (p.1 = j) with
              | true => rfl
              | false => exact ih2
      · rw [if_neg hq]
        have h2 : (m.any fun q => decide (q.1 = k)) = true := by simpa [hq] using h
        cases e : decide (q.1 = j) with
        | true =>
          have e2 := of_decide_eq_true e
          have : ¬ j = k := fun z => hq (e2.trans z)
          rw [if_neg this]
        | false => exact ih h2
  · rename_i h
    have h : ∀ q ∈ m, ¬ q.1 = k := fun q hq e => h (List.any_eq_true.mpr ⟨q, hq, decide_eq_true e⟩)
    unfold getM
    rw [List.find?_append]
    by_cases hj : j = k
    · subst hj
      have : m.find? (fun q => decide (q.1 = j)) = none := List.find?_eq_none.mpr fun q hq => by simp [h q hq]
      rw [this]; simp
    · rw [if_neg hj]
      have hkj : ¬ k = j := fun e => hj e.symm
      cases m.find? (fun q => decide (q.1 = j)) with
      | some _ => rfl
      | none => simp [hkj]
theorem keys_put (m : MapI) (k : List Int) (n : Int) : keysM (putM m k n) = if k ∈ keysM m then keysM m else keysM m ++ [k] := by
  have e : (m.any fun q => decide (q.1 = k)) = true ↔ k ∈ keysM m := by
    unfold keysM; simp [List.mem_map]
  unfold putM
  by_cases h : k ∈ keysM m
  · rw [if_pos (e.mpr h), if_pos h]
    unfold keysM
    rw [List.map_map]
    exact List.map_congr_left fun q _ => by
      show (if q.1 = k then (q.1, n) else q).1 = q.1
      split <;> rfl
  · rw [if_neg (fun z => h (e.mp z)), if_neg h]
    unfold keysM
    rw [List.map_append]; rfl
theorem getM_some {m : MapI} {k : List Int} (h : k ∈ keysM m) : ∃ n, getM m k = some n := by
  unfold keysM at h
  obtain ⟨q, hq, rfl⟩ := List.mem_map.mp h
  unfold getM
  cases e : m.find? (fun p => decide (p.1 = q.1)) with
  | some p => exact ⟨p.2, rfl⟩
  | none => exact absurd (List.find?_eq_none.mp e q hq) (by simp)
theorem accF_get : ∀ (gs : List Grp) (m : MapI) (r : List Int), (getM (accF m gs) r).getD 0 = (getM m r).getD 0 + totG gs r
  | [], m, r => by unfold accF totG; simp
  | g :: gs, m, r => by
    show (getM (accF (putM m g.2 ((getM m g.2).getD 0 + g.1)) gs) r).getD 0 = _
    rw [accF_get gs, getM_put]
    unfold totG
    rw [List.map_cons, List.sum_cons]
    by_cases h : r = g.2
    · subst h; rw [if_pos rfl, if_pos rfl]; simp [Int.add_assoc]
    · have h2 : ¬ g.2 = r := fun e => h e.symm
      rw [if_neg h, if_neg h2]; omega
theorem accF_keys : ∀ (gs : List Grp) (m : MapI) (r : List Int), r ∈ keysM (accF m gs) ↔ r ∈ keysM m ∨ r ∈ gs.map (·.2)
  | [], m, r => by simp [accF]
  | g :: gs, m, r => by
    show r ∈ keysM (accF (putM m g.2 ((getM m g.2).getD 0 + g.1)) gs) ↔ _
    rw [accF_keys gs, keys_put, List.map_cons, List.mem_cons]
    split
    · rename_i h
      constructor
      · rintro (a | a)
        · exact .inl a
        · exact .inr (.inr a)
      · rintro (a | rfl | a)
        · exact .inl a
        · exact .inl h
        · exact .inr a
    · rw [List.mem_append, List.mem_singleton, or_assoc]
theorem accF_nodup : ∀ (gs : List Grp) (m : MapI), (keysM m).Nodup → (keysM (accF m gs)).Nodup
  | [], m, h => h
  | g :: gs, m, h => by
    show (keysM (accF (putM m g.2 ((getM m g.2).getD 0 + g.1)) gs)).Nodup
    refine accF_nodup gs _ ?_
    rw [keys_put]
    split
    · exact h
    · rename_i hk
      refine List.nodup_append.mpr ⟨h, by simp, fun a ha b hb => ?_⟩
      rw [List.mem_singleton] at hb
      subst hb
      exact fun e => hk (e ▸ ha)
theorem accF_len : ∀ (gs : List Grp) (m : MapI), (accF m gs).length ≤ m.length + gs.length
  | [], m => Nat.le_refl _
  | g :: gs, m => by
    have := accF_len gs (putM m g.2 ((getM m g.2).getD 0 + g.1))
    have := putM_len m g.2 ((getM m g.2).getD 0 + g.1)
    show (accF (putM m g.2 ((getM m g.2).getD 0 + g.1)) gs).length ≤ _
    rw [List.length_cons]; omega
theorem mem_rowsS {gs : List Grp} {r : List Int} : r ∈ rowsS gs ↔ r ∈ gs.map (·.2) := by
  unfold rowsS accM
  rw [mem_srt, accF_keys]
  simp [keysM]
theorem leR : PySem.W.dataLe false tI' = fun p q => decide (p ≤ q) := PySem.W.dataLe_rows (fun p : List Int => p)
theorem perm_nodup {α : Type} [DecidableEq α] : ∀ {l m : List α}, l.Nodup → m.Nodup → (∀ a, a ∈ l ↔ a ∈ m) → l.Perm m := fun h1 h2 h =>
  List.perm_iff_count.mpr fun a => by
    rw [List.Nodup.count h1, List.Nodup.count h2]
    simp only [h a]
theorem sorted_eq {α : Type} {le : α → α → Bool} (anti : ∀ a b, le a b = true → le b a = true → a = b) : ∀ {l m : List α}, l.Pairwise (fun a b => le a b = true) → m.Pairwise (fun a b => le a b = true) → l.Perm m → l = m
  | [], m, _, _, p => (List.nil_perm.mp p).symm
  | a :: l, [], _, _, p => absurd (List.perm_nil.mp p) (by simp)
  | a :: l, b :: m, h1, h2, p => by
    have e : a = b := by
      have h1' := List.pairwise_cons.mp h1
      have h2' := List.pairwise_cons.mp h2
      rcases List.mem_cons.mp (p.mem_iff.mp (List.mem_cons_self ..)) with e | ha
      · exact e
      · rcases List.mem_cons.mp (p.mem_iff.mpr (List.mem_cons_self ..)) with e | hb
        · exact e.symm
        · exact anti a b (h1'.1 b hb) (h2'.1 a ha)
    subst e
    rw [sorted_eq anti (List.pairwise_cons.mp h1).2 (List.pairwise_cons.mp h2).2 (List.Perm.cons_inv p)]
theorem srt_pw {β : Type} (enc : β → PyData) (l : List β) : (srt enc l).Pairwise fun a b => PySem.W.dataLe false enc a b = true :=
  List.pairwise_mergeSort (le := PySem.W.dataLe false enc) (fun a b c => (PySem.W.sortLe_total (listOrd itemOrd) false fun b => PySem.W.keyToks (enc b)).trans a b c) (fun a b => by
    have := (PySem.W.sortLe_total (listOrd itemOrd) false fun b => PySem.W.keyToks (enc b)).total a b
    unfold PySem.W.dataLe
    rcases this with h | h <;> simp [h]) l
theorem srt_perm {β : Type} {enc : β → PyData} (inj : ∀ a b, PySem.W.keyToks (enc a) = PySem.W.keyToks (enc b) → a = b) {l m : List β} (p : l.Perm m) : srt enc l = srt enc m :=
  sorted_eq (le := PySem.W.dataLe false enc) (fun a b h1 h2 => inj a b ((listOrd itemOrd).total _ _ (by
    have h2 : (!(listOrd itemOrd).blt (PySem.W.keyToks (enc a)) (PySem.W.keyToks (enc b))) = true := h2
    simpa using h2) (by
    have h1 : (!(listOrd itemOrd).blt (PySem.W.keyToks (enc b)) (PySem.W.keyToks (enc a))) = true := h1
    simpa using h1))) (srt_pw enc l) (srt_pw enc m) ((List.mergeSort_perm ..).trans (p.trans (List.mergeSort_perm ..).symm))
theorem kt_ints : ∀ a : List Int, PySem.W.keyToksAll (a.map PyData.int) = (a.flatMap fun x => [Sum.inl 1, Sum.inl x]) ++ [Sum.inl 0]
  | [] => by unfold PySem.W.keyToksAll; rfl
  | x :: a => by
    rw [List.map_cons]
    unfold PySem.W.keyToksAll
    rw [kt_ints a]
    unfold PySem.W.keyToks
    rfl
theorem kt_inj : ∀ {a b : List Int} {t u : List (Int ⊕ List Nat)}, PySem.W.keyToksAll (a.map PyData.int) ++ t = PySem.W.keyToksAll (b.map PyData.int) ++ u → a = b ∧ t = u := by
  intro a
  induction a with
  | nil =>
    intro b t u h
    rw [kt_ints, kt_ints] at h
    cases b with
    | nil => simp at h; exact ⟨rfl, h⟩
    | cons y b => simp at h
  | cons x a ih =>
    intro b t u h
    cases b with
    | nil => rw [kt_ints, kt_ints] at h; simp at h
    | cons y b =>
      rw [kt_ints, kt_ints] at h
      simp only [List.flatMap_cons, List.cons_append, List.nil_append, List.cons.injEq, Sum.inl.injEq, true_and] at h
      have := ih (b := b) (t := t) (u := u) (by rw [kt_ints, kt_ints]; exact h.2)
      exact ⟨by rw [h.1, this.1], this.2⟩
theorem inj_tI (a b : List Int) (h : PySem.W.keyToks (tI' a) = PySem.W.keyToks (tI' b)) : a = b := by
  have h' : PySem.W.keyToksAll (a.map PyData.int) = PySem.W.keyToksAll (b.map PyData.int) := h
  exact (kt_inj (t := []) (u := []) (by rw [List.append_nil, List.append_nil]; exact h')).1
theorem rowsS_uniq {gs : List Grp} {L : List (List Int)} (h1 : L.Pairwise fun a b => PySem.W.dataLe false tI' a b = true) (h2 : L.Nodup) (h3 : ∀ r, r ∈ L ↔ r ∈ gs.map (·.2)) : rowsS gs = L := by
  have e : srt tI' L = L := List.mergeSort_of_pairwise h1
  rw [← e]
  exact srt_perm inj_tI (perm_nodup (accF_nodup gs [] List.nodup_nil) h2 fun a => by
    rw [h3]
    show a ∈ keysM (accF [] gs) ↔ _
    rw [accF_keys]; simp [keysM])
theorem norm_rows (gs : List Grp) : (norm gs).map (·.2) = rowsS gs := by
  unfold norm
  rw [List.map_map]
  exact (List.map_congr_left fun _ _ => rfl).trans (List.map_id _)
theorem mem_norm_rows {gs : List Grp} {r : List Int} : r ∈ (norm gs).map (·.2) ↔ r ∈ gs.map (·.2) := by rw [norm_rows, mem_rowsS]
theorem norm_len (gs : List Grp) : (norm gs).length ≤ gs.length := by
  unfold norm rowsS srt
  rw [List.length_map, List.length_mergeSort]
  unfold keysM accM
  rw [List.length_map]
  have := accF_len gs []
  simpa using this
section
variable {P : Program} {w : World} {K : PySem.W.Frag} {mg : Str → Option Value} {base : Heap} {f : Addr} {fd : FuncData}
def grpD (g : Grp) : PyData := .tuple [.int g.1, tI g.2]
def TabOk (n : Nat) (gs : List Grp) : Prop := 1 ≤ n ∧ n ≤ 3 ∧ gs ≠ [] ∧ gs.length ≤ 100 ∧ ∀ g ∈ gs, 1 ≤ g.1 ∧ g.2.length = n ∧ ∀ x ∈ g.2, (1 : Int) ≤ x
def tabF (n : Nat) (l : Addr) : List (Str × V) := [("width", .int n), ("_groups", .ref l)]
def TabL (K : PySem.W.Frag) (C : Addr) (n : Nat) (gs : List Grp) (l : Addr) : V → Hp → Prop := fun v S => ∃ a dx xs, v = .ref a ∧ S a = some (.ins C dx (tabF n l)) ∧ S l = some (.lst xs) ∧ Dts K (gs.map grpD) xs S ∧ xs.length ≤ sizeLine
def TabP (K : PySem.W.Frag) (C : Addr) (n : Nat) (gs : List Grp) : V → Hp → Prop := fun v S => ∃ l, TabL K C n gs l v S
instance {K : PySem.W.Frag} {C : Addr} {n : Nat} {gs : List Grp} {l : Addr} : Mn (TabL K C n gs l) := ⟨fun s ⟨a, dx, xs, e, h1, h2, h3, h4⟩ => ⟨a, dx, xs, e, s _ _ h1, s _ _ h2, h3.up s, h4⟩⟩
instance {K : PySem.W.Frag} {C : Addr} {n : Nat} {gs : List Grp} : Mn (TabP K C n gs) := ⟨fun s ⟨l, h⟩ => ⟨l, Mn.up s h⟩⟩
theorem newR_tab {K : PySem.W.Frag} {C : Addr} {n : Nat} {gs : List Grp} {S S' : Hp} {v : V} (h : NewR (TabL K C n gs) S v S') : TabP K C n gs v S' := let ⟨l, _, h⟩ := h; ⟨l, h⟩
theorem td_grp (g : Grp) : TD (grpD g) := .tup (ds := [.int g.1, tI g.2]) fun d hd => by
  rcases List.mem_cons.mp hd with rfl | hd
  · exact .int _
  · obtain rfl := List.mem_singleton.mp hd
    exact td_ints _
theorem grps_keep {K : PySem.W.Frag} {S S' : Hp} {gs : List Grp} {xs : List V} (k : ∀ b ys, TuS K S b ys → TuS K S' b ys) (h : Dts K (gs.map grpD) xs S) : Dts K (gs.map grpD) xs S' :=
  tds_keep k (fun d hd => by obtain ⟨p, _, rfl⟩ := List.mem_map.mp hd; exact td_grp p) h
/-! ### check_width, check_power -/
def FchkW : List PyData → PyData → Prop := fun ds r => ∃ i : Int, ds = [.int i] ∧ r = .none ∧ 1 ≤ i ∧ i ≤ 3
theorem sc_chkW : FnScope ["width"] ["width"] (defScope scheck_width) := ⟨rfl, rfl, rfl, by decide +kernel, rfl, by decide +kernel, by decide +kernel⟩
theorem isNum_t {n l : Int} (h : l ≤ n) : isNum (.int n) l = true := decide_eq_true h
theorem ok_chkW (F : FnT K "check_width" scheck_width f fd) (D1 : KD P w K mg base "is_number" 1 (spD K FisNumber)) : FnOk P w K mg base CX0 2 f fd ["width"] (spD K FchkW) := by
  refine fn_hs F sc_chkW (fun vs H Q E h => ?_) (fun cdv A outer sh H vs Q E hr h => ?_)
  · obtain ⟨S, ds, d, _, hd, ⟨_, rfl, _⟩, _⟩ := h
    exact hd.1
  · obtain ⟨S, ds, r, s, hd, ⟨i, rfl, rfl, i1, i3⟩, q⟩ := h
    obtain ⟨v, rfl, p⟩ := hd.one
    refine hs_ifN ((et_w (ew_or (et_not (et_val (ee_callD D1 hr ⟨.int i, 1, rfl, rfl⟩ (ea_2 (ee_var 0 rfl p) ee_int)))) fun _ => ew_or1 (et_gt (ee_var 0 rfl p) ee_int))).is (by rw [isNum_t i1, decide_eq_false (by omega)]; rfl)) s fun S1 H1 g => hs_nil (q _ S1 H1 g .non)
/-! ### Table.__init__ -/
def Ftab (K : PySem.W.Frag) (C : Addr) : List PyData → (Addr → V → Hp → Prop) → Prop := fun ds R => ∃ n d gs, ds = [.int (n : Nat), d] ∧ (d = .list (gs.map grpD) ∨ d = .tuple (gs.map grpD)) ∧ TabOk n gs ∧ R = TabL K C n (norm gs)
theorem sc_Tinit : FnScope ["self", "width", "groups", "counts", "at", "group", "count", "row", "item"] ["self", "width", "groups"] (defScope sTable____init__) := ⟨rfl, rfl, rfl, by decide +kernel, rfl, by decide +kernel, by decide +kernel⟩
theorem dir_row {n : Nat} {l : List Int} (h1 : l.length = n) (h2 : ∀ x ∈ l, (1 : Int) ≤ x) : isDir (tI l) n = true := by
  show (decide (((l.map PyData.int).length : Int) = n) && (l.map PyData.int).all fun x => isNum x 0) = true
  rw [Bool.and_eq_true]
  refine ⟨by rw [List.length_map, h1]; simp, ?_⟩
  rw [List.all_map, List.all_eq_true]
  intro x hx
  exact isNum_t (by have := h2 x hx; omega)
def posD : PyData → Bool := fun d => match d with
  | .int i => decide (0 < i)
  | _ => false
theorem alike_ints : ∀ a b : List Int, PySem.W.alikeAll (a.map PyData.int) (b.map PyData.int) = true
  | [], b => by simp [PySem.W.alikeAll]
  | _ :: _, [] => by simp [PySem.W.alikeAll]
  | x :: a, y :: b => by simp [PySem.W.alikeAll, PySem.W.alike, alike_ints a b]
theorem sortOk_rows {ks : List (List Int)} {u : Nat} (h : ∀ k ∈ ks, k ≠ []) (hu : u + 8 < cLine) : SortOk tI' ks u := by
  refine ⟨fun d hd d' hd' => ?_, .inl fun d hd => ?_, fun b hb => ?_⟩
  · obtain ⟨k, _, rfl⟩ := List.mem_map.mp hd
    obtain ⟨k', _, rfl⟩ := List.mem_map.mp hd'
    simp only [PySem.W.alike]
    exact alike_ints k k'
  · obtain ⟨k, hk, rfl⟩ := List.mem_map.mp hd
    cases k with
    | nil => exact absurd rfl (h _ hk)
    | cons x k => exact ⟨.int x, k.map .int, rfl⟩
  · have := dep_ints b
    show u + 2 + PyData.depth (.tuple (b.map .int)) < cLine
    simp [PyData.depth]
    omega
theorem room_u1 {k : Nat} {A : Around} (h : Room k A) : A.units + 1 < cLine := by have := h.un; omega
theorem room_u8 {k : Nat} {A : Around} (h : Room k A) : A.units + 8 < cLine := by have := h.un; omega
theorem accF_snoc (m : MapI) (gs : List Grp) (g : Grp) : accF m (gs ++ [g]) = putM (accF m gs) g.2 ((getM (accF m gs) g.2).getD 0 + g.1) := by
  unfold accF
  rw [List.foldl_append]; rfl
theorem take_snocG {α : Type} {l : List α} {i : Nat} (h : i < l.length) : l.take (i + 1) = l.take i ++ [l[i]] := by
  rw [List.take_succ, List.getElem?_eq_getElem h]; rfl
/-- b is new behind H2; then S3 H3; then T -/
theorem GrI.after {b : Addr} {S2 H2 S3 H3 T H' : Hp} {o : HO} (e : Gr S2 (upd H2 b o) S3 H3) (j : GrI b S3 H3 T H') (hb : H2 b = none) (hS : S2 b = none) : GrI b S2 (upd H2 b o) T H' :=
  ⟨e.st.trans j.st, j.sub, fun z u n h => j.hh z u n (e.hh _ _ h), fun z u n h m => (j.old z u n (e.hh _ _ h) m).trans (e.old z u h m)⟩
theorem ok_Tinit {C : Addr} {mc : Value} {t : Tok} (F : FunD K "__init__" "Table.__init__" (defArgs sTable____init__) (defBody sTable____init__) (defScope sTable____init__) [] [] f fd) (D1 : KD P w K mg base "check_width" 2 (spD K FchkW)) (D2 : KD P w K mg base "is_number" 1 (spD K FisNumber)) (D3 : KD P w K mg base "is_direction" 2 (spD K FisDir)) (c : Cls K C)
    (n1 : NoAttr K C "width") (n2 : NoAttr K C "_groups") (gS : mg "Table" = some (.ref C)) (cr : ClX.CRead K C mc) (cv : ClX.CVal K C mc "MOST" (.int 100) (.int 100 t)) (g1 : mg "len" = none) (g2 : mg "isinstance" = none) (g3 : mg "list" = none) (g4 : mg "tuple" = none) (g5 : mg "enumerate" = none) (g6 : mg "all" = none) (g7 : mg "sorted" = none) :
    FnOk P w K mg base CX0 3 f fd ["self", "width", "groups"] (spI C K (Ftab K C)) := by
  refine fn_hs F sc_Tinit (fun vs H Q E h => ?_) (fun cdv A outer sh H vs Q E hr h => ?_)
  · obtain ⟨S, a, dx, ws, ds, R, rfl, _, _, _, hd, ⟨_, _, _, rfl, _⟩, _⟩ := h
    have := hd.1
    simp at this
    simp [this]
  · obtain ⟨S, a, dx, ws, ds, R, rfl, s, hSa, hHa, hd, ⟨n, d, gs, rfl, hdd, ho, rfl⟩, q⟩ := h
    obtain ⟨vn, vg, rfl, p1, p2⟩ := hd.two
    obtain ⟨o1, o3, one, o100, oall⟩ := ho
    have i0 := GrI.start (o := .ins C dx []) s hSa hHa
    refine hs_expr (ee_callD D1 hr ⟨(n : Int), rfl, rfl, by omega, by omega⟩ (ea_1 (ee_var 1 rfl (p1.up i0.st)))) i0.sub fun _ S1 H1 e1 _ => ?_
    have i1 := i0.step e1
    have a1 : S1 a = some (.ins C dx []) := e1.st _ _ upd_same
    have hlt : (isD d "list" || isD d "tuple") = true := by rcases hdd with rfl | rfl <;> rfl
    have htr : truD d = true := by
      have : gs.isEmpty = false := by cases gs <;> simp_all
      rcases hdd with rfl | rfl <;> (show (!(gs.map grpD).isEmpty) = true; simp [this])
    refine hs_ifN ((et_w (ew_or (et_not (et_val (ee_isiLT rfl g2 g3 g4 (ee_var 2 rfl (p2.up i1.st))))) fun _ => ew_or1 (et_not (et_tru (ee_var 2 rfl (p2.up i1.st)) (fun x hx => by rcases hdd with rfl | rfl <;> cases hx))))).is (by rw [hlt, htr]; rfl)) i1.sub fun S2 H2 e2 => ?_
    have i2 := i1.step e2
    have a2 := e2.st _ _ a1
    have p12 := p1.up i2.st
    have p22 := p2.up i2.st
    refine hs_dnew (j := 3) sc_Tinit.nd fun b hb => ?_
    refine hs_forH (Ps := Ds K (enumD (gs.map grpD))) PassesOwn.never rfl (by
      rcases hdd with rfl | rfl
      · exact ei_enumL g5 (ee_var 2 rfl p22)
      · exact ei_enumT g5 (ee_var 2 rfl p22)) (sub_new i2.sub hb) fun S3 H3 e3 => ?_
    have hS2b : S2 b = none := i2.sub.free hb
    have hS3b : S3 b = none := (e3.old b _ upd_same (by intro xs z; cases z)).trans hS2b
    have hH3b : H3 b = some (.dT (kvM [])) := e3.hh _ _ upd_same
    have p13 := p12.up e3.st
    have p23 := p22.up e3.st
    refine ⟨fun i σ' H' => ∃ T x4 x5 x6 x7, σ' = [some (.ref a), some vn, some vg, some (.ref b), x4, x5, x6, x7, none] ∧ GrI b S3 H3 T H' ∧ T b = some (.dT (kvM (accF [] (gs.take i)))), ⟨_, none, none, none, none, rfl, GrI.start e3.sub hS3b hH3b, upd_same⟩, fun i σ' H' ⟨T, _, _, _, _, _, j, _⟩ => j.st.trans j.sub, ?_, ?_⟩
    · rintro i Pi σ1 H4 x H5 hP ⟨T, x4, x5, x6, x7, rfl, j, hT⟩ y
      obtain ⟨T5, e5, px⟩ := y T j.st j.sub
      have hi : i < gs.length := by
        have := (List.getElem?_eq_some_iff.mp hP).1
        rw [enum_len, List.length_map] at this; exact this
      have hz : (gs.map grpD)[i]? = some (grpD gs[i]) := by rw [List.getElem?_map, List.getElem?_eq_getElem hi]; rfl
      rw [ds_get (enum_get hz)] at hP
      obtain rfl := Option.some.inj hP
      obtain ⟨c1, clen, cpos⟩ := oall gs[i] (List.getElem_mem hi)
      have hne : gs[i].2 ≠ [] := fun e => by rw [e] at clen; simp at clen; omega
      obtain ⟨u1, u2, k1, k2, hg⟩ := eg_pair (σ := [some (.ref a), some vn, some vg, some (.ref b), x4, x5, x6, x7, none]) (i := 4) (j := 5) (x := "at") (y := "group") (kk := _) (px := _) (py := _) (pos := _) (X := (cxOf CX0 P w K mg base ["self", "width", "groups", "counts", "at", "group", "count", "row", "item"] "Table.__init__" (defScope sTable____init__) f cdv A outer sh H E).nox) rfl sc_Tinit.nd rfl rfl (Or.inl rfl) (Or.inl rfl) px
      refine hg H5 e5.sub _ ?_
      have j5 := j.step e5
      refine hs_ifN ((et_w (ew_or (et_not (et_val (ee_isi (isD_ok (grpD gs[i]) (T := "tuple") (by simp)) g2 g4 boot_tuple (ee_var 5 rfl k2)))) fun _ => ew_or (et_neI (ee_len g1 (d := grpD gs[i]) (n := 2) rfl (ee_var 5 rfl k2)) ee_int) fun _ => ew_or1 (et_not (et_val (ee_callD D2 (hr.mono (by decide)) ⟨.int gs[i].1, 1, rfl, rfl⟩ (ea_2 (ee_ixT (ds := [.int gs[i].1, tI gs[i].2]) (d := .int gs[i].1) rfl (ee_var 5 rfl k2) ee_int) ee_int)))))).is (by rw [isNum_t c1]; rfl)) j5.sub fun S6 H6 e6 => ?_
      have j6 := j5.step e6
      refine hs_unpack (i := 6) (j := 7) (d1 := .int gs[i].1) (d2 := tI gs[i].2) rfl sc_Tinit.nd (ee_var 5 rfl (k2.up e6.st)) j6.sub fun v w S7 H7 e7 pv pw => ?_
      have j7 := j6.step e7
      refine hs_if (et_w (ew_or (et_not (et_val (ee_callD D3 hr ⟨tI gs[i].2, (n : Int), rfl, rfl⟩ (ea_2 (ee_var 7 rfl pw) (ee_var 1 rfl (p13.up j7.st)))))) fun _ => ew_or1 (et_not (et_val ((ee_all (bs := (gs[i].2.map PyData.int).map posD) rfl g6 (ee_lc (i := 8) (enc := .bool) (f := posD) rfl sc_Tinit.nd (blkOk_by (N := ["self", "width", "groups", "counts", "at", "group", "count", "row", "item"]) (sc := defScope sTable____init__) (by decide +kernel)) (ei_tup (ee_var 7 rfl pw)) (by rw [List.length_map]; show _ ≤ 16777216; omega) ?_)).isd (d' := .bool true) ?_))))) j7.sub (fun hk S8 H8 e8 => ?_) (fun _ S8 H8 e8 => hs_nil ?_)
      · intro x hx v S2 s2 pv sh' H0 C' cl fp
        obtain ⟨z, _, rfl⟩ := List.mem_map.mp hx
        exact ee_gt (ee_var 8 rfl pv) ee_int
      · have : (((gs[i].2.map PyData.int).map posD).all fun b => b) = true := by
          rw [List.all_map, List.all_map, List.all_eq_true]
          intro x hx
          exact decide_eq_true (by have := cpos x hx; omega)
        rw [this]
      · exfalso
        rw [dir_row clen cpos] at hk
        cases hk
      have j8 := j7.step e8
      have hT8 : S8 b = some (.dT (kvM (accF [] (gs.take i)))) := e8.st _ _ (e7.st _ _ (e6.st _ _ (e5.st _ _ hT)))
      have hml : (accF [] (gs.take i)).length < 16777216 := by
        have h1 := accF_len (gs.take i) []
        have h2 : (gs.take i).length ≤ gs.length := by rw [List.length_take]; omega
        simp only [List.length_nil] at h1
        omega
      refine hs_dputS (r := b) (n := (getM (accF [] (gs.take i)) gs[i].2).getD 0 + gs[i].1) (k := gs[i].2) (m := accF [] (gs.take i)) (room_u1 hr) (ee_add (ee_dget2 (room_u1 hr) hT8 (ee_var 3 rfl rfl) (EE.ky (ee_var 7 rfl (pw.up e8.st)) hne) ee_int) (ee_var 6 rfl (pv.up e8.st))) (ee_var 3 rfl rfl) (EE.ky (ee_var 7 rfl (pw.up e8.st)) hne) j8.sub hT8 hml fun S9 H9 e9 => hs_nil ?_
      refine ⟨_, _, _, _, _, rfl, (j8.step e9).put hS3b, ?_⟩
      rw [take_snocG hi, accF_snoc]
      exact upd_same
    · rintro σ1 H4 ⟨T, x4, x5, x6, x7, rfl, j, hT⟩
      have hlen : (Ds K (enumD (gs.map grpD))).length = gs.length := by rw [enum_len, List.length_map]
      rw [hlen, List.take_length] at hT
      have i4 := i2.under hb (GrI.after e3 j hb hS2b)
      have a4 : T a = some (.ins C dx []) := j.st _ _ (e3.st _ _ a2)
      have hmem : ∀ r ∈ keysM (accF [] gs), r.length = n := fun r hr' => by
        rcases (accF_keys gs [] r).mp hr' with h | h
        · cases h
        · obtain ⟨g, hg, rfl⟩ := List.mem_map.mp h
          exact (oall g hg).2.1
      have hkl : (accF [] gs).length ≤ 100 := by have := accF_len gs []; simp at this; omega
      refine hs_ifN ((et_gt (ee_dlen g1 hT (ee_var 3 rfl rfl)) (ee_cval (P := Dt K (.int 100)) gS cr cv (fun _ => .int 100))).is (by rw [decide_eq_false (by omega)])) i4.sub fun S5 H5 e5 => ?_
      have i5 := i4.step e5
      have a5 := e5.st _ _ a4
      have hT5 := e5.st _ _ hT
      refine hs_fld (P := Dt K (.int (n : Nat))) (r := a) (C := C) (dx := dx) (fs := []) (ee_var 1 rfl (p1.up i5.st)) i5.sub (fun S6 _ => ee_var 0 rfl rfl) (i5.sub _ _ a5) c n1 (by decide) fun v S6 H6 e6 pv e0 => ?_
      obtain rfl := pv.int_inv
      have a6 := e6.st _ _ a5
      have i6 := (i5.step e6).put (o := .ins C dx [("width", .int (n : Nat))]) hSa
      have hne : b ≠ a := fun e => by subst e; rw [a2] at hS2b; cases hS2b
      have hT6 : upd S6 a (.ins C dx [("width", .int (n : Nat))]) b = some (.dT (kvM (accF [] gs))) := by rw [upd_ne hne]; exact e6.st _ _ hT5
      refine hs_fld (P := NewL K (upd S6 a (.ins C dx [("width", .int (n : Nat))])) ((norm gs).map grpD)) (r := a) (C := C) (dx := dx) (fs := [("width", .int (n : Nat))]) ?_ i6.sub (fun S7 _ => ee_var 0 rfl rfl) upd_same c n2 (show 1 < 1000 by decide) fun v S7 H7 e7 pv e0 => hs_nil ?_
      · refine (ee_lcNw (i := 7) (enc := id) (f := fun d => grpD (totG gs (unI d), unI d)) rfl sc_Tinit.nd (blkOk_by (N := ["self", "width", "groups", "counts", "at", "group", "count", "row", "item"]) (sc := defScope sTable____init__) (by decide +kernel)) (ei_list (ee_sortDT rfl g7 (sortOk_rows (fun k hk e => by have := hmem k hk; rw [e] at this; simp at this; omega) (room_u8 hr)) (fun k hk => by rw [hmem k hk]; show _ ≤ 16777216; omega) hT6 (ee_var 3 rfl rfl))) (by rw [List.length_map]; unfold srt; rw [List.length_mergeSort]; unfold keysM; rw [List.length_map]; exact Nat.le_trans hkl (by show 100 ≤ 16777216; decide)) ?_).imp fun _ _ h => h.is ?_
        · intro d hd v S8 s8 pv sh' H0 C' cl fp
          obtain ⟨r, hr', rfl⟩ := List.mem_map.mp hd
          have hr2 := mem_srt.mp hr'
          have hne : r ≠ [] := fun e => by have := hmem r hr2; rw [e] at this; simp at this; omega
          obtain ⟨z, hz⟩ := getM_some hr2
          have hzt : z = totG gs r := by
            have := accF_get gs [] r
            rw [hz] at this
            simpa [getM] using this
          have pv' : Dt K (tI r) v S8 := pv
          refine (ee_tup (ds := [.int z, tI r]) (ea_2 (ee_dix (room_u1 hr) (s8 _ _ hT6) hz (ee_var 3 rfl rfl) (EE.ky (ee_var 7 rfl pv') hne)) (ee_var 7 rfl pv'))).isd ?_
          show grpD (z, r) = grpD (totG gs (unI (tI r)), unI (tI r))
          rw [unI_tI, hzt]
        · rw [List.map_id, List.map_map, norm, List.map_map]
          show (srt tI' (keysM (accF [] gs))).map ((fun d => grpD (totG gs (unI d), unI d)) ∘ tI') = (srt tI' (keysM (accF [] gs))).map (grpD ∘ fun r => (totG gs r, r))
          exact List.map_congr_left fun r _ => by
            show grpD (totG gs (unI (tI r)), unI (tI r)) = grpD (totG gs r, r)
            rw [unI_tI]
      · obtain ⟨l, xs, rfl, h0, hl1, hx, hz⟩ := pv
        have a7 := e7.st _ _ (upd_same (H := S6) (a := a) (o := .ins C dx [("width", .int (n : Nat))]))
        have i8 := (i6.step e7).put (o := .ins C dx (tabF n l)) hSa
        have lne : l ≠ a := fun e => by subst e; rw [upd_same] at h0; cases h0
        refine q l _ _ i8 (i6.st.free h0) ⟨a, dx, xs, rfl, upd_same, by rw [upd_ne lne]; exact hl1, grps_keep (sqt_put a7 (fun _ z => nomatch z) (fun _ _ z => nomatch z)) hx, hz⟩
/-! ## the methods of Table -/
def grpQ (g : Grp) : PyData × PyData := (.int g.1, tI g.2)
def unG (q : PyData × PyData) : Grp := ((match q.1 with | .int i => i | _ => 0), unI q.2)
theorem unG_q (g : Grp) : unG (grpQ g) = g := by
  show (g.1, unI (tI g.2)) = g
  rw [unI_tI]
theorem grpQ_t (gs : List Grp) : (gs.map grpQ).map tupP = gs.map grpD := by rw [List.map_map]; rfl
section
variable {X : Cx} {σ : L2.St} {S : Hp} {elt iter : Expr} {scope : Scope} {pos px py tp : Pos} {i j kk : Nat} {x y : Str} {gs : List Grp}
/-- [elt for x, y in groups] -/
theorem ee_lcGrp {f : Grp → PyData} (hc : X.calm = true) (hN : X.N.Nodup) (ok : BlkOk X.N X.env.scope scope [(x, i), (y, j)]) (hi : EI X σ S (.Tuple [.Name x px, .Name y py] kk tp) iter (Ds X.K (gs.map grpD))) (hz : gs.length ≤ sizeLine)
    (hel : ∀ g ∈ gs, ∀ v w S', Same S S' → Dt X.K (.int g.1) v S' → Dt X.K (tI g.2) w S' → ∀ (s : Shared) (H0 : Hp) (C : Addr) (cl : List (Str × Addr)) (fp : List Addr), EE (X.blk s H0 scope (compEnvC scope cl C X.env) fp) (((wipe σ [i, j]).set i (some v)).set j (some w)) S' elt (Dt X.K (f g)))
    (hij : i ≠ j := by decide) (hix : X.N[i]? = some x := by rfl) (hjy : X.N[j]? = some y := by rfl) (hx : ∀ (s : Shared) (H0 : Hp) (C : Addr) (cl : List (Str × Addr)) (fp : List Addr), (Loc (X.blk s H0 scope (compEnvC scope cl C X.env) fp).env.scope x ∧ ((X.blk s H0 scope (compEnvC scope cl C X.env) fp).fn x = true ∨ (X.blk s H0 scope (compEnvC scope cl C X.env) fp).env.scope.names.lookup x = some .local)) ∧
      (Loc (X.blk s H0 scope (compEnvC scope cl C X.env) fp).env.scope y ∧ ((X.blk s H0 scope (compEnvC scope cl C X.env) fp).fn y = true ∨ (X.blk s H0 scope (compEnvC scope cl C X.env) fp).env.scope.names.lookup y = some .local)) := by
      intros; exact ⟨⟨by first | exact Or.inl rfl | exact Or.inr rfl, by first | exact .inl rfl | exact .inr rfl⟩, ⟨by first | exact Or.inl rfl | exact Or.inr rfl, by first | exact .inl rfl | exact .inr rfl⟩⟩)
    (ha : ∀ (s : Shared) (H0 : Hp) (C : Addr) (cl : List (Str × Addr)) (fp : List Addr), (assignEach [.Name x px, .Name y py] (X.blk s H0 scope (compEnvC scope cl C X.env) fp).env).length = 2 ∧ (assignEach [.Name x px, .Name y py] (X.blk s H0 scope (compEnvC scope cl C X.env) fp).env).findIdx? (·.1) = none ∧
      (assignEach [.Name x px, .Name y py] (X.blk s H0 scope (compEnvC scope cl C X.env) fp).env).map (·.2) = assign (.Name x px) (X.blk s H0 scope (compEnvC scope cl C X.env) fp).env :: (assignEach [.Name y py] (X.blk s H0 scope (compEnvC scope cl C X.env) fp).env).map (·.2) ∧ (assignEach [.Name y py] (X.blk s H0 scope (compEnvC scope cl C X.env) fp).env).map (·.2) = assign (.Name y py) (X.blk s H0 scope (compEnvC scope cl C X.env) fp).env :: (assignEach [] (X.blk s H0 scope (compEnvC scope cl C X.env) fp).env).map (·.2) := by intros; exact ⟨rfl, rfl, rfl, rfl⟩)
    (hs : ∀ x, foldedSetIterable iter X.env x = pure x := by intro _; rfl) :
    EE X σ S (.ListComp elt [⟨.Tuple [.Name x px, .Name y py] kk tp, iter, [], 0⟩] scope pos) (Dt X.K (.list (gs.map f))) :=
  (ee_lc2 (enc := id) (f := fun q => f (unG q)) (ps := gs.map grpQ) hc hN ok (by rw [grpQ_t]; exact hi) (by rw [List.length_map]; exact hz) (fun q hq v w S' s hv hw sh H0 C cl fp => by
    obtain ⟨g, hg, rfl⟩ := List.mem_map.mp hq
    show EE _ _ _ _ (Dt X.K (f (unG (grpQ g))))
    rw [unG_q]
    exact hel g hg v w S' s hv hw sh H0 C cl fp) hij hix hjy hx ha hs).isd (by
    rw [List.map_id, List.map_map]
    exact congrArg PyData.list (List.map_congr_left fun g _ => by show f (unG (grpQ g)) = f g; rw [unG_q]))
end
section
variable {C : Addr} {n : Nat} {gs : List Grp}
theorem TabP.ins : ∀ v S, TabP K C n gs v S → ∃ a dx fs, v = .ref a ∧ S a = some (.ins C dx fs) := fun v S ⟨l, a, dx, xs, e, h, _⟩ => ⟨a, dx, _, e, h⟩
theorem TabP.wid : ∀ v S1, TabP K C n gs v S1 → ∃ a dx fs u, v = .ref a ∧ S1 a = some (.ins C dx fs) ∧ fs.lookup ("width" : Str) = some u ∧ Dt K (.int (n : Nat)) u S1 := fun v S ⟨l, a, dx, xs, e, h, _⟩ => ⟨a, dx, _, _, e, h, rfl, .int _⟩
theorem TabP.grp : ∀ v S1, TabP K C n gs v S1 → ∃ a dx fs u, v = .ref a ∧ S1 a = some (.ins C dx fs) ∧ fs.lookup ("_groups" : Str) = some u ∧ Dt K (.list (gs.map grpD)) u S1 := fun v S ⟨l, a, dx, xs, e, h, h2, h3, h4⟩ => ⟨a, dx, _, _, e, h, rfl, Dt.lst_mk h2 h3 h4⟩
theorem TabP.insP {m : Str} (h : ∀ l, (tabF n l).lookup m = none := by intro _; rfl) : InsP C m (TabP K C n gs) := fun v S ⟨l, a, dx, xs, e, q, _⟩ => ⟨a, dx, _, e, q, h l⟩
end
/-- Table is made -/
structure MkT (P : Program) (w : World) (K : PySem.W.Frag) (mg : Str → Option Value) (base : Heap) (C : Addr) : Prop where
  ex : ∃ fi fdi ps, Mk K C fi ∧ FnOk P w K mg base CX0 3 fi fdi ps (spI C K (Ftab K C)) ∧ Binds K fdi ps [] ∧ ∃ g gV, KBn K fdi ps 1 ["groups", "width"] g gV ∧ ∀ s v w, gV [s] [v, w] = [s, w, v]
section
variable {X : Cx} {σ : L2.St} {S : Hp} {C : Addr} {a b : Expr} {p pos q1 q2 : Pos} {n : Nat} {d : PyData} {gs : List Grp}
theorem ee_mkT (M : MkT X.prog X.w X.K X.mg X.base C) (hr : Room 4 X.A) (gS : X.mg "Table" = some (.ref C)) (ho : TabOk n gs) (hd : d = .list (gs.map grpD) ∨ d = .tuple (gs.map grpD)) (ha : EE X σ S a (Dt X.K (.int (n : Nat)))) (hb : EE X σ S b (Dt X.K d)) (hg : Gl X "Table" := by rfl)
    (he : starEach [a, b] X.env = (false, eval a X.env) :: starEach [b] X.env := by rfl) (he2 : starEach [b] X.env = (false, eval b X.env) :: starEach [] X.env := by rfl) (hpl : (backTo pos (starEach [b] X.env)).any (·.1) = false := by rfl) : EE X σ S (.Call (.Name "Table" p) [a, b] [] pos) (NewR (TabL X.K C n (norm gs)) S) := by
  obtain ⟨fi, fdi, ps', m, G, b2, _⟩ := M.ex
  exact ee_make (ds := [.int (n : Nat), d]) (dd := []) m G hr gS b2 .nil (fun _ => .nil) (ea_2 ha hb he he2) ⟨n, d, gs, rfl, hd, ho, rfl⟩ hg (by decide) he hpl
end
/-! ### size, groups, sum_of -/
def spTgr (K : PySem.W.Frag) (C : Addr) : Sp := fun vs H Q _ => ∃ S n gs v, vs = [v] ∧ Same S H ∧ TabP K C n gs v S ∧ ∀ u S' H', Gr S H S' H' → NewL K S (gs.map grpD) u S' → Q u H'
theorem spTgr_E {K : PySem.W.Frag} {C : Addr} {S : Hp} {n : Nat} {gs : List Grp} : SpE (spTgr K C) S [TabP K C n gs] (NewL K S (gs.map grpD)) := fun vs S1 H1 st s al Q q => by
  obtain ⟨v, rfl, pv⟩ := al.one
  exact ⟨S1, n, gs, v, rfl, s, pv, fun u S' H' g nn => q u S' H' g (nn.dn st)⟩
theorem sc_Tgroups : FnScope ["self"] ["self"] (defScope sTable__groups) := ⟨rfl, rfl, rfl, by decide +kernel, rfl, by decide +kernel, by decide +kernel⟩
theorem ok_Tgroups {C : Addr} (F : FnM K "groups" "Table.groups" sTable__groups f fd) (g1 : mg "list" = none) (c : Cls K C) (n2 : NoAttr K C "_groups") : FnOk P w K mg base CX0 1 f fd ["self"] (spTgr K C) := by
  refine fn_hs F sc_Tgroups (fun vs H Q E h => ?_) (fun cdv A outer sh H vs Q E hr h => ?_)
  · obtain ⟨S, n, gs, v, rfl, _⟩ := h
    rfl
  · obtain ⟨S, n, gs, v, rfl, s, pv, q⟩ := h
    exact hs_ret (ee_listN g1 (.inl rfl) (ee_fld (ee_var 0 rfl pv) TabP.grp c n2)) s q
end
end K18
namespace K18
open PySem PySem.Spec PyProof.Rows L2 Z Y
section
variable {P : Program} {w : World} {K : PySem.W.Frag} {mg : Str → Option Value} {base : Heap} {f : Addr} {fd : FuncData}
theorem eqvAll_ints : ∀ a b : List Int, PyData.eqvAll (a.map .int) (b.map .int) = decide (a = b)
  | [], [] => by simp [PyData.eqvAll]
  | [], _ :: _ => by simp [PyData.eqvAll]
  | _ :: _, [] => by simp [PyData.eqvAll]
  | x :: a, y :: b => by
    rw [List.map_cons, List.map_cons]
    unfold PyData.eqvAll
    rw [eqvAll_ints a b]
    simp [PyData.eqv, Bool.decide_and]
    rfl
theorem eqv_tI (a b : List Int) : PyData.eqv (tI a) (tI b) = decide (a = b) := by
  show PyData.eqv (.tuple (a.map .int)) (.tuple (b.map .int)) = _
  rw [PyData.eqv]
  exact eqvAll_ints a b
theorem eqv_grp (g h : Grp) : PyData.eqv (grpD g) (grpD h) = decide (g = h) := by
  show PyData.eqv (.tuple [.int g.1, tI g.2]) (.tuple [.int h.1, tI h.2]) = _
  rw [PyData.eqv]
  unfold PyData.eqvAll
  unfold PyData.eqvAll
  rw [eqv_tI]
  unfold PyData.eqvAll
  obtain ⟨a, b⟩ := g
  obtain ⟨c, d⟩ := h
  simp [PyData.eqv, Bool.decide_and]
  rfl
theorem eqvAll_grps : ∀ a b : List Grp, PyData.eqvAll (a.map grpD) (b.map grpD) = decide (a = b)
  | [], [] => by simp [PyData.eqvAll]
  | [], _ :: _ => by simp [PyData.eqvAll]
  | _ :: _, [] => by simp [PyData.eqvAll]
  | x :: a, y :: b => by
    rw [List.map_cons, List.map_cons]
    unfold PyData.eqvAll
    rw [eqvAll_grps a b, eqv_grp]
    simp [Bool.decide_and]
theorem eqv_grps (a b : List Grp) : PyData.eqv (.list (a.map grpD)) (.list (b.map grpD)) = decide (a = b) := by
  rw [PyData.eqv]
  exact eqvAll_grps a b
theorem can_grp (g : Grp) : PyData.canLay0 (grpD g) = true := by
  show PyData.canLay0 (.tuple [.int g.1, .tuple (g.2.map .int)]) = true
  simp [PyData.canLay0, PyData.canLayAll0, can_ints]
theorem dep_grp (g : Grp) : PyData.depth (grpD g) ≤ 3 := by
  show PyData.depth (.tuple [.int g.1, .tuple (g.2.map .int)]) ≤ 3
  have := dep_ints g.2
  simp [PyData.depth, PyData.depthAll]; omega
theorem can_grps : ∀ ps : List Grp, PyData.canLayAll0 (ps.map grpD) = true
  | [] => by simp [PyData.canLayAll0]
  | p :: ps => by simp [PyData.canLayAll0, can_grp, can_grps ps]
theorem dep_grps : ∀ ps : List Grp, PyData.depthAll (ps.map grpD) ≤ 4
  | [] => by simp [PyData.depthAll]
  | p :: ps => by have := dep_grps ps; have := dep_grp p; simp [PyData.depthAll]; omega
theorem shaped_grps (ps : List Grp) : SeqAt.shaped (.list (ps.map grpD)) = true := by
  unfold SeqAt.shaped
  rw [Bool.and_eq_true, decide_eq_true_eq]
  have := dep_grps ps
  refine ⟨by simp [PyData.canLay0, can_grps], by simp [PyData.depth]; omega⟩
/-! ### keeps -/
def FTkeep (C CS : Addr) (K : PySem.W.Frag) : Sp := fun vs H Q _ => ∃ S n gs z ps v u, vs = [v, u] ∧ Same S H ∧ TabP K C n gs v S ∧ SchP K CS z ps u S ∧ SchOk z ps ∧ z.cps.size = n ∧ gs.length ≤ 1000 ∧ (∀ g ∈ gs, g.2.length = n ∧ ∀ x ∈ g.2, (1 : Int) ≤ x ∧ x.natAbs ≤ 10000000) ∧ ∀ S' H', Gr S H S' H' → Q (.bl (gs.all fun g => keepsI ps g.2)) H'
theorem FTkeep_E {K : PySem.W.Frag} {C CS : Addr} {S : Hp} {n : Nat} {gs : List Grp} {z : Str} {ps : Rules} (ho : SchOk z ps) (hz : z.cps.size = n) (hl : gs.length ≤ 1000) (hg : ∀ g ∈ gs, g.2.length = n ∧ ∀ x ∈ g.2, (1 : Int) ≤ x ∧ x.natAbs ≤ 10000000) : SpE (FTkeep C CS K) S [TabP K C n gs, SchP K CS z ps] (Dt K (.bool (gs.all fun g => keepsI ps g.2))) := fun vs S1 H1 st s al Q q => by
  obtain ⟨v, u, rfl, pv, pu⟩ := al.two
  exact ⟨S1, n, gs, z, ps, v, u, rfl, s, pv, pu, ho, hz, hl, hg, fun S' H' g => q _ S' H' g (.bl _)⟩
theorem sc_Tkeeps : FnScope ["self", "schema", "_", "row"] ["self", "schema"] (defScope sTable__keeps) := ⟨rfl, rfl, rfl, by decide +kernel, rfl, by decide +kernel, by decide +kernel⟩
theorem row_tI {r : List Int} {n : Nat} (h1 : r.length = n) (h2 : ∀ x ∈ r, (1 : Int) ≤ x) : isRow (tI r) n = true := by
  show (decide (((r.map PyData.int).length : Int) = n) && (r.map PyData.int).all fun x => isNum x 1) = true
  rw [Bool.and_eq_true]
  refine ⟨by rw [List.length_map, h1]; simp, ?_⟩
  rw [List.all_map, List.all_eq_true]
  intro x hx
  exact isNum_t (h2 x hx)
theorem ok_Tkeeps {C CS : Addr} (F : FnM K "keeps" "Table.keeps" sTable__keeps f fd) (D1 : KM P w K mg base CS "__contains__" 3 (spO K (FScont CS K))) (g1 : mg "all" = none) (c : Cls K C) (cS : Cls K CS) (n1 : NoAttr K C "width") (n2 : NoAttr K C "_groups") (n3 : NoAttr K CS "width") : FnOk P w K mg base CX0 5 f fd ["self", "schema"] (FTkeep C CS K) := by
  refine fn_hs F sc_Tkeeps (fun vs H Q E h => ?_) (fun cdv A outer sh H vs Q E hr h => ?_)
  · obtain ⟨S, n, gs, z, ps, v, u, rfl, _⟩ := h
    rfl
  · obtain ⟨S, n, gs, z, ps, v, u, rfl, s, pv, pu, ho, hz, hl, hg, q⟩ := h
    refine hs_ifN ((et_neI (ee_fld (ee_var 1 rfl pu) SchP.wfld cS n3) (ee_fld (ee_var 0 rfl pv) TabP.wid c n1)).is (by rw [hz]; simp)) s fun S1 H1 e1 => ?_
    refine hs_ret ((ee_all (bs := gs.map fun g : Grp => keepsI ps g.2) rfl g1 ((ee_lcGrp (i := 2) (j := 3) (f := fun g : Grp => .bool (keepsI ps g.2)) rfl sc_Tkeeps.nd (blkOk_by (N := ["self", "schema", "_", "row"]) (sc := defScope sTable__keeps) (by decide +kernel)) (ei_list (ee_fld (ee_var 0 rfl (Mn.up e1.st pv)) TabP.grp c n2)) (Nat.le_trans hl (by show 1000 ≤ 16777216; decide)) ?_).isd (by rw [List.map_map]; rfl))).isd (d' := .bool (gs.all fun g => keepsI ps g.2)) (by rw [List.all_map]; rfl)) e1.sub fun v S' H' g p => by
      cases p
      exact q S' H' (e1.trans g)
    intro g hgm v1 v2 S2 s2 p1 p2 sh' H0 C' cl fp
    obtain ⟨hlen, hx⟩ := hg g hgm
    have p2 : Dt K (tI g.2) v2 S2 := p2
    refine ee_inO (Pa := Dt K (tI g.2)) (Pb := SchP K CS z ps) D1 (hr.mono (by decide)) (ee_var 3 rfl p2) (ee_var 1 rfl (Mn.up (e1.st.trans s2) pu)) (fun w S1 h => SchP.ins w S1 h) (fun v w S3 H3 st s3 pb pa Q q => ?_)
    refine ⟨S3, SchP K CS z ps, v, [w], [tI g.2], .bool (keepsI ps g.2), rfl, s3, inferInstance, pb, Dts.cons pa .nil, ⟨z, ps, tI g.2, rfl, ho, rfl, fun i hi => by rw [unI_tI] at hi; exact (hx i hi).2, ?_⟩, fun u S' H' g3 pu => ?_⟩
    · rw [row_tI (by rw [hz]; exact hlen) fun x h => (hx x h).1, unI_tI, Bool.true_and]
    · cases pu
      exact q S' H' g3
/-! ### ==, repr -/
def EqT (K : PySem.W.Frag) (C : Addr) (S : Hp) (v w : V) (b : Bool) : Prop := ∃ n1 gs1, TabP K C n1 gs1 v S ∧ ((∃ n2 gs2, TabP K C n2 gs2 w S ∧ b = (decide (n1 = n2) && decide (gs1 = gs2))) ∨ (∃ ds, Dt K (.list ds) w S ∧ b = false))
def spEqT (K : PySem.W.Frag) (C : Addr) : Sp := fun vs H Q _ => ∃ S v w b, vs = [v, w] ∧ Same S H ∧ EqT K C S v w b ∧ ∀ S' H', Gr S H S' H' → Q (.bl b) H'
theorem sc_Teq : FnScope ["self", "other"] ["self", "other"] (defScope sTable____eq__) := ⟨rfl, rfl, rfl, by decide +kernel, rfl, by decide +kernel, by decide +kernel⟩
theorem ok_Teq {C : Addr} (F : FnM K "__eq__" "Table.__eq__" sTable____eq__ f fd) (g1 : mg "isinstance" = none) (gS : mg "Table" = some (.ref C)) (c : Cls K C) (J : IsiC K C) (kl : PySem.W.kitOne K (.type "list") (.ref C) = some false) (n1 : NoAttr K C "width") (n2 : NoAttr K C "_groups") : FnOk P w K mg base CX0 1 f fd ["self", "other"] (spEqT K C) := by
  refine fn_hs F sc_Teq (fun vs H Q E h => ?_) (fun cdv A outer sh H vs Q E hr h => ?_)
  · obtain ⟨S, v, w, b, rfl, _⟩ := h
    rfl
  · obtain ⟨S, v, w', b, rfl, s, ⟨m1, gs1, pv, h⟩, q⟩ := h
    rcases h with ⟨m2, gs2, pw, rfl⟩ | ⟨ds, pw, rfl⟩
    · refine hs_ret ((ee_and (k1 := true) (k2 := decide (m1 = m2) && decide (gs1 = gs2)) (ee_isiO g1 gS (ee_var 1 rfl pw) (fun v S1 H1 s1 p => ?_)) fun _ => ee_and (k1 := decide (m1 = m2)) ((ee_eqI (ee_fld (ee_var 0 rfl pv) TabP.wid c n1) (ee_fld (ee_var 1 rfl pw) TabP.wid c n1)).isd ?_) fun _ => ee_one ((ee_eq hr (shaped_grps gs1) (shaped_grps gs2) (ee_fld (ee_var 0 rfl pv) TabP.grp c n2) (ee_fld (ee_var 1 rfl pw) TabP.grp c n2)).isd (by rw [eqv_grps])))) s fun v S' H' g p => ?_
      · obtain ⟨a, dx, fs, rfl, e⟩ := TabP.ins _ _ p
        exact ⟨.ref C, .base (.ins (s1 _ _ e) c J.cls J.sp J.tk J.ob), by unfold PySem.W.kitOne; simp⟩
      · congr 1
        exact decide_eq_decide.mpr ⟨fun h => by omega, fun h => by omega⟩
      · cases p
        exact q S' H' g
    · refine hs_ret (ee_and (k1 := false) (k2 := true) (ee_isiO (Pa := Dt K (.list ds)) g1 gS (ee_var 1 rfl pw) (fun v S1 H1 s1 p => ?_)) fun h => nomatch h) s fun v S' H' g p => ?_
      · obtain ⟨l, xs, rfl, hl, _⟩ := p.lst_inv
        exact ⟨.type "list", .base (.lst (s1 _ _ hl)), kl⟩
      · cases p
        exact q S' H' g
end
/-! ## plain facts that many laws share -/
theorem cut_to {α : Type} (xs : List α) {i : Nat} (h : i ≤ xs.length) : Z.cutD xs none (some (i : Int)) = xs.take i := by
  unfold Z.cutD
  have e1 : HT.sIx xs.length 0 none = 0 := rfl
  have e2 : HT.sIx xs.length xs.length (some (i : Int)) = i := by
    show (if (i : Int) < 0 then ((i : Int) + xs.length).toNat else min (i : Int).toNat xs.length) = i
    rw [if_neg (by omega)]; omega
  rw [e1, e2]; simp
theorem shaped_tI (l : List Int) : SeqAt.shaped (tI l) = true := by
  show SeqAt.shaped (.tuple (l.map .int)) = true
  unfold SeqAt.shaped
  rw [Bool.and_eq_true, decide_eq_true_eq]
  have := dep_ints l
  exact ⟨by simp [PyData.canLay0, can_ints], by simp [PyData.depth]; omega⟩
theorem can_tI (l : List Int) : PyData.canLay0 (tI l) = true := by
  show PyData.canLay0 (.tuple (l.map .int)) = true
  simp [PyData.canLay0, can_ints]
theorem dep_tI (l : List Int) : PyData.depth (tI l) ≤ 2 := by
  show PyData.depth (.tuple (l.map .int)) ≤ 2
  have := dep_ints l
  simp [PyData.depth]; omega
theorem shaped_tIs (ls : List (List Int)) : SeqAt.shaped (.list (ls.map tI)) = true := by
  have c : ∀ ps : List (List Int), PyData.canLayAll0 (ps.map tI) = true := fun ps => by
    induction ps with
    | nil => simp [PyData.canLayAll0]
    | cons p ps ih => simp [PyData.canLayAll0, can_tI, ih]
  have d : ∀ ps : List (List Int), PyData.depthAll (ps.map tI) ≤ 3 := fun ps => by
    induction ps with
    | nil => simp [PyData.depthAll]
    | cons p ps ih => have := dep_tI p; simp [PyData.depthAll]; omega
  unfold SeqAt.shaped
  rw [Bool.and_eq_true, decide_eq_true_eq]
  have := d ls
  refine ⟨by simp [PyData.canLay0, c], by simp [PyData.depth]; omega⟩
theorem any_tI (ls : List (List Int)) (r : List Int) : ((ls.map tI).any fun z => PyData.eqv z (tI r)) = decide (r ∈ ls) := by
  rw [List.any_map]
  induction ls with
  | nil => rfl
  | cons l ls ih =>
    rw [List.any_cons, ih]
    simp only [Function.comp_def, eqv_tI, List.mem_cons, Bool.decide_or]
    congr 1
    exact decide_eq_decide.mpr ⟨Eq.symm, Eq.symm⟩
theorem room_u65 {k : Nat} {A : Around} (h : Room k A) : A.units + 65 < cLine := by have := h.un; omega
theorem step_six {n : Nat} {p : List Int × List Int} (h : RuleOk n p) : ∀ x ∈ stepI p, x.natAbs ≤ 6 := fun i hi => by
  unfold stepI at hi
  obtain ⟨q, hq, rfl⟩ := List.mem_map.mp hi
  have a := List.of_mem_zip hq
  have b := h.1.2 _ a.1
  have c := h.2.2 _ a.2
  show (q.2 - q.1).natAbs ≤ 6
  omega
def setE (b : List Stmt) (i : Nat) : Expr := match b.getD i (.Pass ⟨0, 0, 0, 0⟩) with
  | .Assign _ e _ => e
  | _ => .Constant .none 0 ⟨0, 0, 0, 0⟩
/-- the names that are cells outside are cells in the comprehension's block -/
def cellsSc (xs : List Str) (sc : Scope) : Scope := { sc with names := sc.names.map fun p => if xs.contains p.1 then (p.1, .cell) else p }
section
variable {P : Program} {w : World} {K : PySem.W.Frag} {mg : Str → Option Value} {base : Heap} {f : Addr} {fd : FuncData}
/-! ## power groups -/
def isPg (d : PyData) (w : Int) : Bool := match d with
  | .tuple [c, r] => isNum c 0 && isDir r w
  | _ => false
def FisPg : List PyData → PyData → Prop := fun ds r => ∃ d w, ds = [d, .int w] ∧ r = .bool (isPg d w)
theorem sc_isPg : FnScope ["value", "width"] ["value", "width"] (defScope sis_power_group) := ⟨rfl, rfl, rfl, by decide +kernel, rfl, by decide +kernel, by decide +kernel⟩
theorem ok_isPg (F : FnT K "is_power_group" sis_power_group f fd) (D1 : KD P w K mg base "is_number" 1 (spD K FisNumber)) (D2 : KD P w K mg base "is_direction" 2 (spD K FisDir)) (g1 : mg "isinstance" = none) (g2 : mg "tuple" = none) (g3 : mg "len" = none) : FnOk P w K mg base CX0 3 f fd ["value", "width"] (spD K FisPg) := by
  refine fn_hs F sc_isPg (fun vs H Q E h => ?_) (fun cdv A outer sh H vs Q E hr h => ?_)
  · obtain ⟨S, ds, d, _, hd, ⟨_, _, rfl, _⟩, _⟩ := h
    exact hd.1
  · obtain ⟨S, ds, r, s, hd, ⟨d, w', rfl, rfl⟩, q⟩ := h
    obtain ⟨v1, v2, rfl, p1, p2⟩ := hd.two
    by_cases hd' : ∃ es, d = .tuple es
    · obtain ⟨es, rfl⟩ := hd'
      by_cases h2 : es.length = 2
      · obtain ⟨e0, p0, rfl⟩ : ∃ e0 p0, es = [e0, p0] := by
          match es, h2 with
          | [e0, p0], _ => exact ⟨e0, p0, rfl⟩
        refine hs_ret ((ee_and (ee_isi (isD_ok (.tuple [e0, p0]) (T := "tuple") (by simp)) g1 g2 boot_tuple (ee_var 0 rfl p1)) fun _ => ee_and (ee_eqI (ee_len g3 (d := .tuple [e0, p0]) (n := 2) rfl (ee_var 0 rfl p1)) ee_int) fun _ => ee_and (ee_callD D1 (hr.mono (by decide)) ⟨e0, 0, rfl, rfl⟩ (ea_2 (ee_ixT (ds := [e0, p0]) (d := e0) rfl (ee_var 0 rfl p1) ee_int) ee_int)) fun _ => ee_one
          (ee_callD D2 hr ⟨p0, w', rfl, rfl⟩ (ea_2 (ee_ixT (ds := [e0, p0]) (d := p0) rfl (ee_var 0 rfl p1) ee_int) (ee_var 1 rfl p2)))).isd ?_) s q
        show PyData.bool _ = .bool (isNum e0 0 && isDir p0 w')
        simp [isDt]
      · refine hs_ret ((ee_and (ee_isi (isD_ok (.tuple es) (T := "tuple") (by simp)) g1 g2 boot_tuple (ee_var 0 rfl p1)) fun _ => ee_and (k2 := false) (ee_eqI (ee_len g3 (d := .tuple es) (n := es.length) rfl (ee_var 0 rfl p1)) ee_int) fun h => ?_).isd ?_) s q
        · exfalso
          have := of_decide_eq_true h
          omega
        · have e : isPg (.tuple es) w' = false := by
            match es, h2 with
            | [], _ => rfl
            | [_], _ => rfl
            | _ :: _ :: _ :: _, _ => rfl
            | [_, _], h => exact absurd rfl h
          rw [e]; simp
    · have e0 : isD d "tuple" = false := by cases d <;> first | rfl | exact absurd ⟨_, rfl⟩ hd'
      refine hs_ret ((ee_and (k2 := false) (ee_isi (isD_ok d (T := "tuple") (by simp)) g1 g2 boot_tuple (ee_var 0 rfl p1)) fun h1 => ?_).isd ?_) s q
      · rw [e0] at h1; cases h1
      · have e : isPg d w' = false := by cases d <;> first | rfl | exact absurd ⟨_, rfl⟩ hd'
        rw [e]; simp
/-- the group of a power group -/
def pgG (b : Int) (g : Grp) : Grp := (b ^ g.1.toNat, g.2.map fun x => b ^ x.toNat)
def PgOk (b : Int) (g : Grp) : Prop := PowOk b g.1 ∧ (∀ x ∈ g.2, PowOk b x) ∧ g.2.length ≤ 3
def Fpg : List PyData → PyData → Prop := fun ds r => ∃ b g, ds = [.int b, grpD g] ∧ PgOk b g ∧ r = grpD (pgG b g)
theorem sc_pg : FnScope ["base", "group", "count", "direction", "part"] ["base", "group"] (defScope spower_group) := ⟨rfl, rfl, rfl, by decide +kernel, rfl, by decide +kernel, by decide +kernel⟩
def powE (b : Int) (d : PyData) : Int := match d with
  | .int x => b ^ x.toNat
  | _ => 0
theorem ok_pg (F : FnT K "power_group" spower_group f fd) (D2 : KD P w K mg base "power_of" 1 (spD K Fpower_of)) (g1 : mg "tuple" = none) : FnOk P w K mg base CX0 2 f fd ["base", "group"] (spD K Fpg) := by
  refine fn_hs F sc_pg (fun vs H Q E h => ?_) (fun cdv A outer sh H vs Q E hr h => ?_)
  · obtain ⟨S, ds, d, _, hd, ⟨_, _, rfl, _⟩, _⟩ := h
    exact hd.1
  · obtain ⟨S, ds, r, s, hd, ⟨b, g, rfl, ⟨h1, h2, h3⟩, rfl⟩, q⟩ := h
    obtain ⟨v1, v2, rfl, p1, p2⟩ := hd.two
    refine hs_unpack (i := 2) (j := 3) (d1 := .int g.1) (d2 := tI g.2) rfl sc_pg.nd (ee_var 1 rfl p2) s fun v w S7 H7 e7 pv pw => ?_
    refine hs_ret (P := Dt K (grpD (pgG b g))) ?ee e7.sub fun v S' H' g' p => q v S' H' (e7.trans g') p
    refine EE.isd (d := .tuple [.int (b ^ g.1.toNat), tI (g.2.map fun x => b ^ x.toNat)]) ?_ rfl
    refine ee_tup (ea_2 ?_ ?_)
    · exact ee_callD D2 (hr.mono (by decide)) ⟨b, g.1, rfl, rfl, h1⟩ (ea_2 (ee_var 0 rfl (p1.up e7.st)) (ee_var 2 rfl pv))
    refine EE.isd (d := .tuple ((g.2.map fun x => b ^ x.toNat).map .int)) ?_ rfl
    refine ee_tupleOf g1 ?_
    refine EE.isd (d := .list (((g.2.map PyData.int).map (powE b)).map PyData.int)) ?_ ?_
    · refine ee_lc (i := 4) (enc := .int) (f := powE b) rfl sc_pg.nd ?ok (ei_tup (ee_var 3 rfl pw)) (by rw [List.length_map]; show _ ≤ 16777216; omega) ?el
      case ok => exact blkOk_by (N := ["base", "group", "count", "direction", "part"]) (sc := defScope spower_group) (by decide +kernel)
      intro d hd v3 S3 s3 p3 sh2 H2 C2 cl2 fp2
      obtain ⟨x, hx, rfl⟩ := List.mem_map.mp hd
      exact ee_callD D2 (hr.mono (by decide)) ⟨b, x, rfl, rfl, h2 x hx⟩ (ea_2 (ee_var 0 rfl (p1.up (e7.st.trans s3))) (ee_var 4 rfl p3))
    · rw [List.map_map, List.map_map, List.map_map]
      rfl
/-! ## Table.powers -/
theorem sc_Tpw : FnScope ["width", "base", "groups", "at", "group"] ["width", "base", "groups"] (defScope sTable__powers) := ⟨rfl, rfl, rfl, by decide +kernel, rfl, by decide +kernel, by decide +kernel⟩
def PgsOk (n : Nat) (gs : List Grp) : Prop := ∀ g ∈ gs, 0 ≤ g.1 ∧ g.2.length = n ∧ ∀ x ∈ g.2, (0 : Int) ≤ x
theorem isPg_t {n : Nat} {g : Grp} (h : 0 ≤ g.1 ∧ g.2.length = n ∧ ∀ x ∈ g.2, (0 : Int) ≤ x) : isPg (grpD g) (n : Nat) = true := by
  show (isNum (.int g.1) 0 && isDir (tI g.2) (n : Nat)) = true
  rw [isNum_t h.1, Bool.true_and]
  show (decide (((g.2.map PyData.int).length : Int) = n) && (g.2.map PyData.int).all fun x => isNum x 0) = true
  rw [Bool.and_eq_true]
  refine ⟨by rw [List.length_map, h.2.1]; simp, ?_⟩
  rw [List.all_map, List.all_eq_true]
  intro x hx
  exact isNum_t (h.2.2 x hx)
/-- Table.powers gives a table -/
def spTpw (K : PySem.W.Frag) (C : Addr) : Sp := fun vs H Q _ => ∃ S n b gs dg v1 v2 v3, vs = [v1, v2, v3] ∧ Same S H ∧ Dt K (.int (n : Nat)) v1 S ∧ Dt K (.int b) v2 S ∧ Dt K dg v3 S ∧ (dg = .list (gs.map grpD) ∨ dg = .tuple (gs.map grpD)) ∧ 1 ≤ b ∧ gs.length ≤ 1000 ∧ PgsOk n gs ∧ (∀ g ∈ gs, PgOk b g) ∧ TabOk n (gs.map (pgG b)) ∧ ∀ r S' H', Gr S H S' H' → NewR (TabL K C n (norm (gs.map (pgG b)))) S r S' → Q r H'
theorem spTpw_E {K : PySem.W.Frag} {C : Addr} {S : Hp} {n : Nat} {b : Int} {gs : List Grp} {dg : PyData} (hdg : dg = .list (gs.map grpD) ∨ dg = .tuple (gs.map grpD)) (h1 : 1 ≤ b) (hl : gs.length ≤ 1000) (h2 : PgsOk n gs) (h3 : ∀ g ∈ gs, PgOk b g) (ho : TabOk n (gs.map (pgG b))) : SpE (spTpw K C) S [Dt K (.int (n : Nat)), Dt K (.int b), Dt K dg] (TabP K C n (norm (gs.map (pgG b)))) := fun vs S1 H1 st s al Q q => by
  obtain ⟨v1, v2, v3, rfl, p1, p2, p3⟩ := (al_dts (ds := [.int (n : Nat), .int b, dg]) al).three
  exact ⟨S1, n, b, gs, dg, v1, v2, v3, rfl, s, p1, p2, p3, hdg, h1, hl, h2, h3, ho, fun r S' H' g nn => q r S' H' g (newR_tab nn)⟩
def pgD (b : Int) (d : PyData) : PyData := grpD (pgG b (unG (unT d)))
theorem ok_Tpw {C : Addr} (F : FunD K "powers" "Table.powers" (defArgs sTable__powers) (defBody sTable__powers) (defScope sTable__powers) [] [] f fd) (M : MkT P w K mg base C) (D0 : KD P w K mg base "check_width" 2 (spD K FchkW)) (D2 : KD P w K mg base "is_number" 1 (spD K FisNumber)) (D3 : KD P w K mg base "is_power_group" 3 (spD K FisPg)) (D4 : KD P w K mg base "power_group" 2 (spD K Fpg))
    (gT : mg "Table" = some (.ref C)) (g2 : mg "isinstance" = none) (g3 : mg "list" = none) (g4 : mg "tuple" = none) (g5 : mg "enumerate" = none) :
    FnOk P w K mg base CX0 5 f fd ["width", "base", "groups"] (spTpw K C) := by
  refine fn_hs F sc_Tpw (fun vs H Q E h => ?_) (fun cdv A outer sh H vs Q E hr h => ?_)
  · obtain ⟨S, n, b, gs, dg, v1, v2, v3, rfl, _⟩ := h
    rfl
  · obtain ⟨S, n, b, gs, dg, vn, vb, vg, rfl, s, p1, pb, p2, hdg, h1, hgl, hgo, hpo, ho, q⟩ := h
    rcases hdg with rfl | rfl
    · obtain ⟨n1, n3, hne, _⟩ := id ho
      refine hs_expr (ee_callD D0 (hr.mono (by decide)) ⟨(n : Int), rfl, rfl, by omega, by omega⟩ (ea_1 (ee_var 0 rfl p1))) s fun _ S1 H1 e1 _ => ?_
      refine hs_ifN ((et_not (et_val (ee_callD D2 (hr.mono (by decide)) ⟨.int b, 1, rfl, rfl⟩ (ea_2 (ee_var 1 rfl (pb.up e1.st)) ee_int)))).is (by rw [isNum_t h1]; rfl)) e1.sub fun S2 H2 e2 => ?_
      have e12 := e1.trans e2
      have p22 := p2.up e12.st
      have htr : truD (.list (gs.map grpD)) = true := by
        have : gs.isEmpty = false := by cases gs <;> simp_all
        show (!(gs.map grpD).isEmpty) = true
        simp [this]
      refine hs_ifN ((et_w (ew_or (et_not (et_val (ee_isiLT rfl g2 g3 g4 (ee_var 2 rfl p22)))) fun _ => ew_or1 (et_not (et_tru (ee_var 2 rfl p22) (fun x hx => by cases hx))))).is (by rw [htr]; rfl)) e2.sub fun S3 H3 e3 => ?_
      have e13 := e12.trans e3
      have p13 := p1.up e13.st
      have pb3 := pb.up e13.st
      have p23 := p2.up e13.st
      refine hs_for (Ps := Ds K (enumD (gs.map grpD))) (fun i σ S' => ∃ x3 x4, σ = [some vn, some vb, some vg, x3, x4]) PassesOwn.never rfl (ei_enumL g5 (ee_var 2 rfl p23)) e3.sub (fun S' H' g => ⟨none, none, rfl⟩) ?_ ?_
      · rintro i Pi σ1 S4 H4 x S5 H5 hP g4' ⟨x3, x4, rfl⟩ g5' px
        have p15 := p13.up (g4'.st.trans g5'.st)
        have hi : i < gs.length := by
          have := (List.getElem?_eq_some_iff.mp hP).1
          rw [enum_len, List.length_map] at this; exact this
        have hz : (gs.map grpD)[i]? = some (grpD gs[i]) := by rw [List.getElem?_map, List.getElem?_eq_getElem hi]; rfl
        rw [ds_get (enum_get hz)] at hP
        obtain rfl := Option.some.inj hP
        obtain ⟨u1, u2, k1, k2, hg⟩ := eg_pair (σ := [some vn, some vb, some vg, x3, x4]) (i := 3) (j := 4) (x := "at") (y := "group") (kk := _) (px := _) (py := _) (pos := _) (X := (cxOf CX0 P w K mg base ["width", "base", "groups", "at", "group"] "Table.powers" (defScope sTable__powers) f cdv A outer sh H E).nox) rfl sc_Tpw.nd rfl rfl (Or.inl rfl) (Or.inl rfl) px
        refine hg H5 g5'.sub _ ?_
        refine hs_ifN ((et_not (et_val (ee_callD D3 (hr.mono (by decide)) ⟨grpD gs[i], (n : Int), rfl, rfl⟩ (ea_2 (ee_var 4 rfl k2) (ee_var 0 rfl p15))))).is (by rw [isPg_t (hgo gs[i] (List.getElem_mem hi))]; rfl)) g5'.sub fun S6 H6 e6 => hs_nil ?_
        exact ⟨S6, e6, _, _, rfl⟩
      · rintro σ1 S4 H4 g4' ⟨x3, x4, rfl⟩
        have p14 := p13.up g4'.st
        have pb4 := pb3.up g4'.st
        have p24 := p23.up g4'.st
        refine hs_ret (ee_mkT (gs := gs.map (pgG b)) M (hr.mono (by decide)) gT ho (.inl rfl) (ee_var 0 rfl p14) (EE.isd (d := .list (((gs.map grpD).map (pgD b)).map id)) (ee_lc (i := 4) (enc := id) (f := pgD b) rfl sc_Tpw.nd (blkOk_by (N := ["width", "base", "groups", "at", "group"]) (sc := defScope sTable__powers) (by decide +kernel)) (ei_list (ee_var 2 rfl p24)) (by rw [List.length_map]; exact Nat.le_trans hgl (by show 1000 ≤ 16777216; decide)) ?_) ?_)) g4'.sub fun r S' H' g nn => q r S' H' (e13.trans (g4'.trans g)) (nn.dn (e13.st.trans g4'.st))
        · intro d hd v S2 s2 pv sh' H0 C' cl fp
          obtain ⟨g, hgm, rfl⟩ := List.mem_map.mp hd
          show EE _ _ _ _ (Dt K (grpD (pgG b (unG (unT (grpD g))))))
          rw [show unG (unT (grpD g)) = g from unG_q g]
          exact ee_callD D4 (hr.mono (by decide)) ⟨b, g, rfl, hpo g hgm, rfl⟩ (ea_2 (ee_var 1 rfl (pb4.up s2)) (ee_var 4 rfl pv))
        · rw [List.map_id, List.map_map, List.map_map]
          exact congrArg PyData.list (List.map_congr_left fun g _ => by
            show grpD (pgG b (unG (unT (grpD g)))) = grpD (pgG b g)
            rw [show unG (unT (grpD g)) = g from unG_q g])
    · obtain ⟨n1, n3, hne, _⟩ := id ho
      refine hs_expr (ee_callD D0 (hr.mono (by decide)) ⟨(n : Int), rfl, rfl, by omega, by omega⟩ (ea_1 (ee_var 0 rfl p1))) s fun _ S1 H1 e1 _ => ?_
      refine hs_ifN ((et_not (et_val (ee_callD D2 (hr.mono (by decide)) ⟨.int b, 1, rfl, rfl⟩ (ea_2 (ee_var 1 rfl (pb.up e1.st)) ee_int)))).is (by rw [isNum_t h1]; rfl)) e1.sub fun S2 H2 e2 => ?_
      have e12 := e1.trans e2
      have p22 := p2.up e12.st
      have htr : truD (.tuple (gs.map grpD)) = true := by
        have : gs.isEmpty = false := by cases gs <;> simp_all
        show (!(gs.map grpD).isEmpty) = true
        simp [this]
      refine hs_ifN ((et_w (ew_or (et_not (et_val (ee_isiLT rfl g2 g3 g4 (ee_var 2 rfl p22)))) fun _ => ew_or1 (et_not (et_tru (ee_var 2 rfl p22) (fun x hx => by cases hx))))).is (by rw [htr]; rfl)) e2.sub fun S3 H3 e3 => ?_
      have e13 := e12.trans e3
      have p13 := p1.up e13.st
      have pb3 := pb.up e13.st
      have p23 := p2.up e13.st
      refine hs_for (Ps := Ds K (enumD (gs.map grpD))) (fun i σ S' => ∃ x3 x4, σ = [some vn, some vb, some vg, x3, x4]) PassesOwn.never rfl (ei_enumT g5 (ee_var 2 rfl p23)) e3.sub (fun S' H' g => ⟨none, none, rfl⟩) ?_ ?_
      · rintro i Pi σ1 S4 H4 x S5 H5 hP g4' ⟨x3, x4, rfl⟩ g5' px
        have p15 := p13.up (g4'.st.trans g5'.st)
        have hi : i < gs.length := by
          have := (List.getElem?_eq_some_iff.mp hP).1
          rw [enum_len, List.length_map] at this; exact this
        have hz : (gs.map grpD)[i]? = some (grpD gs[i]) := by rw [List.getElem?_map, List.getElem?_eq_getElem hi]; rfl
        rw [ds_get (enum_get hz)] at hP
        obtain rfl := Option.some.inj hP
        obtain ⟨u1, u2, k1, k2, hg⟩ := eg_pair (σ := [some vn, some vb, some vg, x3, x4]) (i := 3) (j := 4) (x := "at") (y := "group") (kk := _) (px := _) (py := _) (pos := _) (X := (cxOf CX0 P w K mg base ["width", "base", "groups", "at", "group"] "Table.powers" (defScope sTable__powers) f cdv A outer sh H E).nox) rfl sc_Tpw.nd rfl rfl (Or.inl rfl) (Or.inl rfl) px
        refine hg H5 g5'.sub _ ?_
        refine hs_ifN ((et_not (et_val (ee_callD D3 (hr.mono (by decide)) ⟨grpD gs[i], (n : Int), rfl, rfl⟩ (ea_2 (ee_var 4 rfl k2) (ee_var 0 rfl p15))))).is (by rw [isPg_t (hgo gs[i] (List.getElem_mem hi))]; rfl)) g5'.sub fun S6 H6 e6 => hs_nil ?_
        exact ⟨S6, e6, _, _, rfl⟩
      · rintro σ1 S4 H4 g4' ⟨x3, x4, rfl⟩
        have p14 := p13.up g4'.st
        have pb4 := pb3.up g4'.st
        have p24 := p23.up g4'.st
        refine hs_ret (ee_mkT (gs := gs.map (pgG b)) M (hr.mono (by decide)) gT ho (.inl rfl) (ee_var 0 rfl p14) (EE.isd (d := .list (((gs.map grpD).map (pgD b)).map id)) (ee_lc (i := 4) (enc := id) (f := pgD b) rfl sc_Tpw.nd (blkOk_by (N := ["width", "base", "groups", "at", "group"]) (sc := defScope sTable__powers) (by decide +kernel)) (ei_tup (ee_var 2 rfl p24)) (by rw [List.length_map]; exact Nat.le_trans hgl (by show 1000 ≤ 16777216; decide)) ?_) ?_)) g4'.sub fun r S' H' g nn => q r S' H' (e13.trans (g4'.trans g)) (nn.dn (e13.st.trans g4'.st))
        · intro d hd v S2 s2 pv sh' H0 C' cl fp
          obtain ⟨g, hgm, rfl⟩ := List.mem_map.mp hd
          show EE _ _ _ _ (Dt K (grpD (pgG b (unG (unT (grpD g))))))
          rw [show unG (unT (grpD g)) = g from unG_q g]
          exact ee_callD D4 (hr.mono (by decide)) ⟨b, g, rfl, hpo g hgm, rfl⟩ (ea_2 (ee_var 1 rfl (pb4.up s2)) (ee_var 4 rfl pv))
        · rw [List.map_id, List.map_map, List.map_map]
          exact congrArg PyData.list (List.map_congr_left fun g _ => by
            show grpD (pgG b (unG (unT (grpD g)))) = grpD (pgG b g)
            rw [show unG (unT (grpD g)) = g from unG_q g])
end
end K18
namespace K18
open PySem PySem.Spec PyProof.Rows L2 Z Y
/-! ## rays -/
def nthI (l : List Int) (i : Nat) : Int := (l[i]?).getD 0
def crossI (a b : List Int) : List Int := [nthI a 1 * nthI b 2 - nthI a 2 * nthI b 1, nthI a 2 * nthI b 0 - nthI a 0 * nthI b 2, nthI a 0 * nthI b 1 - nthI a 1 * nthI b 0]
def negL (l : List Int) : List Int := l.map fun x => -x
def innerC (one : List Int) (os : List (List Int)) : List (List Int) := os.flatMap fun o => [crossI one o, negL (crossI one o)]
def cand3 (ns : List (List Int)) (m : Nat) : List (List Int) := (List.range m).flatMap fun i => innerC ((ns[i]?).getD []) (ns.take i)
def candR (n : Nat) (ns : List (List Int)) : List (List Int) := if n = 1 then [[1]] else if n = 2 then (ns.map fun p => [nthI p 1, -nthI p 0]) ++ (ns.map fun p => [-nthI p 1, nthI p 0]) else cand3 ns ns.length
def unitsI (n : Nat) : List (List Int) := (List.range n).map fun s => (List.range n).map fun a => if a = s then 1 else 0
def normI (n : Nat) (ps : Rules) : List (List Int) := unitsI n ++ ps.map stepI
def fitI (ps : Rules) (l : List Int) : Bool := (l.all fun x => decide (0 ≤ x)) && ps.all fun p => decide (0 ≤ dotI (stepI p) l)
def takenI (ps : Rules) (l : List Int) : Bool := fitI ps l && l.any fun x => decide (0 < x)
def rayStep (ps : Rules) (acc : List (List Int)) (p : List Int) : List (List Int) := if takenI ps p then (if lowI p ∈ acc then acc else acc ++ [lowI p]) else acc
def raysU (ps : Rules) (cs : List (List Int)) : List (List Int) := cs.foldl (rayStep ps) []
def raysI (n : Nat) (ps : Rules) : List (List Int) := srt tI' (raysU ps (candR n (normI n ps)))
theorem cand3_succ (ns : List (List Int)) {i : Nat} {one : List Int} (h : ns[i]? = some one) : cand3 ns (i + 1) = cand3 ns i ++ innerC one (ns.take i) := by
  unfold cand3
  rw [List.range_succ, List.flatMap_append, List.flatMap_cons, List.flatMap_nil, List.append_nil, h]; rfl
theorem innerC_snoc (one : List Int) {os : List (List Int)} {j : Nat} {o : List Int} (h : os[j]? = some o) : innerC one (os.take (j + 1)) = innerC one (os.take j) ++ [crossI one o, negL (crossI one o)] := by
  unfold innerC
  rw [take_snoc h, List.flatMap_append, List.flatMap_cons, List.flatMap_nil, List.append_nil]
theorem innerC_len (one : List Int) : ∀ os : List (List Int), (innerC one os).length = 2 * os.length
  | [] => rfl
  | o :: os => by
    have := innerC_len one os
    unfold innerC at this ⊢
    rw [List.flatMap_cons, List.length_append, this]
    simp only [List.length_cons, List.length_nil]; omega
theorem cand3_len (ns : List (List Int)) (h : ns.length ≤ 20) : ∀ m, m ≤ ns.length → (cand3 ns m).length ≤ 40 * m
  | 0, _ => by unfold cand3; simp
  | m + 1, hm => by
    rw [cand3_succ ns (List.getElem?_eq_getElem (by omega)), List.length_append, innerC_len, List.length_take]
    have := cand3_len ns h m (by omega)
    omega
theorem raysU_snoc (ps : Rules) {cs : List (List Int)} {i : Nat} {p : List Int} (h : cs[i]? = some p) : raysU ps (cs.take (i + 1)) = rayStep ps (raysU ps (cs.take i)) p := by
  unfold raysU
  rw [take_snoc h, List.foldl_append]; rfl
theorem rayStep_len (ps : Rules) (acc : List (List Int)) (p : List Int) : (rayStep ps acc p).length ≤ acc.length + 1 := by
  unfold rayStep
  split
  · split
    · omega
    · rw [List.length_append]; simp
  · omega
theorem raysU_len (ps : Rules) : ∀ (cs acc : List (List Int)), (cs.foldl (rayStep ps) acc).length ≤ acc.length + cs.length
  | [], acc => by simp
  | c :: cs, acc => by
    have h1 := raysU_len ps cs (rayStep ps acc c)
    have h2 := rayStep_len ps acc c
    rw [List.foldl_cons, List.length_cons]; omega
/-- what every ray is -/
theorem raysU_all {P : List Int → Prop} (ps : Rules) : ∀ (cs acc : List (List Int)), (∀ r ∈ acc, P r) → (∀ c ∈ cs, takenI ps c = true → P (lowI c)) → ∀ r ∈ cs.foldl (rayStep ps) acc, P r
  | [], acc, h, _ => h
  | c :: cs, acc, h, hc => by
    rw [List.foldl_cons]
    refine raysU_all ps cs _ (fun r hr => ?_) fun c' h' => hc c' (List.mem_cons_of_mem _ h')
    unfold rayStep at hr
    by_cases ht : takenI ps c = true
    · rw [if_pos ht] at hr
      by_cases hm : lowI c ∈ acc
      · rw [if_pos hm] at hr; exact h r hr
      · rw [if_neg hm] at hr
        rcases List.mem_append.mp hr with h1 | h1
        · exact h r h1
        · rw [List.mem_singleton.mp h1]; exact hc c List.mem_cons_self ht
    · rw [if_neg ht] at hr; exact h r hr
def VecB (n b : Nat) (l : List Int) : Prop := l.length = n ∧ ∀ x ∈ l, x.natAbs ≤ b
theorem vec3 {b : Nat} {l : List Int} (h : VecB 3 b l) : ∃ x y z, l = [x, y, z] ∧ x.natAbs ≤ b ∧ y.natAbs ≤ b ∧ z.natAbs ≤ b := by
  obtain ⟨h1, h2⟩ := h
  match l, h1 with
  | [x, y, z], _ => exact ⟨x, y, z, rfl, h2 x (by simp), h2 y (by simp), h2 z (by simp)⟩
theorem vec2 {b : Nat} {l : List Int} (h : VecB 2 b l) : ∃ x y, l = [x, y] ∧ x.natAbs ≤ b ∧ y.natAbs ≤ b := by
  obtain ⟨h1, h2⟩ := h
  match l, h1 with
  | [x, y], _ => exact ⟨x, y, rfl, h2 x (by simp), h2 y (by simp)⟩
theorem mul_bd {x y : Int} {b : Nat} (hx : x.natAbs ≤ b) (hy : y.natAbs ≤ b) : (x * y).natAbs ≤ b * b := by rw [Int.natAbs_mul]; exact Nat.mul_le_mul hx hy
theorem cross_bd {b : Nat} {p q : List Int} (hp : VecB 3 b p) (hq : VecB 3 b q) : VecB 3 (2 * (b * b)) (crossI p q) := by
  obtain ⟨x, y, z, rfl, hx, hy, hz⟩ := vec3 hp
  obtain ⟨u, v, w, rfl, hu, hv, hw⟩ := vec3 hq
  refine ⟨rfl, fun k hk => ?_⟩
  simp only [crossI, List.mem_cons, List.not_mem_nil, or_false] at hk
  have e1 := mul_bd hy hw; have e2 := mul_bd hz hv; have e3 := mul_bd hz hu; have e4 := mul_bd hx hw; have e5 := mul_bd hx hv; have e6 := mul_bd hy hu
  rcases hk with rfl | rfl | rfl
  · show (y * w - z * v).natAbs ≤ _; omega
  · show (z * u - x * w).natAbs ≤ _; omega
  · show (x * v - y * u).natAbs ≤ _; omega
theorem neg_bd {n b : Nat} {l : List Int} (h : VecB n b l) : VecB n b (negL l) := ⟨by unfold negL; rw [List.length_map]; exact h.1, fun x hx => by
  obtain ⟨y, hy, rfl⟩ := List.mem_map.mp hx
  have := h.2 y hy; omega⟩
theorem cand_bd {n b : Nat} {ns : List (List Int)} (hn : 1 ≤ n) (h3 : n ≤ 3) (hb : 1 ≤ b) (h : ∀ m ∈ ns, VecB n b m) : ∀ c ∈ candR n ns, VecB n (2 * (b * b)) c := by
  have hbb : b ≤ b * b := Nat.le_mul_of_pos_left b hb
  intro c hc
  unfold candR at hc
  by_cases h1 : n = 1
  · rw [if_pos h1] at hc
    rw [List.mem_singleton.mp hc]
    exact ⟨h1.symm, fun x hx => by rw [List.mem_singleton.mp hx]; show 1 ≤ _; omega⟩
  rw [if_neg h1] at hc
  by_cases h2 : n = 2
  · subst h2
    rw [if_pos rfl] at hc
    rcases List.mem_append.mp hc with hc | hc <;> (
      obtain ⟨p, hp, rfl⟩ := List.mem_map.mp hc
      obtain ⟨x, y, rfl, hx, hy⟩ := vec2 (h p hp)
      refine ⟨rfl, fun k hk => ?_⟩
      simp only [nthI, List.getElem?_cons_zero, List.getElem?_cons_succ, Option.getD_some, List.mem_cons, List.not_mem_nil, or_false] at hk
      rcases hk with rfl | rfl <;> omega)
  rw [if_neg h2] at hc
  obtain rfl : n = 3 := by omega
  unfold cand3 at hc
  obtain ⟨i, hi, hc⟩ := List.mem_flatMap.mp hc
  unfold innerC at hc
  obtain ⟨o, ho, hc⟩ := List.mem_flatMap.mp hc
  have hi' := List.mem_range.mp hi
  rw [List.getElem?_eq_getElem hi'] at hc
  have hx := cross_bd (h _ (List.getElem_mem hi')) (h o (List.mem_of_mem_take ho))
  simp only [List.mem_cons, List.not_mem_nil, or_false] at hc
  rcases hc with rfl | rfl
  · exact hx
  · exact neg_bd hx
theorem low_nonneg {l : List Int} (h : ∀ x ∈ l, 0 ≤ x) {y : Int} (hy : y ∈ lowI l) : 0 ≤ y ∧ ∃ x ∈ l, y ≤ x := by
  unfold lowI at hy
  obtain ⟨x, hx, rfl⟩ := List.mem_map.mp hy
  have h0 := h x hx
  have hg : (1 : Int) ≤ max ((gcdI l : Nat) : Int) 1 := Int.le_max_right ..
  refine ⟨Int.ediv_nonneg h0 (by omega), x, hx, ?_⟩
  exact Int.ediv_le_self _ h0
theorem taken_nonneg {ps : Rules} {l : List Int} (h : takenI ps l = true) : ∀ x ∈ l, 0 ≤ x := by
  unfold takenI fitI at h
  simp only [Bool.and_eq_true] at h
  intro x hx
  exact of_decide_eq_true (List.all_eq_true.mp h.1.1 x hx)
theorem units_bd {n : Nat} {m : List Int} (h : m ∈ unitsI n) : VecB n 1 m := by
  unfold unitsI at h
  obtain ⟨s, _, rfl⟩ := List.mem_map.mp h
  refine ⟨by rw [List.length_map, List.length_range], fun x hx => ?_⟩
  obtain ⟨a, _, rfl⟩ := List.mem_map.mp hx
  split <;> decide
theorem norm_bd {n b : Nat} {ps : Rules} (hb : 1 ≤ b) (h : ∀ p ∈ ps, VecB n b (stepI p)) : ∀ m ∈ normI n ps, VecB n b m := fun m hm => by
  unfold normI at hm
  rcases List.mem_append.mp hm with h1 | h1
  · have := units_bd h1
    exact ⟨this.1, fun x hx => Nat.le_trans (this.2 x hx) hb⟩
  · obtain ⟨p, hp, rfl⟩ := List.mem_map.mp h1
    exact h p hp
/-- every ray: its length, its numbers -/
theorem rays_bd {n b : Nat} {ps : Rules} (hn : 1 ≤ n) (h3 : n ≤ 3) (hb : 1 ≤ b) (h : ∀ p ∈ ps, VecB n b (stepI p)) : ∀ r ∈ raysI n ps, r.length = n ∧ ∀ x ∈ r, 0 ≤ x ∧ x ≤ 2 * (b * b) := by
  intro r hr
  unfold raysI at hr
  rw [mem_srt] at hr
  refine raysU_all (P := fun r => r.length = n ∧ ∀ x ∈ r, (0 : Int) ≤ x ∧ x ≤ 2 * (b * b)) ps _ [] (fun _ h => nomatch h) (fun c hc ht => ?_) r hr
  have hv := cand_bd hn h3 hb (norm_bd hb h) c hc
  have h0 := taken_nonneg ht
  refine ⟨by unfold lowI; rw [List.length_map]; exact hv.1, fun y hy => ?_⟩
  obtain ⟨hy0, x, hx, hyx⟩ := low_nonneg h0 hy
  have h1 := hv.2 x hx
  have h2 := h0 x hx
  have h4 : x ≤ ((2 * (b * b) : Nat) : Int) := by omega
  exact ⟨hy0, by push_cast at h4; omega⟩
theorem cand_len {n : Nat} {ns : List (List Int)} (h : ns.length ≤ 20) : (candR n ns).length ≤ 800 := by
  unfold candR
  split
  · simp
  · split
    · rw [List.length_append, List.length_map, List.length_map]; omega
    · have := cand3_len ns h ns.length (Nat.le_refl _); omega
theorem rays_len {n : Nat} {ps : Rules} (h3 : n ≤ 3) (h : ps.length ≤ 4) : (raysI n ps).length ≤ 800 := by
  unfold raysI srt
  rw [List.length_mergeSort]
  unfold raysU
  have h1 := raysU_len ps (candR n (normI n ps)) []
  have h2 : (candR n (normI n ps)).length ≤ 800 := cand_len (by unfold normI unitsI; rw [List.length_append, List.length_map, List.length_map, List.length_range]; omega)
  simp only [List.length_nil] at h1
  omega
end K18
namespace K18
open PySem PySem.Spec PyProof.Rows L2 Z Y
section
variable {P : Program} {w : World} {K : PySem.W.Frag} {mg : Str → Option Value} {base : Heap} {f : Addr} {fd : FuncData}
def Fcand : List PyData → PyData → Prop := fun ds r => ∃ (n : Nat) (ns : List (List Int)), ds = [.list (ns.map tI), .int n] ∧ 1 ≤ n ∧ n ≤ 3 ∧ ns.length ≤ 20 ∧ (∀ m ∈ ns, VecB n 1000 m) ∧ r = .list ((candR n ns).map tI)
theorem sc_cand : FnScope ["normals", "width", "found", "at", "one", "other", "across", "part"] ["normals", "width"] (defScope scandidate_rays) := ⟨rfl, rfl, rfl, by decide +kernel, rfl, by decide +kernel, by decide +kernel⟩
theorem ok_cand (F : FnT K "candidate_rays" scandidate_rays f fd) (g1 : mg "enumerate" = none) (g2 : mg "tuple" = none) : FnOk P w K mg base CX0 1 f fd ["normals", "width"] (spD K Fcand) := by
  refine fn_hs F sc_cand (fun vs H Q E h => ?_) (fun cdv A outer sh H vs Q E hr h => ?_)
  · obtain ⟨S, ds, d, _, hd, ⟨n, ns, rfl, _⟩, _⟩ := h
    exact hd.1
  · obtain ⟨S, ds, r, s, hd, ⟨n, ns, rfl, hn1, hn3, hl, hv, rfl⟩, q⟩ := h
    obtain ⟨v1, v2, rfl, p1, p2⟩ := hd.two
    have hz : ns.length ≤ sizeLine := Nat.le_trans hl (by show 20 ≤ 16777216; decide)
    have cm : ∀ {x y : Int}, x.natAbs ≤ (1000) → y.natAbs ≤ (1000) → CMulX x y := fun hx hy => mulx_small (Nat.le_trans hx (by decide)) (Nat.le_trans hy (by decide))
    have hlen : ∀ K, (Ds K (enumD (ns.map tI))).length = ns.length := fun K => by rw [enum_len, List.length_map]
    refine hs_if (k := decide ((n : Int) = 1)) (et_eqI (ee_var 1 rfl p2) ee_int) s (fun h1 S1 H1 g3 => ?_) (fun h1 S1 H1 g3 => hs_nil ?_)
    · have e1 : n = 1 := by have := of_decide_eq_true h1; omega
      refine hs_ret ((ee_lst (ds := [tI [1]]) (ea_1 (ee_tup (ds := [.int 1]) (ea_1 ee_int)))).isd ?_) g3.sub fun v S2 H2 g4 pv => q v S2 H2 (g3.trans g4) pv
      unfold candR; rw [if_pos e1]; rfl
    have e1 : n ≠ 1 := fun e => by have := of_decide_eq_false h1; omega
    have p1a := p1.up g3.st
    have p2a := p2.up g3.st
    refine hs_if (k := decide ((n : Int) = 2)) (et_eqI (ee_var 1 rfl p2a) ee_int) g3.sub (fun h2 S2 H2 g4 => ?_) (fun h2 S2 H2 g4 => hs_nil ?_)
    · have e2 : n = 2 := by have := of_decide_eq_true h2; omega
      subst e2
      have p1b := p1a.up g4.st
      refine hs_ret ((ee_catL (by rw [List.length_map, List.length_map, List.length_map, List.length_map, List.length_map, List.length_map]; show _ ≤ 16777216; omega)
        (ee_lc (i := 7) (enc := tI) (f := fun d => [nthI (unI d) 1, -nthI (unI d) 0]) rfl sc_cand.nd (blkOk_by (N := ["normals", "width", "found", "at", "one", "other", "across", "part"]) (sc := defScope scandidate_rays) (by decide +kernel)) (ei_list (ee_var 0 rfl p1b)) (by rw [List.length_map]; exact hz) ?ela)
        (ee_lc (i := 7) (enc := tI) (f := fun d => [-nthI (unI d) 1, nthI (unI d) 0]) rfl sc_cand.nd (blkOk_by (N := ["normals", "width", "found", "at", "one", "other", "across", "part"]) (sc := defScope scandidate_rays) (by decide +kernel)) (ei_list (ee_var 0 rfl p1b)) (by rw [List.length_map]; exact hz) ?elb)).isd ?eq) g4.sub fun v S3 H3 g5 pv => q v S3 H3 ((g3.trans g4).trans g5) pv
      case ela =>
        intro d0 hd0 v S3 s3 pv sh' H0 C' cl fp
        obtain ⟨p, hp, rfl⟩ := List.mem_map.mp hd0
        obtain ⟨x, y, rfl, hx, hy⟩ := vec2 (hv p hp)
        have pv : Dt K (tI [x, y]) v S3 := pv
        rw [unI_tI]
        exact ee_tup (ds := [.int y, .int (-x)]) (ea_2 (ee_ixT (ds := [.int x, .int y]) (d := .int y) rfl (ee_var 7 rfl pv) ee_int) (ee_neg (ee_ixT (ds := [.int x, .int y]) (d := .int x) rfl (ee_var 7 rfl pv) ee_int)))
      case elb =>
        intro d0 hd0 v S3 s3 pv sh' H0 C' cl fp
        obtain ⟨p, hp, rfl⟩ := List.mem_map.mp hd0
        obtain ⟨x, y, rfl, hx, hy⟩ := vec2 (hv p hp)
        have pv : Dt K (tI [x, y]) v S3 := pv
        rw [unI_tI]
        exact ee_tup (ds := [.int (-y), .int x]) (ea_2 (ee_neg (ee_ixT (ds := [.int x, .int y]) (d := .int y) rfl (ee_var 7 rfl pv) ee_int)) (ee_ixT (ds := [.int x, .int y]) (d := .int x) rfl (ee_var 7 rfl pv) ee_int))
      case eq =>
        unfold candR
        rw [if_neg (by decide), if_pos rfl, List.map_append, List.map_map, List.map_map, List.map_map, List.map_map, List.map_map, List.map_map]
        simp only [Function.comp_def, unI_tI]
    have e2 : n ≠ 2 := fun e => by have := of_decide_eq_false h2; omega
    obtain rfl : n = 3 := by omega
    have p1b := p1a.up g4.st
    refine hs_acc0 (i := 2) g4.sub sc_cand.nd fun l H5 a5 => ?_
    refine hs_forAcc (f := fun i => (cand3 ns i).map tI) (fun i σ S => ∃ a3 a4 a5 a6 a7, σ = [some v1, some v2, some (.ref l), a3, a4, a5, a6, a7] ∧ Dt K (.list (ns.map tI)) v1 S) PassesOwn.never rfl a5 (ei_enumL g1 (ee_var 0 rfl p1b)) (fun S' s' => ⟨_, _, _, _, _, rfl, p1b.up s'⟩) (fun i σ S S' s' ⟨a3, a4, a5, a6, a7, e, h⟩ => ⟨a3, a4, a5, a6, a7, e, h.up s'⟩) ?_ ?_
    · rintro S0 s0 i Pi σ1 S6 H6 x hP s6 a6 ⟨b3, b4, b5, b6, b7, rfl, pn⟩ px
      have hi : i < ns.length := by
        have := (List.getElem?_eq_some_iff.mp hP).1
        rw [hlen] at this; exact this
      have ho : ns[i]? = some ns[i] := List.getElem?_eq_getElem hi
      have hmt : (ns.map tI)[i]? = some (tI ns[i]) := by rw [List.getElem?_map, ho]; rfl
      rw [ds_get (enum_get hmt)] at hP
      obtain rfl := Option.some.inj hP
      obtain ⟨x1, x2, px1, px2, hg⟩ := eg_pair (i := 3) (j := 4) rfl sc_cand.nd rfl rfl (by exact Or.inl rfl) (by exact Or.inl rfl) px
      refine hg H6 a6.g.sub _ ?_
      have hone := hv ns[i] (List.getElem_mem hi)
      obtain ⟨o1, o2, o3, eo, ho1, ho2, ho3⟩ := vec3 hone
      have hcut : cutD (ns.map tI) none (some (i : Int)) = (ns.take i).map tI := by rw [cut_to _ (by rw [List.length_map]; omega), List.map_take]
      have a6' : Acc K S2 H2 l ((cand3 ns i ++ innerC ns[i] ((ns.take i).take 0)).map tI) S6 H6 := by
        have e : innerC ns[i] ((ns.take i).take 0) = [] := rfl
        rw [e, List.append_nil]; exact a6
      have hlt : ∀ K, (Ds K ((ns.take i).map tI)).length = (ns.take i).length := fun K => by rw [ds_len, List.length_map]
      refine hs_forAcc (Ps := Ds K ((ns.take i).map tI)) (f := fun j => (cand3 ns i ++ innerC ns[i] ((ns.take i).take j)).map tI) (fun j σ S => ∃ a5 a6 a7, σ = [some v1, some v2, some (.ref l), some x1, some x2, a5, a6, a7] ∧ Dt K (.list (ns.map tI)) v1 S ∧ Dt K (tI ns[i]) x2 S) PassesOwn.never rfl a6' (by rw [← hcut]; exact ei_list (ee_slL (ee_var 0 rfl pn) eo_none (eo_some (ee_var 3 rfl px1)))) (fun S' s' => ⟨_, _, _, rfl, pn.up s', px2.up s'⟩) (fun i σ S S' s' ⟨a5, a6, a7, e, h, h'⟩ => ⟨a5, a6, a7, e, h.up s', h'.up s'⟩) ?_ ?_
      · rintro T0 t0 j Pj σ2 S8 H8 y hP2 s8 a8 ⟨c5, c6, c7, rfl, pn8, po8⟩ py
        have hj : j < (ns.take i).length := by
          have := (List.getElem?_eq_some_iff.mp hP2).1
          rw [hlt] at this; exact this
        have hoth : (ns.take i)[j]? = some (ns.take i)[j] := List.getElem?_eq_getElem hj
        rw [ds_get (show ((ns.take i).map tI)[j]? = some (tI (ns.take i)[j]) by rw [List.getElem?_map, hoth]; rfl)] at hP2
        obtain rfl := Option.some.inj hP2
        have hov := hv _ (List.mem_of_mem_take (List.getElem_mem hj))
        have hsn := innerC_snoc ns[i] hoth
        generalize hoo : (ns.take i)[j] = o at hov hsn py
        obtain ⟨q1, q2, q3, eq, hq1, hq2, hq3⟩ := vec3 hov
        refine (eg_name (i := 5) sc_cand.nd rfl (Or.inl rfl)) H8 a8.g.sub _ ?_
        have po9 : Dt K (tI [o1, o2, o3]) x2 S8 := eo ▸ po8
        have py9 : Dt K (tI [q1, q2, q3]) y S8 := eq ▸ py
        have a1 : ∀ {X : Cx} {σ : L2.St} {S : Hp} {p pp : Pos} {k : Nat} {e : Expr}, EE X σ S e (Dt X.K (tI [o1, o2, o3])) → EE X σ S (.Subscript e (.Constant (.int 1) k p) pp) (Dt X.K (.int o2)) := fun h => ee_ixT (ds := [.int o1, .int o2, .int o3]) (d := .int o2) rfl h ee_int
        have a2 : ∀ {X : Cx} {σ : L2.St} {S : Hp} {p pp : Pos} {k : Nat} {e : Expr}, EE X σ S e (Dt X.K (tI [o1, o2, o3])) → EE X σ S (.Subscript e (.Constant (.int 2) k p) pp) (Dt X.K (.int o3)) := fun h => ee_ixT (ds := [.int o1, .int o2, .int o3]) (d := .int o3) rfl h ee_int
        have a0 : ∀ {X : Cx} {σ : L2.St} {S : Hp} {p pp : Pos} {k : Nat} {e : Expr}, EE X σ S e (Dt X.K (tI [o1, o2, o3])) → EE X σ S (.Subscript e (.Constant (.int 0) k p) pp) (Dt X.K (.int o1)) := fun h => ee_ixT (ds := [.int o1, .int o2, .int o3]) (d := .int o1) rfl h ee_int
        have b1 : ∀ {X : Cx} {σ : L2.St} {S : Hp} {p pp : Pos} {k : Nat} {e : Expr}, EE X σ S e (Dt X.K (tI [q1, q2, q3])) → EE X σ S (.Subscript e (.Constant (.int 1) k p) pp) (Dt X.K (.int q2)) := fun h => ee_ixT (ds := [.int q1, .int q2, .int q3]) (d := .int q2) rfl h ee_int
        have b2 : ∀ {X : Cx} {σ : L2.St} {S : Hp} {p pp : Pos} {k : Nat} {e : Expr}, EE X σ S e (Dt X.K (tI [q1, q2, q3])) → EE X σ S (.Subscript e (.Constant (.int 2) k p) pp) (Dt X.K (.int q3)) := fun h => ee_ixT (ds := [.int q1, .int q2, .int q3]) (d := .int q3) rfl h ee_int
        have b0 : ∀ {X : Cx} {σ : L2.St} {S : Hp} {p pp : Pos} {k : Nat} {e : Expr}, EE X σ S e (Dt X.K (tI [q1, q2, q3])) → EE X σ S (.Subscript e (.Constant (.int 0) k p) pp) (Dt X.K (.int q1)) := fun h => ee_ixT (ds := [.int q1, .int q2, .int q3]) (d := .int q1) rfl h ee_int
        refine hs_set (i := 6) (P := Dt K (tI (crossI ns[i] o))) ((ee_tup (ds := [.int (o2 * q3 - o3 * q2), .int (o3 * q1 - o1 * q3), .int (o1 * q2 - o2 * q1)]) (ea_cons (ee_sub (ee_mul (cm ho2 hq3) (a1 (ee_var 4 rfl po9)) (b2 (ee_var 5 rfl py9))) (ee_mul (cm ho3 hq2) (a2 (ee_var 4 rfl po9)) (b1 (ee_var 5 rfl py9))))
          (ea_2 (ee_sub (ee_mul (cm ho3 hq1) (a2 (ee_var 4 rfl po9)) (b0 (ee_var 5 rfl py9))) (ee_mul (cm ho1 hq3) (a0 (ee_var 4 rfl po9)) (b2 (ee_var 5 rfl py9))))
          (ee_sub (ee_mul (cm ho1 hq2) (a0 (ee_var 4 rfl po9)) (b1 (ee_var 5 rfl py9))) (ee_mul (cm ho2 hq1) (a1 (ee_var 4 rfl po9)) (b0 (ee_var 5 rfl py9))))))).isd ?ecr) a8.g.sub sc_cand.nd fun v9 S9 H9 g9 pc => ?_
        case ecr => rw [eo, eq]; rfl
        have a9 := a8.gr g9
        refine hs_accExt (i := 2) (es := [tI (crossI ns[i] o), tI (negL (crossI ns[i] o))]) a9 ?hz sc_cand.nd rfl (ee_lst (ds := [tI (crossI ns[i] o), tI (negL (crossI ns[i] o))]) (ea_2 (ee_var 6 rfl pc) (ee_tupleOf g2 ((ee_lc (i := 7) (enc := .int) (f := fun d => match d with | .int x => -x | _ => 0) rfl sc_cand.nd (blkOk_by (N := ["normals", "width", "found", "at", "one", "other", "across", "part"]) (sc := defScope scandidate_rays) (by decide +kernel)) (ei_tup (ee_var 6 rfl pc)) (by rw [List.length_map]; show 3 ≤ 16777216; decide) ?eln).isd ?enn)))) fun S' H' s' a' => hs_nil ?_
        case hz =>
          have h1 := cand3_len ns hl i (by omega)
          rw [List.length_map, List.length_append, innerC_len, List.length_take, List.length_take]
          simp only [List.length_cons, List.length_nil]; omega
        case eln =>
          intro d0 hd0 v S3 s3 pv sh' H0 C' cl fp
          obtain ⟨x, hx, rfl⟩ := List.mem_map.mp hd0
          have pv : Dt K (.int x) v S3 := pv
          exact ee_neg (ee_var 7 rfl pv)
        case enn => unfold negL; rw [List.map_map, List.map_map, List.map_map]; rfl
        refine ⟨S', (s8.trans g9.st).trans s', ?_, _, _, _, rfl, (pn8.up g9.st).up s', (po8.up g9.st).up s'⟩
        show Acc K S2 H2 l ((cand3 ns i ++ innerC ns[i] ((ns.take i).take (j + 1))).map tI) S' H'
        rw [hsn, ← List.append_assoc, List.map_append]
        exact a'
      · rintro σ2 S8 H8 s8 a8 ⟨c5, c6, c7, rfl, pn8, po8⟩
        refine hs_nil ⟨S8, s6.trans s8, ?_, _, _, _, _, _, rfl, pn8⟩
        rw [hlt, List.take_length] at a8
        show Acc K S2 H2 l ((cand3 ns (i + 1)).map tI) S8 H8
        rw [cand3_succ ns ho]
        exact a8
    · rintro σ1 S6 H6 s6 a6 ⟨b3, b4, b5, b6, b7, rfl, pn⟩
      rw [hlen] at a6
      obtain ⟨S7, G7, s7, pf, _⟩ := a6.full
      refine hs_ret ((ee_var 2 rfl pf).isd ?_) G7.sub fun v S8 H8 g8 pv => q v S8 H8 (((g3.trans g4).trans G7).trans g8) pv
      unfold candR; rw [if_neg (by decide), if_neg (by decide)]
def FSrays (C : Addr) (K : PySem.W.Frag) : (V → Hp → Prop) → List PyData → PyData → Prop := fun P0 ds d => ∃ z ps, P0 = SchP K C z ps ∧ SchOk z ps ∧ ds = [] ∧ d = .list ((raysI z.cps.size ps).map tI)
abbrev NRays : List Str := ["self", "units", "normals", "found", "part", "ray", "at", "spot", "item"]
theorem sc_Srays : FnScope NRays ["self"] (defScope sSchema__rays) := ⟨rfl, rfl, rfl, by decide +kernel, rfl, by decide +kernel, by decide +kernel⟩
def uniD (n : Nat) (d : PyData) : List Int := match d with
  | .int s => (List.range n).map fun (a : Nat) => if (a : Int) = s then 1 else 0
  | _ => []
theorem units_D (n : Nat) : ((upto n).map (uniD n)).map tI = (unitsI n).map tI := by
  have e : (upto n).map (uniD n) = unitsI n := by
    unfold upto unitsI
    rw [List.map_map]
    refine List.map_congr_left fun s _ => ?_
    show (List.range n).map (fun (a : Nat) => if (a : Int) = (s : Int) then (1 : Int) else 0) = (List.range n).map fun a => if a = s then 1 else 0
    refine List.map_congr_left fun a _ => ?_
    by_cases h : a = s
    · rw [if_pos h, if_pos (by omega)]
    · rw [if_neg h, if_neg (by omega)]
  rw [e]
theorem fit_isDir {ps : Rules} {c : List Int} {n : Nat} (h : c.length = n) : (isDir (tI c) (n : Int) && ps.all fun p => decide (0 ≤ dotI (stepI p) (unI (tI c)))) = fitI ps c := by
  rw [unI_tI]
  unfold fitI isDir tI
  simp only [List.length_map, h, decide_true, Bool.true_and]
  congr 1
  rw [List.all_map]
  congr 1
theorem ok_Srays {C : Addr} (F : FnM K "rays" "Schema.rays" sSchema__rays f fd) (D1 : KD P w K mg base "candidate_rays" 1 (spD K Fcand)) (D2 : KD P w K mg base "lowest" 1 (spD K Flowest)) (D3 : KM P w K mg base C "steps" 1 (spO K (FSsteps C K))) (D4 : KM P w K mg base C "fits" 3 (spO K (FSfits C K))) (g1 : mg "tuple" = none) (g2 : mg "int" = none) (g3 : mg "range" = none) (g4 : mg "any" = none) (g5 : mg "sorted" = none) (c : Cls K C) (n1 : NoAttr K C "width") : FnOk P w K mg base CX0 4 f fd ["self"] (spO K (FSrays C K)) := by
  refine fn_hs F sc_Srays (fun vs H Q E h => ?_) (fun cdv A outer sh H vs Q E hr h => ?_)
  · obtain ⟨S, P0, v, ws, ds, d, rfl, _, _, _, hd, ⟨_, _, _, _, rfl, _⟩, _⟩ := h
    have := hd.1
    simp at this
    simp [this]
  · obtain ⟨S, P0, v, ws, ds, d, rfl, s, m, pv, hd, ⟨z, ps, rfl, ho, rfl, rfl⟩, q⟩ := h
    obtain rfl : ws = [] := List.eq_nil_of_length_eq_zero hd.1
    have hn1 : 1 ≤ z.cps.size := ho.1.2.2.1
    have hn3 : z.cps.size ≤ 3 := ho.1.2.2.2.1
    generalize hn : z.cps.size = n at hn1 hn3
    have hsb : ∀ p ∈ ps, VecB n 6 (stepI p) := fun p hp => ⟨by have := ho.2.2 p hp; rw [hn] at this; exact step_len this, fun x hx => step_six (ho.2.2 p hp) x hx⟩
    have hnb : ∀ m ∈ normI n ps, VecB n 6 m := norm_bd (by decide) hsb
    have hnl : (normI n ps).length ≤ 20 := by
      unfold normI unitsI; rw [List.length_append, List.length_map, List.length_map, List.length_range]
      have := ho.2.1; omega
    refine hs_setLc1 (m := 1) (i := 7) (enc := tI) (f := uniD n) rfl sc_Srays.nd s (blkOk_by (N := NRays) (sc := defScope sSchema__rays) (by decide +kernel)) (ei_range (n := n) g3 (by omega) ((ee_fld (ee_var 0 rfl pv) SchP.wfld c n1).isd (by rw [hn]))) (by rw [upto_len]; show _ ≤ 16777216; omega) ?elu fun v1 S1 H1 e1 p1 => ?_
    case elu =>
      intro d0 hd0 w7 S3 s3 p7 sh' H0 C' cl fp
      obtain ⟨sp, hsp, rfl⟩ := List.mem_map.mp hd0
      have p7 : Dt K (.int (sp : Nat)) w7 S3 := p7
      have pv3 : SchP K C z ps v S3 := Mn.up s3 pv
      refine ee_tupleOf g1 ((ee_lc (i := 6) (enc := .int) (f := fun d => match d with | .int a => if a = (sp : Int) then 1 else 0 | _ => 0) rfl sc_Srays.nd (blkOk_by (N := NRays) (sc := cellsSc ["self"] (compScope (setE (defBody sSchema__rays) 0))) (by decide +kernel)) (ei_range (n := n) g3 (by omega) ((ee_fld (ee_var 0 rfl pv3) SchP.wfld c n1).isd (by rw [hn]))) (by rw [upto_len]; show _ ≤ 16777216; omega) ?_).isd ?_)
      · intro d1 hd1 w6 S4 s4 p6 sh2 H2 C2 cl2 fp2
        obtain ⟨at', hat, rfl⟩ := List.mem_map.mp hd1
        have p6 : Dt K (.int (at' : Nat)) w6 S4 := p6
        exact (ee_intB g2 (ee_eqI (ee_var 6 rfl p6) (ee_var 7 rfl (p7.up s4)))).isd (by simp only [decide_eq_true_eq])
      · show _ = PyData.list (((List.range n).map fun (a : Nat) => if (a : Int) = (sp : Int) then (1 : Int) else 0).map .int)
        unfold upto
        rw [List.map_map, List.map_map, List.map_map]; rfl
    rw [units_D] at p1
    have pv1 : SchP K C z ps v S1 := Mn.up e1.st pv
    refine hs_set (i := 2) (P := Dt K (.list ((normI n ps).map tI))) ((ee_catL (by rw [List.length_map, List.length_map]; show _ ≤ 16777216; unfold normI at hnl; rw [List.length_append, List.length_map] at hnl; omega) (ee_var 1 rfl p1) (ee_meth0 D3 c (hr.mono (by decide)) (ee_var 0 rfl pv1) SchP.insP (spO_E (ds := []) ⟨z, ps, rfl, ho, rfl, rfl⟩))).isd ?en) e1.sub sc_Srays.nd fun v2 S2 H2 e2 p2 => ?_
    case en => unfold normI; rw [List.map_append, List.map_map]; rfl
    have pv2 : SchP K C z ps v S2 := Mn.up e2.st pv1
    refine hs_acc0 (i := 3) e2.sub sc_Srays.nd fun l H5 a5 => ?_
    let cs := candR n (normI n ps)
    have hcb : ∀ cc ∈ cs, VecB n 72 cc := cand_bd hn1 hn3 (by decide) hnb
    have hcl : cs.length ≤ 800 := cand_len hnl
    have hlen : ∀ K, (Ds K (cs.map tI)).length = cs.length := fun K => by rw [ds_len, List.length_map]
    refine hs_forAcc (Ps := Ds K (cs.map tI)) (f := fun i => (raysU ps (cs.take i)).map tI) (fun i σ S => ∃ a4 a5 a6 a7 a8, σ = [some v, some v1, some v2, some (.ref l), a4, a5, a6, a7, a8] ∧ SchP K C z ps v S) PassesOwn.never rfl a5 (ei_list (ee_callD D1 (hr.mono (by decide)) ⟨n, normI n ps, rfl, hn1, hn3, hnl, fun m hm => ⟨(hnb m hm).1, fun x hx => Nat.le_trans ((hnb m hm).2 x hx) (by decide)⟩, rfl⟩ (ea_2 (ee_var 2 rfl p2) ((ee_fld (ee_var 0 rfl pv2) SchP.wfld c n1).isd (by rw [hn]))))) (fun S' s' => ⟨_, _, _, _, _, rfl, Mn.up s' pv2⟩) (fun i σ S S' s' ⟨a4, a5, a6, a7, a8, e, h⟩ => ⟨a4, a5, a6, a7, a8, e, Mn.up s' h⟩) ?_ ?_
    · rintro S0 s0 i Pi σ1 S6 H6 x hP s6 a6 ⟨b4, b5, b6, b7, b8, rfl, pv6⟩ px
      have hi : i < cs.length := by
        have := (List.getElem?_eq_some_iff.mp hP).1
        rw [hlen] at this; exact this
      have hc : cs[i]? = some cs[i] := List.getElem?_eq_getElem hi
      rw [ds_get (show (cs.map tI)[i]? = some (tI cs[i]) by rw [List.getElem?_map, hc]; rfl)] at hP
      obtain rfl := Option.some.inj hP
      have hsn := raysU_snoc ps hc
      have hvb := hcb _ (List.getElem_mem hi)
      have hul : (raysU ps (cs.take i)).length ≤ 800 := by
        have := raysU_len ps (cs.take i) []
        rw [List.length_take] at this
        unfold raysU; simp only [List.length_nil] at this; omega
      generalize cs[i] = cc at hsn hvb px
      generalize raysU ps (cs.take i) = acc at hsn hul a6
      refine (eg_name (i := 4) sc_Srays.nd rfl (Or.inl rfl)) H6 a6.g.sub _ ?_
      refine hs_if (k := !takenI ps cc) ((et_w (ew_or (et_not (et_val ((ee_meth D4 c (hr.mono (by decide)) (ee_var 0 rfl pv6) SchP.insP (ea_1 (ee_var 4 rfl px)) (spO_E (F := FSfits C K) (P0 := SchP K C z ps) (ds := [tI cc]) (d := .bool (fitI ps cc)) ⟨z, ps, tI cc, rfl, ho, rfl, ?sm, by rw [hn, fit_isDir hvb.1]⟩))))) fun _ => ew_or1 (et_not (et_val (ee_any (bs := cc.map fun x => decide (0 < x)) rfl g4 ((ee_lc (i := 8) (enc := .bool) (f := fun d => match d with | .int x => decide (0 < x) | _ => false) rfl sc_Srays.nd (blkOk_by (N := NRays) (sc := defScope sSchema__rays) (by decide +kernel)) (ei_tup (ee_var 4 rfl px)) (by rw [List.length_map, hvb.1]; show _ ≤ 16777216; omega) ?ela).isd ?ea)))))).is ?ek) a6.g.sub (fun hk S7 H7 g7 => ?_) (fun hk S7 H7 g7 => hs_nil ?_)
      case sm => exact fun i hi => by rw [unI_tI] at hi; exact Nat.le_trans (hvb.2 i hi) (by decide)
      case ela =>
        intro d0 hd0 v S3 s3 pv sh' H0 C' cl fp
        obtain ⟨x, hx, rfl⟩ := List.mem_map.mp hd0
        have pv : Dt K (.int x) v S3 := pv
        exact ee_gt (ee_var 8 rfl pv) ee_int
      case ea => rw [List.map_map, List.map_map, List.map_map]; rfl
      case ek => unfold takenI; rw [List.any_map]; simp only [Function.comp_def]; cases fitI ps cc <;> rfl
      · have ht : takenI ps cc = false := by simpa using hk
        refine hs_cont ⟨S7, s6.trans g7.st, ?_, _, _, _, _, _, rfl, Mn.up g7.st pv6⟩
        show Acc K S2 H2 l ((raysU ps (cs.take (i + 1))).map tI) S7 H7
        rw [hsn]
        unfold rayStep
        rw [if_neg (by rw [ht]; exact Bool.false_ne_true)]
        exact a6.gr g7
      have ht : takenI ps cc = true := by simpa using hk
      have a7 := a6.gr g7
      refine hs_set (i := 5) (P := Dt K (tI (lowI cc))) (ee_tupleOf g1 (ee_callD D2 (hr.mono (by decide)) ⟨cc, .inr rfl, rfl, by rw [hvb.1]; omega, fun x hx => Nat.lt_of_le_of_lt (hvb.2 x hx) (Nat.lt_of_lt_of_le (by decide : 72 < 2 ^ 10) (Nat.pow_le_pow_right (by decide) (by decide)))⟩ (ea_1 (ee_var 4 rfl (px.up g7.st))))) a7.g.sub sc_Srays.nd fun v5 S8 H8 g8 p5 => ?_
      have a8 := a7.gr g8
      have pv8 : SchP K C z ps v S8 := Mn.up (g7.st.trans g8.st) pv6
      have s08 : Same S0 S8 := (s6.trans g7.st).trans g8.st
      obtain ⟨S9, G9, s9, pf, back⟩ := a8.full
      refine hs_if (k := !decide (lowI cc ∈ acc)) ((et_notInD (room_u65 hr) (shaped_tI _) (shaped_tIs _) (ee_var 5 rfl (p5.up s9)) (ee_var 3 rfl pf)).is ?eb) G9.sub (fun hk2 S10 H10 g10 => ?_) (fun hk2 S10 H10 g10 => ?_)
      case eb => rw [any_tI]
      all_goals obtain ⟨a10, s10⟩ := back S10 H10 g10
      · have hm : ¬ lowI cc ∈ acc := by simpa using hk2
        refine hs_accApp a10 (by rw [List.length_map]; omega) (ee_var (P := fun w _ => w = .ref l) 3 rfl rfl) (ee_var 5 rfl (p5.up s10)) fun S11 H11 s11 a11 => hs_nil (hs_nil ⟨S11, (s08.trans s10).trans s11, ?_, _, _, _, _, _, rfl, Mn.up (s10.trans s11) pv8⟩)
        show Acc K S2 H2 l ((raysU ps (cs.take (i + 1))).map tI) S11 H11
        rw [hsn]
        unfold rayStep
        rw [if_pos ht, if_neg hm, List.map_append]
        exact a11
      · have hm : lowI cc ∈ acc := by simpa using hk2
        refine hs_nil (hs_nil ⟨Y.del S10 l, s08.trans s10, ?_, _, _, _, _, _, rfl, Mn.up s10 pv8⟩)
        show Acc K S2 H2 l ((raysU ps (cs.take (i + 1))).map tI) (Y.del S10 l) H10
        rw [hsn]
        unfold rayStep
        rw [if_pos ht, if_pos hm]
        exact a10
    · rintro σ1 S6 H6 s6 a6 ⟨b4, b5, b6, b7, b8, rfl, pv6⟩
      rw [hlen, List.take_length] at a6
      obtain ⟨S7, G7, s7, pf, _⟩ := a6.full
      refine hs_ret (ee_sortL (enc := tI') (bs := raysU ps cs) g5 (sortOk_rows (fun k hk => ?_) (room_u8 hr)) (ee_var 3 rfl pf)) G7.sub fun v S8 H8 g8 pv => q v S8 H8 ((e1.trans (e2.trans G7)).trans g8) (by rw [hn]; exact pv)
      have := raysU_all (P := fun r => r.length = n) ps cs [] (fun _ h => nomatch h) (fun cc hcc _ => by unfold lowI; rw [List.length_map]; exact (hcb cc hcc).1) k hk
      intro e; rw [e] at this; simp at this; omega
end
end K18
namespace K18
open PySem PySem.Spec PyProof.Rows L2 Z Y
/-! ## plain facts for k18 -/
theorem dot_cons (a b : Int) (as bs : List Int) : dotI (a :: as) (b :: bs) = a * b + dotI as bs := by
  unfold dotI; rw [List.zip_cons_cons, List.map_cons, List.sum_cons]
theorem dot_nn : ∀ {es ds : List Int}, (∀ x ∈ es, 0 ≤ x) → (∀ x ∈ ds, 0 ≤ x) → 0 ≤ dotI es ds
  | [], _, _, _ => by unfold dotI; simp
  | _ :: _, [], _, _ => by unfold dotI; simp
  | e :: es, d :: ds, h1, h2 => by
    rw [dot_cons]
    have a := dot_nn (es := es) (ds := ds) (fun x hx => h1 x (List.mem_cons_of_mem _ hx)) fun x hx => h2 x (List.mem_cons_of_mem _ hx)
    have b := Int.mul_nonneg (h1 e List.mem_cons_self) (h2 d List.mem_cons_self)
    omega
theorem mono_pow (b : Int) : ∀ {es ds : List Int}, (∀ x ∈ es, 0 ≤ x) → (∀ x ∈ ds, 0 ≤ x) → monoI es (ds.map fun x => b ^ x.toNat) = b ^ (dotI es ds).toNat
  | [], _, _, _ => by unfold dotI; simp [monoI]
  | _ :: _, [], _, _ => by unfold dotI; simp [monoI]
  | e :: es, d :: ds, h1, h2 => by
    have he := h1 e List.mem_cons_self
    have hd := h2 d List.mem_cons_self
    have h1' : ∀ x ∈ es, 0 ≤ x := fun x hx => h1 x (List.mem_cons_of_mem _ hx)
    have h2' : ∀ x ∈ ds, 0 ≤ x := fun x hx => h2 x (List.mem_cons_of_mem _ hx)
    rw [List.map_cons, dot_cons]
    show (b ^ d.toNat) ^ e.toNat * monoI es (ds.map fun x => b ^ x.toNat) = _
    rw [mono_pow b h1' h2', ← Int.pow_mul, ← Int.pow_add]
    congr 1
    have a := dot_nn h1' h2'
    have c := Int.mul_nonneg he hd
    have e1 : (e * d).toNat = d.toNat * e.toNat := by
      rw [Nat.mul_comm]
      obtain ⟨m, rfl⟩ := Int.eq_ofNat_of_zero_le he
      obtain ⟨k, rfl⟩ := Int.eq_ofNat_of_zero_le hd
      rw [← Int.natCast_mul, Int.toNat_natCast, Int.toNat_natCast, Int.toNat_natCast]
    omega
theorem dot_step : ∀ {lo hi ds : List Int}, lo.length = ds.length → hi.length = ds.length → dotI (stepI (lo, hi)) ds = dotI hi ds - dotI lo ds
  | [], [], [], _, _ => by unfold dotI stepI; simp
  | a :: lo, c :: hi, d :: ds, h1, h2 => by
    have ih := dot_step (lo := lo) (hi := hi) (ds := ds) (by simpa using h1) (by simpa using h2)
    have e : stepI (a :: lo, c :: hi) = (c - a) :: stepI (lo, hi) := by unfold stepI; rfl
    rw [e, dot_cons, dot_cons, dot_cons, ih, Int.sub_mul]; omega
  | [], _ :: _, _, h1, h2 => by simp at h1 h2; omega
  | _ :: _, [], _, h1, h2 => by simp at h1 h2; omega
  | [], [], _ :: _, h1, _ => by simp at h1
  | _ :: _, _ :: _, [], h1, _ => by simp at h1
theorem pow_le_iff {b : Int} (hb : 2 ≤ b) {m n : Nat} : b ^ m ≤ b ^ n ↔ m ≤ n := by
  obtain ⟨k, rfl⟩ := Int.eq_ofNat_of_zero_le (by omega : 0 ≤ b)
  rw [← Int.natCast_pow, ← Int.natCast_pow, Int.ofNat_le]
  exact Nat.pow_le_pow_iff_right (by omega)
theorem pow_mono1 {b : Int} (hb : 1 ≤ b) {m n : Nat} (h : m ≤ n) : b ^ m ≤ b ^ n := by
  obtain ⟨k, rfl⟩ := Int.eq_ofNat_of_zero_le (by omega : 0 ≤ b)
  rw [← Int.natCast_pow, ← Int.natCast_pow, Int.ofNat_le]
  exact Nat.pow_le_pow_right (by omega) h
/-- which fits is kept; which does not fit is not kept by powers of 2 -/
theorem fit_keep {n : Nat} {ps : Rules} (hp : ∀ p ∈ ps, RuleOk n p) {d : List Int} (hl : d.length = n) (h0 : ∀ x ∈ d, 0 ≤ x) {b : Int} (hb : 1 ≤ b) (h : fitI ps d = true) : keepsI ps (d.map fun x => b ^ x.toNat) = true := by
  unfold keepsI
  rw [List.all_eq_true]
  intro p hpm
  unfold fitI at h
  rw [Bool.and_eq_true] at h
  have h1 := of_decide_eq_true (List.all_eq_true.mp h.2 p hpm)
  have hr := hp p hpm
  have e := dot_step (lo := p.1) (hi := p.2) (ds := d) (by rw [hr.1.1, hl]) (by rw [hr.2.1, hl])
  have e : dotI (stepI p) d = dotI p.2 d - dotI p.1 d := e
  refine decide_eq_true ?_
  rw [mono_pow b (fun x hx => (hr.1.2 x hx).1) h0, mono_pow b (fun x hx => (hr.2.2 x hx).1) h0]
  exact pow_mono1 hb (by omega)
theorem nofit_keep {n : Nat} {ps : Rules} (hp : ∀ p ∈ ps, RuleOk n p) {d : List Int} (hl : d.length = n) (h0 : ∀ x ∈ d, 0 ≤ x) (h : fitI ps d = false) : keepsI ps (d.map fun x => (2 : Int) ^ x.toNat) = false := by
  cases hk : keepsI ps (d.map fun x => (2 : Int) ^ x.toNat) with
  | false => rfl
  | true =>
    exfalso
    unfold keepsI at hk
    rw [List.all_eq_true] at hk
    unfold fitI at h
    have ha : (d.all fun x => decide (0 ≤ x)) = true := List.all_eq_true.mpr fun x hx => decide_eq_true (h0 x hx)
    rw [ha, Bool.true_and] at h
    have : (ps.all fun p => decide (0 ≤ dotI (stepI p) d)) = true := List.all_eq_true.mpr fun p hpm => decide_eq_true (by
      have hr := hp p hpm
      have e := dot_step (lo := p.1) (hi := p.2) (ds := d) (by rw [hr.1.1, hl]) (by rw [hr.2.1, hl])
      have e : dotI (stepI p) d = dotI p.2 d - dotI p.1 d := e
      have k := of_decide_eq_true (hk p hpm)
      rw [mono_pow 2 (fun x hx => (hr.1.2 x hx).1) h0, mono_pow 2 (fun x hx => (hr.2.2 x hx).1) h0, pow_le_iff (by decide)] at k
      have k1 := dot_nn (fun x hx => (hr.1.2 x hx).1) h0
      have k2 := dot_nn (fun x hx => (hr.2.2 x hx).1) h0
      omega)
    rw [this] at h; cases h
/-- the lots of the law -/
def LotsP (n : Nat) (gs : List Grp) : Prop := ∀ g ∈ gs, 0 ≤ g.1 ∧ g.1 ≤ 3 ∧ g.2.length = n ∧ ∀ x ∈ g.2, 0 ≤ x ∧ x ≤ 8
theorem powOk_b {b x : Int} (hb : 1 ≤ b ∧ b ≤ 7) (hx : 0 ≤ x ∧ x ≤ 8) : PowOk b x := by
  refine ⟨hx.1, ?_⟩
  have h1 : max 1 b.natAbs ≤ 2 ^ 3 := by omega
  have h2 : (max 1 b.natAbs) ^ x.toNat ≤ (2 ^ 3) ^ x.toNat := Nat.pow_le_pow_left h1 _
  have h3 : ((2 : Nat) ^ 3) ^ x.toNat ≤ (2 ^ 3) ^ 8 := Nat.pow_le_pow_right (by decide) (by omega)
  have h4 : ((2 : Nat) ^ 3) ^ 8 < 2 ^ 2000000 := by
    rw [← Nat.pow_mul]
    exact Nat.pow_lt_pow_right (by decide) (by decide)
  omega
theorem pow_rng {b x : Int} (hb : 1 ≤ b ∧ b ≤ 7) (hx : 0 ≤ x ∧ x ≤ 8) : 1 ≤ b ^ x.toNat ∧ (b ^ x.toNat).natAbs ≤ 10000000 := by
  obtain ⟨k, rfl⟩ := Int.eq_ofNat_of_zero_le (by omega : 0 ≤ b)
  have h2 : k ^ x.toNat ≤ 7 ^ x.toNat := Nat.pow_le_pow_left (by omega) _
  have h3 : 7 ^ x.toNat ≤ 7 ^ 8 := Nat.pow_le_pow_right (by decide) (by omega)
  have h4 : 7 ^ 8 ≤ 10000000 := by decide
  have h5 : 1 ≤ k ^ x.toNat := Nat.one_le_iff_ne_zero.mpr (Nat.ne_of_gt (Nat.pow_pos (by omega)))
  rw [← Int.natCast_pow]
  omega
theorem LotsP.pgs {n : Nat} {gs : List Grp} (h : LotsP n gs) : PgsOk n gs := fun g hg => ⟨(h g hg).1, (h g hg).2.2.1, fun x hx => ((h g hg).2.2.2 x hx).1⟩
theorem LotsP.pg {n : Nat} {gs : List Grp} (h : LotsP n gs) (n3 : n ≤ 3) {b : Int} (hb : 1 ≤ b ∧ b ≤ 7) : ∀ g ∈ gs, PgOk b g := fun g hg => ⟨powOk_b hb ⟨(h g hg).1, by have := (h g hg).2.1; omega⟩, fun x hx => powOk_b hb ((h g hg).2.2.2 x hx), by have := (h g hg).2.2.1; omega⟩
theorem LotsP.tab {n : Nat} {gs : List Grp} (h : LotsP n gs) (n1 : 1 ≤ n) (n3 : n ≤ 3) (hne : gs ≠ []) (hl : gs.length ≤ 10) {b : Int} (hb : 1 ≤ b ∧ b ≤ 7) : TabOk n (gs.map (pgG b)) := by
  refine ⟨n1, n3, fun e => hne (List.map_eq_nil_iff.mp e), by rw [List.length_map]; omega, fun g hg => ?_⟩
  obtain ⟨g0, h0, rfl⟩ := List.mem_map.mp hg
  have k := h g0 h0
  refine ⟨(pow_rng hb ⟨k.1, by omega⟩).1, by show (g0.2.map _).length = n; rw [List.length_map]; exact k.2.2.1, fun x hx => ?_⟩
  obtain ⟨y, hy, rfl⟩ := List.mem_map.mp hx
  exact (pow_rng hb (k.2.2.2 y hy)).1
theorem norm_row {gs : List Grp} {g : Grp} (h : g ∈ norm gs) : ∃ g' ∈ gs, g'.2 = g.2 := by
  have : g.2 ∈ (norm gs).map (·.2) := List.mem_map.mpr ⟨g, h, rfl⟩
  rw [mem_norm_rows] at this
  obtain ⟨g', h1, h2⟩ := List.mem_map.mp this
  exact ⟨g', h1, h2⟩
theorem LotsP.rows {n : Nat} {gs : List Grp} (h : LotsP n gs) {b : Int} (hb : 1 ≤ b ∧ b ≤ 7) : ∀ g ∈ norm (gs.map (pgG b)), g.2.length = n ∧ ∀ x ∈ g.2, (1 : Int) ≤ x ∧ x.natAbs ≤ 10000000 := fun g hg => by
  obtain ⟨g', h1, h2⟩ := norm_row hg
  obtain ⟨g0, h0, rfl⟩ := List.mem_map.mp h1
  rw [← h2]
  refine ⟨by show (g0.2.map _).length = n; rw [List.length_map]; exact (h g0 h0).2.2.1, fun x hx => ?_⟩
  obtain ⟨y, hy, rfl⟩ := List.mem_map.mp hx
  exact pow_rng hb ((h g0 h0).2.2.2 y hy)
theorem LotsP.keeps {n : Nat} {gs : List Grp} {ps : Rules} (h : LotsP n gs) (hp : ∀ p ∈ ps, RuleOk n p) {b : Int} (hb : 1 ≤ b) (hf : ∀ g ∈ gs, fitI ps g.2 = true) : ((norm (gs.map (pgG b))).all fun g => keepsI ps g.2) = true := by
  rw [List.all_eq_true]
  intro g hg
  obtain ⟨g', h1, h2⟩ := norm_row hg
  obtain ⟨g0, h0, rfl⟩ := List.mem_map.mp h1
  rw [← h2]
  exact fit_keep hp (h g0 h0).2.2.1 (fun x hx => ((h g0 h0).2.2.2 x hx).1) hb (hf g0 h0)
theorem norm_uniq {gs L : List Grp} (h1 : (L.map (·.2)).Pairwise fun a b => PySem.W.dataLe false tI' a b = true) (h2 : (L.map (·.2)).Nodup) (h3 : ∀ r, r ∈ L.map (·.2) ↔ r ∈ gs.map (·.2)) (h4 : ∀ g ∈ L, g.1 = totG gs g.2) : norm gs = L := by
  unfold norm
  rw [rowsS_uniq h1 h2 h3, List.map_map]
  exact (List.map_congr_left fun g hg => by show (totG gs g.2, g.2) = id g; rw [← h4 g hg]; rfl).trans (List.map_id L)
theorem norm_one (g : Grp) : norm [g] = [g] := norm_uniq (by simp) (by simp) (fun r => Iff.rfl) (fun x hx => by rw [List.mem_singleton.mp hx]; unfold totG; simp)
theorem rep_zeros (n : Nat) : (List.replicate n [PyData.int 0]).flatten = (List.replicate n (0 : Int)).map PyData.int := by
  induction n with
  | zero => rfl
  | succ n ih => rw [List.replicate_succ, List.replicate_succ, List.flatten_cons, ih]; rfl
theorem dot_zeros : ∀ (l : List Int) (n : Nat), dotI l (List.replicate n 0) = 0
  | [], _ => by unfold dotI; simp
  | _ :: _, 0 => by unfold dotI; simp
  | a :: l, n + 1 => by rw [List.replicate_succ, dot_cons, dot_zeros l n]; simp
theorem fit_zeros (ps : Rules) (n : Nat) : fitI ps (List.replicate n 0) = true := by
  unfold fitI
  rw [Bool.and_eq_true, List.all_eq_true, List.all_eq_true]
  exact ⟨fun x hx => decide_eq_true (by rw [List.eq_of_mem_replicate hx]; decide), fun p _ => decide_eq_true (by rw [dot_zeros]; decide)⟩
def tallG (ps : Rules) (n : Nat) (gs : List Grp) : List Grp := gs.filter (fun g => fitI ps g.2) ++ [(0, List.replicate n 0)]
theorem tall_lots {n : Nat} {ps : Rules} {gs : List Grp} (h : LotsP n gs) : LotsP n (tallG ps n gs) := fun g hg => by
  unfold tallG at hg
  rcases List.mem_append.mp hg with h1 | h1
  · exact h g (List.mem_filter.mp h1).1
  · rw [List.mem_singleton.mp h1]
    exact ⟨Int.le_refl 0, (by show (0 : Int) ≤ 3; decide), List.length_replicate, fun x hx => by rw [List.eq_of_mem_replicate hx]; decide⟩
theorem tall_fit {n : Nat} {ps : Rules} {gs : List Grp} : ∀ g ∈ tallG ps n gs, fitI ps g.2 = true := fun g hg => by
  unfold tallG at hg
  rcases List.mem_append.mp hg with h1 | h1
  · exact (List.mem_filter.mp h1).2
  · rw [List.mem_singleton.mp h1]; exact fit_zeros ps n
theorem tall_len {n : Nat} {ps : Rules} {gs : List Grp} (h : gs.length ≤ 9) : (tallG ps n gs).length ≤ 10 := by
  unfold tallG
  rw [List.length_append]
  have := List.length_filter_le (fun g : Grp => fitI ps g.2) gs
  simp only [List.length_cons, List.length_nil]; omega
theorem tall_D (ps : Rules) (n : Nat) (gs : List Grp) : ((((gs.map grpD).filter fun d => fitI ps (unG (unT d)).2).map fun d => d).map id) ++ [grpD (0, List.replicate n 0)] = (tallG ps n gs).map grpD := by
  unfold tallG
  rw [List.map_append, List.map_id, List.map_id', List.filter_map]
  congr 2
  refine List.filter_congr fun g _ => ?_
  show fitI ps (unG (unT (grpD g))).2 = fitI ps g.2
  rw [show unG (unT (grpD g)) = g from unG_q g]
def endG : List Grp := [(2, [0, 1]), (0, [4, 0])]
def endT : List Grp := [(9, [1, 3]), (1, [81, 1])]
theorem norm_end : norm (endG.map (pgG 3)) = endT := by
  have e : endG.map (pgG 3) = endT := by decide +kernel
  rw [e]
  exact norm_uniq (by rw [leR]; decide +kernel) (by decide +kernel) (fun r => Iff.rfl) (by decide +kernel)
theorem lots_end : LotsP 2 endG := by unfold LotsP endG; decide
section
variable {P : Program} {w : World} {K : PySem.W.Frag} {mg : Str → Option Value} {base : Heap} {f : Addr} {fd : FuncData}
theorem cmp_eqT {K : PySem.W.Frag} {C : Addr} {S : Hp} {n1 n2 : Nat} {g1 g2 : List Grp} : CmpP (spEqT K C) S (TabP K C n1 g1) (TabP K C n2 g2) (decide (n1 = n2) && decide (g1 = g2)) := fun v w S1 H1 st s pv pw Q q => ⟨S1, v, w, _, rfl, s, ⟨n1, g1, pv, .inl ⟨n2, g2, pw, rfl⟩⟩, q⟩
theorem notC_t {K : PySem.W.Frag} {C : Addr} {n : Nat} {gs : List Grp} : ∀ w S1, TabP K C n gs w S1 → NotC K C w S1 := fun w S1 h => by
  obtain ⟨a, dx, fs, e, h⟩ := TabP.ins w S1 h
  exact ⟨.inl ⟨a, dx, fs, e, h⟩⟩
theorem ee_catLE {X : Cx} {σ : L2.St} {S : Hp} {a b : Expr} {pos : Pos} {ds1 : List PyData} {F : List PyData → Prop} (hz : ∀ ds2, F ds2 → ds1.length + ds2.length ≤ sizeLine) (ha : EE X σ S a (Dt X.K (.list ds1))) (hb : EE X σ S b (Ex X.K fun d => ∃ ds2, d = .list ds2 ∧ F ds2)) : EE X σ S (.BinOp a .Add b pos) (Ex X.K fun d => ∃ ds2, d = .list (ds1 ++ ds2) ∧ F ds2) :=
  ee_op op_cat ha hb fun x y S1 H1 _ s px ⟨d, ⟨ds2, e, f2⟩, py⟩ Q q => by
    subst e
    obtain ⟨l, xs, rfl, hl, hx, _⟩ := px.lst_inv
    obtain ⟨m, ys, rfl, hm, hy, _⟩ := py.lst_inv
    have hz' : xs.length + ys.length ≤ sizeLine := by rw [hx.1, hy.1]; exact hz _ f2
    exact ⟨l, m, xs, ys, rfl, rfl, s _ _ hl, s _ _ hm, hz', fun t ht => q _ _ _ (Gr.new s ht) ⟨_, ⟨ds2, rfl, f2⟩, Dt.lst_mk upd_same ((hx.append hy).up (Same.new (s.free ht))) (by rw [List.length_append]; exact hz')⟩⟩
theorem bd_ints : ∀ l : List Int, Bd 1 (tI l) := fun l x hx => by
  obtain ⟨i, _, rfl⟩ := List.mem_map.mp hx
  trivial
theorem bd_grp (g : Grp) : Bd 2 (grpD g) := fun x hx => by
  rcases List.mem_cons.mp hx with rfl | hx
  · trivial
  · obtain rfl := List.mem_singleton.mp hx
    exact bd_ints _
theorem bd_grps (gs : List Grp) : Bd 3 (.list (gs.map grpD)) := fun x hx => by
  obtain ⟨g, _, rfl⟩ := List.mem_map.mp hx
  exact bd_grp g
/-- what stands around the law -/
structure LE (P : Program) (w : World) (K : PySem.W.Frag) (mg : Str → Option Value) (base : Heap) (C CS : Addr) : Prop where
  openD : KD P w K mg base "_law_open" 1 (spOpen K)
  take : KD P w K mg base "_law_take" 1 (spB K Ftake)
  one : KD P w K mg base "_law_one" 2 (spB K Fone)
  letters : KD P w K mg base "_law_letters" 3 (spB K Fletters)
  expo : KD P w K mg base "_law_exp" 2 (spB K Fexp)
  someF : KD P w K mg base "_law_some_facts" 3 (spB K Fsome)
  same : ∀ n, KD P w K mg base "_law_same" (n + 2) (spD K (Fsame n))
  pow : KD P w K mg base "_law_pow" 1 (spD K FL_pow)
  mkS : MkS P w K mg base CS
  mkT : MkT P w K mg base C
  gS : mg "Schema" = some (.ref CS)
  gT : mg "Table" = some (.ref C)
  c : Cls K C
  cS : Cls K CS
  ne : NeC K C
  rays : KM P w K mg base CS "rays" 4 (spO K (FSrays CS K))
  fits : KM P w K mg base CS "fits" 3 (spO K (FSfits CS K))
  groups : KM P w K mg base C "groups" 1 (spTgr K C)
  keep : KM P w K mg base C "keeps" 5 (FTkeep C CS K)
  eqM : KM P w K mg base C "__eq__" 1 (spEqT K C)
  pws : KSP P w K mg base CX0 C "powers" 5 (spTpw K C)
  pwsK : KSK P w K mg base C "powers" ["groups", "base", "width"] 5 (spTpw K C)
  flist : mg "list" = none
  ftuple : mg "tuple" = none
  frange : mg "range" = none
  fall : mg "all" = none
abbrev NL : List Str := ["_law_script", "_law_box", "_law_turn", "_law_many", "_law_rules", "_law_schema_z", "_law_rays_z", "_law_size", "_law_lots", "_law_step", "_law_line", "_law_due", "_law_held", "_law_made", "_law_fitting", "_law_tall", "_law_pair", "_law_item"]
theorem sc_law : FnScope NL ["_law_script"] (defScope slaw) := ⟨rfl, rfl, rfl, by decide +kernel, rfl, by decide +kernel, by decide +kernel⟩
def forBody (s : Stmt) : List Stmt := match s with
  | .For _ _ b _ _ => b
  | _ => []
def stAt (l : List Stmt) (i : Nat) : Stmt := l.getD i (.Pass ⟨0, 0, 0, 0⟩)
def turnBody : List Stmt := forBody (stAt (defBody slaw) 1)
abbrev LX (P : Program) (w : World) (K : PySem.W.Frag) (mg : Str → Option Value) (base : Heap) (f : Addr) (cdv : Value) (A : Around) (outer : List Env) (sh : Shared) (H0 : Hp) (E : XK) : Cx := (cxOf CX0 P w K mg base NL "law" (defScope slaw) f cdv A outer sh H0 E).nox
def spLaw (K : PySem.W.Frag) : Sp := fun vs H Q _ => ∃ (a : Addr) (ns : List Int), vs = [.ref a] ∧ SqL K H a (ns.map V.int) ∧ ns.length ≤ 63 ∧ ∀ H', Q (.bl true) H'
def Rules2 (n : Nat) (ps : Rules) : Prop := (ps.length : Int) ≤ 3 ∧ ∀ p ∈ ps, (p.1.length = n ∧ ∀ x ∈ p.1, 0 ≤ x ∧ x ≤ 2) ∧ (p.2.length = n ∧ ∀ x ∈ p.2, 0 ≤ x ∧ x ≤ 2)
theorem Rules2.ok {n : Nat} {ps : Rules} (h : Rules2 n ps) : ∀ p ∈ ps, RuleOk n p := fun p hp => by
  obtain ⟨⟨h1, h2⟩, ⟨h3, h4⟩⟩ := h.2 p hp
  exact ⟨⟨h1, fun x hx => by have := h2 x hx; omega⟩, ⟨h3, fun x hx => by have := h4 x hx; omega⟩⟩
theorem Rules2.step {n : Nat} {ps : Rules} (h : Rules2 n ps) : ∀ p ∈ ps, VecB n 2 (stepI p) := fun p hp => by
  refine ⟨step_len (h.ok p hp), fun i hi => ?_⟩
  unfold stepI at hi
  obtain ⟨q, hq, rfl⟩ := List.mem_map.mp hi
  have a := List.of_mem_zip hq
  have b := (h.2 p hp).1.2 _ a.1
  have c := (h.2 p hp).2.2 _ a.2
  show (q.2 - q.1).natAbs ≤ 2
  omega
theorem col_ok {a st : Int} {n : Nat} (hs : stepOk st) (n1 : 1 ≤ n) (n3 : n ≤ 3) : ColOk (cols a st n) := by
  have e : (cols a st n).cps.toList = (List.range n).map (colCode a st) := by unfold cols; simp
  refine ⟨?_, ?_, ?_, ?_, fun c hc => ?_⟩
  · rw [← Array.all_toList, e, List.all_eq_true]
    intro c hc
    obtain ⟨i, _, rfl⟩ := List.mem_map.mp hc
    have := col_range a st i
    exact decide_eq_true (by omega)
  · rw [e]; exact cols_nodup hs n3
  · rw [cols_size]; exact n1
  · rw [cols_size]; exact n3
  · rw [e] at hc
    obtain ⟨i, _, rfl⟩ := List.mem_map.mp hc
    exact col_range a st i
/-- Schema(a, b), the columns not fixed -/
theorem ee_mk2Z {X : Cx} {σ : L2.St} {S : Hp} {C : Addr} {a b : Expr} {p pos : Pos} {ps : Rules} {W : Str → Prop} (M : MkS X.prog X.w X.K X.mg X.base C) (hr : Room 5 X.A) (gS : X.mg "Schema" = some (.ref C)) (ha : EE X σ S a (Ex X.K fun d => ∃ z, d = .str z ∧ W z)) (hb : EE X σ S b (Dt X.K (.list (ps.map ruleD)))) (hW : ∀ z, W z → SchOk z ps) (hg : Gl X "Schema" := by rfl)
    (he : starEach [a, b] X.env = (false, eval a X.env) :: starEach [b] X.env := by rfl) (he2 : starEach [b] X.env = (false, eval b X.env) :: starEach [] X.env := by rfl) (hpl : (backTo pos (starEach [b] X.env)).any (·.1) = false := by rfl) : EE X σ S (.Call (.Name "Schema" p) [a, b] [] pos) (fun v S' => ∃ z, W z ∧ SchP X.K C z ps v S') := fun H s Q q => by
  obtain ⟨fi, fdi, ps', dv, m, G, b3, _, _, _⟩ := M.ex
  refine he_of (pe_make m G hr hg gS b3 .nil pass0 pab (by decide) he hpl) ((ea_2 ha hb he he2).2 H s _ fun vs S1 H1 g1 al a dx h1 h2 h3 => ?_)
  obtain ⟨v, w, rfl, ⟨_, ⟨z, rfl, hz⟩, pv⟩, pw⟩ := al.two
  exact make_init (vs := [v, w] ++ []) (ds := [.str z, .list (ps.map ruleD)] ++ []) (R := SchL X.K C z ps) g1.sub ((Dts.cons pv (Dts.cons pw .nil)).append .nil) ⟨z, _, ps, rfl, .inl rfl, hW z hz, rfl⟩ h1 h2 h3 fun S2 H2 g2 r => q _ S2 H2 (g1.trans g2) ⟨z, hz, newR_sch r⟩
end
end K18
namespace K18
open PySem PySem.Spec PyProof.Rows L2 Z Y
section
variable {P : Program} {w : World} {K : PySem.W.Frag} {mg : Str → Option Value} {base : Heap} {f : Addr} {fd : FuncData}
section
variable {C CS : Addr} {cdv : Value} {A : Around} {outer : List Env} {sh : Shared} {H0 : Hp} {E : XK} {vs vb : V} {S H : Hp} {D : Ends} {rest : List Stmt}
/-- many, rules, schema, rays, size -/
theorem turn_a (L : LE P w K mg base C CS) (hr : Room 10 (LX P w K mg base f cdv A outer sh H0 E).A) {a2 a3 a4 a5 a6 a7 a8 a9 a10 a11 a12 a13 a14 a15 a16 a17 : Option V} (s : Same S H) (hb : BX vb S)
    (nx : ∀ n ps z b v3 v4 v5 v6 v7 S' H', Gr S H S' H' → 1 ≤ n → n ≤ 3 → Rules2 n ps → SchOk z ps → z.cps.size = n → 1 ≤ b ∧ b ≤ 6 → Dt K (.int (n : Nat)) v3 S' → SchP K CS z ps v5 S' → Dt K (.list ((raysI n ps).map tI)) v6 S' → Dt K (.int b) v7 S' →
      HS (LX P w K mg base f cdv A outer sh H0 E) D rest [some vs, some vb, a2, some v3, some v4, some v5, some v6, some v7, a8, a9, a10, a11, a12, a13, a14, a15, a16, a17] H') :
    HS (LX P w K mg base f cdv A outer sh H0 E) D (stAt turnBody 0 :: stAt turnBody 1 :: stAt turnBody 2 :: stAt turnBody 3 :: stAt turnBody 4 :: rest) [some vs, some vb, a2, a3, a4, a5, a6, a7, a8, a9, a10, a11, a12, a13, a14, a15, a16, a17] H := by
  refine hs_set (i := 3) (P := Ex K fun d => ∃ n : Nat, d = .int n ∧ 1 ≤ n ∧ n ≤ 3) ((ee_addE (F := fun i => i = 1) (G := fun i => 0 ≤ i ∧ i < 3) (ee_int.ex ⟨1, rfl, rfl⟩) (ee_callBx L.take (hr.mono (by decide)) ⟨3, rfl, by decide, by decide, rfl⟩ (ea_2 (ee_var 1 rfl hb) ee_int))).exi fun d ⟨i, e, x, y, hx, hy, hi⟩ => ⟨(1 + y).toNat, by rw [e]; congr 1; omega, by omega, by omega⟩) s sc_law.nd fun v3 S1 H1 g1 pm => ?_
  obtain ⟨_, ⟨n, rfl, n1, n3⟩, pm⟩ := pm
  have hb1 : BX vb S1 := Mn.up g1.st hb
  refine hs_set (i := 4) (P := Ex K fun d => ∃ ps : Rules, d = .list (ps.map ruleD) ∧ Rules2 n ps) (ee_callBx L.someF (hr.mono (by decide)) ⟨n, 2, 3, rfl, by omega, by decide, by decide, by decide, by decide, rfl⟩ (ea_cons (ee_var 1 rfl hb1) (ea_cons (ee_var 3 rfl pm) (ea_2 ee_int ee_int)))) g1.sub sc_law.nd fun v4 S2 H2 g2 pr => ?_
  obtain ⟨_, ⟨ps, rfl, hps⟩, pr⟩ := pr
  have G2 := g1.trans g2
  have hb2 : BX vb S2 := Mn.up g2.st hb1
  have pm2 := pm.up g2.st
  haveI mnp : Mn (fun v S => ∃ z, (∃ a st, z = cols a st n ∧ stepOk st) ∧ SchP K CS z ps v S) := ⟨fun s ⟨z, h0, h⟩ => ⟨z, h0, Mn.up s h⟩⟩
  refine hs_set (i := 5) (P := fun v S => ∃ z, (∃ a st, z = cols a st n ∧ stepOk st) ∧ SchP K CS z ps v S) (ee_mk2Z L.mkS (hr.mono (by decide)) L.gS ((ee_callBx L.letters (hr.mono (by decide)) ⟨n, rfl, by omega, rfl⟩ (ea_2 (ee_var 1 rfl hb2) (ee_var 3 rfl pm2))).exi fun d ⟨a, st, e, h⟩ => ⟨_, e, a, st, rfl, h⟩) (ee_var 4 rfl pr) fun z ⟨a, st, e, h⟩ => ?so) G2.sub sc_law.nd fun v5 S3 H3 g3 pz => ?_
  case so =>
    subst e
    refine ⟨col_ok h n1 n3, by have := hps.1; omega, fun p hp => ?_⟩
    rw [cols_size a st n]; exact hps.ok p hp
  obtain ⟨z, ⟨a, st, ez, hst⟩, pz⟩ := pz
  have hz : z.cps.size = n := by rw [ez]; exact cols_size a st n
  have ho : SchOk z ps := ⟨by rw [ez]; exact col_ok hst n1 n3, by have := hps.1; omega, fun p hp => by rw [hz]; exact hps.ok p hp⟩
  have G3 := G2.trans g3
  refine hs_set (i := 6) (P := Dt K (.list ((raysI n ps).map tI))) ((ee_meth0 L.rays L.cS (hr.mono (by decide)) (ee_var 5 rfl pz) SchP.insP (spO_E (F := FSrays CS K) (P0 := SchP K CS z ps) (ds := []) ⟨z, ps, rfl, ho, rfl, rfl⟩)).isd (by rw [hz])) G3.sub sc_law.nd fun v6 S4 H4 g4 pq => ?_
  have G4 := G3.trans g4
  have hb4 : BX vb S4 := Mn.up (g3.st.trans g4.st) hb2
  refine hs_set (i := 7) (P := Ex K fun d => ∃ b : Int, d = .int b ∧ 1 ≤ b ∧ b ≤ 6) ((ee_addE (F := fun i => i = 1) (G := fun i => 0 ≤ i ∧ i < 6) (ee_int.ex ⟨1, rfl, rfl⟩) (ee_callBx L.take (hr.mono (by decide)) ⟨6, rfl, by decide, by decide, rfl⟩ (ea_2 (ee_var 1 rfl hb4) ee_int))).exi fun d ⟨i, e, x, y, hx, hy, hi⟩ => ⟨1 + y, by rw [e, hi, hx], by omega, by omega⟩) G4.sub sc_law.nd fun v7 S5 H5 g5 pb => ?_
  obtain ⟨_, ⟨b, rfl, hb1', hb6⟩, pb⟩ := pb
  exact nx n ps z b v3 v4 v5 v6 v7 S5 H5 (G4.trans g5) n1 n3 hps ho hz ⟨hb1', hb6⟩ (pm2.up (g3.st.trans (g4.st.trans g5.st))) (Mn.up (g4.st.trans g5.st) pz) (pq.up g5.st) pb
/-- lots -/
theorem turn_b (L : LE P w K mg base C CS) (hr : Room 10 (LX P w K mg base f cdv A outer sh H0 E).A) {n : Nat} {ps : Rules} {v3 v4 v5 v6 v7 : V} {a2 a8 a9 a10 a11 a12 a13 a14 a15 a16 a17 : Option V} (s : Same S H) (hb : BX vb S) (n1 : 1 ≤ n) (n3 : n ≤ 3) (hps : Rules2 n ps) (pm : Dt K (.int (n : Nat)) v3 S) (pq : Dt K (.list ((raysI n ps).map tI)) v6 S)
    (nx : ∀ gs v8 b9 b10 S' H', Gr S H S' H' → LotsP n gs → gs ≠ [] → gs.length ≤ 9 → Dt K (.list (gs.map grpD)) v8 S' →
      HS (LX P w K mg base f cdv A outer sh H0 E) D rest [some vs, some vb, a2, some v3, some v4, some v5, some v6, some v7, some v8, b9, b10, a11, a12, a13, a14, a15, a16, a17] H') :
    HS (LX P w K mg base f cdv A outer sh H0 E) D (stAt turnBody 5 :: stAt turnBody 6 :: rest) [some vs, some vb, a2, some v3, some v4, some v5, some v6, some v7, a8, a9, a10, a11, a12, a13, a14, a15, a16, a17] H := by
  have hry := rays_bd n1 n3 (b := 2) (by decide) hps.step
  have hrl : (raysI n ps).length ≤ 800 := rays_len n3 (by have := hps.1; omega)
  refine hs_acc0 (i := 8) s sc_law.nd fun l H1 a1 => ?_
  refine hs_forRE (W := fun m => 1 ≤ m ∧ m ≤ 4) PassesOwn.never rfl L.frange (fun m hm => by omega) ((ee_addE (F := fun i => i = 1) (G := fun i => 0 ≤ i ∧ i < 4) (ee_int.ex ⟨1, rfl, rfl⟩) (ee_callBx L.take (hr.mono (by decide)) ⟨4, rfl, by decide, by decide, rfl⟩ (ea_2 (ee_var 1 rfl hb) ee_int))).exi fun d ⟨i, e, x, y, hx, hy, hi⟩ => ⟨(1 + y).toNat, by rw [e]; congr 1; omega, by omega, by omega⟩) a1.g.sub fun m S2 H2 hm g2 => ?_
  refine ⟨fun i σ H' => ∃ (S' : Hp) (gs : List Grp) (b9 b10 : Option V), Same S2 S' ∧ Acc K S H l (gs.map grpD) S' H' ∧ gs.length = i ∧ LotsP n gs ∧ σ = [some vs, some vb, a2, some v3, some v4, some v5, some v6, some v7, some (.ref l), b9, b10, a11, a12, a13, a14, a15, a16, a17], ⟨S2, [], a9, a10, Same.refl _, a1.gr g2, rfl, (fun _ h => nomatch h), rfl⟩, ?_, ?_⟩
  · rintro i σ1 H3 hi ⟨S3, gs, b9, b10, s3, a3, hgl, hgo, rfl⟩
    refine (eg_name (S := S3) (i := 9) sc_law.nd rfl (Or.inl rfl)) H3 a3.g.sub _ ?_
    have s03 := g2.st.trans s3
    have hb3 : BX vb S3 := Mn.up s03 hb
    have pm3 := pm.up s03
    refine hs_set (i := 10) (P := Ex K fun d => ∃ r : List Int, d = tI r ∧ r.length = n ∧ ∀ x ∈ r, 0 ≤ x ∧ x ≤ 8) (ee_callBE (W := fun d => ∃ e : List Int, d = .list ((raysI n ps).map tI ++ [tI e, tI (List.replicate n 0)]) ∧ e.length = n ∧ ∀ x ∈ e, 0 ≤ x ∧ x ≤ 3) L.one (hr.mono (by decide)) (fun d ⟨e, he, h1, h2⟩ => ⟨_, ⟨(raysI n ps).map tI ++ [tI e, tI (List.replicate n 0)], by rw [he], by rw [List.length_append]; show 0 < _ + 2; omega, by rw [List.length_append, List.length_map]; simp only [List.length_cons, List.length_nil]; omega, rfl⟩, fun r hr' => ?hw⟩) (ee_var 1 rfl hb3) ((ee_catLE (F := fun ds2 => ∃ e : List Int, ds2 = [tI e, tI (List.replicate n 0)] ∧ e.length = n ∧ ∀ x ∈ e, 0 ≤ x ∧ x ≤ 3) (fun ds2 ⟨e, he, _⟩ => by rw [he, List.length_map]; show _ ≤ 16777216; simp only [List.length_cons, List.length_nil]; omega) (ee_var 6 rfl (pq.up s03))
      ((ee_lstE (Fs := [fun d => ∃ l : List Int, d = tI l ∧ l.length = n ∧ ∀ x ∈ l, 0 ≤ x ∧ x ≤ 3, fun d => d = tI (List.replicate n 0)]) (ea_2 (ee_callBx L.expo (hr.mono (by decide)) ⟨n, 3, rfl, by omega, by decide, by decide, rfl⟩ (ea_cons (ee_var 1 rfl hb3) (ea_2 (ee_var 3 rfl pm3) ee_int))) ((ee_repT (n := n) n1 (by omega) (by decide) (by decide) (ee_tup (ds := [.int 0]) (ea_1 ee_int)) (ee_var 3 rfl pm3)).ex (F := fun d => d = tI (List.replicate n 0)) ?hz))).exi ?hl)).exi fun d ⟨ds2, e, e0, he, h1, h2⟩ => ⟨e0, by rw [e, he], h1, h2⟩)) a3.g.sub sc_law.nd fun v10 S4 H4 g4 pl => ?_
    case hw =>
      rcases List.mem_append.mp hr' with h | h
      · obtain ⟨r0, h0, rfl⟩ := List.mem_map.mp h
        exact ⟨r0, rfl, (hry r0 h0).1, fun x hx => by have := (hry r0 h0).2 x hx; omega⟩
      · simp only [List.mem_cons, List.not_mem_nil, or_false] at h
        rcases h with rfl | rfl
        · exact ⟨e, rfl, h1, fun x hx => by have := h2 x hx; omega⟩
        · exact ⟨_, rfl, List.length_replicate, fun x hx => by rw [List.eq_of_mem_replicate hx]; decide⟩
    case hz => rw [rep_zeros]; rfl
    case hl =>
      rintro d ⟨ds, rfl, hF⟩
      cases hF with
      | cons h1 t =>
        cases t with
        | cons h2 t =>
          cases t
          obtain ⟨e, rfl, h3, h4⟩ := h1
          subst h2
          exact ⟨_, rfl, e, rfl, h3, h4⟩
    obtain ⟨_, ⟨r, rfl, hr1, hr2⟩, pl⟩ := pl
    have a4 := a3.gr g4
    have hb4 : BX vb S4 := Mn.up g4.st hb3
    refine hs_accAppE (F := fun d => ∃ g : Grp, d = grpD g ∧ 0 ≤ g.1 ∧ g.1 ≤ 3 ∧ g.2 = r) a4 (by rw [List.length_map]; omega) (ee_var (P := fun w _ => w = .ref l) 8 rfl rfl) ((ee_pairE (ee_callBx L.take (hr.mono (by decide)) ⟨4, rfl, by decide, by decide, rfl⟩ (ea_2 (ee_var 1 rfl hb4) ee_int)) ((ee_var 10 rfl pl).ex (F := fun d => d = tI r) rfl)).exi fun d h => by
      obtain ⟨d1, d2, e, ⟨k, ek, h0, h4⟩, e2⟩ := h
      exact ⟨(k, r), by rw [e, ek, e2]; rfl, h0, by show k ≤ 3; omega, rfl⟩) fun d S5 H5 hd s5 a5 => hs_nil ?_
    obtain ⟨g, rfl, h0, h3, hg2⟩ := hd
    refine ⟨S5, gs ++ [g], _, _, (s3.trans g4.st).trans s5, ?_, by rw [List.length_append, hgl]; rfl, fun g' hg' => ?_, rfl⟩
    · rw [List.map_append]; exact a5
    · rcases List.mem_append.mp hg' with h | h
      · exact hgo g' h
      · rw [List.mem_singleton.mp h, hg2]; exact ⟨h0, h3, hr1, hr2⟩
  · rintro σ1 H3 ⟨S3, gs, b9, b10, s3, a3, hgl, hgo, rfl⟩
    obtain ⟨S4, G4, s4, pf, _⟩ := a3.full
    exact nx gs _ b9 b10 S4 H3 G4 hgo (fun e => by subst e; simp at hgl; omega) (by omega) pf
end
end
end K18
namespace K18
open PySem PySem.Spec PyProof.Rows L2 Z Y
section
variable {P : Program} {w : World} {K : PySem.W.Frag} {mg : Str → Option Value} {base : Heap} {f : Addr} {fd : FuncData}
section
variable {C CS : Addr} {cdv : Value} {A : Around} {outer : List Env} {sh : Shared} {H0 : Hp} {E : XK} {vs vb : V} {S H : Hp} {D : Ends} {rest : List Stmt}
variable {n : Nat} {ps : Rules} {z : Str} {b : Int} {gs : List Grp} {v3 v4 v5 v6 v7 v8 : V}
/-- due, held, made, and what they are -/
theorem turn_c (L : LE P w K mg base C CS) (hr : Room 10 (LX P w K mg base f cdv A outer sh H0 E).A) {a2 a9 a10 a11 a12 a13 a14 a15 a16 a17 : Option V} (s : Same S H) (n1 : 1 ≤ n) (n3 : n ≤ 3) (hb6 : 1 ≤ b ∧ b ≤ 6) (hg : LotsP n gs) (hne : gs ≠ []) (hl : gs.length ≤ 10) (pm : Dt K (.int (n : Nat)) v3 S) (pb : Dt K (.int b) v7 S) (pl : Dt K (.list (gs.map grpD)) v8 S)
    (nx : ∀ v11 v12 v13 S' H', Gr S H S' H' → TabP K C n (norm (gs.map (pgG b))) v13 S' →
      HS (LX P w K mg base f cdv A outer sh H0 E) D rest [some vs, some vb, a2, some v3, some v4, some v5, some v6, some v7, some v8, a9, a10, some v11, some v12, some v13, a14, a15, a16, a17] H') :
    HS (LX P w K mg base f cdv A outer sh H0 E) D (stAt turnBody 7 :: stAt turnBody 8 :: stAt turnBody 9 :: stAt turnBody 10 :: rest) [some vs, some vb, a2, some v3, some v4, some v5, some v6, some v7, some v8, a9, a10, a11, a12, a13, a14, a15, a16, a17] H := by
  have hb7 : 1 ≤ b ∧ b ≤ 7 := ⟨hb6.1, by omega⟩
  have hzl : (gs.map grpD).length ≤ sizeLine := by rw [List.length_map]; show _ ≤ 16777216; omega
  have hT := hg.tab n1 n3 hne hl hb7
  refine hs_setLc1 (m := 11) (i := 16) (enc := id) (f := pgD b) rfl sc_law.nd s (blkOk_by (N := NL) (sc := defScope slaw) (by decide +kernel)) (ei_list (ee_var 8 rfl pl)) hzl ?ela fun v11 S1 H1 g1 pd => ?_
  case ela =>
    intro d0 hd0 w16 S3 s3 pw sh' H0' C' cl fp
    obtain ⟨g, hgm, rfl⟩ := List.mem_map.mp hd0
    have pw : Dt K (.tuple [.int g.1, tI g.2]) w16 S3 := pw
    have k := hg g hgm
    show EE _ _ _ _ (Dt K (grpD (pgG b (unG (unT (grpD g))))))
    rw [show unG (unT (grpD g)) = g from unG_q g]
    show EE _ _ _ _ (Dt K (.tuple [.int (b ^ g.1.toNat), tI (g.2.map fun x => b ^ x.toNat)]))
    refine ee_tup (ds := [.int (b ^ g.1.toNat), tI (g.2.map fun x => b ^ x.toNat)]) ?_
    refine ea_2 ?_ ?_
    · exact ee_callD L.pow (hr.mono (by decide)) ⟨b, g.1, rfl, rfl, powOk_b hb7 ⟨k.1, by omega⟩⟩ (ea_2 (ee_var 7 rfl (pb.up s3)) (ee_ixT (ds := [.int g.1, tI g.2]) (d := .int g.1) rfl (ee_var 16 rfl pw) ee_int))
    refine ee_tupleOf L.ftuple ?_
    refine (ee_lc (i := 17) (enc := .int) (f := fun d => match d with | .int x => b ^ x.toNat | _ => 0) rfl sc_law.nd (blkOk_by (N := NL) (sc := cellsSc ["_law_size"] (compScope (setE turnBody 7))) (by decide +kernel)) (ei_tup (ee_ixT (ds := [.int g.1, tI g.2]) (d := tI g.2) rfl (ee_var 16 rfl pw) ee_int)) (by rw [List.length_map, k.2.2.1]; show _ ≤ 16777216; omega) ?eli).isd (by rw [List.map_map, List.map_map, List.map_map]; rfl)
    intro d1 hd1 w17 S4 s4 pw7 sh2 H2 C2 cl2 fp2
    obtain ⟨x, hx, rfl⟩ := List.mem_map.mp hd1
    have pw7 : Dt K (.int x) w17 S4 := pw7
    exact ee_callD L.pow (hr.mono (by decide)) ⟨b, x, rfl, rfl, powOk_b hb7 (k.2.2.2 x hx)⟩ (ea_2 (ee_var 7 rfl ((pb.up s3).up s4)) (ee_var 17 rfl pw7))
  have eD : PyData.list (((gs.map grpD).map (pgD b)).map id) = .list ((gs.map (pgG b)).map grpD) := by
    rw [List.map_id, List.map_map, List.map_map]
    exact congrArg PyData.list (List.map_congr_left fun g _ => by
      show grpD (pgG b (unG (unT (grpD g)))) = grpD (pgG b g)
      rw [show unG (unT (grpD g)) = g from unG_q g])
  rw [eD] at pd
  have pl1 := pl.up g1.st
  refine hs_set (i := 12) (P := Dt K (.list (gs.map grpD))) ((ee_listN L.flist (.inl rfl) (ee_var 8 rfl pl1)).imp fun _ _ h => h.dt) g1.sub sc_law.nd fun v12 S2 H2 g2 ph => ?_
  have G2 := g1.trans g2
  refine hs_set (i := 13) (P := TabP K C n (norm (gs.map (pgG b)))) (ee_staticP L.pws (hr.mono (by decide)) L.gT (ea_cons (ee_var 3 rfl (pm.up G2.st)) (ea_2 (ee_var 7 rfl (pb.up G2.st)) (ee_var 8 rfl (pl.up G2.st)))) (spTpw_E (.inl rfl) hb6.1 (by omega) hg.pgs (hg.pg n3 hb7) hT)) G2.sub sc_law.nd fun v13 S3 H3 g3 pma => ?_
  have G3 := G2.trans g3
  have pl3 := pl.up G3.st
  have pm3 := pm.up G3.st
  have pb3 := pb.up G3.st
  have ph3 := ph.up g3.st
  have pd3 := pd.up (g2.st.trans g3.st)
  have tru : (decide (n = n) && decide (norm (gs.map (pgG b)) = norm (gs.map (pgG b)))) = true := by simp
  refine hs_ifN ((et_w (ew_or (et_ne hr (shaped_grps gs) (shaped_grps gs) (ee_var 8 rfl pl3) (ee_var 12 rfl ph3)) fun _ =>
    ew_or (et_neO (Pa := TabP K C n (norm (gs.map (pgG b)))) (Pb := TabP K C n (norm (gs.map (pgG b)))) (bo := true) L.eqM L.ne (hr.mono (by decide)) (ee_var 13 rfl pma) ((ee_mkT L.mkT (hr.mono (by decide)) L.gT hT (.inl rfl) (ee_var 3 rfl pm3) (ee_var 11 rfl pd3)).imp fun v S' h => newR_tab h) (fun w S1 h => TabP.ins w S1 h) notC_t (by have := cmp_eqT (K := K) (C := C) (S := S3) (n1 := n) (n2 := n) (g1 := norm (gs.map (pgG b))) (g2 := norm (gs.map (pgG b))); rw [tru] at this; exact this)) fun _ =>
    ew_or1 (et_neO (Pa := TabP K C n (norm (gs.map (pgG b)))) (Pb := TabP K C n (norm (gs.map (pgG b)))) (bo := true) L.eqM L.ne (hr.mono (by decide)) (ee_staticK3 L.pwsK (hr.mono (by decide)) L.gT (ee_tupleOf L.ftuple (ee_var 8 rfl pl3)) (ee_var 7 rfl pb3) (ee_var 3 rfl pm3) (spTpw_E (.inr rfl) hb6.1 (by omega) hg.pgs (hg.pg n3 hb7) hT)) (ee_var 13 rfl pma) (fun w S1 h => TabP.ins w S1 h) notC_t (by have := cmp_eqT (K := K) (C := C) (S := S3) (n1 := n) (n2 := n) (g1 := norm (gs.map (pgG b))) (g2 := norm (gs.map (pgG b))); rw [tru] at this; exact this)))).is ?_) G3.sub fun S4 H4 g4 => nx v11 v12 v13 S4 H4 (G3.trans g4) (Mn.up g4.st pma)
  rw [eqv_grps]; simp
end
end
end K18
namespace K18
open PySem PySem.Spec PyProof.Rows L2 Z Y
section
variable {P : Program} {w : World} {K : PySem.W.Frag} {mg : Str → Option Value} {base : Heap} {f : Addr} {fd : FuncData}
section
variable {C CS : Addr} {cdv : Value} {A : Around} {outer : List Env} {sh : Shared} {H0 : Hp} {E : XK} {vs vb : V} {S H : Hp} {D : Ends} {rest : List Stmt}
variable {n : Nat} {ps : Rules} {z : Str} {b : Int} {gs : List Grp} {v3 v4 v5 v6 v7 v8 v11 v12 v13 : V}
theorem small8 {g : Grp} (h : ∀ x ∈ g.2, 0 ≤ x ∧ x ≤ 8) : SmallD (tI g.2) := fun i hi => by rw [unI_tI] at hi; have := h i hi; omega
theorem fits_sp (ho : SchOk z ps) (hz : z.cps.size = n) {g : Grp} (h : g.2.length = n ∧ ∀ x ∈ g.2, 0 ≤ x ∧ x ≤ 8) {S : Hp} : SpE (spO K (FSfits CS K)) S (SchP K CS z ps :: Ds K [tI g.2]) (Dt K (.bool (fitI ps g.2))) := spO_E (F := FSfits CS K) (P0 := SchP K CS z ps) (ds := [tI g.2]) (d := .bool (fitI ps g.2)) ⟨z, ps, tI g.2, rfl, ho, rfl, small8 h.2, by rw [hz, fit_isDir h.1]⟩
/-- fitting, and that a fitting table keeps -/
theorem turn_d (L : LE P w K mg base C CS) (hr : Room 10 (LX P w K mg base f cdv A outer sh H0 E).A) {a2 a9 a10 a14 a15 a16 a17 : Option V} (s : Same S H) (n1 : 1 ≤ n) (n3 : n ≤ 3) (hps : Rules2 n ps) (ho : SchOk z ps) (hz : z.cps.size = n) (hb6 : 1 ≤ b ∧ b ≤ 6) (hg : LotsP n gs) (hl : gs.length ≤ 9) (pz : SchP K CS z ps v5 S) (pl : Dt K (.list (gs.map grpD)) v8 S) (pma : TabP K C n (norm (gs.map (pgG b))) v13 S)
    (nx : ∀ v14 S' H', Gr S H S' H' → HS (LX P w K mg base f cdv A outer sh H0 E) D rest [some vs, some vb, a2, some v3, some v4, some v5, some v6, some v7, some v8, a9, a10, some v11, some v12, some v13, some v14, a15, a16, a17] H') :
    HS (LX P w K mg base f cdv A outer sh H0 E) D (stAt turnBody 11 :: stAt turnBody 12 :: rest) [some vs, some vb, a2, some v3, some v4, some v5, some v6, some v7, some v8, a9, a10, some v11, some v12, some v13, a14, a15, a16, a17] H := by
  have hb7 : 1 ≤ b ∧ b ≤ 7 := ⟨hb6.1, by omega⟩
  have hzl : (gs.map grpD).length ≤ sizeLine := by rw [List.length_map]; show _ ≤ 16777216; omega
  refine hs_set (i := 14) (P := Dt K (.bool (gs.all fun g => fitI ps g.2))) ((ee_all (bs := gs.map fun g => fitI ps g.2) rfl L.fall ((ee_lc (i := 16) (enc := .bool) (f := fun d => fitI ps (unG (unT d)).2) rfl sc_law.nd (blkOk_by (N := NL) (sc := defScope slaw) (by decide +kernel)) (ei_list (ee_var 8 rfl pl)) hzl ?ela).isd ?eq)).isd (by rw [map_all])) s sc_law.nd fun v14 S1 H1 g1 pf => ?_
  case eq =>
    rw [List.map_map, List.map_map, List.map_map]
    exact congrArg PyData.list (List.map_congr_left fun g _ => by
      show PyData.bool (fitI ps (unG (unT (grpD g))).2) = PyData.bool (fitI ps g.2)
      rw [show unG (unT (grpD g)) = g from unG_q g])
  case ela =>
    intro d0 hd0 w16 S3 s3 pw sh' H0' C' cl fp
    obtain ⟨g, hgm, rfl⟩ := List.mem_map.mp hd0
    have pw : Dt K (.tuple [.int g.1, tI g.2]) w16 S3 := pw
    show EE _ _ _ _ (Dt K (.bool (fitI ps (unG (unT (grpD g))).2)))
    rw [show unG (unT (grpD g)) = g from unG_q g]
    exact ee_meth L.fits L.cS (hr.mono (by decide)) (ee_var 5 rfl (Mn.up s3 pz)) SchP.insP (ea_1 (ee_ixT (ds := [.int g.1, tI g.2]) (d := tI g.2) rfl (ee_var 16 rfl pw) ee_int)) (fits_sp ho hz (hg g hgm).2.2)
  have hkp : (gs.all fun g => fitI ps g.2) = true → ((norm (gs.map (pgG b))).all fun g => keepsI ps g.2) = true := fun h => hg.keeps hps.ok hb6.1 (List.all_eq_true.mp h)
  refine hs_ifN ((et_w (ew_and (et_val (ee_var 14 rfl pf)) fun h => ew_and1 (et_not (et_val (ee_meth L.keep L.c (hr.mono (by decide)) (ee_var 13 rfl (Mn.up g1.st pma)) TabP.insP (ea_1 (ee_var 5 rfl (Mn.up g1.st pz))) (FTkeep_E ho hz (by have := norm_len (gs.map (pgG b)); rw [List.length_map] at this; omega) (hg.rows hb7))))))).is ?_) g1.sub fun S2 H2 g2 => nx v14 S2 H2 (g1.trans g2)
  cases hf : (gs.all fun g => fitI ps g.2) with
  | false => rfl
  | true => rw [hkp hf]; rfl
/-- tall, and each lot by itself -/
theorem turn_e (L : LE P w K mg base C CS) (hr : Room 10 (LX P w K mg base f cdv A outer sh H0 E).A) {v14 : V} {a2 a9 a10 a15 a16 a17 : Option V} (s : Same S H) (n1 : 1 ≤ n) (n3 : n ≤ 3) (hps : Rules2 n ps) (ho : SchOk z ps) (hz : z.cps.size = n) (hg : LotsP n gs) (hl : gs.length ≤ 9) (pm : Dt K (.int (n : Nat)) v3 S) (pz : SchP K CS z ps v5 S) (pl : Dt K (.list (gs.map grpD)) v8 S)
    (nx : ∀ b15 b16 S' H', Gr S H S' H' → D.nx [some vs, some vb, a2, some v3, some v4, some v5, some v6, some v7, some v8, a9, a10, some v11, some v12, some v13, some v14, b15, b16, a17] H') :
    HS (LX P w K mg base f cdv A outer sh H0 E) D [stAt turnBody 13, stAt turnBody 14, stAt turnBody 15] [some vs, some vb, a2, some v3, some v4, some v5, some v6, some v7, some v8, a9, a10, some v11, some v12, some v13, some v14, a15, a16, a17] H := by
  have hzl : (gs.map grpD).length ≤ sizeLine := by rw [List.length_map]; show _ ≤ 16777216; omega
  have h7 : (1 : Int) ≤ 7 ∧ (7 : Int) ≤ 7 := by decide
  have htl := tall_lots (ps := ps) hg
  have hte : tallG ps n gs ≠ [] := by unfold tallG; simp
  have htn := tall_len (ps := ps) (n := n) hl
  refine hs_set (i := 15) (P := TabP K C n (norm ((tallG ps n gs).map (pgG 7)))) (ee_staticP L.pws (hr.mono (by decide)) L.gT (ea_cons (ee_var 3 rfl pm) (ea_2 ee_int ((ee_catL ?hz (ee_lcf (i := 16) (enc := id) (p := fun d => fitI ps (unG (unT d)).2) (f := fun d => d) rfl sc_law.nd (blkOk_by (N := NL) (sc := defScope slaw) (by decide +kernel)) (ei_list (ee_var 8 rfl pl)) hzl ?ela) (ee_lst (ds := [grpD (0, List.replicate n 0)]) (ea_1 (ee_tup (ds := [.int 0, tI (List.replicate n 0)]) (ea_2 ee_int ((ee_repT (n := n) n1 (by omega) (by decide) (by decide) (ee_tup (ds := [.int 0]) (ea_1 ee_int)) (ee_var 3 rfl pm)).isd (by rw [rep_zeros]; rfl))))))).isd (congrArg PyData.list (tall_D ps n gs))))) (spTpw_E (.inl rfl) (by decide) (by omega) htl.pgs (htl.pg n3 h7) (htl.tab n1 n3 hte htn h7))) s sc_law.nd fun v15 S1 H1 g1 pt => ?_
  case hz =>
    rw [List.length_map, List.length_map]
    have := List.length_filter_le (fun d => fitI ps (unG (unT d)).2) (gs.map grpD)
    rw [List.length_map] at this
    show _ ≤ 16777216; simp only [List.length_cons, List.length_nil]; omega
  case ela =>
    intro d0 hd0 w16 S3 s3 pw sh' H0' C' cl fp
    obtain ⟨g, hgm, rfl⟩ := List.mem_map.mp hd0
    have pw1 : Dt K (.tuple [.int g.1, tI g.2]) w16 S3 := pw
    refine ⟨ets_one ?_, fun _ => ee_var 16 rfl pw⟩
    show ET _ _ _ _ (fitI ps (unG (unT (grpD g))).2)
    rw [show unG (unT (grpD g)) = g from unG_q g]
    exact et_val (ee_meth L.fits L.cS (hr.mono (by decide)) (ee_var 5 rfl (Mn.up s3 pz)) SchP.insP (ea_1 (ee_ixT (ds := [.int g.1, tI g.2]) (d := tI g.2) rfl (ee_var 16 rfl pw1) ee_int)) (fits_sp ho hz (hg g hgm).2.2))
  refine hs_ifN ((et_not (et_val (ee_meth L.keep L.c (hr.mono (by decide)) (ee_var 15 rfl pt) TabP.insP (ea_1 (ee_var 5 rfl (Mn.up g1.st pz))) (FTkeep_E ho hz (by have := norm_len ((tallG ps n gs).map (pgG 7)); rw [List.length_map] at this; omega) (htl.rows h7))))).is (by rw [htl.keeps hps.ok (by decide) tall_fit]; rfl)) g1.sub fun S2 H2 g2 => ?_
  have G2 := g1.trans g2
  refine hs_for (Ps := Ds K (gs.map grpD)) (fun i σ S' => ∃ b16, σ = [some vs, some vb, a2, some v3, some v4, some v5, some v6, some v7, some v8, a9, a10, some v11, some v12, some v13, some v14, some v15, b16, a17]) PassesOwn.never rfl (ei_list (ee_var 8 rfl (pl.up G2.st))) g2.sub (fun S' H' g => ⟨a16, rfl⟩) ?_ ?_
  · rintro i Pi σ1 S3 H3 x S4 H4 hP g3 ⟨b16, rfl⟩ g4 px
    have hi : i < gs.length := by
      have := (List.getElem?_eq_some_iff.mp hP).1
      rw [ds_len, List.length_map] at this; exact this
    have hgm := List.getElem_mem hi
    rw [ds_get (show (gs.map grpD)[i]? = some (grpD gs[i]) by rw [List.getElem?_map, List.getElem?_eq_getElem hi]; rfl)] at hP
    obtain rfl := Option.some.inj hP
    generalize gs[i] = g at hgm px
    have k := hg g hgm
    refine (eg_name (i := 16) sc_law.nd rfl (Or.inl rfl)) H4 g4.sub _ ?_
    have s4 := (G2.st.trans g3.st).trans g4.st
    have px1 : Dt K (.tuple [.int g.1, tI g.2]) x S4 := px
    have h27 : (1 : Int) ≤ 2 ∧ (2 : Int) ≤ 7 := by decide
    have h1l : LotsP n [g] := fun g' hg' => by rw [List.mem_singleton.mp hg']; exact k
    refine hs_ifN ((et_w (ew_and (et_not (et_val (ee_meth L.fits L.cS (hr.mono (by decide)) (ee_var 5 rfl (Mn.up s4 pz)) SchP.insP (ea_1 (ee_ixT (ds := [.int g.1, tI g.2]) (d := tI g.2) rfl (ee_var 16 rfl px1) ee_int)) (fits_sp ho hz k.2.2)))) fun h =>
      ew_and1 (et_val (ee_meth L.keep L.c (hr.mono (by decide)) (ee_staticP L.pws (hr.mono (by decide)) L.gT (ea_cons (ee_var 3 rfl (pm.up s4)) (ea_2 ee_int (ee_lst (ds := [g].map grpD) (ea_1 (ee_var 16 rfl px))))) (spTpw_E (gs := [g]) (.inl rfl) (by decide) (by show 1 ≤ 1000; decide) h1l.pgs (h1l.pg n3 h27) (h1l.tab n1 n3 (by simp) (by show 1 ≤ 10; decide) h27))) TabP.insP (ea_1 (ee_var 5 rfl (Mn.up s4 pz))) (FTkeep_E ho hz (by have := norm_len ([g].map (pgG 2)); rw [List.length_map] at this; simp only [List.length_cons, List.length_nil] at this; omega) (h1l.rows h27)))))).is ?_) g4.sub fun S5 H5 g5 => hs_nil ⟨S5, g5, _, rfl⟩
    cases hf : fitI ps g.2 with
    | true => rfl
    | false =>
      have e : norm ([g].map (pgG 2)) = [pgG 2 g] := norm_one _
      rw [e]
      show ((!false) && ([pgG 2 g].all fun g => keepsI ps g.2)) = false
      rw [List.all_cons, List.all_nil]
      show ((!false) && (keepsI ps (g.2.map fun x => (2 : Int) ^ x.toNat) && true)) = false
      rw [nofit_keep hps.ok k.2.2.1 (fun x hx => (k.2.2.2 x hx).1) hf]; rfl
  · rintro σ1 S3 H3 g3 ⟨b16, rfl⟩
    exact hs_nil (nx _ _ S3 H3 (G2.trans g3))
end
end
end K18
namespace K18
open PySem PySem.Spec PyProof.Rows L2 Z Y
section
variable {P : Program} {w : World} {K : PySem.W.Frag} {mg : Str → Option Value} {base : Heap} {f : Addr} {fd : FuncData}
section
variable {C CS : Addr}
theorem ok_law (F : FnT K "law" slaw f fd) (L : LE P w K mg base C CS) : FnOk P w K mg base CX0 11 f fd ["_law_script"] (spLaw K) := by
  refine fn_hs F sc_law (fun vs H Q E h => by obtain ⟨a, ns, rfl, _⟩ := h; rfl) (fun cdv A outer sh H vs Q E hr h => ?_)
  obtain ⟨a, ns, rfl, hS, hl, q⟩ := h
  obtain ⟨fo, fdo, pso, G, hm, hk, hb⟩ := L.openD.ex
  refine hs_cons (ps_set (i := 1) sc_law.nd rfl (by first | exact Or.inl rfl | exact Or.inr rfl) (pe_call G (hr.mono (by decide)) rfl hm hk hb .nil pass0 (pa_cons (pv 0) pa_nil)) rfl (by first | exact .inl rfl | exact .inr rfl)) ?_
  refine ⟨_, rfl, ?_⟩
  refine ⟨a, ns, rfl, hS, hl, fun vb H1 sm hbx => ?_⟩
  refine hs_for (S := H1) (Ps := Ds K (upto 4)) (fun i σ S' => BX vb S' ∧ ∃ a2 a3 a4 a5 a6 a7 a8 a9 a10 a11 a12 a13 a14 a15 a16 a17, σ = [some (.ref a), some vb, a2, a3, a4, a5, a6, a7, a8, a9, a10, a11, a12, a13, a14, a15, a16, a17]) PassesOwn.never rfl (ei_range (n := 4) L.frange (by decide) ee_int) (Same.refl H1) (fun S' H' g => ⟨Mn.up g.st hbx, _, _, _, _, _, _, _, _, _, _, _, _, _, _, _, _, rfl⟩) ?_ ?_
  · rintro i Pi σ1 S2 H2 x S3 H3 hP g2 ⟨hb2, b2, b3, b4, b5, b6, b7, b8, b9, b10, b11, b12, b13, b14, b15, b16, b17, rfl⟩ g3 px
    refine (eg_name (i := 2) sc_law.nd rfl (by first | exact Or.inl rfl | exact Or.inr rfl)) H3 g3.sub _ ?_
    have hb3 : BX vb S3 := Mn.up g3.st hb2
    refine turn_a L hr g3.sub hb3 fun n ps z b v3 v4 v5 v6 v7 S4 H4 g4 n1 n3 hps ho hz hb6 pm pz pq pb => ?_
    have hb4 : BX vb S4 := Mn.up g4.st hb3
    refine turn_b L hr g4.sub hb4 n1 n3 hps pm pq fun gs v8 c9 c10 S5 H5 g5 hg hne hlen pl => ?_
    refine turn_c L hr g5.sub n1 n3 hb6 hg hne (by omega) (pm.up g5.st) (pb.up g5.st) pl fun v11 v12 v13 S6 H6 g6 pma => ?_
    have s56 := g5.st.trans g6.st
    refine turn_d L hr g6.sub n1 n3 hps ho hz hb6 hg hlen (Mn.up s56 pz) (pl.up g6.st) pma fun v14 S7 H7 g7 => ?_
    have s57 := s56.trans g7.st
    refine turn_e L hr g7.sub n1 n3 hps ho hz hg hlen (pm.up s57) (Mn.up s57 pz) (pl.up (g6.st.trans g7.st)) fun d15 d16 S8 H8 g8 => ?_
    exact ⟨S8, ((((g4.trans g5).trans g6).trans g7).trans g8), Mn.up ((s57.trans g8.st)) hb4, _, _, _, _, _, _, _, _, _, _, _, _, _, _, _, _, rfl⟩
  · rintro σ1 S2 H2 g2 ⟨hb2, a2, a3, a4, a5, a6, a7, a8, a9, a10, a11, a12, a13, a14, a15, a16, a17, rfl⟩
    have hT : TabOk 2 (endG.map (pgG 3)) := lots_end.tab (by decide) (by decide) (by decide) (by decide) (by decide)
    refine hs_ret (P := Dt K (.bool true)) (ee_callD (L.same 3) (hr.mono (by decide)) ⟨.list (endT.map grpD), rfl, bd_grps _, rfl⟩ (ea_2
      ((ee_meth0 L.groups L.c (hr.mono (by decide)) ((ee_staticP L.pws (hr.mono (by decide)) L.gT (ea_cons (P := Dt K (.int (2 : Nat))) ee_int (ea_2 ee_int (ee_lst (ds := endG.map grpD) (ea_2 (ee_tup (ds := [.int 2, tI [0, 1]]) (ea_2 ee_int (ee_tup (ds := [.int 0, .int 1]) (ea_2 ee_int ee_int)))) (ee_tup (ds := [.int 0, tI [4, 0]]) (ea_2 ee_int (ee_tup (ds := [.int 4, .int 0]) (ea_2 ee_int ee_int)))))))) (spTpw_E (.inl rfl) (by decide) (by decide) lots_end.pgs (lots_end.pg (by decide) (by decide)) hT)).imp fun v S' h => (by rw [norm_end] at h; exact h : TabP K C 2 endT v S')) TabP.insP spTgr_E).imp fun _ _ h => h.dt)
      (ee_lst (ds := endT.map grpD) (ea_2 (ee_tup (ds := [.int 9, tI [1, 3]]) (ea_2 ee_int (ee_tup (ds := [.int 1, .int 3]) (ea_2 ee_int ee_int)))) (ee_tup (ds := [.int 1, tI [81, 1]]) (ea_2 ee_int (ee_tup (ds := [.int 81, .int 1]) (ea_2 ee_int ee_int)))))))) g2.sub fun v S' H' g pv => by
        cases pv
        exact q H'
end
def gK {α : Type} : List α → List α → List α → List α
  | us, _, [a, b] => us ++ [b, a]
  | us, _, ws => us ++ ws
theorem gK_rel {vs ds zs : List V} {us its ws : List Value} (r1 : Vals vs us) (_ : Vals ds its) (r3 : Vals zs ws) : Vals (gK vs ds zs) (gK us its ws) := by
  cases r3 with
  | nil => exact r1.append .nil
  | cons a t =>
    cases t with
    | nil => exact r1.append (.cons a .nil)
    | cons b t =>
      cases t with
      | nil => exact r1.append (.cons b (.cons a .nil))
      | cons c t => exact r1.append (.cons a (.cons b (.cons c t)))
theorem kbindsW {K : PySem.W.Frag} {x qual : Str} {params : Arguments} {body : List Stmt} {scope : Scope} {f : Addr} {fd : FuncData} {ps ks : List Str} (F : FunD K x qual params body scope [] [] f fd) (n : Nat)
    (h : ∀ (kV doc pm : Value) (an : Option Addr) (cdv ct : Value) (us ws : List Value), us.length = n → ws.length = ks.length → bindArgs (PySem.W.fnOf x qual params body scope .none kV doc pm an cdv ct) ⟨us, ks.zip ws⟩ = pure (ps.zip (Y.gS us ws))) : KBn K fd ps n ks Y.gS Y.gS := by
  obtain ⟨oc, od, dV, kV, doc, pm, an, cdv, ct, osl, rfl, lk, hcd, hD, hK⟩ := F.ex
  rcases hD with ⟨_, rfl⟩ | ⟨e, _⟩
  · exact ⟨fun s us ws _ l1 l2 => .of_eq (h kV doc pm an cdv ct us ws l1 l2), fun r1 r2 => Y.gS_rel r1 r2⟩
  · exact absurd rfl e
theorem kbinds3 {K : PySem.W.Frag} {x qual : Str} {params : Arguments} {body : List Stmt} {scope : Scope} {f : Addr} {fd : FuncData} {ps ks : List Str} (F : FunD K x qual params body scope [] [] f fd)
    (h : ∀ (kV doc pm : Value) (an : Option Addr) (cdv ct : Value) (us ws : List Value), us.length = 0 → ws.length = ks.length → bindArgs (PySem.W.fnOf x qual params body scope .none kV doc pm an cdv ct) ⟨us, ks.zip ws⟩ = pure (ps.zip (Y.g3r us ws))) : KBn K fd ps 0 ks Y.g3r Y.g3r := by
  obtain ⟨oc, od, dV, kV, doc, pm, an, cdv, ct, osl, rfl, lk, hcd, hD, hK⟩ := F.ex
  rcases hD with ⟨_, rfl⟩ | ⟨e, _⟩
  · exact ⟨fun s us ws _ l1 l2 => .of_eq (h kV doc pm an cdv ct us ws l1 l2), fun r1 r2 => Y.g3r_rel r1 r2⟩
  · exact absurd rfl e
theorem facts {P : Program} {w : World} {K : PySem.W.Frag} {h : Heap} {mg : Str → Option Value} {f : Addr} (X : K.In h) (G : h.Ns mainGlobals mg) (hfa : mg ("law" : Str) = some (.ref f)) (c0 : SaysG fa fn pn sn tf ex h K) :
    ∃ fd : FuncData, (∀ (s : Shared) (v : Value), BindsTo s fd ⟨[v], []⟩ [("_law_script", v)]) ∧ ∀ base : Heap, K.In base → base.Ns mainGlobals mg → FnOk P w K mg base CX0 11 f fd ["_law_script"] (spLaw K) := by
  have d := c0.d
  have more := c0.more
  unfold ex at more
  rw [Bool.and_eq_true] at more
  obtain ⟨x_dflS, more⟩ := more
  rw [Bool.and_eq_true] at more
  obtain ⟨x_alias, more⟩ := more
  rw [Bool.and_eq_true] at more
  obtain ⟨x_Schema_rd, more⟩ := more
  rw [Bool.and_eq_true] at more
  obtain ⟨x_Schema_sg, more⟩ := more
  rw [Bool.and_eq_true] at more
  obtain ⟨x_Schema_cv, more⟩ := more
  rw [Bool.and_eq_true] at more
  obtain ⟨x_Table_ne, more⟩ := more
  rw [Bool.and_eq_true] at more
  obtain ⟨x_Table_ob, more⟩ := more
  rw [Bool.and_eq_true] at more
  obtain ⟨x_Table_cls, more⟩ := more
  rw [Bool.and_eq_true] at more
  obtain ⟨x_Table_str, more⟩ := more
  rw [Bool.and_eq_true] at more
  obtain ⟨x_Table_sp, more⟩ := more
  rw [Bool.and_eq_true] at more
  obtain ⟨x_Table_tk, more⟩ := more
  rw [Bool.and_eq_true] at more
  obtain ⟨x_Table_kit_list, more⟩ := more
  rw [Bool.and_eq_true] at more
  obtain ⟨x_Table_sub_list, more⟩ := more
  rw [Bool.and_eq_true] at more
  obtain ⟨x_Table_rd, more⟩ := more
  rw [Bool.and_eq_true] at more
  obtain ⟨x_Table_sg, more⟩ := more
  have x_Table_cv := more
  have x_alias := of_decide_eq_true x_alias
  have x_Schema_sg := He.eqO_ok x_Schema_sg
  have x_Table_ne := He.eqO_ok x_Table_ne
  have x_Table_ob := of_decide_eq_true x_Table_ob
  have x_Table_cls := He.eqO_ok x_Table_cls
  have x_Table_str := of_decide_eq_true x_Table_str
  have x_Table_sp := He.eqO_ok x_Table_sp
  have x_Table_tk := of_decide_eq_true x_Table_tk
  have x_Table_kit_list := of_decide_eq_true x_Table_kit_list
  have x_Table_sub_list := of_decide_eq_true x_Table_sub_list
  have x_Table_sg := He.eqO_ok x_Table_sg
  have h_isinstance : mg "isinstance" = none := He.free_ok X G (d.fact 25 (f := .free "isinstance") rfl)
  have h_bool : mg "bool" = none := He.free_ok X G (d.fact 26 (f := .free "bool") rfl)
  have h_int : mg "int" = none := He.free_ok X G (d.fact 27 (f := .free "int") rfl)
  have h_str : mg "str" = none := He.free_ok X G (d.fact 28 (f := .free "str") rfl)
  have h_list : mg "list" = none := He.free_ok X G (d.fact 29 (f := .free "list") rfl)
  have h_tuple : mg "tuple" = none := He.free_ok X G (d.fact 30 (f := .free "tuple") rfl)
  have h_len : mg "len" = none := He.free_ok X G (d.fact 31 (f := .free "len") rfl)
  have h_all : mg "all" = none := He.free_ok X G (d.fact 32 (f := .free "all") rfl)
  have h_any : mg "any" = none := He.free_ok X G (d.fact 33 (f := .free "any") rfl)
  have h_abs : mg "abs" = none := He.free_ok X G (d.fact 34 (f := .free "abs") rfl)
  have h_max : mg "max" = none := He.free_ok X G (d.fact 35 (f := .free "max") rfl)
  have h_sum : mg "sum" = none := He.free_ok X G (d.fact 36 (f := .free "sum") rfl)
  have h_zip : mg "zip" = none := He.free_ok X G (d.fact 37 (f := .free "zip") rfl)
  have h_range : mg "range" = none := He.free_ok X G (d.fact 38 (f := .free "range") rfl)
  have h_set : mg "set" = none := He.free_ok X G (d.fact 39 (f := .free "set") rfl)
  have h_enumerate : mg "enumerate" = none := He.free_ok X G (d.fact 40 (f := .free "enumerate") rfl)
  have h_sorted : mg "sorted" = none := He.free_ok X G (d.fact 41 (f := .free "sorted") rfl)
  have h_dict : mg "dict" = none := He.free_ok X G (d.fact 42 (f := .free "dict") rfl)
  have h_MOST_EXPONENT : ∃ t, mg "MOST_EXPONENT" = some (.int 6 t) := He.int_ok X G (d.fact 43 (f := .int "MOST_EXPONENT" 6) rfl)
  have gS : mg "Schema" = some (.ref (He.ga K "Schema")) := He.glo_ok X G (d.fact 13 (f := .glo "Schema") rfl)
  have cS : Cls K (He.ga K "Schema") := He.cls_ok (d.fact 44 (f := .cls "Schema") rfl)
  have mkr_Schema : Mk K (He.ga K "Schema") (He.ma K (He.ga K "Schema") "__init__") := He.mkr_ok (d.fact 45 (f := .mkr "Schema") rfl)
  have n_Schema_columns : NoAttr K (He.ga K "Schema") "columns" := He.noat_ok (d.fact 46 (f := .noat "Schema" "columns") rfl)
  have n_Schema_width : NoAttr K (He.ga K "Schema") "width" := He.noat_ok (d.fact 47 (f := .noat "Schema" "width") rfl)
  have n_Schema__facts : NoAttr K (He.ga K "Schema") "_facts" := He.noat_ok (d.fact 48 (f := .noat "Schema" "_facts") rfl)
  have m_Schema_is_exponent : Meth K (He.ga K "Schema") "is_exponent" (He.ma K (He.ga K "Schema") "is_exponent") := He.meth_ok (d.fact 49 (f := .meth "Schema" "is_exponent") rfl)
  have m_Schema_steps : Meth K (He.ga K "Schema") "steps" (He.ma K (He.ga K "Schema") "steps") := He.meth_ok (d.fact 50 (f := .meth "Schema" "steps") rfl)
  have m_Schema_fits : Meth K (He.ga K "Schema") "fits" (He.ma K (He.ga K "Schema") "fits") := He.meth_ok (d.fact 51 (f := .meth "Schema" "fits") rfl)
  have m_Schema_rays : Meth K (He.ga K "Schema") "rays" (He.ma K (He.ga K "Schema") "rays") := He.meth_ok (d.fact 52 (f := .meth "Schema" "rays") rfl)
  have m_Schema___contains__ : Meth K (He.ga K "Schema") "__contains__" (He.ma K (He.ga K "Schema") "__contains__") := He.meth_ok (d.fact 53 (f := .meth "Schema" "__contains__") rfl)
  obtain ⟨t_Schema, cv_Schema⟩ : ∃ t, ClX.CVal K (He.ga K "Schema") (.type "type") "MOST" (.int 4) (.int 4 t) := by
    split at x_Schema_cv
    · rename_i t heq
      exact ⟨t, ⟨heq, ⟨t, rfl⟩⟩⟩
    · cases x_Schema_cv
  have cr_Schema : ClX.CRead K (He.ga K "Schema") (.type "type") := ⟨x_Schema_rd, x_Schema_sg⟩
  have gT : mg "Table" = some (.ref (He.ga K "Table")) := He.glo_ok X G (d.fact 14 (f := .glo "Table") rfl)
  have cT : Cls K (He.ga K "Table") := He.cls_ok (d.fact 54 (f := .cls "Table") rfl)
  have mkr_Table : Mk K (He.ga K "Table") (He.ma K (He.ga K "Table") "__init__") := He.mkr_ok (d.fact 55 (f := .mkr "Table") rfl)
  have n_Table_width : NoAttr K (He.ga K "Table") "width" := He.noat_ok (d.fact 56 (f := .noat "Table" "width") rfl)
  have n_Table__groups : NoAttr K (He.ga K "Table") "_groups" := He.noat_ok (d.fact 57 (f := .noat "Table" "_groups") rfl)
  have m_Table_groups : Meth K (He.ga K "Table") "groups" (He.ma K (He.ga K "Table") "groups") := He.meth_ok (d.fact 58 (f := .meth "Table" "groups") rfl)
  have m_Table_keeps : Meth K (He.ga K "Table") "keeps" (He.ma K (He.ga K "Table") "keeps") := He.meth_ok (d.fact 59 (f := .meth "Table" "keeps") rfl)
  have m_Table___eq__ : Meth K (He.ga K "Table") "__eq__" (He.ma K (He.ga K "Table") "__eq__") := He.meth_ok (d.fact 60 (f := .meth "Table" "__eq__") rfl)
  obtain ⟨t_Table, cv_Table⟩ : ∃ t, ClX.CVal K (He.ga K "Table") (.type "type") "MOST" (.int 100) (.int 100 t) := by
    split at x_Table_cv
    · rename_i t heq
      exact ⟨t, ⟨heq, ⟨t, rfl⟩⟩⟩
    · cases x_Table_cv
  have cr_Table : ClX.CRead K (He.ga K "Table") (.type "type") := ⟨x_Table_rd, x_Table_sg⟩
  have isiT : IsiC K (He.ga K "Table") := ⟨x_Table_cls, x_Table_str, x_Table_sp, x_Table_tk, x_Table_ob⟩
  have neT : NeC K (He.ga K "Table") := ⟨x_Table_ne, x_Table_ob⟩
  obtain ⟨fd_law, F_law⟩ := d.def_ 31 (d := dlaw) rfl
  have e := hfa.symm.trans (He.glo_ok X G (d.fact 24 (f := .glo "law") rfl))
  cases e
  have b := FunD.bindsA (ps := ["_law_script"]) F_law fun _ _ _ _ _ _ us hl => match us, hl with | [_], _ => rfl
  refine ⟨fd_law, fun s v => b s [v] rfl, fun base _ _ => ?_⟩
  obtain ⟨fd_is_number, F_is_number⟩ := d.def_ 0 (d := dis_number) rfl
  have D_is_number : KD P w K mg base "is_number" 1 (spD K FisNumber) := kd_mk F_is_number (ok_is_number F_is_number h_isinstance h_int h_bool) (He.glo_ok X G (d.fact 0 (f := .glo "is_number") rfl)) (F_is_number.bindsN (fun _ _ _ _ _ _ us hl => match us, hl with | [_, _], _ => rfl))
  obtain ⟨fd_power_of, F_power_of⟩ := d.def_ 1 (d := dpower_of) rfl
  have D_power_of : KD P w K mg base "power_of" 1 (spD K Fpower_of) := kd_mk F_power_of (ok_power_of F_power_of) (He.glo_ok X G (d.fact 1 (f := .glo "power_of") rfl)) (F_power_of.bindsN (fun _ _ _ _ _ _ us hl => match us, hl with | [_, _], _ => rfl))
  obtain ⟨fd_lowest, F_lowest⟩ := d.def_ 2 (d := dlowest) rfl
  have D_lowest : KD P w K mg base "lowest" 1 (spD K Flowest) := kd_mk F_lowest (ok_lowest F_lowest h_abs h_max) (He.glo_ok X G (d.fact 2 (f := .glo "lowest") rfl)) (F_lowest.bindsN (fun _ _ _ _ _ _ us hl => match us, hl with | [_], _ => rfl))
  obtain ⟨fd_is_exponent, F_is_exponent⟩ := d.def_ 4 (d := dis_exponent) rfl
  have OKX : FnOk P w K mg base CX0 2 _ fd_is_exponent ["value", "width"] (spD K FisExp) := ok_is_exponent F_is_exponent D_is_number h_isinstance h_tuple h_len h_all h_MOST_EXPONENT
  have D_ies : KD P w K mg base "is_exponent_schemas" 2 (spD K FisExp) := ⟨_, _, _, OKX, (He.glo_ok X G (d.fact 5 (f := .glo "is_exponent_schemas") rfl)).trans (by rw [x_alias]; rfl), F_is_exponent.kp, F_is_exponent.bindsN (fun _ _ _ _ _ _ us hl => match us, hl with | [_, _], _ => rfl)⟩
  have D_is_exponent : KD P w K mg base ("is_exponent") 2 (spD K FisExp) := ⟨_, _, _, OKX, He.glo_ok X G (d.fact 4 (f := .glo "is_exponent") rfl), F_is_exponent.kp, F_is_exponent.bindsN (fun _ _ _ _ _ _ us hl => match us, hl with | [_, _], _ => rfl)⟩
  obtain ⟨fd_check_columns, F_check_columns⟩ := d.def_ 3 (d := dcheck_columns) rfl
  have D_check_columns : KD P w K mg base "check_columns" 1 (spD K FchkC) := kd_mk F_check_columns (ok_check_columns F_check_columns h_isinstance h_str h_len h_set) (He.glo_ok X G (d.fact 3 (f := .glo "check_columns") rfl)) (F_check_columns.bindsN (fun _ _ _ _ _ _ us hl => match us, hl with | [_], _ => rfl))
  obtain ⟨fd_is_direction, F_is_direction⟩ := d.def_ 5 (d := dis_direction) rfl
  have D_is_direction : KD P w K mg base "is_direction" 2 (spD K FisDir) := kd_mk F_is_direction (ok_is_direction F_is_direction D_is_number h_isinstance h_tuple h_len h_all) (He.glo_ok X G (d.fact 6 (f := .glo "is_direction") rfl)) (F_is_direction.bindsN (fun _ _ _ _ _ _ us hl => match us, hl with | [_, _], _ => rfl))
  obtain ⟨fd_dot, F_dot⟩ := d.def_ 6 (d := ddot) rfl
  have D_dot : KD P w K mg base "dot" 1 (spD K Fdot) := kd_mk F_dot (ok_dot F_dot h_sum h_zip) (He.glo_ok X G (d.fact 7 (f := .glo "dot") rfl)) (F_dot.bindsN (fun _ _ _ _ _ _ us hl => match us, hl with | [_, _], _ => rfl))
  obtain ⟨fd_monomial, F_monomial⟩ := d.def_ 7 (d := dmonomial) rfl
  have D_monomial : KD P w K mg base "monomial" 2 (spD K Fmonomial) := kd_mk F_monomial (ok_monomial F_monomial D_power_of h_zip) (He.glo_ok X G (d.fact 8 (f := .glo "monomial") rfl)) (F_monomial.bindsN (fun _ _ _ _ _ _ us hl => match us, hl with | [_, _], _ => rfl))
  obtain ⟨fd_candidate_rays, F_candidate_rays⟩ := d.def_ 8 (d := dcandidate_rays) rfl
  have D_candidate_rays : KD P w K mg base "candidate_rays" 1 (spD K Fcand) := kd_mk F_candidate_rays (ok_cand F_candidate_rays h_enumerate h_tuple) (He.glo_ok X G (d.fact 9 (f := .glo "candidate_rays") rfl)) (F_candidate_rays.bindsN (fun _ _ _ _ _ _ us hl => match us, hl with | [_, _], _ => rfl))
  obtain ⟨fd_check_width, F_check_width⟩ := d.def_ 15 (d := dcheck_width) rfl
  have D_check_width : KD P w K mg base "check_width" 2 (spD K FchkW) := kd_mk F_check_width (ok_chkW F_check_width D_is_number) (He.glo_ok X G (d.fact 10 (f := .glo "check_width") rfl)) (F_check_width.bindsN (fun _ _ _ _ _ _ us hl => match us, hl with | [_], _ => rfl))
  obtain ⟨fd_is_power_group, F_is_power_group⟩ := d.def_ 16 (d := dis_power_group) rfl
  have D_is_power_group : KD P w K mg base "is_power_group" 3 (spD K FisPg) := kd_mk F_is_power_group (ok_isPg F_is_power_group D_is_number D_is_direction h_isinstance h_tuple h_len) (He.glo_ok X G (d.fact 11 (f := .glo "is_power_group") rfl)) (F_is_power_group.bindsN (fun _ _ _ _ _ _ us hl => match us, hl with | [_, _], _ => rfl))
  obtain ⟨fd_power_group, F_power_group⟩ := d.def_ 17 (d := dpower_group) rfl
  have D_power_group : KD P w K mg base "power_group" 2 (spD K Fpg) := kd_mk F_power_group (ok_pg F_power_group D_power_of h_tuple) (He.glo_ok X G (d.fact 12 (f := .glo "power_group") rfl)) (F_power_group.bindsN (fun _ _ _ _ _ _ us hl => match us, hl with | [_, _], _ => rfl))
  obtain ⟨fd_L_open, F_L_open⟩ := d.def_ 22 (d := dL_open) rfl
  have D_L_open : KD P w K mg base "_law_open" 1 (spOpen K) := kd_mk F_L_open (ok_L_open F_L_open h_list h_len) (He.glo_ok X G (d.fact 15 (f := .glo "_law_open") rfl)) (F_L_open.bindsN (fun _ _ _ _ _ _ us hl => match us, hl with | [_], _ => rfl))
  obtain ⟨fd_L_take, F_L_take⟩ := d.def_ 23 (d := dL_take) rfl
  have D_L_take : KD P w K mg base "_law_take" 1 (spB K Ftake) := kd_mk F_L_take (ok_L_take F_L_take h_len h_int) (He.glo_ok X G (d.fact 16 (f := .glo "_law_take") rfl)) (F_L_take.bindsN (fun _ _ _ _ _ _ us hl => match us, hl with | [_, _], _ => rfl))
  obtain ⟨fd_L_one, F_L_one⟩ := d.def_ 24 (d := dL_one) rfl
  have D_L_one : KD P w K mg base "_law_one" 2 (spB K Fone) := kd_mk F_L_one (ok_L_one F_L_one D_L_take h_len) (He.glo_ok X G (d.fact 17 (f := .glo "_law_one") rfl)) (F_L_one.bindsN (fun _ _ _ _ _ _ us hl => match us, hl with | [_, _], _ => rfl))
  obtain ⟨fd_L_kind, F_L_kind⟩ := d.def_ 25 (d := dL_kind) rfl
  have D_L_kind : KD P w K mg base "_law_kind" 1 (spD K Fkind) := kd_mk F_L_kind (ok_L_kind F_L_kind h_isinstance h_bool h_int h_str h_list h_tuple) (He.glo_ok X G (d.fact 18 (f := .glo "_law_kind") rfl)) (F_L_kind.bindsN (fun _ _ _ _ _ _ us hl => match us, hl with | [_], _ => rfl))
  obtain ⟨fd_L_same, F_L_same⟩ := d.def_ 26 (d := dL_same) rfl
  have b_same := F_L_same.bindsN (ps := ["_law_found", "_law_due"]) (fun _ _ _ _ _ _ us hl => match us, hl with | [_, _], _ => rfl)
  have g_same := He.glo_ok X G (d.fact 19 (f := .glo "_law_same") rfl)
  have D_L_same : ∀ n, KD P w K mg base "_law_same" (n + 2) (spD K (Fsame n)) := fun n => kd_mk F_L_same (ok_L_same F_L_same g_same b_same D_L_kind h_len h_all h_zip n) g_same b_same
  obtain ⟨fd_L_exp, F_L_exp⟩ := d.def_ 28 (d := dL_exp) rfl
  have D_L_exp : KD P w K mg base "_law_exp" 2 (spB K Fexp) := kd_mk F_L_exp (ok_L_exp F_L_exp D_L_take h_tuple h_range) (He.glo_ok X G (d.fact 20 (f := .glo "_law_exp") rfl)) (F_L_exp.bindsN (fun _ _ _ _ _ _ us hl => match us, hl with | [_, _, _], _ => rfl))
  obtain ⟨fd_L_letters, F_L_letters⟩ := d.def_ 27 (d := dL_letters) rfl
  have D_L_letters : KD P w K mg base "_law_letters" 3 (spB K Fletters) := kd_mk F_L_letters (ok_L_letters F_L_letters D_L_take D_L_one h_range h_int) (He.glo_ok X G (d.fact 21 (f := .glo "_law_letters") rfl)) (F_L_letters.bindsN (fun _ _ _ _ _ _ us hl => match us, hl with | [_, _], _ => rfl))
  obtain ⟨fd_L_some_facts, F_L_some_facts⟩ := d.def_ 29 (d := dL_some_facts) rfl
  have D_L_some_facts : KD P w K mg base "_law_some_facts" 3 (spB K Fsome) := kd_mk F_L_some_facts (ok_L_some_facts F_L_some_facts D_L_take D_L_exp h_range) (He.glo_ok X G (d.fact 22 (f := .glo "_law_some_facts") rfl)) (F_L_some_facts.bindsN (fun _ _ _ _ _ _ us hl => match us, hl with | [_, _, _, _], _ => rfl))
  obtain ⟨fd_L_pow, F_L_pow⟩ := d.def_ 30 (d := dL_pow) rfl
  have D_L_pow : KD P w K mg base "_law_pow" 1 (spD K FL_pow) := kd_mk F_L_pow (ok_L_pow F_L_pow h_int) (He.glo_ok X G (d.fact 23 (f := .glo "_law_pow") rfl)) (F_L_pow.bindsN (fun _ _ _ _ _ _ us hl => match us, hl with | [_, _], _ => rfl))
  obtain ⟨fd_S_isx, F_S_isx⟩ := d.def_ 12 (d := dSchema__is_exponent) rfl
  have D_S_isx : KM P w K mg base (He.ga K "Schema") "is_exponent" 3 (spO K (Fsch_isExp (He.ga K "Schema"))) := ⟨_, _, _, ok_Sis_exponent F_S_isx D_ies cS n_Schema_width, m_Schema_is_exponent.at_, m_Schema_is_exponent.fn, m_Schema_is_exponent.kp, F_S_isx.bindsN (fun _ _ _ _ _ _ us hl => match us, hl with | [_, _], _ => rfl)⟩
  obtain ⟨fd_S_steps, F_S_steps⟩ := d.def_ 10 (d := dSchema__steps) rfl
  have D_S_steps : KM P w K mg base (He.ga K "Schema") "steps" 1 (spO K (FSsteps (He.ga K "Schema") K)) := ⟨_, _, _, ok_Ssteps F_S_steps h_tuple h_zip cS n_Schema__facts, m_Schema_steps.at_, m_Schema_steps.fn, m_Schema_steps.kp, F_S_steps.bindsN (fun _ _ _ _ _ _ us hl => match us, hl with | [_], _ => rfl)⟩
  obtain ⟨fd_S_fits, F_S_fits⟩ := d.def_ 13 (d := dSchema__fits) rfl
  have D_S_fits : KM P w K mg base (He.ga K "Schema") "fits" 3 (spO K (FSfits (He.ga K "Schema") K)) := ⟨_, _, _, ok_Sfits F_S_fits D_is_direction D_dot D_S_steps h_all cS n_Schema_width, m_Schema_fits.at_, m_Schema_fits.fn, m_Schema_fits.kp, F_S_fits.bindsN (fun _ _ _ _ _ _ us hl => match us, hl with | [_, _], _ => rfl)⟩
  obtain ⟨fd_S_rays, F_S_rays⟩ := d.def_ 14 (d := dSchema__rays) rfl
  have D_S_rays : KM P w K mg base (He.ga K "Schema") "rays" 4 (spO K (FSrays (He.ga K "Schema") K)) := ⟨_, _, _, ok_Srays F_S_rays D_candidate_rays D_lowest D_S_steps D_S_fits h_tuple h_int h_range h_any h_sorted cS n_Schema_width, m_Schema_rays.at_, m_Schema_rays.fn, m_Schema_rays.kp, F_S_rays.bindsN (fun _ _ _ _ _ _ us hl => match us, hl with | [_], _ => rfl)⟩
  obtain ⟨fd_S_cont, F_S_cont⟩ := d.def_ 11 (d := dSchema____contains__) rfl
  have D_S_cont : KM P w K mg base (He.ga K "Schema") "__contains__" 3 (spO K (FScont (He.ga K "Schema") K)) := ⟨_, _, _, ok_Scont F_S_cont D_is_number D_monomial h_isinstance h_tuple h_len h_all cS n_Schema__facts n_Schema_width, m_Schema___contains__.at_, m_Schema___contains__.fn, m_Schema___contains__.kp, F_S_cont.bindsN (fun _ _ _ _ _ _ us hl => match us, hl with | [_, _], _ => rfl)⟩
  obtain ⟨fd_Sinit, F_Sinit⟩ := d.def_ 9 (d := dSchema____init__) rfl
  have F_Sinit : FunD K "__init__" "Schema.__init__" (defArgs sSchema____init__) (defBody sSchema____init__) (defScope sSchema____init__) [.ref (He.dflAt ("Schema", some "__init__") 0 K)] [] (He.ma K (He.ga K "Schema") "__init__") fd_Sinit := F_Sinit
  have hdvS : ∀ S, Dt K (.tuple []) (.ref (He.dflAt ("Schema", some "__init__") 0 K)) S := fun S => by
    split at x_dflS
    · rename_i o1 its n sl heq
      have he : its = #[] := by simpa using x_dflS
      subst he
      exact Dt.tup_mk (.inr ⟨rfl, .inr ⟨_, #[], n, heq, rfl, rfl, Nat.zero_le _, .nil⟩⟩) .nil (Nat.zero_le _)
    · cases x_dflS
  have G_Sinit := ok_Sinit (P := P) (w := w) (mg := mg) (base := base) F_Sinit D_check_columns D_S_isx cS n_Schema_columns n_Schema_width n_Schema__facts gS cr_Schema cv_Schema h_len h_isinstance h_list h_tuple h_enumerate
  obtain ⟨u3, hu3, b3⟩ := F_Sinit.binds1 (ps := ["self", "columns", "facts"]) 3 1 (fun z => nomatch z) rfl (fun T kV doc pm an cdv ct us its l1 l2 => match us, l1, its, l2 with | [_, _, _], _, [_], _ => ⟨_, rfl, rfl⟩)
  obtain ⟨u2, hu2, b2⟩ := F_Sinit.binds1 (ps := ["self", "columns", "facts"]) 2 0 (fun z => nomatch z) rfl (fun T kV doc pm an cdv ct us its l1 l2 => match us, l1, its, l2 with | [_, _], _, [_], _ => ⟨_, rfl, rfl⟩)
  obtain ⟨its, kb⟩ := F_Sinit.kbindsD (ps := ["self", "columns", "facts"]) 1 ["facts", "columns"] gK (fun z => nomatch z) gK_rel (fun T kV doc pm an cdv ct us its ws l1 l2 l3 => match us, l1, its, l2, ws, l3 with | [_], _, [_], _, [_, _], _ => ⟨_, rfl, rfl⟩)
  cases hu3
  have MS : MkS P w K mg base (He.ga K "Schema") := ⟨_, fd_Sinit, ["self", "columns", "facts"], _, mkr_Schema, G_Sinit, b3, ⟨u2, hu2, b2⟩, hdvS, _, _, kb, fun s v w => rfl⟩
  obtain ⟨fd_Tinit, F_Tinit⟩ := d.def_ 18 (d := dTable____init__) rfl
  have F_Tinit : FunD K "__init__" "Table.__init__" (defArgs sTable____init__) (defBody sTable____init__) (defScope sTable____init__) [] [] (He.ma K (He.ga K "Table") "__init__") fd_Tinit := F_Tinit
  have G_Tinit := ok_Tinit (P := P) (w := w) (mg := mg) (base := base) F_Tinit D_check_width D_is_number D_is_direction cT n_Table_width n_Table__groups gT cr_Table cv_Table h_len h_isinstance h_list h_tuple h_enumerate h_all h_sorted
  have bT := F_Tinit.bindsN (ps := ["self", "width", "groups"]) (fun _ _ _ _ _ _ us hl => match us, hl with | [_, _, _], _ => rfl)
  have MT : MkT P w K mg base (He.ga K "Table") := ⟨_, fd_Tinit, ["self", "width", "groups"], mkr_Table, G_Tinit, bT, _, _, kbindsW F_Tinit 1 (fun _ _ _ _ _ _ us ws l1 l2 => match us, l1, ws, l2 with | [_], _, [_, _], _ => rfl), fun s v w => rfl⟩
  obtain ⟨fd_T_groups, F_T_groups⟩ := d.def_ 19 (d := dTable__groups) rfl
  have D_T_groups : KM P w K mg base (He.ga K "Table") "groups" 1 (spTgr K (He.ga K "Table")) := ⟨_, _, _, ok_Tgroups F_T_groups h_list cT n_Table__groups, m_Table_groups.at_, m_Table_groups.fn, m_Table_groups.kp, F_T_groups.bindsN (fun _ _ _ _ _ _ us hl => match us, hl with | [_], _ => rfl)⟩
  obtain ⟨fd_T_keep, F_T_keep⟩ := d.def_ 20 (d := dTable__keeps) rfl
  have D_T_keep : KM P w K mg base (He.ga K "Table") "keeps" 5 (FTkeep (He.ga K "Table") (He.ga K "Schema") K) := ⟨_, _, _, ok_Tkeeps F_T_keep D_S_cont h_all cT cS n_Table_width n_Table__groups n_Schema_width, m_Table_keeps.at_, m_Table_keeps.fn, m_Table_keeps.kp, F_T_keep.bindsN (fun _ _ _ _ _ _ us hl => match us, hl with | [_, _], _ => rfl)⟩
  obtain ⟨fd_T_eq, F_T_eq⟩ := d.def_ 21 (d := dTable____eq__) rfl
  have D_T_eq : KM P w K mg base (He.ga K "Table") "__eq__" 1 (spEqT K (He.ga K "Table")) := ⟨_, _, _, ok_Teq F_T_eq h_isinstance gT cT isiT x_Table_kit_list n_Table_width n_Table__groups, m_Table___eq__.at_, m_Table___eq__.fn, m_Table___eq__.kp, F_T_eq.bindsN (fun _ _ _ _ _ _ us hl => match us, hl with | [_, _], _ => rfl)⟩
  obtain ⟨⟨fd_pw, F_pw⟩, hpw1, hpw2⟩ := static_ c0 0 (d := dTable__powers)
  have bpw := F_pw.bindsN (ps := ["width", "base", "groups"]) (fun _ _ _ _ _ _ us hl => match us, hl with | [_, _, _], _ => rfl)
  have OKP := ok_Tpw (P := P) (w := w) (mg := mg) (base := base) F_pw MT D_check_width D_is_number D_is_power_group D_power_group gT h_isinstance h_list h_tuple h_enumerate
  have PW : KSP P w K mg base CX0 (He.ga K "Table") "powers" 5 (spTpw K (He.ga K "Table")) := ⟨_, _, _, fd_pw, ["width", "base", "groups"], cr_Table, hpw1, hpw2, F_pw.kp, OKP, bpw⟩
  have PWK : KSK P w K mg base (He.ga K "Table") "powers" ["groups", "base", "width"] 5 (spTpw K (He.ga K "Table")) := ⟨_, _, _, fd_pw, ["width", "base", "groups"], cr_Table, hpw1, hpw2, F_pw.kp, OKP, kbinds3 F_pw fun _ _ _ _ _ _ us ws l1 l2 => match us, l1, ws, l2 with | [], _, [_, _, _], _ => rfl⟩
  have L : LE P w K mg base (He.ga K "Table") (He.ga K "Schema") := ⟨D_L_open, D_L_take, D_L_one, D_L_letters, D_L_exp, D_L_some_facts, D_L_same, D_L_pow, MS, MT, gS, gT, cT, cS, neT, D_S_rays, D_S_fits, D_T_groups, D_T_keep, D_T_eq, PW, PWK, h_list, h_tuple, h_range, h_all⟩
  exact ok_law F_law L
end
end K18
open PySem PySem.W PySem.Calls PyProof.Rows
theorem PySem.Challenge.cw_dealtpowers_k18_power_groups_holds : PySem.Challenge.rw_dealtpowers_k18_power_groups.Holds := by
  w_on; o_law
  refine HandSHeadRun.head_any (r := OpenLaw.row PySem.Challenge.rw_dealtpowers_k18_power_groups) (q := view (OpenLaw.row PySem.Challenge.rw_dealtpowers_k18_power_groups).prog [41]) (H := K18.hk) (ob := K18.ob) (M := 20000) (loose := K18.nms) (d := HandSHeadRun.topDef (OpenLaw.row PySem.Challenge.rw_dealtpowers_k18_power_groups).prog 41) (kwd := []) K18.ob_eq
    (by kernel_rfl) (fun s => by kernel_rfl) K18.run (by kernel_rfl) (by kernel_rfl) (by kernel_rfl) (by rfl) (by first | assumption | decide +kernel) (by decide +kernel) ⟨rfl, rfl, rfl, rfl, rfl, by decide +kernel⟩ ?hw ?hc
  case hw => w_witness2
  case hc =>
    refine L2.walk_ofE (l := PySem.Challenge.rw_dealtpowers_k18_power_groups) (n := 63) (k := 11) (x := "_law_script") (CX := L2.CX0) rfl (by decide) (by kernel_rfl) ⟨rfl, by decide, by decide⟩ ?F (fun _ _ _ _ z => z)
    intro w mg fa h Y G hmg0
    obtain ⟨K, KX, c⟩ := Y
    have hmg : mg ("law" : PySem.Str) = some (.ref fa) := by
      have e : (HandSHeadRun.topDef (OpenLaw.row PySem.Challenge.rw_dealtpowers_k18_power_groups).prog 41).name = ("law" : PySem.Str) := by kernel_rfl
      rw [← e]
      exact hmg0
    obtain ⟨fd, hb, hF⟩ := K18.facts (P := (PySem.Challenge.rw_dealtpowers_k18_power_groups).prog) (w := w) KX G hmg c
    exact ⟨K, fd, K18.spLaw K, KX, hb, fun H a ns hl _ hS => ⟨a, ns, rfl, hS, hl, fun _ => rfl⟩, hF⟩
