import PyProof.Rows.All
import Wide.All
import OpenK.AllK
import HandS.HeadHook4
import HandS.ExcField
import HandS.Head0
import HandS.Head1
import HandS.Head2
import HandS.HeadEnd
import HandS.HeadHook1
import HandS.HeadHook2
import HandS.HeadHook3
import HandS.HeadWalk
import HandS.Property
import PySem.Challenge.RW_dealtpowers_k17_tables_refused
import Wide.FinOn
import KE.KStateDown
import HandS.ForMost
import HandS.ForExc
import HandS.IsInst
import HandS.Zip
import HandS.Defaults
import HandS.MakeKw
import HandS.MakeKwOnly
import HandS.Star
import HandS.ClsMeth
import HandS.OwnEq
import HandS.FStr
import HandS.Flow
import HandS.TupMul
import HandS.TupAny
import HandS.Strs
import HandS.WideBits
import HandS.Wide
import HandS.Walk
import HandS.Style
import HandS.SetTxt0
import KE.GoesEnum
import OpenK.KMeth
import OpenK.KOps
import KE.KFmtOwn
import PyProof.Rows.StrStep
import HandS.Exc
import HandS.ExcInit
import HandS.WordsExc
import HandS.TryMany
import KE.KTryMore
import KE.KExcHand
import HandS.Nested
import HandS.HotCalls
import HandS.DictTup
import HandS.TupLen
import HandS.TupSets
import HandS.Conv
import KE.SortData
import HandS.More
import HandS.Dict
import HandS.Deep
import KE.SortKeyHeap
import HandS.SortKw
import HandS.DictComp
import KE.KDictItemsList
import KE.KEqDict
set_option Elab.async false
set_option linter.all false
set_option maxRecDepth 100000
set_option maxHeartbeats 0
set_option exponentiation.threshold 256
namespace Y
open PySem PySem.Spec PyProof.Rows L2
def oexB (K : PySem.W.Frag) (C : Addr) : Bool := (match K.lookup C with
  | some ⟨.type t, _, .cls cd, sl⟩ => t == "type" && (match cd.mro, sl.toList with
    | .ref C' :: bm, [_, _, _, _, some (.builtin n), _] => C' == C && (PySem.HandSPX.refsVE bm && (n == "ValueError.__new__" && (cd.hasDict && !cd.hasDel)))
    | _, _ => false)
  | _ => false) && (decide (PySem.W.findIn K (.ref C) "__setattr__" = some (some (.builtin "object.__setattr__"))) && (decide (PySem.W.subIn K (.ref C) (.type "BaseException") = some true) && (decide (PySem.W.typeIn K (.ref C) = some (.type "type")) && PySem.W.keepIn K (.ref C))))
def errB (K : PySem.W.Frag) (C fI : Addr) (f : Str) : Bool := oexB K C && (xfB K C && (He.eqO (PySem.W.findIn K (.ref C) f) (some none) && (He.eqO (PySem.W.findIn K (.ref C) "code") (some none) && (He.eqO (PySem.W.findIn K (.ref C) "__init__") (some (some (.ref fI))) && decide (PySem.W.typeIn K (.ref fI) = some (.type "function"))))))
end Y
namespace K17
open PySem PySem.Spec PyProof.Rows L2
/-! ## the head's facts: K with the statics, without the empty tables; getters of properties -/
/-- what an object names, as far as the facts want it (not behind a code object) -/
def refsS (o : Obj) : List Addr := match o.data with
  | .seq its _ => its.toList.flatMap He.refV
  | .dict es _ => es.toList.flatMap fun e => He.refV e.val
  | .func fd => He.refV fd.code ++ (He.refV fd.defaults ++ He.refV fd.kwdefaults)
  | .cls cd => cd.ns :: cd.mro.flatMap He.refV
  | .fields vs => (match Nat.ble vs.size 8 with
    | true => vs.toList.flatMap He.refV
    | false => [])
  | _ => []
/-- what the module's names reach in n steps, each once (m: those met, as bits), and the statics -/
def addN : List Addr → Nat → List Addr → List Addr × Nat
  | [], m, acc => (acc, m)
  | r :: rs, m, acc => match Nat.beq (Nat.mod (Nat.shiftRight m r) 2) 1 with
    | true => addN rs m acc
    | false => HandSHeadRun.frNat (Nat.lor m (Nat.shiftLeft 1 r)) fun m2 => addN rs m2 (r :: acc)
def growN (g : Addr → Option Obj) : List Addr → Nat → List Addr → List Addr × Nat
  | [], m, acc => (acc, m)
  | a :: fr, m, acc => match addN (match g a with
      | some o => refsS o
      | none => []) m acc with
    | (acc2, m2) => growN g fr m2 acc2
def asN (g : Addr → Option Obj) : Nat → List Addr → Nat → List Addr
  | 0, fr, _ => fr
  | n + 1, fr, m => match growN g fr m [] with
    | (new, m2) => fr ++ asN g n new m2
def asE (g : Addr → Option Obj) (n : Nat) : List Addr := asN g n [mainGlobals] (Nat.shiftLeft 1 mainGlobals) ++ [cStatics]
def gtA (K : PySem.W.Frag) (p : He.Defn) : Addr := match PySem.W.recIn K (He.fAd K p) "property" with
  | some (.ref g :: _) => g
  | _ => 0
def gtW (K : PySem.W.Frag) (p : He.Defn) : He.FnW := match K.lookup (gtA K p) with
  | some ⟨_, _, .func fd, _⟩ => some (fd.name, fd.qualname, fd.params, fd.body, fd.scope, fd.globals, fd.closure, fd.builtins)
  | _ => none
def gtB (K : PySem.W.Frag) (d : He.DefD) : Bool :=
  (He.eqO (PySem.W.findIn K (.ref (He.ga K d.at_.1)) d.name) (some (some (.ref (He.fAd K d.at_)))) && (He.eqO (PySem.W.specialIn K (.ref (He.fAd K d.at_)) "__get__") (some (some (.builtin "property.__get__"))) && (decide (PySem.W.takesIn K (.ref (He.fAd K d.at_)) = some true) && (match PySem.W.recIn K (He.fAd K d.at_) "property" with
  | some (.ref _ :: _) => true
  | _ => false)))) && (PySem.W.keepIn K (.ref (gtA K d.at_)) && match K.lookup (gtA K d.at_) with
  | some ⟨_, _, .func fd, _⟩ => PySem.W.codeIn K fd.code d.qual && (He.dflB K fd.defaults [] && He.kwdB K fd.kwdefaults [])
  | _ => false)
/-- a staticmethod's def -/
def stA (K : PySem.W.Frag) (p : He.Defn) : Addr := match PySem.W.recIn K (He.fAd K p) "staticmethod" with
  | some (.ref g :: _) => g
  | _ => 0
def stW (K : PySem.W.Frag) (p : He.Defn) : He.FnW := match K.lookup (stA K p) with
  | some ⟨_, _, .func fd, _⟩ => some (fd.name, fd.qualname, fd.params, fd.body, fd.scope, fd.globals, fd.closure, fd.builtins)
  | _ => none
def stB (K : PySem.W.Frag) (d : He.DefD) : Bool :=
  ((match PySem.W.findCls K (.ref (He.ga K d.at_.1)) (.type "type") d.name with
    | some (.get (.builtin g) (.ref p) .none (.ref D)) => decide (g = "staticmethod.__get__") && (decide (p = He.fAd K d.at_) && decide (D = He.ga K d.at_.1))
    | _ => false) && (match PySem.W.recIn K (He.fAd K d.at_) "staticmethod" with
    | some (.ref _ :: _) => true
    | _ => false)) && (PySem.W.keepIn K (.ref (stA K d.at_)) && match K.lookup (stA K d.at_) with
  | some ⟨_, _, .func fd, _⟩ => PySem.W.codeIn K fd.code d.qual && (He.dflB K fd.defaults (d.dvs K) && He.kwdB K fd.kwdefaults (d.kws K))
  | _ => false)
abbrev AlP := ((He.AlD × Bool) × List He.FnW) × List He.FnW
structure SaysG (fa : List He.Fa) (fn pn sn : List He.DefD) (tf : List He.Defn) (ex : PySem.W.Frag → Bool) (h : Heap) (K : PySem.W.Frag) : Prop where
  d : He.SaysD fa fn K
  more : ex K = true
  tab : ∀ p ∈ tf, PySem.W.codeHdIn K (He.cT K p).1 (He.cT K p).2 = true ∧ K.lookup (He.cT K p).2 = none ∧ h.get? (He.cT K p).2 = some { cls := .none, data := .fields #[] }
  gets : ∀ d ∈ pn, gtB K d = true ∧ gtW K d.at_ = He.DefD.val d
  stats : ∀ d ∈ sn, stB K d = true ∧ stW K d.at_ = He.DefD.val d
def obsG (n : Nat) (fa : List He.Fa) (fn pn sn : List He.DefD) (tf : List He.Defn) (ex : PySem.W.Frag → Bool) (g : Addr → Option Obj) : AlP :=
  (((He.obsD fa fn (He.frT g (asE g n)), ((ex (He.frT g (asE g n)) && pn.all fun d => gtB (He.frT g (asE g n)) d) && sn.all fun d => stB (He.frT g (asE g n)) d) && He.tabsB g tf (He.frT g (asE g n))), pn.map fun d => gtW (He.frT g (asE g n)) d.at_), sn.map fun d => stW (He.frT g (asE g n)) d.at_)
theorem saysG_of {n : Nat} {fa : List He.Fa} {fn pn sn : List He.DefD} {tf : List He.Defn} {ex : PySem.W.Frag → Bool} {h : Heap} (e : obsG n fa fn pn sn tf ex h.get? = (((He.valD fn, true), pn.map He.DefD.val), sn.map He.DefD.val)) : SaysG fa fn pn sn tf ex h (He.frT h.get? (asE h.get? n)) := by
  have e2 : (((ex (He.frT h.get? (asE h.get? n)) && pn.all fun d => gtB (He.frT h.get? (asE h.get? n)) d) && sn.all fun d => stB (He.frT h.get? (asE h.get? n)) d) && He.tabsB h.get? tf (He.frT h.get? (asE h.get? n))) = true := congrArg (fun z : AlP => z.1.1.2) e
  have e4 : pn.map (fun d => gtW (He.frT h.get? (asE h.get? n)) d.at_) = pn.map He.DefD.val := congrArg (fun z : AlP => z.1.2) e
  have e5 : sn.map (fun d => stW (He.frT h.get? (asE h.get? n)) d.at_) = sn.map He.DefD.val := congrArg (fun z : AlP => z.2) e
  rw [Bool.and_eq_true, Bool.and_eq_true, Bool.and_eq_true] at e2
  refine ⟨congrArg (fun z : AlP => z.1.1.1) e, e2.1.1.1, fun p hp => ?_, fun d hd => ⟨List.all_eq_true.mp e2.1.1.2 d hd, List.map_inj_left.mp e4 d hd⟩, fun d hd => ⟨List.all_eq_true.mp e2.1.2 d hd, List.map_inj_left.mp e5 d hd⟩⟩
  have e3 := List.all_eq_true.mp e2.2 p hp
  rw [Bool.and_eq_true] at e3
  cases q : h.get? (He.cT (He.frT h.get? (asE h.get? n)) p).2 with
  | none => rw [q] at e3; exact absurd e3.2 Bool.false_ne_true
  | some o =>
    rw [q] at e3
    exact ⟨e3.1, He.frT_none q e3.2, by rw [He.emptyTab_eq e3.2]⟩
def hookG (n : Nat) (fa : List He.Fa) (fn pn sn : List He.DefD) (tf : List He.Defn) (ex : PySem.W.Frag → Bool) : PySem.W.Hook where
  α := AlP
  obs := fun s => obsG n fa fn pn sn tf ex s.heap.get?
  val := fun _ => (((He.valD fn, true), pn.map He.DefD.val), sn.map He.DefD.val)
  says := fun _ h => ∃ K : PySem.W.Frag, K.In h ∧ SaysG fa fn pn sn tf ex h K
  of := fun _ _ e => ⟨_, He.frT_in, saysG_of e⟩
  keeps := fun _ _ _ ⟨K, hK, c⟩ k => ⟨K, PySem.W.Frag.In.keeps hK k, ⟨c.d, c.more, fun p hp => ⟨(c.tab p hp).1, (c.tab p hp).2.1, k _ _ (c.tab p hp).2.2⟩, c.gets, c.stats⟩⟩
theorem obsG_eq {n : Nat} {fa : List He.Fa} {fn pn sn : List He.DefD} {tf : List He.Defn} {ex : PySem.W.Frag → Bool} {g : Addr → Option Obj} {s : Shared} (h : ∀ a, g a = s.heap.get? a) : obsG n fa fn pn sn tf ex g = (hookG n fa fn pn sn tf ex).obs s := by
  have e : g = s.heap.get? := funext h
  rw [e] <;> rfl
/-- a getter, and what is told of its property -/
theorem getter {fa : List He.Fa} {fn pn sn : List He.DefD} {tf : List He.Defn} {ex : PySem.W.Frag → Bool} {h : Heap} {K : PySem.W.Frag} (c : SaysG fa fn pn sn tf ex h K) (i : Nat) {d : He.DefD} (hi : pn[i]? = some d := by rfl) : (∃ fd, FunD K d.name d.qual d.params d.body d.scope [] [] (gtA K d.at_) fd) ∧ PropOf K (He.ga K d.at_.1) d.name (He.fAd K d.at_) (gtA K d.at_) := by
  obtain ⟨h1, h2⟩ := c.gets d (List.mem_of_getElem? hi)
  unfold gtB at h1
  rw [Bool.and_eq_true, Bool.and_eq_true, Bool.and_eq_true, Bool.and_eq_true, Bool.and_eq_true] at h1
  obtain ⟨⟨a1, a2, a3, a4⟩, b1, b2⟩ := h1
  refine ⟨?_, ⟨He.eqO_ok a1, He.eqO_ok a2, of_decide_eq_true a3, ?_⟩⟩
  · unfold gtW He.DefD.val at h2
    split at h2
    · rename_i oc od fd osl heq
      rw [heq] at b2
      simp only [Bool.and_eq_true] at b2
      obtain ⟨c1, c2, c3⟩ := b2
      cases fd
      simp only [Option.some.injEq, Prod.mk.injEq] at h2
      obtain ⟨rfl, rfl, rfl, rfl, rfl, rfl, rfl, rfl⟩ := h2
      exact ⟨_, ⟨⟨_, _, _, _, _, _, _, _, _, _, rfl, heq, c1, He.dflB_ok c2, He.kwdB_ok c3⟩, b1⟩⟩
    · cases h2
  · unfold gtA
    split at a4
    · rename_i g rest heq
      rw [heq]
      exact ⟨rest, rfl⟩
    · cases a4
/-- a staticmethod's def, and how its class tells it -/
theorem static_ {fa : List He.Fa} {fn pn sn : List He.DefD} {tf : List He.Defn} {ex : PySem.W.Frag → Bool} {h : Heap} {K : PySem.W.Frag} (c : SaysG fa fn pn sn tf ex h K) (i : Nat) {d : He.DefD} (hi : sn[i]? = some d := by rfl) :
    (∃ fd, FunD K d.name d.qual d.params d.body d.scope (d.dvs K) (d.kws K) (stA K d.at_) fd) ∧ PySem.W.findCls K (.ref (He.ga K d.at_.1)) (.type "type") d.name = some (.get (.builtin "staticmethod.__get__") (.ref (He.fAd K d.at_)) .none (.ref (He.ga K d.at_.1))) ∧ ∃ rest, PySem.W.recIn K (He.fAd K d.at_) "staticmethod" = some (.ref (stA K d.at_) :: rest) := by
  obtain ⟨h1, h2⟩ := c.stats d (List.mem_of_getElem? hi)
  unfold stB at h1
  rw [Bool.and_eq_true, Bool.and_eq_true, Bool.and_eq_true] at h1
  obtain ⟨⟨a1, a2⟩, b1, b2⟩ := h1
  refine ⟨?_, ?_, ?_⟩
  · unfold stW He.DefD.val at h2
    split at h2
    · rename_i oc od fd osl heq
      rw [heq] at b2
      simp only [Bool.and_eq_true] at b2
      obtain ⟨c1, c2, c3⟩ := b2
      cases fd
      simp only [Option.some.injEq, Prod.mk.injEq] at h2
      obtain ⟨rfl, rfl, rfl, rfl, rfl, rfl, rfl, rfl⟩ := h2
      exact ⟨_, ⟨⟨_, _, _, _, _, _, _, _, _, _, rfl, heq, c1, He.dflB_ok c2, He.kwdB_ok c3⟩, b1⟩⟩
    · cases h2
  · clear a2
    split at a1
    · rename_i g p D e
      simp only [Bool.and_eq_true, decide_eq_true_eq] at a1
      obtain ⟨k1, k2, k3⟩ := a1
      rw [e, k1, k2, k3]
    · cases a1
  · unfold stA
    split at a2
    · rename_i g r e
      exact ⟨r, by rw [e]⟩
    · cases a2
def top (i : Nat) : Stmt := PySem.Challenge.pw_dealtpowers_k17_tables_refused.main.body.getD i (.Pass ⟨0, 0, 0, 0⟩)
abbrev sInvalidNumber____init__ : Stmt := inClass (top 4) 0
def dInvalidNumber____init__ : He.DefD := ⟨("InvalidNumber", some "__init__"), "__init__", "InvalidNumber.__init__", defArgs sInvalidNumber____init__, defBody sInvalidNumber____init__, defScope sInvalidNumber____init__, [], []⟩
abbrev sInvalidColumns____init__ : Stmt := inClass (top 5) 0
def dInvalidColumns____init__ : He.DefD := ⟨("InvalidColumns", some "__init__"), "__init__", "InvalidColumns.__init__", defArgs sInvalidColumns____init__, defBody sInvalidColumns____init__, defScope sInvalidColumns____init__, [], []⟩
abbrev sInvalidFact____init__ : Stmt := inClass (top 6) 0
def dInvalidFact____init__ : He.DefD := ⟨("InvalidFact", some "__init__"), "__init__", "InvalidFact.__init__", defArgs sInvalidFact____init__, defBody sInvalidFact____init__, defScope sInvalidFact____init__, [], []⟩
abbrev sInvalidExponent____init__ : Stmt := inClass (top 7) 0
def dInvalidExponent____init__ : He.DefD := ⟨("InvalidExponent", some "__init__"), "__init__", "InvalidExponent.__init__", defArgs sInvalidExponent____init__, defBody sInvalidExponent____init__, defScope sInvalidExponent____init__, [], []⟩
abbrev sInvalidFactor____init__ : Stmt := inClass (top 8) 0
def dInvalidFactor____init__ : He.DefD := ⟨("InvalidFactor", some "__init__"), "__init__", "InvalidFactor.__init__", defArgs sInvalidFactor____init__, defBody sInvalidFactor____init__, defScope sInvalidFactor____init__, [], []⟩
abbrev sInvalidGroup____init__ : Stmt := inClass (top 9) 0
def dInvalidGroup____init__ : He.DefD := ⟨("InvalidGroup", some "__init__"), "__init__", "InvalidGroup.__init__", defArgs sInvalidGroup____init__, defBody sInvalidGroup____init__, defScope sInvalidGroup____init__, [], []⟩
abbrev sWrongWidth____init__ : Stmt := inClass (top 10) 0
def dWrongWidth____init__ : He.DefD := ⟨("WrongWidth", some "__init__"), "__init__", "WrongWidth.__init__", defArgs sWrongWidth____init__, defBody sWrongWidth____init__, defScope sWrongWidth____init__, [], []⟩
abbrev sTooMany____init__ : Stmt := inClass (top 11) 0
def dTooMany____init__ : He.DefD := ⟨("TooMany", some "__init__"), "__init__", "TooMany.__init__", defArgs sTooMany____init__, defBody sTooMany____init__, defScope sTooMany____init__, [], []⟩
abbrev sNothingLeft____init__ : Stmt := inClass (top 12) 0
def dNothingLeft____init__ : He.DefD := ⟨("NothingLeft", some "__init__"), "__init__", "NothingLeft.__init__", defArgs sNothingLeft____init__, defBody sNothingLeft____init__, defScope sNothingLeft____init__, [], []⟩
abbrev sis_number : Stmt := top 14
def dis_number : He.DefD := ⟨("is_number", none), "is_number", "is_number", defArgs sis_number, defBody sis_number, defScope sis_number, [], []⟩
abbrev spower_of : Stmt := top 15
def dpower_of : He.DefD := ⟨("power_of", none), "power_of", "power_of", defArgs spower_of, defBody spower_of, defScope spower_of, [], []⟩
abbrev scheck_columns : Stmt := top 18
def dcheck_columns : He.DefD := ⟨("check_columns", none), "check_columns", "check_columns", defArgs scheck_columns, defBody scheck_columns, defScope scheck_columns, [], []⟩
abbrev sis_exponent : Stmt := top 19
def dis_exponent : He.DefD := ⟨("is_exponent", none), "is_exponent", "is_exponent", defArgs sis_exponent, defBody sis_exponent, defScope sis_exponent, [], []⟩
abbrev sis_direction : Stmt := top 21
def dis_direction : He.DefD := ⟨("is_direction", none), "is_direction", "is_direction", defArgs sis_direction, defBody sis_direction, defScope sis_direction, [], []⟩
abbrev smonomial : Stmt := top 22
def dmonomial : He.DefD := ⟨("monomial", none), "monomial", "monomial", defArgs smonomial, defBody smonomial, defScope smonomial, [], []⟩
abbrev sSchema____init__ : Stmt := inClass (top 23) 1
def dSchema____init__ : He.DefD := ⟨("Schema", some "__init__"), "__init__", "Schema.__init__", defArgs sSchema____init__, defBody sSchema____init__, defScope sSchema____init__, [.adr (He.dflAt ("Schema", some "__init__") 0)], []⟩
abbrev sSchema__facts : Stmt := inClass (top 23) 2
def dSchema__facts : He.DefD := ⟨("Schema", some "facts"), "facts", "Schema.facts", defArgs sSchema__facts, defBody sSchema__facts, defScope sSchema__facts, [], []⟩
abbrev sSchema__steps : Stmt := inClass (top 23) 3
def dSchema__steps : He.DefD := ⟨("Schema", some "steps"), "steps", "Schema.steps", defArgs sSchema__steps, defBody sSchema__steps, defScope sSchema__steps, [], []⟩
abbrev sSchema____contains__ : Stmt := inClass (top 23) 4
def dSchema____contains__ : He.DefD := ⟨("Schema", some "__contains__"), "__contains__", "Schema.__contains__", defArgs sSchema____contains__, defBody sSchema____contains__, defScope sSchema____contains__, [], []⟩
abbrev sSchema__is_exponent : Stmt := inClass (top 23) 5
def dSchema__is_exponent : He.DefD := ⟨("Schema", some "is_exponent"), "is_exponent", "Schema.is_exponent", defArgs sSchema__is_exponent, defBody sSchema__is_exponent, defScope sSchema__is_exponent, [], []⟩
abbrev sSchema__fits : Stmt := inClass (top 23) 6
def dSchema__fits : He.DefD := ⟨("Schema", some "fits"), "fits", "Schema.fits", defArgs sSchema__fits, defBody sSchema__fits, defScope sSchema__fits, [], []⟩
abbrev sSchema__rays : Stmt := inClass (top 23) 7
def dSchema__rays : He.DefD := ⟨("Schema", some "rays"), "rays", "Schema.rays", defArgs sSchema__rays, defBody sSchema__rays, defScope sSchema__rays, [], []⟩
abbrev sSchema__check_exponents : Stmt := inClass (top 23) 8
def dSchema__check_exponents : He.DefD := ⟨("Schema", some "check_exponents"), "check_exponents", "Schema.check_exponents", defArgs sSchema__check_exponents, defBody sSchema__check_exponents, defScope sSchema__check_exponents, [], []⟩
abbrev sSchema__follows : Stmt := inClass (top 23) 9
def dSchema__follows : He.DefD := ⟨("Schema", some "follows"), "follows", "Schema.follows", defArgs sSchema__follows, defBody sSchema__follows, defScope sSchema__follows, [], []⟩
abbrev sSchema__reason : Stmt := inClass (top 23) 10
def dSchema__reason : He.DefD := ⟨("Schema", some "reason"), "reason", "Schema.reason", defArgs sSchema__reason, defBody sSchema__reason, defScope sSchema__reason, [], []⟩
abbrev sSchema__equal_sums : Stmt := inClass (top 23) 11
def dSchema__equal_sums : He.DefD := ⟨("Schema", some "equal_sums"), "equal_sums", "Schema.equal_sums", defArgs sSchema__equal_sums, defBody sSchema__equal_sums, defScope sSchema__equal_sums, [], []⟩
abbrev sSchema__with_facts : Stmt := inClass (top 23) 12
def dSchema__with_facts : He.DefD := ⟨("Schema", some "with_facts"), "with_facts", "Schema.with_facts", defArgs sSchema__with_facts, defBody sSchema__with_facts, defScope sSchema__with_facts, [], []⟩
abbrev sSchema__fact_text : Stmt := inClass (top 23) 13
def dSchema__fact_text : He.DefD := ⟨("Schema", some "fact_text"), "fact_text", "Schema.fact_text", defArgs sSchema__fact_text, defBody sSchema__fact_text, defScope sSchema__fact_text, [], []⟩
abbrev sSchema__read_fact : Stmt := inClass (top 23) 14
def dSchema__read_fact : He.DefD := ⟨("Schema", some "read_fact"), "read_fact", "Schema.read_fact", defArgs sSchema__read_fact, defBody sSchema__read_fact, defScope sSchema__read_fact, [], []⟩
abbrev sSchema____eq__ : Stmt := inClass (top 23) 15
def dSchema____eq__ : He.DefD := ⟨("Schema", some "__eq__"), "__eq__", "Schema.__eq__", defArgs sSchema____eq__, defBody sSchema____eq__, defScope sSchema____eq__, [], []⟩
abbrev sSchema____repr__ : Stmt := inClass (top 23) 16
def dSchema____repr__ : He.DefD := ⟨("Schema", some "__repr__"), "__repr__", "Schema.__repr__", defArgs sSchema____repr__, defBody sSchema____repr__, defScope sSchema____repr__, [], []⟩
abbrev scheck_width : Stmt := top 25
def dcheck_width : He.DefD := ⟨("check_width", none), "check_width", "check_width", defArgs scheck_width, defBody scheck_width, defScope scheck_width, [], []⟩
abbrev sProduct____init__ : Stmt := inClass (top 26) 1
def dProduct____init__ : He.DefD := ⟨("Product", some "__init__"), "__init__", "Product.__init__", defArgs sProduct____init__, defBody sProduct____init__, defScope sProduct____init__, [.adr (He.dflAt ("Product", some "__init__") 0)], []⟩
abbrev sProduct__factors : Stmt := inClass (top 26) 3
def dProduct__factors : He.DefD := ⟨("Product", some "factors"), "factors", "Product.factors", defArgs sProduct__factors, defBody sProduct__factors, defScope sProduct__factors, [], []⟩
abbrev sProduct__power : Stmt := inClass (top 26) 4
def dProduct__power : He.DefD := ⟨("Product", some "power"), "power", "Product.power", defArgs sProduct__power, defBody sProduct__power, defScope sProduct__power, [], []⟩
abbrev sProduct____contains__ : Stmt := inClass (top 26) 5
def dProduct____contains__ : He.DefD := ⟨("Product", some "__contains__"), "__contains__", "Product.__contains__", defArgs sProduct____contains__, defBody sProduct____contains__, defScope sProduct____contains__, [], []⟩
abbrev sProduct____len__ : Stmt := inClass (top 26) 6
def dProduct____len__ : He.DefD := ⟨("Product", some "__len__"), "__len__", "Product.__len__", defArgs sProduct____len__, defBody sProduct____len__, defScope sProduct____len__, [], []⟩
abbrev sProduct____bool__ : Stmt := inClass (top 26) 7
def dProduct____bool__ : He.DefD := ⟨("Product", some "__bool__"), "__bool__", "Product.__bool__", defArgs sProduct____bool__, defBody sProduct____bool__, defScope sProduct____bool__, [], []⟩
abbrev sProduct____mul__ : Stmt := inClass (top 26) 8
def dProduct____mul__ : He.DefD := ⟨("Product", some "__mul__"), "__mul__", "Product.__mul__", defArgs sProduct____mul__, defBody sProduct____mul__, defScope sProduct____mul__, [], []⟩
abbrev sProduct____pow__ : Stmt := inClass (top 26) 9
def dProduct____pow__ : He.DefD := ⟨("Product", some "__pow__"), "__pow__", "Product.__pow__", defArgs sProduct____pow__, defBody sProduct____pow__, defScope sProduct____pow__, [], []⟩
abbrev sProduct__to_the : Stmt := inClass (top 26) 10
def dProduct__to_the : He.DefD := ⟨("Product", some "to_the"), "to_the", "Product.to_the", defArgs sProduct__to_the, defBody sProduct__to_the, defScope sProduct__to_the, [], []⟩
abbrev sProduct____eq__ : Stmt := inClass (top 26) 11
def dProduct____eq__ : He.DefD := ⟨("Product", some "__eq__"), "__eq__", "Product.__eq__", defArgs sProduct____eq__, defBody sProduct____eq__, defScope sProduct____eq__, [], []⟩
abbrev sProduct__text : Stmt := inClass (top 26) 12
def dProduct__text : He.DefD := ⟨("Product", some "text"), "text", "Product.text", defArgs sProduct__text, defBody sProduct__text, defScope sProduct__text, [], []⟩
abbrev sProduct__worth : Stmt := inClass (top 26) 13
def dProduct__worth : He.DefD := ⟨("Product", some "worth"), "worth", "Product.worth", defArgs sProduct__worth, defBody sProduct__worth, defScope sProduct__worth, [], []⟩
abbrev sProduct____repr__ : Stmt := inClass (top 26) 14
def dProduct____repr__ : He.DefD := ⟨("Product", some "__repr__"), "__repr__", "Product.__repr__", defArgs sProduct____repr__, defBody sProduct____repr__, defScope sProduct____repr__, [], []⟩
abbrev scheck_power : Stmt := top 29
def dcheck_power : He.DefD := ⟨("check_power", none), "check_power", "check_power", defArgs scheck_power, defBody scheck_power, defScope scheck_power, [], []⟩
abbrev sis_power_group : Stmt := top 30
def dis_power_group : He.DefD := ⟨("is_power_group", none), "is_power_group", "is_power_group", defArgs sis_power_group, defBody sis_power_group, defScope sis_power_group, [], []⟩
abbrev spower_group : Stmt := top 31
def dpower_group : He.DefD := ⟨("power_group", none), "power_group", "power_group", defArgs spower_group, defBody spower_group, defScope spower_group, [], []⟩
abbrev sTable____init__ : Stmt := inClass (top 32) 1
def dTable____init__ : He.DefD := ⟨("Table", some "__init__"), "__init__", "Table.__init__", defArgs sTable____init__, defBody sTable____init__, defScope sTable____init__, [], []⟩
abbrev sTable__groups : Stmt := inClass (top 32) 4
def dTable__groups : He.DefD := ⟨("Table", some "groups"), "groups", "Table.groups", defArgs sTable__groups, defBody sTable__groups, defScope sTable__groups, [], []⟩
abbrev sTable__sum_of : Stmt := inClass (top 32) 5
def dTable__sum_of : He.DefD := ⟨("Table", some "sum_of"), "sum_of", "Table.sum_of", defArgs sTable__sum_of, defBody sTable__sum_of, defScope sTable__sum_of, [], []⟩
abbrev sTable____add__ : Stmt := inClass (top 32) 6
def dTable____add__ : He.DefD := ⟨("Table", some "__add__"), "__add__", "Table.__add__", defArgs sTable____add__, defBody sTable____add__, defScope sTable____add__, [], []⟩
abbrev sTable____mul__ : Stmt := inClass (top 32) 7
def dTable____mul__ : He.DefD := ⟨("Table", some "__mul__"), "__mul__", "Table.__mul__", defArgs sTable____mul__, defBody sTable____mul__, defScope sTable____mul__, [], []⟩
abbrev sTable____pow__ : Stmt := inClass (top 32) 8
def dTable____pow__ : He.DefD := ⟨("Table", some "__pow__"), "__pow__", "Table.__pow__", defArgs sTable____pow__, defBody sTable____pow__, defScope sTable____pow__, [], []⟩
abbrev sTable__to_the : Stmt := inClass (top 32) 9
def dTable__to_the : He.DefD := ⟨("Table", some "to_the"), "to_the", "Table.to_the", defArgs sTable__to_the, defBody sTable__to_the, defScope sTable__to_the, [], []⟩
abbrev sTable__raised : Stmt := inClass (top 32) 10
def dTable__raised : He.DefD := ⟨("Table", some "raised"), "raised", "Table.raised", defArgs sTable__raised, defBody sTable__raised, defScope sTable__raised, [], []⟩
abbrev sTable__keeps : Stmt := inClass (top 32) 11
def dTable__keeps : He.DefD := ⟨("Table", some "keeps"), "keeps", "Table.keeps", defArgs sTable__keeps, defBody sTable__keeps, defScope sTable__keeps, [], []⟩
abbrev sTable____eq__ : Stmt := inClass (top 32) 12
def dTable____eq__ : He.DefD := ⟨("Table", some "__eq__"), "__eq__", "Table.__eq__", defArgs sTable____eq__, defBody sTable____eq__, defScope sTable____eq__, [], []⟩
abbrev sTable____repr__ : Stmt := inClass (top 32) 13
def dTable____repr__ : He.DefD := ⟨("Table", some "__repr__"), "__repr__", "Table.__repr__", defArgs sTable____repr__, defBody sTable____repr__, defScope sTable____repr__, [], []⟩
abbrev sL_open : Stmt := top 34
def dL_open : He.DefD := ⟨("_law_open", none), "_law_open", "_law_open", defArgs sL_open, defBody sL_open, defScope sL_open, [], []⟩
abbrev sL_take : Stmt := top 35
def dL_take : He.DefD := ⟨("_law_take", none), "_law_take", "_law_take", defArgs sL_take, defBody sL_take, defScope sL_take, [], []⟩
abbrev sL_one : Stmt := top 36
def dL_one : He.DefD := ⟨("_law_one", none), "_law_one", "_law_one", defArgs sL_one, defBody sL_one, defScope sL_one, [], []⟩
abbrev sL_kind : Stmt := top 37
def dL_kind : He.DefD := ⟨("_law_kind", none), "_law_kind", "_law_kind", defArgs sL_kind, defBody sL_kind, defScope sL_kind, [], []⟩
abbrev sL_same : Stmt := top 38
def dL_same : He.DefD := ⟨("_law_same", none), "_law_same", "_law_same", defArgs sL_same, defBody sL_same, defScope sL_same, [], []⟩
abbrev sL_field : Stmt := top 39
def dL_field : He.DefD := ⟨("_law_field", none), "_law_field", "_law_field", defArgs sL_field, defBody sL_field, defScope sL_field, [], []⟩
abbrev sL_try : Stmt := top 40
def dL_try : He.DefD := ⟨("_law_try", none), "_law_try", "_law_try", defArgs sL_try, defBody sL_try, defScope sL_try, [], []⟩
abbrev sL_tries : Stmt := top 41
def dL_tries : He.DefD := ⟨("_law_tries", none), "_law_tries", "_law_tries", defArgs sL_tries, defBody sL_tries, defScope sL_tries, [], []⟩
abbrev sL_odd : Stmt := top 42
def dL_odd : He.DefD := ⟨("_law_odd", none), "_law_odd", "_law_odd", defArgs sL_odd, defBody sL_odd, defScope sL_odd, [], []⟩
abbrev sL_exp : Stmt := top 43
def dL_exp : He.DefD := ⟨("_law_exp", none), "_law_exp", "_law_exp", defArgs sL_exp, defBody sL_exp, defScope sL_exp, [], []⟩
abbrev sL_mono : Stmt := top 44
def dL_mono : He.DefD := ⟨("_law_mono", none), "_law_mono", "_law_mono", defArgs sL_mono, defBody sL_mono, defScope sL_mono, [], []⟩
abbrev sL_fit_row : Stmt := top 45
def dL_fit_row : He.DefD := ⟨("_law_fit_row", none), "_law_fit_row", "_law_fit_row", defArgs sL_fit_row, defBody sL_fit_row, defScope sL_fit_row, [], []⟩
abbrev sL_row : Stmt := top 46
def dL_row : He.DefD := ⟨("_law_row", none), "_law_row", "_law_row", defArgs sL_row, defBody sL_row, defScope sL_row, [], []⟩
abbrev sL_lots : Stmt := top 47
def dL_lots : He.DefD := ⟨("_law_lots", none), "_law_lots", "_law_lots", defArgs sL_lots, defBody sL_lots, defScope sL_lots, [], []⟩
abbrev sL_pow : Stmt := top 48
def dL_pow : He.DefD := ⟨("_law_pow", none), "_law_pow", "_law_pow", defArgs sL_pow, defBody sL_pow, defScope sL_pow, [], []⟩
abbrev sL_table_bounds_so : Stmt := top 49
def dL_table_bounds_so : He.DefD := ⟨("_law_table_bounds_so", none), "_law_table_bounds_so", "_law_table_bounds_so", defArgs sL_table_bounds_so, defBody sL_table_bounds_so, defScope sL_table_bounds_so, [], []⟩
abbrev slaw : Stmt := top 50
def dlaw : He.DefD := ⟨("law", none), "law", "law", defArgs slaw, defBody slaw, defScope slaw, [], []⟩
def fn : List He.DefD := [dInvalidNumber____init__, dInvalidColumns____init__, dInvalidFact____init__, dInvalidExponent____init__, dInvalidFactor____init__, dInvalidGroup____init__, dWrongWidth____init__, dTooMany____init__, dNothingLeft____init__, dis_number, dpower_of, dcheck_columns, dis_exponent, dis_direction, dmonomial, dSchema____init__, dSchema__facts, dSchema__steps, dSchema____contains__, dSchema__is_exponent, dSchema__fits, dSchema__rays, dSchema__check_exponents, dSchema__follows, dSchema__reason, dSchema__equal_sums, dSchema__with_facts, dSchema__fact_text, dSchema__read_fact, dSchema____eq__, dSchema____repr__, dcheck_width, dProduct____init__, dProduct__factors, dProduct__power, dProduct____contains__, dProduct____len__, dProduct____bool__, dProduct____mul__, dProduct____pow__, dProduct__to_the, dProduct____eq__, dProduct__text, dProduct__worth, dProduct____repr__, dcheck_power, dis_power_group, dpower_group, dTable____init__, dTable__groups, dTable__sum_of, dTable____add__, dTable____mul__, dTable____pow__, dTable__to_the, dTable__raised, dTable__keeps, dTable____eq__, dTable____repr__, dL_open, dL_take, dL_one, dL_kind, dL_same, dL_field, dL_try, dL_tries, dL_odd, dL_exp, dL_mono, dL_fit_row, dL_row, dL_lots, dL_pow, dL_table_bounds_so, dlaw]
abbrev sTable__size : Stmt := inClass (top 32) 3
def dTable__size : He.DefD := ⟨("Table", some "size"), "size", "Table.size", defArgs sTable__size, defBody sTable__size, defScope sTable__size, [], []⟩
def pn : List He.DefD := [dTable__size]
abbrev sTable__powers : Stmt := inClass (top 32) 2
def dTable__powers : He.DefD := ⟨("Table", some "powers"), "powers", "Table.powers", defArgs sTable__powers, defBody sTable__powers, defScope sTable__powers, [], []⟩
def sn : List He.DefD := [dTable__powers]
def fa : List He.Fa := [.glo "is_number", .glo "power_of", .glo "check_columns", .glo "is_exponent", .glo "is_exponent_schemas", .glo "is_direction", .glo "monomial", .glo "check_width", .glo "check_power", .glo "is_power_group", .glo "power_group", .glo "Schema", .glo "Product", .glo "Table", .glo "_law_open", .glo "_law_take", .glo "_law_one", .glo "_law_kind", .glo "_law_same", .glo "_law_odd", .glo "_law_exp", .glo "_law_mono", .glo "_law_fit_row", .glo "_law_row", .glo "_law_lots", .glo "_law_pow", .glo "_law_field", .glo "_law_try", .glo "_law_tries", .glo "_law_table_bounds_so", .glo "law", .glo "DealError", .glo "Missing", .glo "NothingLeft", .glo "InvalidNumber", .glo "InvalidGroup", .glo "InvalidExponent", .glo "TooMany", .glo "WrongWidth", .free "isinstance", .free "bool", .free "int", .free "str", .free "list", .free "tuple", .free "len", .free "all", .free "sum", .free "zip", .free "range", .free "set", .free "enumerate", .free "repr", .free "sorted", .free "dict", .int "MOST_EXPONENT" 6, .int "MOST_POWER" 60, .cls "Schema", .mkr "Schema", .noat "Schema" "columns", .noat "Schema" "width", .noat "Schema" "_facts", .meth "Schema" "is_exponent", .cls "Product", .mkr "Product", .noat "Product" "width", .noat "Product" "_powers", .meth "Product" "worth", .cls "Table", .mkr "Table", .noat "Table" "width", .noat "Table" "_groups", .meth "Table" "sum_of", .meth "Table" "raised", .meth "Table" "keeps", .meth "Table" "to_the", .meth "Table" "__add__", .meth "Table" "__mul__", .meth "Table" "__pow__", .meth "Table" "__eq__", .meth "Table" "__repr__"]
def nm0 : List PySem.Str := ["_wall", "__name__", "DealError", "Missing", "InvalidNumber", "InvalidColumns", "InvalidFact", "InvalidExponent", "InvalidFactor", "InvalidGroup", "WrongWidth", "TooMany", "NothingLeft", "is_number", "power_of", "MOST_EXPONENT", "check_columns", "is_exponent", "is_exponent_schemas", "is_direction", "monomial", "Schema", "check_width", "Product", "MOST_POWER", "check_power", "is_power_group", "power_group", "Table", "_law_open"]
def nm1 : List PySem.Str := ["_law_take", "_law_one", "_law_kind", "_law_same", "_law_field", "_law_try", "_law_tries", "_law_odd", "_law_exp", "_law_mono", "_law_fit_row", "_law_row", "_law_lots", "_law_pow", "_law_table_bounds_so"]
def nms : List PySem.Str := nm0 ++ nm1
def ex : PySem.W.Frag → Bool := fun K => (match K.lookup (He.dflAt ("Schema", some "__init__") 0 K) with
  | some ⟨.type "tuple", _, .seq its _, _⟩ => its.isEmpty
  | _ => false) && ((match K.lookup (He.dflAt ("Product", some "__init__") 0 K) with
  | some ⟨.type "tuple", _, .seq its _, _⟩ => its.isEmpty
  | _ => false) && (decide (He.ga K "is_exponent_schemas" = He.ga K "is_exponent") && (PySem.W.readsIn K (He.ga K "Schema") (.type "type") && (He.eqO (PySem.W.specialIn K (.ref (He.ga K "Schema")) "__getattribute__") (some (some (.builtin "type.__getattribute__"))) && ((match PySem.W.findCls K (.ref (He.ga K "Schema")) (.type "type") "MOST" with
  | some (.val (.int 4 _)) => true
  | _ => false) && (PySem.W.readsIn K (He.ga K "Product") (.type "type") && (He.eqO (PySem.W.specialIn K (.ref (He.ga K "Product")) "__getattribute__") (some (some (.builtin "type.__getattribute__"))) && ((match PySem.W.findCls K (.ref (He.ga K "Product")) (.type "type") "MOST" with
  | some (.val (.int 12 _)) => true
  | _ => false) && (He.eqO (PySem.W.findIn K (.ref (He.ga K "Table")) "__ne__") (some (some (.builtin "object.__ne__"))) && (decide (PySem.W.mroIn K (He.ga K "Table") (.type "object") = some true) && (He.eqO (PySem.W.findIn K (.ref (He.ga K "Table")) "__class__") (some (some (.builtin "object.__class__"))) && (decide (PySem.W.kitOne K (.type "str") (.ref (He.ga K "Table")) = some false) && (He.eqO (PySem.W.specialIn K (.builtin "object.__class__") "__get__") (some (some (.builtin "getset_descriptor.__get__"))) && (decide (PySem.W.takesIn K (.builtin "object.__class__") = some true) && (decide (PySem.W.kitOne K (.type "list") (.ref (He.ga K "Table")) = some false) && (decide (PySem.W.subIn K (.type "list") (.ref (He.ga K "Table")) = some false) && (decide (PySem.W.kitOne K (.type "int") (.ref (He.ga K "Table")) = some false) && (decide (PySem.W.subIn K (.type "int") (.ref (He.ga K "Table")) = some false) && (PySem.W.readsIn K (He.ga K "Table") (.type "type") && (He.eqO (PySem.W.specialIn K (.ref (He.ga K "Table")) "__getattribute__") (some (some (.builtin "type.__getattribute__"))) && ((match PySem.W.findCls K (.ref (He.ga K "Table")) (.type "type") "MOST" with
  | some (.val (.int 100 _)) => true
  | _ => false) && (PySem.W.selfFirst K (He.ga K "Table") && (decide (PySem.W.findIn K (.ref (He.ga K "Table")) "__rpow__" = some none) && (Y.errB K (He.ga K "InvalidNumber") (He.fAd K ("InvalidNumber", some "__init__")) "given" && (decide (PySem.W.exmAny K (.ref (He.ga K "InvalidNumber")) [.ref (He.ga K "DealError"), .ref (He.ga K "Missing"), .ref (He.ga K "NothingLeft")] = some true) && (Y.errB K (He.ga K "InvalidGroup") (He.fAd K ("InvalidGroup", some "__init__")) "at" && (decide (PySem.W.exmAny K (.ref (He.ga K "InvalidGroup")) [.ref (He.ga K "DealError"), .ref (He.ga K "Missing"), .ref (He.ga K "NothingLeft")] = some true) && (Y.errB K (He.ga K "InvalidExponent") (He.fAd K ("InvalidExponent", some "__init__")) "given" && (decide (PySem.W.exmAny K (.ref (He.ga K "InvalidExponent")) [.ref (He.ga K "DealError"), .ref (He.ga K "Missing"), .ref (He.ga K "NothingLeft")] = some true) && (Y.errB K (He.ga K "TooMany") (He.fAd K ("TooMany", some "__init__")) "most" && (decide (PySem.W.exmAny K (.ref (He.ga K "TooMany")) [.ref (He.ga K "DealError"), .ref (He.ga K "Missing"), .ref (He.ga K "NothingLeft")] = some true) && (Y.errB K (He.ga K "WrongWidth") (He.fAd K ("WrongWidth", some "__init__")) "width" && (decide (PySem.W.exmAny K (.ref (He.ga K "WrongWidth")) [.ref (He.ga K "DealError"), .ref (He.ga K "Missing"), .ref (He.ga K "NothingLeft")] = some true) && (decide (PySem.W.kitOne K (.ref (He.ga K "Table")) (.type "bool") = some false) && (decide (PySem.W.kitOne K (.ref (He.ga K "Table")) (.type "int") = some false) && (decide (PySem.W.kitOne K (.ref (He.ga K "Table")) (.type "str") = some false) && (decide (PySem.W.kitOne K (.ref (He.ga K "Table")) (.type "list") = some false) && (decide (PySem.W.kitOne K (.ref (He.ga K "Table")) (.type "tuple") = some false) && (decide (¬ (He.cT K ("law", none)).2 = (He.cT K ("_law_table_bounds_so", none)).2))))))))))))))))))))))))))))))))))))))))
abbrev R : PySem.W.OpenRow := PySem.W.OpenLaw.row PySem.Challenge.rw_dealtpowers_k17_tables_refused
def tf : List He.Defn := [("law", none), ("_law_table_bounds_so", none)]
abbrev hk : PySem.W.Hook := hookG 5 fa fn pn sn tf ex
def ob (s : PySem.W.SharedT) : AlP := obsG 5 fa fn pn sn tf ex (HandSHeadRun.getT s)
theorem ob_eq (s : PySem.W.SharedT) : ob s = hk.obs s.abs := obsG_eq (HandSHeadRun.getT_eq s)
theorem run (w : World) : HandSHeadRun.RunEq R (PySem.W.view R.prog [50]) hk ob 20000 nms w := by
  intro os
  kernel_rfl
end K17
namespace Z
open PySem PySem.Spec PyProof.Rows L2
/-! ## 1. judgements by the best reading -/
def HE (X : Cx) (e : Expr) (σ : L2.St) (H : Hp) (Q : VK) : Prop := ∀ (pins : List (Addr × Obj)) (s : Shared), Inv X pins σ H s → wpAny (model X.prog X.w) X.A (eval e X.env) (EP X pins σ Q) X.xe s
def HT (X : Cx) (e : Expr) (σ : L2.St) (H : Hp) (Q : Bool → Hp → Prop) : Prop := ∀ (pins : List (Addr × Obj)) (s : Shared), Inv X pins σ H s → wpAny (model X.prog X.w) X.A (isTrue e X.env (eval e X.env)) (TP X pins σ Q) X.xe s
def HW (X : Cx) (e : Expr) (σ : L2.St) (H : Hp) (Q : Bool → Hp → Prop) : Prop := ∀ (whole : Sem Value) (pins : List (Addr × Obj)) (s : Shared), Inv X pins σ H s → wpAny (model X.prog X.w) X.A (isTrue e X.env whole) (TP X pins σ Q) X.xe s
def HA (X : Cx) (es : List Expr) (σ : L2.St) (H : Hp) (Q : List V → Hp → Prop) : Prop := ∀ (pos : Pos) (pins : List (Addr × Obj)) (s : Shared), Inv X pins σ H s → wpAny (model X.prog X.w) X.A (spliced (backTo pos (starEach es X.env))) (AP X pins σ Q) X.xe s
def HS (X : Cx) (D : Ends) (st : List Stmt) (σ : L2.St) (H : Hp) : Prop := ∀ (pins : List (Addr × Obj)) (s : Shared), Inv X pins σ H s → wpAny (model X.prog X.w) X.A (execs st X.env) (SP X pins D) X.xe s
def HG (X : Cx) (tg : Expr) (v : V) (σ : L2.St) (H : Hp) (Q : L2.St → Hp → Prop) : Prop := ∀ (pins : List (Addr × Obj)) (s : Shared) (u : Value), Inv X pins σ H s → RelV v u →
    wpAny (model X.prog X.w) X.A (assign tg X.env u) (fun _ s' => ∃ σ' H', Inv X pins σ' H' s' ∧ Q σ' H') X.xe s
def HI (X : Cx) (tg iter : Expr) (σ : L2.St) (H : Hp) (R : It → Hp → Prop) : Prop := ∀ (pins : List (Addr × Obj)) (s : Shared), Inv X pins σ H s →
    wpAny (model X.prog X.w) X.A (eval iter X.env) (fun v s1 => wpAny (model X.prog X.w) X.A (pyIter v) (PIE X pins σ tg R) X.xe s1) X.xe s
def bE (X : Cx) (e : Expr) : TE := fun σ H Q => HE X e σ H Q
def bT (X : Cx) (e : Expr) : TT := fun σ H Q => HT X e σ H Q
def bW (X : Cx) (e : Expr) : TT := fun σ H Q => HW X e σ H Q
def bA (X : Cx) (es : List Expr) : TA := fun σ H Q => HA X es σ H Q
def bS (X : Cx) (st : List Stmt) : TS := fun D σ H => HS X D st σ H
def bG (X : Cx) (tg : Expr) : TG := fun v σ H Q => HG X tg v σ H Q
def bI (X : Cx) (tg iter : Expr) : TI := fun σ H R => HI X tg iter σ H R
section
variable {X : Cx} {e : Expr} {σ : L2.St} {H : Hp}
theorem peb : PE X e (bE X e) := ⟨fun pins s _ _ _ I h => h pins s I⟩
theorem ptb : PT X e (bT X e) := ⟨fun pins s _ _ _ I h => h pins s I⟩
theorem pwb : PW X e (bW X e) := ⟨fun whole pins s _ _ _ I h => h whole pins s I⟩
theorem pab {es : List Expr} : PA X es (bA X es) := ⟨fun pos pins s _ _ _ I h => h pos pins s I⟩
theorem psb {st : List Stmt} : PSs X st (bS X st) := ⟨fun pins s _ _ _ I h => h pins s I⟩
theorem pgb {tg : Expr} : PG X tg (bG X tg) := ⟨fun pins s _ _ _ u _ I r h => h pins s u I r⟩
theorem pib {tg iter : Expr} : PI X tg iter (bI X tg iter) := ⟨fun pins s _ _ _ I h => h pins s I⟩
theorem he_of {t : TE} {Q : VK} (h : PE X e t) (q : t σ H Q) : HE X e σ H Q := fun pins s I => h.run pins s σ H Q I q
theorem ht_of {t : TT} {Q : Bool → Hp → Prop} (h : PT X e t) (q : t σ H Q) : HT X e σ H Q := fun pins s I => h.run pins s σ H Q I q
theorem hw_of {t : TT} {Q : Bool → Hp → Prop} (h : PW X e t) (q : t σ H Q) : HW X e σ H Q := fun whole pins s I => h.run whole pins s σ H Q I q
theorem ha_of {es : List Expr} {t : TA} {Q : List V → Hp → Prop} (h : PA X es t) (q : t σ H Q) : HA X es σ H Q := fun pos pins s I => h.run pos pins s σ H Q I q
theorem hs_of {st : List Stmt} {t : TS} {D : Ends} (h : PSs X st t) (q : t D σ H) : HS X D st σ H := fun pins s I => h.run pins s σ H D I q
theorem hg_of {tg : Expr} {t : TG} {v : V} {Q : L2.St → Hp → Prop} (h : PG X tg t) (q : t v σ H Q) : HG X tg v σ H Q := fun pins s u I r => h.run pins s σ H v u Q I r q
theorem hi_of {tg iter : Expr} {t : TI} {R : It → Hp → Prop} (h : PI X tg iter t) (q : t σ H R) : HI X tg iter σ H R := fun pins s I => h.run pins s σ H R I q
end
/-! ## 2. what stays under growth -/
class Mn (P : V → Hp → Prop) : Prop where
  up : ∀ {v : V} {H H' : Hp}, Same H H' → P v H → P v H'
theorem Same.new {H : Hp} {p : Addr} {o : HO} (h : H p = none) : Same H (upd H p o) := fun a u e => by
  rw [upd_ne (ne_of_none e h)]
  exact e
/-- an object that H does not know may change -/
theorem Same.mut {H H' : Hp} {p : Addr} {o : HO} (e : Same H H') (h : H p = none) : Same H (upd H' p o) := fun a u ha => by
  rw [upd_ne (ne_of_none ha h)]
  exact e a u ha
theorem same_rd {H H' : Hp} {a : Addr} {u : HO} (e : Same H H') (h : Rd H a u) : Rd H' a u := by
  rcases h with h | ⟨o, h⟩
  · exact Or.inl (e a _ h)
  · exact Or.inr ⟨o, e a _ h⟩
theorem sql_up {K : PySem.W.Frag} {H H' : Hp} {a : Addr} {xs : List V} (e : Same H H') (h : SqL K H a xs) : SqL K H' a xs := by
  rcases h with h | h
  · exact Or.inl (same_rd e h)
  · exact Or.inr h
theorem sqt_up {K : PySem.W.Frag} {H H' : Hp} {a : Addr} {xs : List V} (e : Same H H') (h : SqT K H a xs) : SqT K H' a xs := by
  rcases h with h | h
  · exact Or.inl (same_rd e h)
  · exact Or.inr h
theorem sql_of {K : PySem.W.Frag} {H : Hp} {a : Addr} {xs : List V} (h : H a = some (.lst xs)) : SqL K H a xs := Or.inl (Or.inl h)
theorem sqt_of {K : PySem.W.Frag} {H : Hp} {a : Addr} {xs : List V} (h : H a = some (.tup xs)) : SqT K H a xs := Or.inl (Or.inl h)
/-! ## 3. data -/
/-- a tuple of the heap; the empty one may stand in K -/
def TuS (K : PySem.W.Frag) (H : Hp) (a : Addr) (xs : List V) : Prop := H a = some (.tup xs) ∨ (xs = [] ∧ SqT K H a xs)
theorem TuS.sq {K : PySem.W.Frag} {H : Hp} {a : Addr} {xs : List V} (h : TuS K H a xs) : SqT K H a xs := h.elim sqt_of fun z => z.2
theorem TuS.up {K : PySem.W.Frag} {H H' : Hp} {a : Addr} {xs : List V} (e : Same H H') (h : TuS K H a xs) : TuS K H' a xs := h.elim (fun z => .inl (e _ _ z)) fun z => .inr ⟨z.1, sqt_up e z.2⟩
theorem tus_of {K : PySem.W.Frag} {H : Hp} {a : Addr} {xs : List V} (h : H a = some (.tup xs)) : TuS K H a xs := .inl h
/-- a value that is data: None, bools, ints, texts, lists that are tracked, tuples -/
inductive Dt (K : PySem.W.Frag) : PyData → V → Hp → Prop
  | non {H : Hp} : Dt K .none .non H
  | bl {H : Hp} (b : Bool) : Dt K (.bool b) (.bl b) H
  | int {H : Hp} (i : Int) : Dt K (.int i) (.int i) H
  | str {H : Hp} (x : Str) : Dt K (.str x) (.str x) H
  | lst {H : Hp} {a : Addr} {xs : List V} {ds : List PyData} : H a = some (.lst xs) → xs.length = ds.length → xs.length ≤ sizeLine → (∀ (i : Nat) (x : V) (d : PyData), xs[i]? = some x → ds[i]? = some d → Dt K d x H) → Dt K (.list ds) (.ref a) H
  | tup {H : Hp} {a : Addr} {xs : List V} {ds : List PyData} : TuS K H a xs → xs.length = ds.length → xs.length ≤ sizeLine → (∀ (i : Nat) (x : V) (d : PyData), xs[i]? = some x → ds[i]? = some d → Dt K d x H) → Dt K (.tuple ds) (.ref a) H
theorem Dt.up {K : PySem.W.Frag} {d : PyData} {v : V} {H H' : Hp} (e : Same H H') (h : Dt K d v H) : Dt K d v H' := by
  induction h with
  | non => exact .non
  | bl b => exact .bl b
  | int i => exact .int i
  | str x => exact .str x
  | lst h l z _ ih => exact .lst (e _ _ h) l z fun i x d hx hd => ih i x d hx hd e
  | tup h l z _ ih => exact .tup (h.up e) l z fun i x d hx hd => ih i x d hx hd e
instance {K : PySem.W.Frag} {d : PyData} : Mn (Dt K d) := ⟨fun e h => h.up e⟩
/-- the values of a sequence's items -/
def Dts (K : PySem.W.Frag) (ds : List PyData) (xs : List V) (H : Hp) : Prop := xs.length = ds.length ∧ ∀ (i : Nat) (x : V) (d : PyData), xs[i]? = some x → ds[i]? = some d → Dt K d x H
theorem Dts.up {K : PySem.W.Frag} {ds : List PyData} {xs : List V} {H H' : Hp} (e : Same H H') (h : Dts K ds xs H) : Dts K ds xs H' := ⟨h.1, fun i x d hx hd => (h.2 i x d hx hd).up e⟩
theorem Dts.nil {K : PySem.W.Frag} {H : Hp} : Dts K [] [] H := ⟨rfl, fun i x d hx _ => by simp at hx⟩
theorem Dts.cons {K : PySem.W.Frag} {d : PyData} {ds : List PyData} {x : V} {xs : List V} {H : Hp} (h : Dt K d x H) (r : Dts K ds xs H) : Dts K (d :: ds) (x :: xs) H := by
  refine ⟨by simp [r.1], fun i y e hy he => ?_⟩
  cases i with
  | zero => simp at hy he; subst hy; subst he; exact h
  | succ i => exact r.2 i y e (by simpa using hy) (by simpa using he)
theorem Dts.get {K : PySem.W.Frag} {ds : List PyData} {xs : List V} {H : Hp} (h : Dts K ds xs H) {i : Nat} {d : PyData} (e : ds[i]? = some d) : ∃ x, xs[i]? = some x ∧ Dt K d x H := by
  have hi : i < xs.length := by rw [h.1]; exact (List.getElem?_eq_some_iff.mp e).1
  exact ⟨xs[i], List.getElem?_eq_getElem hi, h.2 i _ d (List.getElem?_eq_getElem hi) e⟩
theorem Dts.append {K : PySem.W.Frag} {ds es : List PyData} {xs ys : List V} {H : Hp} (h : Dts K ds xs H) (g : Dts K es ys H) : Dts K (ds ++ es) (xs ++ ys) H := by
  refine ⟨by simp [h.1, g.1], fun i y e hy he => ?_⟩
  by_cases hi : i < xs.length
  · rw [List.getElem?_append_left hi] at hy
    rw [List.getElem?_append_left (by rw [← h.1]; exact hi)] at he
    exact h.2 i y e hy he
  · rw [List.getElem?_append_right (by omega)] at hy
    rw [List.getElem?_append_right (by rw [← h.1]; omega), ← h.1] at he
    exact g.2 _ y e hy he
theorem Dts.snoc {K : PySem.W.Frag} {ds : List PyData} {xs : List V} {H : Hp} {d : PyData} {x : V} (h : Dts K ds xs H) (g : Dt K d x H) : Dts K (ds ++ [d]) (xs ++ [x]) H := h.append (Dts.cons g .nil)
theorem Dts.dp {K : PySem.W.Frag} {H : Hp} : ∀ {ds : List PyData} {xs : List V}, xs.length = ds.length → (∀ (i : Nat) (x : V) (d : PyData), xs[i]? = some x → ds[i]? = some d → Dp K H x d) → DpAll K H xs ds
  | [], [], _, _ => .nil
  | [], _ :: _, h, _ => by simp at h
  | _ :: _, [], h, _ => by simp at h
  | d :: ds, x :: xs, h, f => .cons (f 0 x d rfl rfl) (Dts.dp (by simpa using h) fun i y e hy he => f (i + 1) y e (by simpa using hy) (by simpa using he))
theorem Dt.dp {K : PySem.W.Frag} {d : PyData} {v : V} {H : Hp} (h : Dt K d v H) : Dp K H v d := by
  induction h with
  | non => exact .non
  | bl b => exact .bl b
  | int i => exact .int i
  | str x => exact .str x
  | lst h l z _ ih => exact .lst (sql_of h) (Dts.dp l fun i x d hx hd => ih i x d hx hd)
  | tup h l z _ ih => exact .tup h.sq (Dts.dp l fun i x d hx hd => ih i x d hx hd)
theorem Dt.int_inv {K : PySem.W.Frag} {i : Int} {v : V} {H : Hp} (h : Dt K (.int i) v H) : v = .int i := by cases h; rfl
theorem Dt.bl_inv {K : PySem.W.Frag} {b : Bool} {v : V} {H : Hp} (h : Dt K (.bool b) v H) : v = .bl b := by cases h; rfl
theorem Dt.str_inv {K : PySem.W.Frag} {x : Str} {v : V} {H : Hp} (h : Dt K (.str x) v H) : v = .str x := by cases h; rfl
theorem Dt.lst_inv {K : PySem.W.Frag} {ds : List PyData} {v : V} {H : Hp} (h : Dt K (.list ds) v H) : ∃ a xs, v = .ref a ∧ H a = some (.lst xs) ∧ Dts K ds xs H ∧ xs.length ≤ sizeLine := by
  cases h with
  | lst h l z f => exact ⟨_, _, rfl, h, ⟨l, f⟩, z⟩
theorem Dt.tup_inv {K : PySem.W.Frag} {ds : List PyData} {v : V} {H : Hp} (h : Dt K (.tuple ds) v H) : ∃ a xs, v = .ref a ∧ SqT K H a xs ∧ Dts K ds xs H ∧ xs.length ≤ sizeLine := by
  cases h with
  | tup h l z f => exact ⟨_, _, rfl, h.sq, ⟨l, f⟩, z⟩
theorem Dt.tup_invS {K : PySem.W.Frag} {ds : List PyData} {v : V} {H : Hp} (h : Dt K (.tuple ds) v H) : ∃ a xs, v = .ref a ∧ TuS K H a xs ∧ Dts K ds xs H ∧ xs.length ≤ sizeLine := by
  cases h with
  | tup h l z f => exact ⟨_, _, rfl, h, ⟨l, f⟩, z⟩
theorem Dt.lst_mk {K : PySem.W.Frag} {ds : List PyData} {a : Addr} {xs : List V} {H : Hp} (h : H a = some (.lst xs)) (g : Dts K ds xs H) (z : xs.length ≤ sizeLine) : Dt K (.list ds) (.ref a) H := .lst h g.1 z g.2
theorem Dt.tup_mk {K : PySem.W.Frag} {ds : List PyData} {a : Addr} {xs : List V} {H : Hp} (h : TuS K H a xs) (g : Dts K ds xs H) (z : xs.length ≤ sizeLine) : Dt K (.tuple ds) (.ref a) H := .tup h g.1 z g.2
/-! ## 4. growth: S what is known to stay, H the whole -/
def NT (o : HO) : Prop := ∀ xs, o ≠ .tup xs
structure Gr (S H S' H' : Hp) : Prop where
  st : Same S S'
  sub : Same S' H'
  hh : Same H H'
  old : ∀ a o, H a = some o → NT o → S' a = S a
theorem Gr.refl {S H : Hp} (s : Same S H) : Gr S H S H := ⟨Same.refl S, s, Same.refl H, fun _ _ _ _ => rfl⟩
theorem Gr.trans {S H S1 H1 S2 H2 : Hp} (a : Gr S H S1 H1) (b : Gr S1 H1 S2 H2) : Gr S H S2 H2 :=
  ⟨a.st.trans b.st, b.sub, a.hh.trans b.hh, fun x o h n => (b.old x o (a.hh x o h) n).trans (a.old x o h n)⟩
theorem Gr.new {S H : Hp} {p : Addr} {o : HO} (s : Same S H) (h : H p = none) : Gr S H (upd S p o) (upd H p o) := by
  refine ⟨Same.new (s.free h), fun a u e => ?_, Same.new h, fun a u e _ => upd_ne (ne_of_none e h)⟩
  by_cases ha : a = p
  · subst ha; rw [upd_same] at e ⊢; exact e
  · rw [upd_ne ha] at e ⊢; exact s a u e
/-- S grown by T -/
def uniS (S T : Hp) : Hp := fun a => match S a with
  | some o => some o
  | none => T a
theorem uni_l {S T : Hp} : Same S (uniS S T) := fun a o h => by unfold uniS; rw [h]
/-- from a smaller S to a greater one -/
theorem Gr.uni {S T H S' H' : Hp} (st : Same S T) (th : Same T H) (g : Gr S H S' H') : Gr T H (uniS S' T) H' := by
  have key : ∀ a o, H a = some o → NT o → uniS S' T a = T a := fun a o h n => by
    have e := g.old a o h n
    unfold uniS
    rw [e]
    cases q : S a with
    | none => rfl
    | some u => rw [st a u q]
  have key2 : ∀ a o, T a = some o → uniS S' T a = some o := fun a o h => by
    unfold uniS
    cases q : S' a with
    | none => exact h
    | some u =>
      have e1 := g.sub a u q
      rw [g.hh a o (th a o h)] at e1
      exact e1.symm
  refine ⟨key2, fun a o h => ?_, g.hh, key⟩
  unfold uniS at h
  cases q : S' a with
  | some u => rw [q] at h; cases h; exact g.sub a _ q
  | none => rw [q] at h; exact g.hh a o (th a o h)
/-! ## 5. pure evaluation: e gives a P, and all that stood stands -/
def EE (X : Cx) (σ : L2.St) (S : Hp) (e : Expr) (P : V → Hp → Prop) : Prop := ∀ H, Same S H → ∀ Q : VK, (∀ v S' H', Gr S H S' H' → P v S' → Q v H') → HE X e σ H Q
def ET (X : Cx) (σ : L2.St) (S : Hp) (e : Expr) (b : Bool) : Prop := ∀ H, Same S H → ∀ Q : Bool → Hp → Prop, (∀ S' H', Gr S H S' H' → Q b H') → HT X e σ H Q
def EW (X : Cx) (σ : L2.St) (S : Hp) (e : Expr) (b : Bool) : Prop := ∀ H, Same S H → ∀ Q : Bool → Hp → Prop, (∀ S' H', Gr S H S' H' → Q b H') → HW X e σ H Q
/-- the values vs have the Ps, one by one -/
inductive Al : List (V → Hp → Prop) → List V → Hp → Prop
  | nil {H : Hp} : Al [] [] H
  | cons {P : V → Hp → Prop} {Ps : List (V → Hp → Prop)} {v : V} {vs : List V} {H : Hp} : P v H → Al Ps vs H → Al (P :: Ps) (v :: vs) H
inductive Mns : List (V → Hp → Prop) → Prop
  | nil : Mns []
  | cons {P : V → Hp → Prop} {Ps : List (V → Hp → Prop)} : Mn P → Mns Ps → Mns (P :: Ps)
theorem Al.up {Ps : List (V → Hp → Prop)} {vs : List V} {H H' : Hp} (m : Mns Ps) (s : Same H H') (h : Al Ps vs H) : Al Ps vs H' := by
  induction h with
  | nil => exact .nil
  | cons p _ ih => cases m with
    | cons m1 m2 => exact .cons (m1.up s p) (ih m2 s)
def EA (X : Cx) (σ : L2.St) (S : Hp) (es : List Expr) (Ps : List (V → Hp → Prop)) : Prop := Mns Ps ∧ ∀ H, Same S H → ∀ Q : List V → Hp → Prop, (∀ vs S' H', Gr S H S' H' → Al Ps vs S' → Q vs H') → HA X es σ H Q
section
variable {X : Cx} {σ : L2.St} {S S' : Hp} {e a b c : Expr} {P P' : V → Hp → Prop} {pos : Pos}
theorem EE.up [Mn P] (s : Same S S') (h : EE X σ S e P) : EE X σ S' e P := fun H a Q q => h H (s.trans a) Q fun v S2 H2 g p => q v (uniS S2 S') H2 (g.uni s a) (Mn.up uni_l p)
theorem ET.up {k : Bool} (s : Same S S') (h : ET X σ S e k) : ET X σ S' e k := fun H a Q q => h H (s.trans a) Q fun S2 H2 g => q (uniS S2 S') H2 (g.uni s a)
theorem EW.up {k : Bool} (s : Same S S') (h : EW X σ S e k) : EW X σ S' e k := fun H a Q q => h H (s.trans a) Q fun S2 H2 g => q (uniS S2 S') H2 (g.uni s a)
theorem EA.up {es : List Expr} {Ps : List (V → Hp → Prop)} (s : Same S S') (h : EA X σ S es Ps) : EA X σ S' es Ps := ⟨h.1, fun H a Q q => h.2 H (s.trans a) Q fun v S2 H2 g p => q v (uniS S2 S') H2 (g.uni s a) (p.up h.1 uni_l)⟩
theorem EE.imp (h : EE X σ S e P) (f : ∀ v H', P v H' → P' v H') : EE X σ S e P' := fun H1 s Q q => h H1 s Q fun v S2 H2 s2 p => q v S2 H2 s2 (f v S2 p)
theorem EE.is (h : EE X σ S e P) (f : P = P') : EE X σ S e P' := f ▸ h
theorem ET.is {k k' : Bool} (h : ET X σ S e k) (f : k = k') : ET X σ S e k' := f ▸ h
theorem ea_nil : EA X σ S [] [] := ⟨.nil, fun H1 s Q q => ha_of pa_nil (q [] S H1 (Gr.refl s) .nil)⟩
theorem ea_cons [m : Mn P] {es : List Expr} {Ps : List (V → Hp → Prop)} (h : EE X σ S e P) (r : EA X σ S es Ps) (hs : starEach (e :: es) X.env = (false, eval e X.env) :: starEach es X.env := by rfl) : EA X σ S (e :: es) (P :: Ps) := ⟨.cons m r.1, fun H1 s Q q => by
  refine ha_of (pa_cons (te := bE X e) (t := bA X es) peb pab hs) ?_
  refine h H1 s _ fun v S2 H2 g2 p => ?_
  exact (r.up g2.st).2 H2 g2.sub _ fun vs S3 H3 g3 al => q (v :: vs) S3 H3 (g2.trans g3) (.cons (Mn.up g3.st p) al)⟩
end
end Z
namespace Z
open PySem PySem.Spec PyProof.Rows L2
/-! ## 6. expressions -/
section
variable {X : Cx} {σ : L2.St} {S S' : Hp} {e a b c : Expr} {P Pa Pb R : V → Hp → Prop} {pos p : Pos} {i j : Int} {d d1 d2 : PyData} {k k1 k2 : Bool}
theorem EE.isd {d' : PyData} (h : EE X σ S e (Dt X.K d)) (f : d = d') : EE X σ S e (Dt X.K d') := f ▸ h
theorem ee_var (i : Nat) {x : Str} {v : V} (hv : σ[i]? = some (some v)) (h : P v S) (hN : X.N[i]? = some x := by rfl) (hvis : Vis X.env.scope x := by first | exact Or.inl rfl | exact Or.inr (Or.inl rfl) | exact Or.inr (Or.inr rfl)) (hd : (x == ("__debug__" : Str)) = false := by decide)
    (hcd : (x == ("__classdict__" : Str)) = false := by decide) : EE X σ S (.Name x pos) P := fun H s Q q => he_of (pv i hN hvis hd hcd) ⟨v, hv, q v S H (Gr.refl s) h⟩
theorem ee_cst {v : V} (he : PE X e (tC v)) (h : P v S) : EE X σ S e P := fun H s Q q => he_of he (q v S H (Gr.refl s) h)
theorem ee_int {n} : EE X σ S (.Constant (.int i) n pos) (Dt X.K (.int i)) := ee_cst pe_int (.int i)
theorem ee_bl {n} : EE X σ S (.Constant (.bool k) n pos) (Dt X.K (.bool k)) := ee_cst pe_bl (.bl k)
theorem ee_non {n} : EE X σ S (.Constant .none n pos) (Dt X.K .none) := ee_cst pe_non .non
theorem ee_str {x n} : EE X σ S (.Constant (.str x) n pos) (Dt X.K (.str x)) := ee_cst pe_str (.str x)
theorem ee_glob {x : Str} {v : V} {u : Value} (hm : X.mg x = some u) (r : RelV v u) (h : P v S) (hg : Gl X x := by rfl) (hd : (x == ("__debug__" : Str)) = false := by decide) : EE X σ S (.Name x pos) P := ee_cst (pe_glob hg hm r hd) h
theorem ee_bltn {x : Str} {v : V} {u : Value} (hm : X.mg x = none) (hv : bootBuiltins x = some u) (r : RelV v u) (h : P v S) (hg : Gl X x := by rfl) (hn : x ≠ "__name__" := by decide) (hd : (x == ("__debug__" : Str)) = false := by decide) : EE X σ S (.Name x pos) P := ee_cst (pe_bltn hg hm hv r hn hd) h
theorem ee_globI {x : Str} {t : Tok} (hm : X.mg x = some (.int i t)) (hg : Gl X x := by rfl) (hd : (x == ("__debug__" : Str)) = false := by decide) : EE X σ S (.Name x pos) (Dt X.K (.int i)) := ee_glob (v := .int i) hm ⟨t, rfl⟩ (.int i) hg hd
/-- what a two-place operation gives -/
def OpE (r : R2) (S : Hp) (Pa Pb R : V → Hp → Prop) : Prop := ∀ x y S1 H1, Same S S1 → Same S1 H1 → Pa x S1 → Pb y S1 → ∀ Q : VK, (∀ v S2 H2, Gr S1 H1 S2 H2 → R v S2 → Q v H2) → r x y H1 Q
theorem ee_2 {t : R2} [Mn Pa] [Mn Pb] (hp : PE X e (tOp t (bE X a) (bE X b))) (ha : EE X σ S a Pa) (hb : EE X σ S b Pb) (hr : OpE t S Pa Pb R) : EE X σ S e R := fun H s Q q =>
  he_of hp (ha H s _ fun x S1 H1 g1 px => (hb.up g1.st) H1 g1.sub _ fun y S2 H2 g2 py => hr x y S2 H2 (g1.st.trans g2.st) g2.sub (Mn.up g2.st px) py Q fun v S3 H3 g3 rv => q v S3 H3 ((g1.trans g2).trans g3) rv)
theorem ee_op {op : Operator} {t : R2} [Mn Pa] [Mn Pb] (ho : OpR X (binaryOp op) t) (ha : EE X σ S a Pa) (hb : EE X σ S b Pb) (hr : OpE t S Pa Pb R) : EE X σ S (.BinOp a op b pos) R := ee_2 (pe_op ho peb peb) ha hb hr
theorem ee_cmp {op : CmpOp} {t : R2} [Mn Pa] [Mn Pb] (ho : OpR X (compareOp op) t) (ha : EE X σ S a Pa) (hb : EE X σ S b Pb) (hr : OpE t S Pa Pb R) (hm : behindInMarks op b = false) : EE X σ S (.Compare a [op] [b] pos) R := ee_2 (pe_cmpR ho peb peb hm) ha hb hr
theorem opE_I0 {K : PySem.W.Frag} {g : Int → Int → V} {d : PyData} (h : ∀ S, Dt K d (g i j) S) : OpE (rI0 g) S (Dt K (.int i)) (Dt K (.int j)) (Dt K d) := fun x y S1 H1 _ s px py Q q => by
  cases px; cases py
  exact ⟨i, j, rfl, rfl, q _ S1 H1 (Gr.refl s) (h S1)⟩
theorem opE_I {K : PySem.W.Frag} {C : Int → Int → Prop} {g : Int → Int → V} {d : PyData} (hc : C i j) (h : ∀ S, Dt K d (g i j) S) : OpE (rI C g) S (Dt K (.int i)) (Dt K (.int j)) (Dt K d) := fun x y S1 H1 _ s px py Q q => by
  cases px; cases py
  exact ⟨i, j, rfl, rfl, hc, q _ S1 H1 (Gr.refl s) (h S1)⟩
theorem ee_add (ha : EE X σ S a (Dt X.K (.int i))) (hb : EE X σ S b (Dt X.K (.int j))) : EE X σ S (.BinOp a .Add b pos) (Dt X.K (.int (i + j))) := ee_op op_add ha hb (opE_I0 fun _ => .int _)
theorem ee_mul (hc : CMulX i j) (ha : EE X σ S a (Dt X.K (.int i))) (hb : EE X σ S b (Dt X.K (.int j))) : EE X σ S (.BinOp a .Mult b pos) (Dt X.K (.int (i * j))) := ee_op op_mulX ha hb (opE_I hc fun _ => .int _)
theorem ee_fdiv (hc : CDivW i j) (ha : EE X σ S a (Dt X.K (.int i))) (hb : EE X σ S b (Dt X.K (.int j))) : EE X σ S (.BinOp a .FloorDiv b pos) (Dt X.K (.int (i / j))) := ee_op op_fdivW ha hb (opE_I hc fun _ => .int _)
theorem ee_mod (hc : 0 < j) (ha : EE X σ S a (Dt X.K (.int i))) (hb : EE X σ S b (Dt X.K (.int j))) : EE X σ S (.BinOp a .Mod b pos) (Dt X.K (.int (i % j))) := ee_op op_mod ha hb (opE_I hc fun _ => .int _)
theorem ee_pow (hc : CPow i j) (ha : EE X σ S a (Dt X.K (.int i))) (hb : EE X σ S b (Dt X.K (.int j))) : EE X σ S (.BinOp a .Pow b pos) (Dt X.K (.int (i ^ j.toNat))) := ee_op op_pow ha hb (opE_I hc fun _ => .int _)
theorem ee_le (ha : EE X σ S a (Dt X.K (.int i))) (hb : EE X σ S b (Dt X.K (.int j))) : EE X σ S (.Compare a [.LtE] [b] pos) (Dt X.K (.bool (decide (i ≤ j)))) := ee_cmp op_le ha hb (opE_I0 fun _ => .bl _) (nomark _)
theorem ee_gt (ha : EE X σ S a (Dt X.K (.int i))) (hb : EE X σ S b (Dt X.K (.int j))) : EE X σ S (.Compare a [.Gt] [b] pos) (Dt X.K (.bool (decide (j < i)))) := ee_cmp op_gt ha hb (opE_I0 fun _ => .bl _) (nomark _)
theorem ee_ge (ha : EE X σ S a (Dt X.K (.int i))) (hb : EE X σ S b (Dt X.K (.int j))) : EE X σ S (.Compare a [.GtE] [b] pos) (Dt X.K (.bool (decide (j ≤ i)))) := ee_cmp op_ge ha hb (opE_I0 fun _ => .bl _) (nomark _)
/-- == and != of data -/
theorem ee_eq {u : Nat} (hr : Room u X.A) (h1 : SeqAt.shaped d1 = true) (h2 : SeqAt.shaped d2 = true) (ha : EE X σ S a (Dt X.K d1)) (hb : EE X σ S b (Dt X.K d2)) : EE X σ S (.Compare a [.Eq] [b] pos) (Dt X.K (.bool (PyData.eqv d1 d2))) :=
  ee_cmp (op_eqD hr.units) ha hb (fun x y S1 H1 _ s px py Q q => ⟨d1, d2, (px.up s).dp, (py.up s).dp, h1, h2, q _ S1 H1 (Gr.refl s) (.bl _)⟩) (nomark _)
/-- == of two ints, of two texts -/
theorem ee_eqI (ha : EE X σ S a (Dt X.K (.int i))) (hb : EE X σ S b (Dt X.K (.int j))) : EE X σ S (.Compare a [.Eq] [b] pos) (Dt X.K (.bool (decide (i = j)))) :=
  ee_cmp op_eq ha hb (fun x y S1 H1 _ s px py Q q => by
    cases px; cases py
    refine ⟨rfl, ?_⟩
    have e : decide (V.int i = V.int j) = decide (i = j) := by simp
    rw [e]
    exact q _ S1 H1 (Gr.refl s) (.bl _)) (nomark _)
theorem ee_eqS {x y : Str} (ha : EE X σ S a (Dt X.K (.str x))) (hb : EE X σ S b (Dt X.K (.str y))) : EE X σ S (.Compare a [.Eq] [b] pos) (Dt X.K (.bool (decide (x = y)))) :=
  ee_cmp op_eq ha hb (fun v w S1 H1 _ s px py Q q => by
    cases px; cases py
    refine ⟨rfl, ?_⟩
    have e : decide (V.str x = V.str y) = decide (x = y) := by simp
    rw [e]
    exact q _ S1 H1 (Gr.refl s) (.bl _)) (nomark _)
/-- x is None -/
theorem ee_isN {v : V} (ha : EE X σ S a (fun w _ => w = v)) {n p2} : EE X σ S (.Compare a [.Is] [.Constant .none n p2] pos) (Dt X.K (.bool (decide (v = .non)))) := by
  haveI : Mn (fun (w : V) (_ : Hp) => w = v) := ⟨fun _ h => h⟩
  exact ee_cmp op_isN ha (ee_non (n := n) (pos := p2)) (fun x y S1 H1 _ s px py Q q => by
    cases py
    subst px
    exact ⟨rfl, q _ S1 H1 (Gr.refl s) (.bl _)⟩) (nomark _)
theorem ee_neg (ha : EE X σ S a (Dt X.K (.int i))) : EE X σ S (.UnaryOp .USub a pos) (Dt X.K (.int (-i))) := fun H s Q q =>
  he_of (pe_un un_neg peb) (ha H s _ fun x S1 H1 g1 px => by cases px; exact ⟨i, rfl, q _ S1 H1 g1 (.int _)⟩)
/-! ### and, or, not, if -/
theorem ee_not (ha : EE X σ S a (Dt X.K (.bool k))) : EE X σ S (.UnaryOp .Not a pos) (Dt X.K (.bool (!k))) := fun H s Q q =>
  he_of (pe_not peb) (ha H s _ fun x S1 H1 g1 px => by cases px; exact ⟨k, rfl, q _ S1 H1 g1 (.bl _)⟩)
theorem ee_one {op} (ha : EE X σ S a P) : EE X σ S (.BoolOp op [a] pos) P := fun H s Q q => he_of (pe_one peb) (ha H s Q q)
theorem ee_and {rest : List Expr} (ha : EE X σ S a (Dt X.K (.bool k1))) (hb : k1 = true → EE X σ S (.BoolOp .And (b :: rest) pos) (Dt X.K (.bool k2))) : EE X σ S (.BoolOp .And (a :: b :: rest) pos) (Dt X.K (.bool (k1 && k2))) := fun H s Q q =>
  he_of (pe_and peb peb) (ha H s _ fun x S1 H1 g1 px => by
    cases px
    refine ⟨k1, rfl, ?_⟩
    cases k1 with
    | false => exact iteF (q _ S1 H1 g1 (.bl _))
    | true => exact iteT (((hb rfl).up g1.st) H1 g1.sub _ fun y S2 H2 g2 py => q y S2 H2 (g1.trans g2) py))
/-- tests -/
theorem et_val (ha : EE X σ S e (Dt X.K (.bool k))) (he : ∀ whole, isTrue e X.env whole = (do let v ← whole; standAt e.pos; holding [v] (truthy v)) := by intro _; rfl) : ET X σ S e k := fun H s Q q =>
  ht_of (pt_val peb he) (ha H s _ fun x S1 H1 g1 px => by cases px; exact ⟨k, rfl, q S1 H1 g1⟩)
theorem et_cmp {op : CmpOp} {t : R2} [Mn Pa] [Mn Pb] (ho : OpR X (compareOp op) t) (ha : EE X σ S a Pa) (hb : EE X σ S b Pb) (hr : OpE t S Pa Pb (Dt X.K (.bool k))) (hm : behindInMarks op b = false) : ET X σ S (.Compare a [op] [b] pos) k := fun H s Q q =>
  ht_of (pt_cmpR ho peb peb hm) (ha H s _ fun x S1 H1 g1 px => (hb.up g1.st) H1 g1.sub _ fun y S2 H2 g2 py => hr x y S2 H2 (g1.st.trans g2.st) g2.sub (Mn.up g2.st px) py _ fun v S3 H3 g3 rv => by
    cases rv; exact ⟨k, rfl, q S3 H3 ((g1.trans g2).trans g3)⟩)
theorem et_lt (ha : EE X σ S a (Dt X.K (.int i))) (hb : EE X σ S b (Dt X.K (.int j))) : ET X σ S (.Compare a [.Lt] [b] pos) (decide (i < j)) := et_cmp op_lt ha hb (opE_I0 fun _ => .bl _) (nomark _)
theorem et_gt (ha : EE X σ S a (Dt X.K (.int i))) (hb : EE X σ S b (Dt X.K (.int j))) : ET X σ S (.Compare a [.Gt] [b] pos) (decide (j < i)) := et_cmp op_gt ha hb (opE_I0 fun _ => .bl _) (nomark _)
theorem et_ge (ha : EE X σ S a (Dt X.K (.int i))) (hb : EE X σ S b (Dt X.K (.int j))) : ET X σ S (.Compare a [.GtE] [b] pos) (decide (j ≤ i)) := et_cmp op_ge ha hb (opE_I0 fun _ => .bl _) (nomark _)
theorem et_eqI (ha : EE X σ S a (Dt X.K (.int i))) (hb : EE X σ S b (Dt X.K (.int j))) : ET X σ S (.Compare a [.Eq] [b] pos) (decide (i = j)) :=
  et_cmp op_eq ha hb (fun x y S1 H1 _ s px py Q q => by
    cases px; cases py
    refine ⟨rfl, ?_⟩
    have e : decide (V.int i = V.int j) = decide (i = j) := by simp
    rw [e]
    exact q _ S1 H1 (Gr.refl s) (.bl _)) (nomark _)
theorem et_neI (ha : EE X σ S a (Dt X.K (.int i))) (hb : EE X σ S b (Dt X.K (.int j))) : ET X σ S (.Compare a [.NotEq] [b] pos) (!decide (i = j)) :=
  et_cmp op_ne ha hb (fun x y S1 H1 _ s px py Q q => by
    cases px; cases py
    refine ⟨rfl, ?_⟩
    have e : decide (V.int i = V.int j) = decide (i = j) := by simp
    rw [e]
    exact q _ S1 H1 (Gr.refl s) (.bl _)) (nomark _)
theorem et_eqS {x y : Str} (ha : EE X σ S a (Dt X.K (.str x))) (hb : EE X σ S b (Dt X.K (.str y))) : ET X σ S (.Compare a [.Eq] [b] pos) (decide (x = y)) :=
  et_cmp op_eq ha hb (fun v w S1 H1 _ s px py Q q => by
    cases px; cases py
    refine ⟨rfl, ?_⟩
    have e : decide (V.str x = V.str y) = decide (x = y) := by simp
    rw [e]
    exact q _ S1 H1 (Gr.refl s) (.bl _)) (nomark _)
theorem et_not (ha : ET X σ S a k) : ET X σ S (.UnaryOp .Not a pos) (!k) := fun H s Q q => ht_of (pt_not ptb) (ha H s _ fun S1 H1 g1 => q S1 H1 g1)
theorem et_w (ha : EW X σ S a k) : ET X σ S a k := fun H s Q q => ht_of (PW.pt pwb) (ha H s Q q)
theorem ew_and1 (ha : ET X σ S a k) : EW X σ S (.BoolOp .And [a] pos) k := fun H s Q q => hw_of (pw_and1 ptb) (ha H s Q q)
theorem ew_or1 (ha : ET X σ S a k) : EW X σ S (.BoolOp .Or [a] pos) k := fun H s Q q => hw_of (pw_or1 ptb) (ha H s Q q)
theorem ew_and {rest : List Expr} (ha : ET X σ S a k1) (hb : k1 = true → EW X σ S (.BoolOp .And (b :: rest) pos) k2) : EW X σ S (.BoolOp .And (a :: b :: rest) pos) (k1 && k2) := fun H s Q q =>
  hw_of (pw_and ptb pwb) (ha H s _ fun S1 H1 g1 => by
    cases k1 with
    | false => exact iteF (q S1 H1 g1)
    | true => exact iteT (((hb rfl).up g1.st) H1 g1.sub _ fun S2 H2 g2 => q S2 H2 (g1.trans g2)))
theorem ew_or {rest : List Expr} (ha : ET X σ S a k1) (hb : k1 = false → EW X σ S (.BoolOp .Or (b :: rest) pos) k2) : EW X σ S (.BoolOp .Or (a :: b :: rest) pos) (k1 || k2) := fun H s Q q =>
  hw_of (pw_or ptb pwb) (ha H s _ fun S1 H1 g1 => by
    cases k1 with
    | true => exact iteT (q S1 H1 g1)
    | false => exact iteF (((hb rfl).up g1.st) H1 g1.sub _ fun S2 H2 g2 => q S2 H2 (g1.trans g2)))
theorem ee_if {Q' : V → Hp → Prop} [Mn Q'] (hc : ET X σ S c k) (ha : k = true → EE X σ S a Q') (hb : k = false → EE X σ S b Q') : EE X σ S (.IfExp c a b pos) Q' := fun H s Q q =>
  he_of (pe_ifExp ptb peb peb) (hc H s _ fun S1 H1 g1 => by
    cases k with
    | false => exact iteF (((hb rfl).up g1.st) H1 g1.sub _ fun y S2 H2 g2 py => q y S2 H2 (g1.trans g2) py)
    | true => exact iteT (((ha rfl).up g1.st) H1 g1.sub _ fun y S2 H2 g2 py => q y S2 H2 (g1.trans g2) py))
/-- truth of a value -/
def truD : PyData → Bool
  | .none => false
  | .bool b => b
  | .int i => i != 0
  | .str x => (x.length : Int) != 0
  | .list xs => !xs.isEmpty
  | .tuple xs => !xs.isEmpty
  | .dict kvs => !kvs.isEmpty
theorem isEmpty_len {α β : Type} {xs : List α} {ys : List β} (h : xs.length = ys.length) : xs.isEmpty = ys.isEmpty := by
  cases xs <;> cases ys <;> simp_all
theorem truV_of {K : PySem.W.Frag} {v : V} {H : Hp} (h : Dt K d v H) (hs : ∀ x, d = .str x → x.length ≤ sizeLine) : TruV K v H (truD d) := by
  cases h with
  | non => rfl
  | bl b => rfl
  | int i => rfl
  | str x => exact ⟨hs x rfl, rfl⟩
  | lst h l z f => exact .inl ⟨_, sql_of h, by show (!_) = _; rw [isEmpty_len l]⟩
  | tup h l z f => exact .inr (.inl ⟨_, h.sq, by show (!_) = _; rw [isEmpty_len l]⟩)
theorem et_tru (ha : EE X σ S a (Dt X.K d)) (hs : ∀ x, d = .str x → x.length ≤ sizeLine) (he : ∀ whole, isTrue a X.env whole = (do let v ← whole; standAt a.pos; holding [v] (truthy v)) := by intro _; rfl) : ET X σ S a (truD d) := fun H s Q q =>
  ht_of (pt_truth peb he) (ha H s _ fun x S1 H1 g1 px => ⟨_, truV_of (px.up g1.sub) hs, q S1 H1 g1⟩)
/-! ### displays -/
theorem ee_tupA {es : List Expr} {x1} {vsP : List V → Hp → Prop} (h : ∀ H, Same S H → ∀ Q : List V → Hp → Prop, (∀ vs S' H', Gr S H S' H' → vsP vs S' → Q vs H') → HA X es σ H Q) (hz : ∀ vs S', vsP vs S' → vs.length ≤ sizeLine)
    (hR : ∀ vs S' p, Same S S' → S' p = none → vsP vs S' → R (.ref p) (upd S' p (.tup vs))) : EE X σ S (.Tuple es x1 pos) R := fun H s Q q =>
  he_of (pe_tup pab) (h H s _ fun vs S1 H1 g1 al => ⟨hz vs S1 al, fun p hp => q _ _ _ (g1.trans (Gr.new g1.sub hp)) (hR vs S1 p g1.st (g1.sub.free hp) al)⟩)
theorem ee_lstA {es : List Expr} {vsP : List V → Hp → Prop} (h : ∀ H, Same S H → ∀ Q : List V → Hp → Prop, (∀ vs S' H', Gr S H S' H' → vsP vs S' → Q vs H') → HA X es σ H Q) (hz : ∀ vs S', vsP vs S' → vs.length ≤ sizeLine)
    (hR : ∀ vs S' p, Same S S' → S' p = none → vsP vs S' → R (.ref p) (upd S' p (.lst vs))) : EE X σ S (.List es pos) R := fun H s Q q =>
  he_of (pe_lst pab) (h H s _ fun vs S1 H1 g1 al => ⟨hz vs S1 al, fun p hp => q _ _ _ (g1.trans (Gr.new g1.sub hp)) (hR vs S1 p g1.st (g1.sub.free hp) al)⟩)
def Ds (K : PySem.W.Frag) (ds : List PyData) : List (V → Hp → Prop) := ds.map (Dt K)
theorem al_dts {K : PySem.W.Frag} : ∀ {ds : List PyData} {vs : List V} {H : Hp}, Al (Ds K ds) vs H → Dts K ds vs H
  | [], _, _, h => by cases h; exact .nil
  | d :: ds, _, _, h => by cases h with
    | cons p r => exact .cons p (al_dts r)
theorem dts_al {K : PySem.W.Frag} : ∀ {ds : List PyData} {vs : List V} {H : Hp}, Dts K ds vs H → Al (Ds K ds) vs H
  | [], [], _, h => .nil
  | [], _ :: _, _, h => by have := h.1; simp at this
  | _ :: _, [], _, h => by have := h.1; simp at this
  | d :: ds, v :: vs, _, h => .cons (h.2 0 v d rfl rfl) (dts_al ⟨by have := h.1; simpa using this, fun i x d hx hd => h.2 (i + 1) x d (by simpa using hx) (by simpa using hd)⟩)
theorem ee_tup {es : List Expr} {x1} {ds : List PyData} (h : EA X σ S es (Ds X.K ds)) (hz : ds.length ≤ sizeLine := by show _ ≤ 16777216; exact Nat.le_of_ble_eq_true rfl) : EE X σ S (.Tuple es x1 pos) (Dt X.K (.tuple ds)) :=
  ee_tupA (vsP := Al (Ds X.K ds)) h.2 (fun vs S' al => by rw [(al_dts al).1]; exact hz) fun vs S' p _ hp al => Dt.tup_mk (tus_of upd_same) ((al_dts al).up (Same.new hp)) (by rw [(al_dts al).1]; exact hz)
theorem ee_lst {es : List Expr} {ds : List PyData} (h : EA X σ S es (Ds X.K ds)) (hz : ds.length ≤ sizeLine := by show _ ≤ 16777216; exact Nat.le_of_ble_eq_true rfl) : EE X σ S (.List es pos) (Dt X.K (.list ds)) :=
  ee_lstA (vsP := Al (Ds X.K ds)) h.2 (fun vs S' al => by rw [(al_dts al).1]; exact hz) fun vs S' p _ hp al => Dt.lst_mk upd_same ((al_dts al).up (Same.new hp)) (by rw [(al_dts al).1]; exact hz)
end
end Z
namespace Z
open PySem PySem.Spec PyProof.Rows L2
/-! ## 7. calls of built-ins, sequences -/
theorem dts_int {K : PySem.W.Frag} : ∀ {ns : List Int} {xs : List V} {H : Hp}, Dts K (ns.map PyData.int) xs H → xs = ns.map V.int
  | [], [], _, _ => rfl
  | [], _ :: _, _, h => by have := h.1; simp at this
  | _ :: _, [], _, h => by have := h.1; simp at this
  | n :: ns, x :: xs, _, h => by
    have e1 := (h.2 0 x (.int n) rfl rfl).int_inv
    have e2 := dts_int (ns := ns) (xs := xs) ⟨by have := h.1; simpa using this, fun i y d hy hd => h.2 (i + 1) y d (by simpa using hy) (by simpa using hd)⟩
    rw [e1, e2]; rfl
theorem dts_bl {K : PySem.W.Frag} : ∀ {ns : List Bool} {xs : List V} {H : Hp}, Dts K (ns.map PyData.bool) xs H → xs = ns.map V.bl
  | [], [], _, _ => rfl
  | [], _ :: _, _, h => by have := h.1; simp at this
  | _ :: _, [], _, h => by have := h.1; simp at this
  | n :: ns, x :: xs, _, h => by
    have e1 := (h.2 0 x (.bool n) rfl rfl).bl_inv
    have e2 := dts_bl (ns := ns) (xs := xs) ⟨by have := h.1; simpa using this, fun i y d hy hd => h.2 (i + 1) y d (by simpa using hy) (by simpa using hd)⟩
    rw [e1, e2]; rfl
theorem dts_str {K : PySem.W.Frag} : ∀ {ns : List Str} {xs : List V} {H : Hp}, Dts K (ns.map PyData.str) xs H → xs = ns.map V.str
  | [], [], _, _ => rfl
  | [], _ :: _, _, h => by have := h.1; simp at this
  | _ :: _, [], _, h => by have := h.1; simp at this
  | n :: ns, x :: xs, _, h => by
    have e1 := (h.2 0 x (.str n) rfl rfl).str_inv
    have e2 := dts_str (ns := ns) (xs := xs) ⟨by have := h.1; simpa using this, fun i y d hy hd => h.2 (i + 1) y d (by simpa using hy) (by simpa using hd)⟩
    rw [e1, e2]; rfl
theorem int_dts {K : PySem.W.Frag} (ns : List Int) (H : Hp) : Dts K (ns.map PyData.int) (ns.map V.int) H := by
  refine ⟨by simp, fun i x d hx hd => ?_⟩
  rw [List.getElem?_map] at hx hd
  cases e : ns[i]? with
  | none => rw [e] at hx; cases hx
  | some n => rw [e] at hx hd; cases hx; cases hd; exact .int n
def tyN : PyData → String
  | .none => "NoneType"
  | .bool _ => "bool"
  | .int _ => "int"
  | .str _ => "str"
  | .list _ => "list"
  | .tuple _ => "tuple"
  | .dict _ => "dict"
theorem tyX_of {K : PySem.W.Frag} {d : PyData} {v : V} {S H : Hp} (h : Dt K d v S) (s : Same S H) : TyX K H v (.type (tyN d)) := by
  cases h with
  | non => exact .base .non
  | bl b => exact .base (.bl b)
  | int i => exact .base (.int i)
  | str x => exact .base (.str x)
  | lst h l z f => exact .base (.lst (s _ _ h))
  | tup h l z f =>
    have h := h.sq
    rcases h with (h | ⟨o, h⟩) | ⟨o, its, n, h, c, _⟩
    · exact .base (.tup (s _ _ h))
    · exact .fTuple (s _ _ h)
    · exact .kTuple h c
/-- what isinstance says of data -/
def isN (t T : String) : Bool := t == T || (t == "bool" && T == "int")
theorem kit_tab : (["NoneType", "bool", "int", "str", "list", "tuple", "dict"].all fun t => ["int", "bool", "str", "list", "tuple"].all fun T => decide (kitB t T = some (isN t T))) = true := by decide +kernel
def isD (d : PyData) (T : String) : Bool := isN (tyN d) T
theorem isD_ok (d : PyData) {T : String} (hT : T ∈ ["int", "bool", "str", "list", "tuple"]) : kitB (tyN d) T = some (isD d T) := by
  have h := List.all_eq_true.mp (List.all_eq_true.mp kit_tab (tyN d) (by cases d <;> simp [tyN])) T hT
  exact of_decide_eq_true h
theorem isDi (d : PyData) : isD d "int" = (match d with | .int _ => true | .bool _ => true | _ => false) := by cases d <;> rfl
theorem isDb (d : PyData) : isD d "bool" = (match d with | .bool _ => true | _ => false) := by cases d <;> rfl
theorem isDs (d : PyData) : isD d "str" = (match d with | .str _ => true | _ => false) := by cases d <;> rfl
theorem isDt (d : PyData) : isD d "tuple" = (match d with | .tuple _ => true | _ => false) := by cases d <;> rfl
section
variable {X : Cx} {σ : L2.St} {S S' : Hp} {e a b c : Expr} {es : List Expr} {P Pa Pb R : V → Hp → Prop} {Ps : List (V → Hp → Prop)} {pos p : Pos} {i j : Int} {d d1 d2 : PyData} {ds ds1 ds2 : List PyData} {k : Bool} {x : Str} {id T : String}
def ClE (r : List V → Hp → VK → Prop) (S : Hp) (Ps : List (V → Hp → Prop)) (R : V → Hp → Prop) : Prop := ∀ vs S1 H1, Same S S1 → Same S1 H1 → Al Ps vs S1 → ∀ Q : VK, (∀ v S2 H2, Gr S1 H1 S2 H2 → R v S2 → Q v H2) → r vs H1 Q
theorem ee_callA {t : List V → Hp → VK → Prop} (hp : PE X e (tCB t (bA X es))) (ha : EA X σ S es Ps) (hr : ClE t S Ps R) : EE X σ S e R := fun H s Q q =>
  he_of hp (ha.2 H s _ fun vs S1 H1 g1 al => hr vs S1 H1 g1.st g1.sub al Q fun v S2 H2 g2 rv => q v S2 H2 (g1.trans g2) rv)
theorem ee_callB {t : List V → Hp → VK → Prop} (hc : CallR X (.builtin id) t) (hm : X.mg x = none) (hv : bootBuiltins x = some (.builtin id)) (ha : EA X σ S (e :: es) Ps) (hr : ClE t S Ps R) (hg : Gl X x := by rfl) (hn : x ≠ "__name__" := by decide) (hdb : (x == ("__debug__" : Str)) = false := by decide)
    (he : starEach (e :: es) X.env = (false, eval e X.env) :: starEach es X.env := by rfl) (hpl : (backTo pos (starEach es X.env)).any (·.1) = false := by rfl) : EE X σ S (.Call (.Name x p) (e :: es) [] pos) R :=
  ee_callA (pe_callB hc hg hm hv pab hn hdb he hpl) ha hr
theorem ee_callTy {t : List V → Hp → VK → Prop} (hc : CallR X (.type T) t) (hm : X.mg x = none) (hv : bootBuiltins x = some (.type T)) (ha : EA X σ S (e :: es) Ps) (hr : ClE t S Ps R) (hg : Gl X x := by rfl) (hn : x ≠ "__name__" := by decide) (hdb : (x == ("__debug__" : Str)) = false := by decide)
    (he : starEach (e :: es) X.env = (false, eval e X.env) :: starEach es X.env := by rfl) (hpl : (backTo pos (starEach es X.env)).any (·.1) = false := by rfl) : EE X σ S (.Call (.Name x p) (e :: es) [] pos) R :=
  ee_callA (pe_callTy hc hg hm hv pab hn hdb he hpl) ha hr
theorem ea_1 [Mn P] (h : EE X σ S e P) (hs : starEach [e] X.env = (false, eval e X.env) :: starEach [] X.env := by rfl) : EA X σ S [e] [P] := ea_cons h ea_nil hs
theorem ea_2 [Mn Pa] [Mn Pb] (h : EE X σ S a Pa) (h2 : EE X σ S b Pb) (hs : starEach [a, b] X.env = (false, eval a X.env) :: starEach [b] X.env := by rfl) (hs2 : starEach [b] X.env = (false, eval b X.env) :: starEach [] X.env := by rfl) : EA X σ S [a, b] [Pa, Pb] := ea_cons h (ea_cons h2 ea_nil hs2) hs
theorem Al.one {Pa : V → Hp → Prop} {vs : List V} {H : Hp} (h : Al [Pa] vs H) : ∃ v, vs = [v] ∧ Pa v H := by
  cases h with
  | cons p r => cases r; exact ⟨_, rfl, p⟩
theorem Al.two {Pa Pb : V → Hp → Prop} {vs : List V} {H : Hp} (h : Al [Pa, Pb] vs H) : ∃ v w, vs = [v, w] ∧ Pa v H ∧ Pb w H := by
  cases h with
  | cons p r => cases r with
    | cons p2 r2 => cases r2; exact ⟨_, _, rfl, p, p2⟩
theorem Al.three {Pa Pb Pc : V → Hp → Prop} {vs : List V} {H : Hp} (h : Al [Pa, Pb, Pc] vs H) : ∃ v w u, vs = [v, w, u] ∧ Pa v H ∧ Pb w H ∧ Pc u H := by
  cases h with
  | cons p r => obtain ⟨w, u, rfl, q1, q2⟩ := Al.two r; exact ⟨_, _, _, rfl, p, q1, q2⟩
theorem ee_isi {cn : Str} {T : String} (hk : kitB (tyN d) T = some k) (hm : X.mg "isinstance" = none) (hmT : X.mg cn = none) (hv : bootBuiltins cn = some (.type T)) (ha : EE X σ S a (Dt X.K d)) {p2 : Pos} (hg : Gl X "isinstance" := by rfl) (hgT : Gl X cn := by rfl) (hn : cn ≠ "__name__" := by decide) (hdb : (cn == ("__debug__" : Str)) = false := by decide)
    (hs : starEach [a, .Name cn p2] X.env = (false, eval a X.env) :: starEach [.Name cn p2] X.env := by rfl) : EE X σ S (.Call (.Name "isinstance" p) [a, .Name cn p2] [] pos) (Dt X.K (.bool k)) := by
  haveI : Mn (fun (w : V) (_ : Hp) => w = .ty T) := ⟨fun _ h => h⟩
  refine ee_callB call_isi hm boot_isinstance (ea_2 ha (ee_bltn (P := fun w _ => w = .ty T) (v := .ty T) (u := .type T) hmT hv rfl rfl hgT hn hdb) hs rfl) (fun vs S1 H1 _ s al Q q => ?_) hg (he := hs) (hpl := by rfl)
  obtain ⟨v, w, rfl, pv, pw⟩ := al.two
  subst pw
  exact ⟨v, .ty T, .type (tyN d), .type T, k, rfl, .ty T, tyX_of pv s, kit_ty hk, q _ S1 H1 (Gr.refl s) (.bl k)⟩
/-- len -/
def lenD : PyData → Option Nat
  | .str x => some x.length
  | .list xs => some xs.length
  | .tuple xs => some xs.length
  | _ => none
theorem ee_len {n : Nat} (hm : X.mg "len" = none) (hl : lenD d = some n) (ha : EE X σ S a (Dt X.K d)) (hz : ∀ x, d = .str x → x.length ≤ sizeLine := by intro _ h; cases h) (hg : Gl X "len" := by rfl)
    (hs : starEach [a] X.env = (false, eval a X.env) :: starEach [] X.env := by rfl) : EE X σ S (.Call (.Name "len" p) [a] [] pos) (Dt X.K (.int n)) :=
  ee_callB call_len hm boot_len (ea_1 ha hs) (fun vs S1 H1 _ s al Q q => by
    obtain ⟨v, rfl, pv⟩ := al.one
    refine ⟨v, n, rfl, ?_, q _ S1 H1 (Gr.refl s) (.int _)⟩
    cases pv with
    | non => cases hl
    | bl b => cases hl
    | int i => cases hl
    | str x => cases hl; exact ⟨hz x rfl, rfl⟩
    | lst h l z f => cases hl; exact .inl ⟨_, sql_of (s _ _ h), l.symm⟩
    | tup h l z f => cases hl; exact .inr ⟨_, sqt_up s h.sq, l.symm⟩) hg (he := hs) (hpl := by rfl)
theorem ee_list (hm : X.mg "list" = none) (hd : d = .list ds ∨ d = .tuple ds) (ha : EE X σ S a (Dt X.K d)) (hg : Gl X "list" := by rfl)
    (hs : starEach [a] X.env = (false, eval a X.env) :: starEach [] X.env := by rfl) : EE X σ S (.Call (.Name "list" p) [a] [] pos) (Dt X.K (.list ds)) :=
  ee_callTy call_list_of hm boot_list (ea_1 ha hs) (fun vs S1 H1 _ s al Q q => by
    obtain ⟨v, rfl, pv⟩ := al.one
    rcases hd with rfl | rfl
    · obtain ⟨l, xs, rfl, hl, hx, z⟩ := pv.lst_inv
      exact ⟨l, xs, rfl, .inl (sql_of (s _ _ hl)), fun t ht => q _ _ _ (Gr.new s ht) (Dt.lst_mk upd_same (hx.up (Same.new (s.free ht))) z)⟩
    · obtain ⟨l, xs, rfl, hl, hx, z⟩ := pv.tup_inv
      exact ⟨l, xs, rfl, .inr (sqt_up s hl), fun t ht => q _ _ _ (Gr.new s ht) (Dt.lst_mk upd_same (hx.up (Same.new (s.free ht))) z)⟩) hg (he := hs) (hpl := by rfl)
theorem ee_tupleOf (hm : X.mg "tuple" = none) (ha : EE X σ S a (Dt X.K (.list ds))) (hg : Gl X "tuple" := by rfl)
    (hs : starEach [a] X.env = (false, eval a X.env) :: starEach [] X.env := by rfl) : EE X σ S (.Call (.Name "tuple" p) [a] [] pos) (Dt X.K (.tuple ds)) :=
  ee_callTy call_tuple_of hm boot_tuple (ea_1 ha hs) (fun vs S1 H1 _ s al Q q => by
    obtain ⟨v, rfl, pv⟩ := al.one
    obtain ⟨l, xs, rfl, hl, hx, z⟩ := pv.lst_inv
    exact ⟨l, xs, rfl, .inl ⟨sql_of (s _ _ hl), fun t ht => q _ _ _ (Gr.new s ht) (Dt.tup_mk (tus_of upd_same) (hx.up (Same.new (s.free ht))) z)⟩⟩) hg (he := hs) (hpl := by rfl)
theorem ee_sum {ns : List Int} (hc : X.calm = true) (hm : X.mg "sum" = none) (ha : EE X σ S a (Dt X.K (.list (ns.map .int)))) (hg : Gl X "sum" := by rfl)
    (hs : starEach [a] X.env = (false, eval a X.env) :: starEach [] X.env := by rfl) : EE X σ S (.Call (.Name "sum" p) [a] [] pos) (Dt X.K (.int ns.sum)) :=
  ee_callB (cr_sum hc) hm boot_sum (ea_1 ha hs) (fun vs S1 H1 _ s al Q q => by
    obtain ⟨v, rfl, pv⟩ := al.one
    obtain ⟨l, xs, rfl, hl, hx, z⟩ := pv.lst_inv
    rw [dts_int hx] at hl
    exact ⟨l, ns, rfl, sql_of (s _ _ hl), q _ S1 H1 (Gr.refl s) (.int _)⟩) hg (he := hs) (hpl := by rfl)
theorem ee_all {bs : List Bool} (hc : X.calm = true) (hm : X.mg "all" = none) (ha : EE X σ S a (Dt X.K (.list (bs.map .bool)))) (hg : Gl X "all" := by rfl)
    (hs : starEach [a] X.env = (false, eval a X.env) :: starEach [] X.env := by rfl) : EE X σ S (.Call (.Name "all" p) [a] [] pos) (Dt X.K (.bool (bs.all fun b => b))) :=
  ee_callB (cr_all hc) hm boot_all (ea_1 ha hs) (fun vs S1 H1 _ s al Q q => by
    obtain ⟨v, rfl, pv⟩ := al.one
    obtain ⟨l, xs, rfl, hl, hx, z⟩ := pv.lst_inv
    rw [dts_bl hx] at hl
    exact ⟨l, bs, rfl, sql_of (s _ _ hl), q _ S1 H1 (Gr.refl s) (.bl _)⟩) hg (he := hs) (hpl := by rfl)
theorem ee_intOf (hm : X.mg "int" = none) (ha : EE X σ S a (Dt X.K (.int i))) (hg : Gl X "int" := by rfl)
    (hs : starEach [a] X.env = (false, eval a X.env) :: starEach [] X.env := by rfl) : EE X σ S (.Call (.Name "int" p) [a] [] pos) (Dt X.K (.int i)) :=
  ee_callTy call_int1 hm boot_int (ea_1 ha hs) (fun vs S1 H1 _ s al Q q => by
    obtain ⟨v, rfl, pv⟩ := al.one
    cases pv
    exact .inl ⟨i, rfl, q _ S1 H1 (Gr.refl s) (.int _)⟩) hg (he := hs) (hpl := by rfl)
/-! ### subscripts -/
theorem atI_dts {K : PySem.W.Frag} {xs : List V} {H : Hp} (h : Dts K ds xs H) (e : atI ds i = some d) : ∃ x, atI xs i = some x ∧ Dt K d x H := by
  unfold atI at e ⊢
  rw [h.1]
  cases q : ixN ds.length i with
  | none => rw [q] at e; cases e
  | some k =>
    rw [q] at e
    exact h.get (i := k) e
theorem ee_ixL (he : atI ds i = some d) (ha : EE X σ S a (Dt X.K (.list ds))) (hb : EE X σ S b (Dt X.K (.int i))) (hs : PlainIx b := by exact fun _ _ => rfl) : EE X σ S (.Subscript a b pos) (Dt X.K d) :=
  ee_2 (pe_ix ix_list peb peb hs) ha hb fun x y S1 H1 _ s px py Q q => by
    cases py
    obtain ⟨l, xs, rfl, hl, hx, z⟩ := px.lst_inv
    obtain ⟨x, h1, h2⟩ := atI_dts hx he
    exact ⟨l, xs, i, x, rfl, rfl, sql_of (s _ _ hl), h1, q _ S1 H1 (Gr.refl s) h2⟩
theorem ee_ixT (he : atI ds i = some d) (ha : EE X σ S a (Dt X.K (.tuple ds))) (hb : EE X σ S b (Dt X.K (.int i))) (hs : PlainIx b := by exact fun _ _ => rfl) : EE X σ S (.Subscript a b pos) (Dt X.K d) :=
  ee_2 (pe_ix ix_tup peb peb hs) ha hb fun x y S1 H1 _ s px py Q q => by
    cases py
    obtain ⟨l, xs, rfl, hl, hx, z⟩ := px.tup_inv
    obtain ⟨x, h1, h2⟩ := atI_dts hx he
    exact ⟨l, xs, i, x, rfl, rfl, sqt_up s hl, h1, q _ S1 H1 (Gr.refl s) h2⟩
/-- slices -/
def EO (X : Cx) (σ : L2.St) (S : Hp) (e : Option Expr) (o : Option Int) : Prop := ∀ H, Same S H → ∀ Q : Option Int → Hp → Prop, (∀ S' H', Gr S H S' H' → Q o H') → ∃ t, PO X e t ∧ t σ H Q
def tOb (X : Cx) (e : Option Expr) : TO := fun σ H Q => ∃ t, PO X e t ∧ t σ H Q
theorem pob {e : Option Expr} : PO X e (tOb X e) := ⟨fun pins s σ H Q I ⟨t, ht, h⟩ => ht.run pins s σ H Q I h⟩
theorem eo_none : EO X σ S none none := fun H s Q q => ⟨_, po_none, q S H (Gr.refl s)⟩
theorem eo_some (h : EE X σ S e (Dt X.K (.int i))) : EO X σ S (some e) (some i) := fun H s Q q => ⟨_, po_some peb, h H s _ fun v S1 H1 g1 pv => by cases pv; exact ⟨i, rfl, q S1 H1 g1⟩⟩
theorem EO.up {o : Option Int} {oe : Option Expr} (s : Same S S') (h : EO X σ S oe o) : EO X σ S' oe o := fun H a Q q => h H (s.trans a) Q fun S2 H2 g => q (uniS S2 S') H2 (g.uni s a)
def cutD {α : Type} (xs : List α) (lo hi : Option Int) : List α := (xs.drop (HT.sIx xs.length 0 lo)).take (HT.sIx xs.length xs.length hi - HT.sIx xs.length 0 lo)
theorem cut_dts {K : PySem.W.Frag} {xs : List V} {H : Hp} {lo hi : Option Int} (h : Dts K ds xs H) : Dts K (cutD ds lo hi) (cutV xs lo hi) H := by
  unfold cutD cutV
  rw [h.1]
  refine ⟨by simp [List.length_take, List.length_drop, h.1], fun i x d hx hd => ?_⟩
  rw [List.getElem?_take] at hx hd
  split at hx
  · rename_i hlt
    rw [if_pos hlt, List.getElem?_drop] at hd
    rw [List.getElem?_drop] at hx
    exact h.2 _ x d hx hd
  · cases hx
theorem ee_slL {lo hi : Option Expr} {l u : Option Int} {p2 : Pos} (ha : EE X σ S a (Dt X.K (.list ds))) (hl : EO X σ S lo l) (hu : EO X σ S hi u) : EE X σ S (.Subscript a (.Slice lo hi none p2) pos) (Dt X.K (.list (cutD ds l u))) := fun H s Q q =>
  he_of (pe_slice sl_list peb pob pob) (ha H s _ fun v S1 H1 g1 pv => (hl.up g1.st) H1 g1.sub _ fun S2 H2 g2 => (hu.up (g1.st.trans g2.st)) H2 g2.sub _ fun S3 H3 g3 => by
    obtain ⟨l, xs, rfl, hl, hx, z⟩ := ((pv.up g2.st).up g3.st).lst_inv
    exact ⟨l, xs, rfl, sql_of (g3.sub _ _ hl), fun t ht => q _ _ _ (((g1.trans g2).trans g3).trans (Gr.new g3.sub ht)) (Dt.lst_mk upd_same ((cut_dts hx).up (Same.new (g3.sub.free ht))) (Nat.le_trans (cutV_length _ _ _) z))⟩)
theorem cutD_whole {α : Type} {xs : List α} {lo hi : Option Int} (h : HT.sIx xs.length 0 lo = 0 ∧ HT.sIx xs.length xs.length hi = xs.length) : cutD xs lo hi = xs := by
  unfold cutD
  rw [h.1, h.2]
  simp
theorem ee_slT {lo hi : Option Expr} {l u : Option Int} {p2 : Pos} (ha : EE X σ S a (Dt X.K (.tuple ds))) (hl : EO X σ S lo l) (hu : EO X σ S hi u) : EE X σ S (.Subscript a (.Slice lo hi none p2) pos) (Dt X.K (.tuple (cutD ds l u))) := fun H s Q q =>
  he_of (pe_slice sl_tupA peb pob pob) (ha H s _ fun v S1 H1 g1 pv => (hl.up g1.st) H1 g1.sub _ fun S2 H2 g2 => (hu.up (g1.st.trans g2.st)) H2 g2.sub _ fun S3 H3 g3 => by
    have pv3 := (pv.up g2.st).up g3.st
    obtain ⟨l, xs, rfl, hl, hx, z⟩ := pv3.tup_inv
    refine ⟨l, xs, rfl, sqt_up g3.sub hl, fun hw => ?_, fun _ t ht => q _ _ _ (((g1.trans g2).trans g3).trans (Gr.new g3.sub ht)) (Dt.tup_mk (tus_of upd_same) ((cut_dts hx).up (Same.new (g3.sub.free ht))) (Nat.le_trans (cutV_length _ _ _) z))⟩
    rw [hx.1] at hw
    rw [cutD_whole hw] at q
    exact q _ _ _ ((g1.trans g2).trans g3) pv3)
/-! ### + and * of sequences -/
theorem ee_catL (hz : ds1.length + ds2.length ≤ sizeLine) (ha : EE X σ S a (Dt X.K (.list ds1))) (hb : EE X σ S b (Dt X.K (.list ds2))) : EE X σ S (.BinOp a .Add b pos) (Dt X.K (.list (ds1 ++ ds2))) :=
  ee_op op_cat ha hb fun x y S1 H1 _ s px py Q q => by
    obtain ⟨l, xs, rfl, hl, hx, _⟩ := px.lst_inv
    obtain ⟨m, ys, rfl, hm, hy, _⟩ := py.lst_inv
    have hz' : xs.length + ys.length ≤ sizeLine := by rw [hx.1, hy.1]; exact hz
    exact ⟨l, m, xs, ys, rfl, rfl, s _ _ hl, s _ _ hm, hz', fun t ht => q _ _ _ (Gr.new s ht) (Dt.lst_mk upd_same ((hx.append hy).up (Same.new (s.free ht))) (by rw [List.length_append]; exact hz'))⟩
theorem dts_nil_iff {K : PySem.W.Frag} {xs : List V} {H : Hp} (h : Dts K ds xs H) : xs = [] ↔ ds = [] := by
  have := h.1
  constructor
  · intro e; subst e; exact List.length_eq_zero_iff.mp (by simpa using this.symm)
  · intro e; subst e; exact List.length_eq_zero_iff.mp (by simpa using this)
theorem ee_catT (hz : ds1.length + ds2.length ≤ sizeLine) (ha : EE X σ S a (Dt X.K (.tuple ds1))) (hb : EE X σ S b (Dt X.K (.tuple ds2))) : EE X σ S (.BinOp a .Add b pos) (Dt X.K (.tuple (ds1 ++ ds2))) :=
  ee_op op_catA ha hb fun x y S1 H1 _ s px py Q q => by
    have px0 := px
    have py0 := py
    obtain ⟨l, xs, rfl, hl, hx, _⟩ := px.tup_inv
    obtain ⟨m, ys, rfl, hm, hy, _⟩ := py.tup_inv
    have hz' : xs.length + ys.length ≤ sizeLine := by rw [hx.1, hy.1]; exact hz
    refine ⟨l, m, xs, ys, rfl, rfl, sqt_up s hl, sqt_up s hm, hz', fun e => ?_, fun _ e => ?_, fun _ _ t ht => q _ _ _ (Gr.new s ht) (Dt.tup_mk (tus_of upd_same) ((hx.append hy).up (Same.new (s.free ht))) (by rw [List.length_append]; exact hz'))⟩
    · rw [(dts_nil_iff hx).mp e] at q
      exact q _ _ _ (Gr.refl s) py0
    · rw [(dts_nil_iff hy).mp e, List.append_nil] at q
      exact q _ _ _ (Gr.refl s) px0
theorem flat_dts {K : PySem.W.Frag} {xs : List V} {H : Hp} (f : List.replicate 0 d = []) (h : Dts K ds xs H) : ∀ (n : Nat), Dts K (List.replicate n ds).flatten (List.replicate n xs).flatten H
  | 0 => .nil
  | n + 1 => by
    rw [List.replicate_succ, List.flatten_cons, List.replicate_succ, List.flatten_cons]
    exact h.append (flat_dts f h n)
theorem flatten_len {α : Type} (xs : List α) : ∀ n : Nat, (List.replicate n xs).flatten.length = xs.length * n
  | 0 => by simp
  | n + 1 => by rw [List.replicate_succ, List.flatten_cons, List.length_append, flatten_len xs n, Nat.mul_succ]; omega
theorem ee_repL (h1 : -(2 ^ 63) ≤ i) (h2 : i < 2 ^ 63) (hz : ds.length * i.toNat ≤ sizeLine) (ha : EE X σ S a (Dt X.K (.list ds))) (hb : EE X σ S b (Dt X.K (.int i))) : EE X σ S (.BinOp a .Mult b pos) (Dt X.K (.list (List.replicate i.toNat ds).flatten)) :=
  ee_op op_rep ha hb fun x y S1 H1 _ s px py Q q => by
    cases py
    obtain ⟨l, xs, rfl, hl, hx, _⟩ := px.lst_inv
    have hz' : xs.length * i.toNat ≤ sizeLine := by rw [hx.1]; exact hz
    exact ⟨l, i, xs, rfl, rfl, s _ _ hl, h1, h2, hz', fun t ht => q _ _ _ (Gr.new s ht) (Dt.lst_mk upd_same ((flat_dts (d := .none) rfl hx _).up (Same.new (s.free ht))) (by rw [flatten_len]; exact hz'))⟩
end
end Z
namespace Z
open PySem PySem.Spec PyProof.Rows L2
/-! ## 8. what is walked -/
/-- an iterator that gives, one by one, values that have the Ps; while B stands -/
def ItP (J : It) (B : Hp) (Ps : List (V → Hp → Prop)) : Prop := Walk J Ps.length (fun H => Same B H) (fun i H x H' => ∀ S, Same B S → Same S H → ∃ S', Gr S H S' H' ∧ ∃ P, Ps[i]? = some P ∧ P x S')
def EI (X : Cx) (σ : L2.St) (S : Hp) (tg iter : Expr) (Ps : List (V → Hp → Prop)) : Prop := ∀ H, Same S H → ∀ R : It → Hp → Prop, (∀ J S' H', Gr S H S' H' → ItP J S' Ps → R J H') → HI X tg iter σ H R
section
variable {X : Cx} {σ : L2.St} {S S' : Hp} {e a b tg : Expr} {pos p : Pos} {d d1 d2 : PyData} {ds ds1 ds2 : List PyData}
theorem EI.up {Ps : List (V → Hp → Prop)} {it : Expr} (s : Same S S') (h : EI X σ S tg it Ps) : EI X σ S' tg it Ps := fun H a R q => h H (s.trans a) R fun J S2 H2 g w => q J (uniS S2 S') H2 (g.uni s a)
  ⟨fun i H hi hs => w.goes i H hi (uni_l.trans hs), fun H hs => w.stops H (uni_l.trans hs), fun i H x H' hi hs y T st th => w.yields i H x H' hi (uni_l.trans hs) y T (uni_l.trans st) th⟩
theorem ds_get {K : PySem.W.Frag} {i : Nat} (h : ds[i]? = some d) : (Ds K ds)[i]? = some (Dt K d) := by unfold Ds; rw [List.getElem?_map, h]; rfl
theorem ds_len {K : PySem.W.Frag} : (Ds K ds).length = ds.length := by unfold Ds; simp
theorem ei_list (ha : EE X σ S e (Dt X.K (.list ds))) : EI X σ S tg e (Ds X.K ds) := fun H s R q =>
  hi_of (pi_list peb) (ha H s _ fun v S1 H1 g1 pv => by
    obtain ⟨l, xs, rfl, hl, hx, z⟩ := pv.lst_inv
    refine ⟨l, rfl, ⟨xs, sql_of (g1.sub _ _ hl)⟩, q _ S1 H1 g1 ⟨fun i H hi hs => ?_, fun H hs => ?_, fun i H x H' hi hs y T st th => ?_⟩⟩
    · rw [ds_len, ← hx.1] at hi
      exact (walk_list (K := X.K) (a := l) (xs := xs)).goes i H hi (sql_of (hs _ _ hl))
    · rw [ds_len, ← hx.1]
      exact (walk_list (K := X.K) (a := l) (xs := xs)).stops H (sql_of (hs _ _ hl))
    · rw [ds_len, ← hx.1] at hi
      obtain ⟨rfl, hy⟩ := (walk_list (K := X.K) (a := l) (xs := xs)).yields i H x H' hi (sql_of (hs _ _ hl)) y
      have hi2 : i < ds.length := by rw [← hx.1]; exact hi
      exact ⟨T, Gr.refl th, _, ds_get (List.getElem?_eq_getElem hi2), (hx.2 i x _ hy (List.getElem?_eq_getElem hi2)).up st⟩)
theorem ei_tup (ha : EE X σ S e (Dt X.K (.tuple ds))) : EI X σ S tg e (Ds X.K ds) := fun H s R q =>
  hi_of (pi_tup peb) (ha H s _ fun v S1 H1 g1 pv => by
    obtain ⟨l, xs, rfl, hl, hx, z⟩ := pv.tup_inv
    refine ⟨l, rfl, ⟨xs, sqt_up g1.sub hl⟩, q _ S1 H1 g1 ⟨fun i H hi hs => ?_, fun H hs => ?_, fun i H x H' hi hs y T st th => ?_⟩⟩
    · rw [ds_len, ← hx.1] at hi
      exact (walk_tup (K := X.K) (a := l) (xs := xs)).goes i H hi (sqt_up hs hl)
    · rw [ds_len, ← hx.1]
      exact (walk_tup (K := X.K) (a := l) (xs := xs)).stops H (sqt_up hs hl)
    · rw [ds_len, ← hx.1] at hi
      obtain ⟨rfl, hy⟩ := (walk_tup (K := X.K) (a := l) (xs := xs)).yields i H x H' hi (sqt_up hs hl) y
      have hi2 : i < ds.length := by rw [← hx.1]; exact hi
      exact ⟨T, Gr.refl th, _, ds_get (List.getElem?_eq_getElem hi2), (hx.2 i x _ hy (List.getElem?_eq_getElem hi2)).up st⟩)
/-- 0, 1, .. below n -/
def upto (n : Nat) : List PyData := (List.range n).map fun i => .int (i : Nat)
theorem upto_get {n i : Nat} (h : i < n) : (upto n)[i]? = some (.int (i : Nat)) := by unfold upto; rw [List.getElem?_map, List.getElem?_range h]; rfl
theorem upto_len {n : Nat} : (upto n).length = n := by unfold upto; simp
theorem ei_range {n : Nat} (hm : X.mg "range" = none) (hn : (n : Int) < 2 ^ 62) (ha : EE X σ S a (Dt X.K (.int (n : Nat)))) (hg : Gl X "range" := by rfl) (hs : starEach [a] X.env = [(false, eval a X.env)] := by rfl) : EI X σ S tg (.Call (.Name "range" p) [a] [] pos) (Ds X.K (upto n)) := fun H s R q =>
  hi_of (pi_range1 hg hm pab hs) ((ea_1 ha (by rw [hs]; rfl)).2 H s _ fun vs S1 H1 g1 al => by
    obtain ⟨v, rfl, pv⟩ := al.one
    cases pv
    refine ⟨(n : Int), rfl, by omega, hn, q _ S1 H1 g1 ⟨fun i H hi hs => ?_, fun H hs => ?_, fun i H x H' hi hs y T st th => ?_⟩⟩
    · rw [ds_len, upto_len] at hi
      show i < ((n : Int)).toNat
      omega
    · rw [ds_len, upto_len]
      show ((n : Int)).toNat ≤ n
      omega
    · rw [ds_len, upto_len] at hi
      obtain ⟨rfl, rfl⟩ : H' = H ∧ x = .int (0 + (i : Int)) := y
      rw [Int.zero_add]
      exact ⟨T, Gr.refl th, _, ds_get (upto_get hi), .int _⟩)
/-- pairs -/
def zipD (xs ys : List PyData) : List PyData := List.zipWith (fun x y => .tuple [x, y]) xs ys
theorem zipD_get {i : Nat} {x y : PyData} (h1 : ds1[i]? = some x) (h2 : ds2[i]? = some y) : (zipD ds1 ds2)[i]? = some (.tuple [x, y]) := by
  unfold zipD
  rw [List.getElem?_zipWith, h1, h2]
theorem pair_new {K : PySem.W.Frag} {T H : Hp} {x y : V} {t : Addr} (th : Same T H) (ht : H t = none) (h1 : Dt K d1 x T) (h2 : Dt K d2 y T) : Dt K (.tuple [d1, d2]) (.ref t) (upd T t (.tup [x, y])) :=
  Dt.tup_mk (tus_of upd_same) ((Dts.cons h1 (Dts.cons h2 .nil)).up (Same.new (th.free ht))) (by show 2 ≤ 16777216; decide)
theorem ei_zipT {elts : List Expr} {kk : Nat} {tpos : Pos} (hm : X.mg "zip" = none) (ha : EE X σ S a (Dt X.K (.tuple ds1))) (hb : EE X σ S b (Dt X.K (.tuple ds2))) (hg : Gl X "zip" := by rfl)
    (hs : starEach [a, b] X.env = (false, eval a X.env) :: starEach [b] X.env := by rfl) (hs2 : starEach [b] X.env = (false, eval b X.env) :: starEach [] X.env := by rfl) (hpl : (backTo pos (starEach [b] X.env)).any (·.1) = false := by rfl) :
    EI X σ S (.Tuple elts kk tpos) (.Call (.Name "zip" p) [a, b] [] pos) (Ds X.K (zipD ds1 ds2)) := fun H s R q =>
  hi_of (RZ.pi_zipA hg hm pab hs hpl) ((ea_2 ha hb hs hs2).2 H s _ fun vs S1 H1 g1 al => by
    obtain ⟨v, w, rfl, pv, pw⟩ := al.two
    obtain ⟨l, xs, rfl, hl, hx, _⟩ := pv.tup_inv
    obtain ⟨m, ys, rfl, hm, hy, _⟩ := pw.tup_inv
    have hlen : (Ds X.K (zipD ds1 ds2)).length = min xs.length ys.length := by rw [ds_len]; unfold zipD; rw [List.length_zipWith, hx.1, hy.1]
    refine ⟨l, m, xs, ys, rfl, .inr ⟨sqt_up g1.sub hl, sqt_up g1.sub hm, q _ S1 H1 g1 ⟨fun i H hi hs => ?_, fun H hs => ?_, fun i H x H' hi hs y T st th => ?_⟩⟩⟩
    · rw [hlen] at hi
      exact ⟨xs, ys, xs[i]'(by omega), ys[i]'(by omega), sqt_up hs hl, sqt_up hs hm, by simp [show i < xs.length by omega], by simp [show i < ys.length by omega]⟩
    · rw [hlen]
      exact ⟨xs, ys, sqt_up hs hl, sqt_up hs hm, by omega⟩
    · rw [hlen] at hi
      obtain ⟨t, x1, y1, rfl, ht, rfl, k1, k2⟩ := y
      have i1 : i < ds1.length := by rw [← hx.1]; omega
      have i2 : i < ds2.length := by rw [← hy.1]; omega
      exact ⟨_, Gr.new th ht, _, ds_get (zipD_get (List.getElem?_eq_getElem i1) (List.getElem?_eq_getElem i2)), pair_new th ht ((hx.2 i _ _ (k1 xs (sqt_up hs hl)) (List.getElem?_eq_getElem i1)).up st) ((hy.2 i _ _ (k2 ys (sqt_up hs hm)) (List.getElem?_eq_getElem i2)).up st)⟩)
theorem ei_zipL {elts : List Expr} {kk : Nat} {tpos : Pos} (hm : X.mg "zip" = none) (ha : EE X σ S a (Dt X.K (.list ds1))) (hb : EE X σ S b (Dt X.K (.list ds2))) (hg : Gl X "zip" := by rfl)
    (hs : starEach [a, b] X.env = (false, eval a X.env) :: starEach [b] X.env := by rfl) (hs2 : starEach [b] X.env = (false, eval b X.env) :: starEach [] X.env := by rfl) (hpl : (backTo pos (starEach [b] X.env)).any (·.1) = false := by rfl) :
    EI X σ S (.Tuple elts kk tpos) (.Call (.Name "zip" p) [a, b] [] pos) (Ds X.K (zipD ds1 ds2)) := fun H s R q =>
  hi_of (RZ.pi_zipA hg hm pab hs hpl) ((ea_2 ha hb hs hs2).2 H s _ fun vs S1 H1 g1 al => by
    obtain ⟨v, w, rfl, pv, pw⟩ := al.two
    obtain ⟨l, xs, rfl, hl, hx, _⟩ := pv.lst_inv
    obtain ⟨m, ys, rfl, hm, hy, _⟩ := pw.lst_inv
    have hlen : (Ds X.K (zipD ds1 ds2)).length = min xs.length ys.length := by rw [ds_len]; unfold zipD; rw [List.length_zipWith, hx.1, hy.1]
    refine ⟨l, m, xs, ys, rfl, .inl ⟨sql_of (g1.sub _ _ hl), sql_of (g1.sub _ _ hm), q _ S1 H1 g1 ⟨fun i H hi hs => ?_, fun H hs => ?_, fun i H x H' hi hs y T st th => ?_⟩⟩⟩
    · rw [hlen] at hi
      exact ⟨xs, ys, xs[i]'(by omega), ys[i]'(by omega), sql_of (hs _ _ hl), sql_of (hs _ _ hm), by simp [show i < xs.length by omega], by simp [show i < ys.length by omega]⟩
    · rw [hlen]
      exact ⟨xs, ys, sql_of (hs _ _ hl), sql_of (hs _ _ hm), by omega⟩
    · rw [hlen] at hi
      obtain ⟨t, x1, y1, rfl, ht, rfl, k1, k2⟩ := y
      have i1 : i < ds1.length := by rw [← hx.1]; omega
      have i2 : i < ds2.length := by rw [← hy.1]; omega
      exact ⟨_, Gr.new th ht, _, ds_get (zipD_get (List.getElem?_eq_getElem i1) (List.getElem?_eq_getElem i2)), pair_new th ht ((hx.2 i _ _ (k1 xs (sql_of (hs _ _ hl))) (List.getElem?_eq_getElem i1)).up st) ((hy.2 i _ _ (k2 ys (sql_of (hs _ _ hm))) (List.getElem?_eq_getElem i2)).up st)⟩)
def enumD (xs : List PyData) : List PyData := zipD (upto xs.length) xs
theorem ei_enumL {elts : List Expr} {kk : Nat} {tpos : Pos} (hm : X.mg "enumerate" = none) (ha : EE X σ S a (Dt X.K (.list ds))) (hg : Gl X "enumerate" := by rfl) (hs : starEach [a] X.env = [(false, eval a X.env)] := by rfl) :
    EI X σ S (.Tuple elts kk tpos) (.Call (.Name "enumerate" p) [a] [] pos) (Ds X.K (enumD ds)) := fun H s R q =>
  hi_of (pi_enum hg hm pab hs) ((ea_1 ha (by rw [hs]; rfl)).2 H s _ fun vs S1 H1 g1 al => by
    obtain ⟨v, rfl, pv⟩ := al.one
    obtain ⟨l, xs, rfl, hl, hx, _⟩ := pv.lst_inv
    have hlen : (Ds X.K (enumD ds)).length = xs.length := by rw [ds_len]; unfold enumD zipD; rw [List.length_zipWith, upto_len, hx.1]; omega
    refine ⟨l, xs, rfl, sql_of (g1.sub _ _ hl), q _ S1 H1 g1 ⟨fun i H hi hs => ?_, fun H hs => ?_, fun i H x H' hi hs y T st th => ?_⟩⟩
    · rw [hlen] at hi
      exact ⟨xs, xs[i], sql_of (hs _ _ hl), by simp [hi]⟩
    · rw [hlen]
      exact ⟨xs, sql_of (hs _ _ hl), Nat.le_refl _⟩
    · rw [hlen] at hi
      obtain ⟨t, x1, rfl, ht, rfl, k1⟩ := y
      have i1 : i < ds.length := by rw [← hx.1]; omega
      exact ⟨_, Gr.new th ht, _, ds_get (zipD_get (upto_get i1) (List.getElem?_eq_getElem i1)), pair_new th ht (.int _) ((hx.2 i _ _ (k1 xs (sql_of (hs _ _ hl))) (List.getElem?_eq_getElem i1)).up st)⟩)
def strD (z : Str) : List PyData := z.cps.toList.map fun c => .str ⟨#[c]⟩
theorem ei_str {z : Str} (ha : EE X σ S e (Dt X.K (.str z))) (he : PI X tg e (iStr (bE X e)) := by exact pi_str peb) : EI X σ S tg e (Ds X.K (strD z)) := fun H s R q =>
  hi_of he (ha H s _ fun v S1 H1 g1 pv => by
    cases pv
    have hlen : (Ds X.K (strD z)).length = z.cps.size := by rw [ds_len]; unfold strD; simp
    refine ⟨z, rfl, q _ S1 H1 g1 ⟨fun i H hi hs => ?_, fun H hs => ?_, fun i H x H' hi hs y T st th => ?_⟩⟩
    · rw [hlen] at hi; exact hi
    · rw [hlen]; exact Nat.le_refl _
    · rw [hlen] at hi
      obtain ⟨rfl, c, hc, rfl⟩ := y
      refine ⟨T, Gr.refl th, _, ds_get (d := .str ⟨#[c]⟩) ?_, .str _⟩
      unfold strD
      rw [List.getElem?_map, Array.getElem?_toList, hc]
      rfl)
end
/-! ## 9. list comprehensions -/
def Ex (K : PySem.W.Frag) (F : PyData → Prop) : V → Hp → Prop := fun v S => ∃ d, F d ∧ Dt K d v S
instance {K : PySem.W.Frag} {F : PyData → Prop} : Mn (Ex K F) := ⟨fun s ⟨d, f, h⟩ => ⟨d, f, h.up s⟩⟩
def HTs (X : Cx) (ifs : List Expr) (σ : L2.St) (H : Hp) (Q : Bool → Hp → Prop) : Prop := ∀ (pins : List (Addr × Obj)) (s : Shared), Inv X pins σ H s →
    wpAny (model X.prog X.w) X.A (forIn ifs true fun c r => if r = true then do let ok ← isTrue c X.env (eval c X.env); pure (ForInStep.yield ok) else pure (ForInStep.yield r)) (TP X pins σ Q) X.xe s
def ETs (X : Cx) (σ : L2.St) (S : Hp) (ifs : List Expr) (b : Bool) : Prop := ∀ H, Same S H → ∀ Q : Bool → Hp → Prop, (∀ S' H', Gr S H S' H' → Q b H') → HTs X ifs σ H Q
theorem ets_nil {X : Cx} {σ : L2.St} {S : Hp} : ETs X σ S [] true := fun H s Q q pins sh I => pts_nil.run pins sh σ H Q I (q S H (Gr.refl s))
/-- a target that takes the value: the slots behind -/
def EG (X : Cx) (S : Hp) (tg : Expr) (v : V) (σ τ : L2.St) : Prop := ∀ H, Same S H → ∀ Q : L2.St → Hp → Prop, Q τ H → HG X tg v σ H Q
theorem eg_name {X : Cx} {S : Hp} {v : V} {σ : L2.St} {i : Nat} {x : Str} {pos : Pos} (hN : X.N.Nodup) (hi : X.N[i]? = some x) (hx : Loc X.env.scope x) (hf : X.fn x = true ∨ X.env.scope.names.lookup x = some .local := by first | exact .inl rfl | exact .inr rfl | assumption) : EG X S (.Name x pos) v σ (σ.set i (some v)) := fun H _ Q q => hg_of (pg_name hN hi hx hf) q
/-- two names from a pair -/
theorem eg_pair {X : Cx} {S : Hp} {d1 d2 : PyData} {v : V} {σ : L2.St} {i j : Nat} {x y : Str} {px py pos : Pos} {kk : Nat} (hc : X.calm = true) (hN : X.N.Nodup) (hi : X.N[i]? = some x) (hj : X.N[j]? = some y) (hx : Loc X.env.scope x) (hy : Loc X.env.scope y) (h : Dt X.K (.tuple [d1, d2]) v S)
    (hfx : X.fn x = true ∨ X.env.scope.names.lookup x = some .local := by first | exact .inl rfl | exact .inr rfl) (hfy : X.fn y = true ∨ X.env.scope.names.lookup y = some .local := by first | exact .inl rfl | exact .inr rfl)
    (hn : (assignEach [.Name x px, .Name y py] X.env).length = 2 := by rfl) (hst : (assignEach [.Name x px, .Name y py] X.env).findIdx? (·.1) = none := by rfl)
    (h1 : (assignEach [.Name x px, .Name y py] X.env).map (·.2) = assign (.Name x px) X.env :: (assignEach [.Name y py] X.env).map (·.2) := by rfl) (h2 : (assignEach [.Name y py] X.env).map (·.2) = assign (.Name y py) X.env :: (assignEach [] X.env).map (·.2) := by rfl) :
    ∃ v1 v2, Dt X.K d1 v1 S ∧ Dt X.K d2 v2 S ∧ EG X S (.Tuple [.Name x px, .Name y py] kk pos) v σ ((σ.set i (some v1)).set j (some v2)) := by
  obtain ⟨l, xs, rfl, hl, hx', _⟩ := h.tup_inv
  obtain ⟨v1, e1, p1⟩ := hx'.get (i := 0) rfl
  obtain ⟨v2, e2, p2⟩ := hx'.get (i := 1) rfl
  have hxs : xs = [v1, v2] := by
    have hl2 := hx'.1
    match xs, hl2 with
    | [u, w], _ => simp at e1 e2; rw [e1, e2]
  subst hxs
  exact ⟨v1, v2, p1, p2, fun H s Q q => hg_of (pg_tup hc (pgs_cons (pg_name hN hi hx hfx) (pgs_cons (pg_name hN hj hy hfy) pgs_nil h2) h1) hn hst) ⟨l, _, rfl, sqt_up s hl, rfl, _, _, rfl, _, _, rfl, rfl, q⟩⟩
theorem paired_snoc {α β : Type} {G : α → β → Prop} : ∀ {l : List α} {r : List β} {x : α} {y : β}, Paired G l r → G x y → Paired G (l ++ [x]) (r ++ [y])
  | _, _, _, _, .nil, h => .cons h .nil
  | _, _, _, _, .cons g t, h => .cons g (paired_snoc t h)
theorem paired_map {α β : Type} {f : α → β} : ∀ {l : List α} {r : List β}, Paired (fun a b => b = f a) l r → r = l.map f
  | _, _, .nil => rfl
  | _, _, .cons g t => by rw [g, paired_map t]; rfl
theorem take_snoc {α : Type} {l : List α} {i : Nat} {x : α} (h : l[i]? = some x) : l.take (i + 1) = l.take i ++ [x] := by
  rw [List.take_add_one, h]
  rfl
def gBlk (X : Cx) (scope : Scope) (tg : Expr) : TG := fun v σ' H' Q' => ∀ (s : Shared) (H0 : Hp) (C : Addr) (cl : List (Str × Addr)) (fp : List Addr), HG (X.blk s H0 scope (compEnvC scope cl C X.env) fp) tg v σ' H' Q'
def tBlk (X : Cx) (scope : Scope) (ifs : List Expr) : TT := fun σ' H' Q' => ∀ (s : Shared) (H0 : Hp) (C : Addr) (cl : List (Str × Addr)) (fp : List Addr), HTs (X.blk s H0 scope (compEnvC scope cl C X.env) fp) ifs σ' H' Q'
def eBlk (X : Cx) (scope : Scope) (e : Expr) : TE := fun σ' H' Q' => ∀ (s : Shared) (H0 : Hp) (C : Addr) (cl : List (Str × Addr)) (fp : List Addr), HE (X.blk s H0 scope (compEnvC scope cl C X.env) fp) e σ' H' Q'
section
variable {X : Cx} {σ : L2.St} {S : Hp} {elt tg iter : Expr} {ifs : List Expr} {scope : Scope} {own : List (Str × Nat)} {pos : Pos} {ds : List PyData} {p : PyData → Bool} {G : PyData → PyData → Prop}
theorem lc_loopG (hz : ds.length ≤ sizeLine)
    (hel : ∀ d ∈ ds, ∀ v S', Same S S' → Dt X.K d v S' → ∃ τ, wipe τ (own.map (·.2)) = wipe σ (own.map (·.2)) ∧ ∀ (s : Shared) (H0 : Hp) (C : Addr) (cl : List (Str × Addr)) (fp : List Addr),
      EG (X.blk s H0 scope (compEnvC scope cl C X.env) fp) S' tg v (wipe σ (own.map (·.2))) τ ∧ ETs (X.blk s H0 scope (compEnvC scope cl C X.env) fp) τ S' ifs (p d) ∧ (p d = true → EE (X.blk s H0 scope (compEnvC scope cl C X.env) fp) τ S' elt (Ex X.K (G d)))) {H : Hp} (Q : VK) (q : ∀ v S' H', Gr S H S' H' → (∃ rs, Paired G (ds.filter p) rs ∧ Dt X.K (.list rs) v S') → Q v H') {J : It} {S1 H1 : Hp} (g1 : Gr S H S1 H1) (it : ItP J S1 (Ds X.K ds)) :
    ∀ D, H1 D = none → ∃ W : Nat → Nat → Hp → Prop, (∃ m, W 0 m (upd H1 D (.lst []))) ∧ ∀ i m H, W i m H →
      (J.stop i H ∧ Q (.ref D) H) ∨ (J.go i H ∧ ∃ Nx : Hp → Prop, (∀ H', Nx H' → ∃ m', m' < m ∧ W (i + 1) m' H') ∧ ∀ x H', J.yld i H x H' → gBlk X scope tg x (wipe σ (own.map (·.2))) H' fun σ2 H2 => wipe σ2 (own.map (·.2)) = wipe σ (own.map (·.2)) ∧ tBlk X scope ifs σ2 H2 fun b H3 =>
        if b = true then eBlk X scope elt σ2 H3 fun y H4 => ∃ acc, H4 D = some (.lst acc) ∧ acc.length < sizeLine ∧ Nx (upd H4 D (.lst (acc ++ [y]))) else Nx H3) := by
  intro D hD
  have hD1 : S1 D = none := g1.sub.free hD
  have hlen : (Ds X.K ds).length = ds.length := ds_len
  refine lc_it (g := gBlk X scope tg) (tt := tBlk X scope ifs) (te := eBlk X scope elt) (vs := own.map (·.2)) (σ := σ) (Qd := Q (.ref D)) it (fun i H' => ∃ S' xs rs, Same S1 S' ∧ Same S' H' ∧ Same H1 H' ∧ (∀ a o, H1 a = some o → NT o → S' a = S1 a) ∧ S' D = none ∧ H' D = some (.lst xs) ∧ Paired G ((ds.take i).filter p) rs ∧ Dts X.K rs xs S' ∧ xs.length ≤ i)
    ⟨S1, [], [], Same.refl _, Same.mut g1.sub hD1, Same.new hD, fun _ _ _ _ => rfl, hD1, upd_same, .nil, .nil, Nat.le_refl _⟩ (fun i H' _ ⟨S', _, _, a, b, _⟩ => a.trans b) ?_ ?_
  · intro i x H2 H3 hi2 ⟨S2, xs, rs, k1, k2, k3, k4, k5, k6, k7, k8, k9⟩ y
    rw [hlen] at hi2
    obtain ⟨S3, g3, P, hP, px⟩ := y S2 k1 k2
    obtain ⟨d, hd⟩ : ∃ d, ds[i]? = some d := ⟨ds[i], List.getElem?_eq_getElem hi2⟩
    rw [ds_get hd] at hP
    obtain rfl := Option.some.inj hP
    have sS3 : Same S S3 := g1.st.trans (k1.trans g3.st)
    obtain ⟨τ, hw, hb⟩ := hel d (List.mem_of_getElem? hd) x S3 sS3 px
    have hf : ∀ q, p d = q → (ds.take (i + 1)).filter p = (ds.take i).filter p ++ (if q = true then [d] else []) := fun q hq => by
      rw [take_snoc hd, List.filter_append]
      cases q with
      | true => simp [hq]
      | false => simp [hq]
    intro sh H0 C cl fp
    refine (hb sh H0 C cl fp).1 H3 g3.sub _ ⟨hw, ?_⟩
    intro sh' H0' C' cl' fp'
    refine (hb sh' H0' C' cl' fp').2.1 H3 g3.sub _ fun S4 H4 g4 => ?_
    have g34 := g3.trans g4
    cases hpd : p d with
    | false =>
      refine iteF ⟨S4, xs, rs, k1.trans g34.st, g34.sub, k3.trans g34.hh, fun a o h n => (g34.old a o (k3 a o h) n).trans (k4 a o h n), (g34.old D _ k6 (fun _ z => nomatch z)).trans k5, g34.hh _ _ k6, ?_, k8.up g34.st, by omega⟩
      rw [hf false hpd]
      simpa using k7
    | true =>
      refine iteT ?_
      intro sh'' H0'' C'' cl'' fp''
      refine ((hb sh'' H0'' C'' cl'' fp'').2.2 hpd).up g4.st H4 g4.sub _ fun w S5 H5 g5 ⟨r, hr, hrw⟩ => ?_
      have g := g34.trans g5
      have hD5 : S5 D = none := (g.old D _ k6 (fun _ z => nomatch z)).trans k5
      refine ⟨xs, g.hh _ _ k6, Nat.lt_of_le_of_lt k9 (Nat.lt_of_lt_of_le hi2 hz), S5, xs ++ [w], rs ++ [r], k1.trans g.st, Same.mut g.sub hD5, fun a o h => ?_, fun a o h n => (g.old a o (k3 a o h) n).trans (k4 a o h n), hD5, upd_same, ?_, (k8.up g.st).snoc hrw, by rw [List.length_append]; show xs.length + 1 ≤ i + 1; omega⟩
      · rw [upd_ne (ne_of_none h hD)]; exact g.hh _ _ (k3 a o h)
      · rw [hf true hpd]
        exact paired_snoc k7 hr
  · intro H2 ⟨S2, xs, rs, k1, k2, k3, k4, k5, k6, k7, k8, k9⟩
    rw [hlen] at k7 k9
    rw [List.take_length] at k7
    refine q _ (upd S2 D (.lst xs)) H2 (g1.trans ⟨k1.trans (Same.new k5), fun a o h => ?_, k3, fun a o h n => by rw [upd_ne (ne_of_none h hD)]; exact k4 a o h n⟩) ⟨rs, k7, Dt.lst_mk upd_same (k8.up (Same.new k5)) (Nat.le_trans k9 hz)⟩
    by_cases ha : a = D
    · subst ha; rw [upd_same] at h; rw [k6]; exact h
    · rw [upd_ne ha] at h; exact k2 a o h
theorem lc_readG (hi : EI X σ S tg iter (Ds X.K ds)) (hz : ds.length ≤ sizeLine)
    (hel : ∀ d ∈ ds, ∀ v S', Same S S' → Dt X.K d v S' → ∃ τ, wipe τ (own.map (·.2)) = wipe σ (own.map (·.2)) ∧ ∀ (s : Shared) (H0 : Hp) (C : Addr) (cl : List (Str × Addr)) (fp : List Addr),
      EG (X.blk s H0 scope (compEnvC scope cl C X.env) fp) S' tg v (wipe σ (own.map (·.2))) τ ∧ ETs (X.blk s H0 scope (compEnvC scope cl C X.env) fp) τ S' ifs (p d) ∧ (p d = true → EE (X.blk s H0 scope (compEnvC scope cl C X.env) fp) τ S' elt (Ex X.K (G d)))) {H : Hp} (s : Same S H) (Q : VK) (q : ∀ v S' H', Gr S H S' H' → (∃ rs, Paired G (ds.filter p) rs ∧ Dt X.K (.list rs) v S') → Q v H') :
    tLc (bI X tg iter) (gBlk X scope tg) (tBlk X scope ifs) (eBlk X scope elt) (own.map (·.2)) σ H Q := hi H s _ fun J S1 H1 g1 it => lc_loopG hz hel Q q g1 it
theorem ee_lcG (hc : X.calm = true) (hN : X.N.Nodup) (ok : BlkOk X.N X.env.scope scope own) (hi : EI X σ S tg iter (Ds X.K ds)) (hz : ds.length ≤ sizeLine)
    (hel : ∀ d ∈ ds, ∀ v S', Same S S' → Dt X.K d v S' → ∃ τ, wipe τ (own.map (·.2)) = wipe σ (own.map (·.2)) ∧ ∀ (s : Shared) (H0 : Hp) (C : Addr) (cl : List (Str × Addr)) (fp : List Addr),
      EG (X.blk s H0 scope (compEnvC scope cl C X.env) fp) S' tg v (wipe σ (own.map (·.2))) τ ∧ ETs (X.blk s H0 scope (compEnvC scope cl C X.env) fp) τ S' ifs (p d) ∧ (p d = true → EE (X.blk s H0 scope (compEnvC scope cl C X.env) fp) τ S' elt (Ex X.K (G d))))
    (hs : ∀ x, foldedSetIterable iter X.env x = pure x := by intro _; rfl) :
    EE X σ S (.ListComp elt [⟨tg, iter, ifs, 0⟩] scope pos) (fun v S' => ∃ rs, Paired G (ds.filter p) rs ∧ Dt X.K (.list rs) v S') := fun H s Q q =>
  he_of (pe_lc (own := own) (wi := bI X tg iter) (g := gBlk X scope tg) (tt := tBlk X scope ifs) (te := eBlk X scope elt) hc hN pib ok
    (fun s H0 C cl fp => ⟨fun pins sh σ' H' v u Q' I r h => h s H0 C cl fp pins sh u I r⟩) (fun s H0 C cl fp => ⟨fun pins sh σ' H' Q' I h => h s H0 C cl fp pins sh I⟩) (fun s H0 C cl fp => ⟨fun pins sh σ' H' Q' I h => h s H0 C cl fp pins sh I⟩) hs) (lc_readG hi hz hel s Q q)
/-- name = [..] on one line, the name a local -/
theorem hs_setLcG {D : Ends} {rest : List Stmt} {i : Nat} {y : Str} {py spos : Pos} {H : Hp} (hc : X.calm = true) (hN : X.N.Nodup) (hy : X.N[i]? = some y) (hyl : X.env.scope.names.lookup y = some .local)
    (hsw : swapsWith (.ListComp elt [⟨tg, iter, ifs, 0⟩] scope pos) (some (.Name y py)) spos.line X.env = pure true) (ok : BlkOk X.N X.env.scope scope own) (hi : EI X σ S tg iter (Ds X.K ds)) (hz : ds.length ≤ sizeLine)
    (hel : ∀ d ∈ ds, ∀ v S', Same S S' → Dt X.K d v S' → ∃ τ, wipe τ (own.map (·.2)) = wipe σ (own.map (·.2)) ∧ ∀ (s : Shared) (H0 : Hp) (C : Addr) (cl : List (Str × Addr)) (fp : List Addr),
      EG (X.blk s H0 scope (compEnvC scope cl C X.env) fp) S' tg v (wipe σ (own.map (·.2))) τ ∧ ETs (X.blk s H0 scope (compEnvC scope cl C X.env) fp) τ S' ifs (p d) ∧ (p d = true → EE (X.blk s H0 scope (compEnvC scope cl C X.env) fp) τ S' elt (Ex X.K (G d)))) (s : Same S H)
    (q : ∀ v S' H', Gr S H S' H' → (∃ rs, Paired G (ds.filter p) rs ∧ Dt X.K (.list rs) v S') → HS X D rest (σ.set i (some v)) H')
    (hs : ∀ x, foldedSetIterable iter X.env x = pure x := by intro _; rfl) : HS X D (.Assign [.Name y py] (.ListComp elt [⟨tg, iter, ifs, 0⟩] scope pos) spos :: rest) σ H :=
  hs_of (pss_cons (ps_setLc (i := i) (own := own) (wi := bI X tg iter) (g := gBlk X scope tg) (tt := tBlk X scope ifs) (te := eBlk X scope elt) hc hN hy hyl hsw pib ok
    (fun s H0 C cl fp => ⟨fun pins sh σ' H' v u Q' I r h => h s H0 C cl fp pins sh u I r⟩) (fun s H0 C cl fp => ⟨fun pins sh σ' H' Q' I h => h s H0 C cl fp pins sh I⟩) (fun s H0 C cl fp => ⟨fun pins sh σ' H' Q' I h => h s H0 C cl fp pins sh I⟩) hs) psb) (lc_readG hi hz hel s _ q)
/-- each item by a function, under a test -/
theorem fun_of_G {f : PyData → PyData} {v : V} {S' : Hp} {K : PySem.W.Frag} (h : ∃ rs, Paired (fun d r => r = f d) (ds.filter p) rs ∧ Dt K (.list rs) v S') : Dt K (.list ((ds.filter p).map f)) v S' := by
  obtain ⟨rs, h1, h2⟩ := h
  rw [paired_map h1] at h2
  exact h2
end
end Z
namespace Z
open PySem PySem.Spec PyProof.Rows L2
/-! ## 10. statements -/
section
variable {X : Cx} {σ : L2.St} {S H : Hp} {e a b c : Expr} {P : V → Hp → Prop} {pos p : Pos} {D : Ends} {rest body orelse : List Stmt} {k : Bool} {st : Stmt} {d d1 d2 : PyData} {ds : List PyData}
theorem hs_cons {t : TS} (h : PS X st t) (q : t { D with nx := fun σ' H' => HS X D rest σ' H' } σ H) : HS X D (st :: rest) σ H := hs_of (pss_cons h psb) q
theorem hs_nil (q : D.nx σ H) : HS X D [] σ H := hs_of pss_nil q
theorem hs_set {i : Nat} {x : Str} {pos' : Pos} (h : EE X σ S e P) (s : Same S H) (hN : X.N.Nodup) (q : ∀ v S' H', Gr S H S' H' → P v S' → HS X D rest (σ.set i (some v)) H') (hi : X.N[i]? = some x := by rfl) (hx : Loc X.env.scope x := by first | exact Or.inl rfl | exact Or.inr rfl)
    (hs : swapsWith e (some (.Name x pos')) pos.line X.env = pure false := by rfl) (hf : X.fn x = true ∨ X.env.scope.names.lookup x = some .local := by first | exact .inl rfl | exact .inr rfl | assumption) : HS X D (.Assign [.Name x pos'] e pos :: rest) σ H :=
  hs_cons (ps_set hN hi hx peb hs hf) (h H s _ fun v S' H' g pv => q v S' H' g pv)
theorem hs_ret (h : EE X σ S e P) (s : Same S H) (q : ∀ v S' H', Gr S H S' H' → P v S' → D.rt v H') : HS X D (.Return (some e) pos :: rest) σ H := hs_cons (ps_ret peb) (h H s _ q)
theorem hs_expr (h : EE X σ S e P) (s : Same S H) (q : ∀ v S' H', Gr S H S' H' → P v S' → HS X D rest σ H') (hs : swapsWith e none pos.line X.env = pure false := by rfl) : HS X D (.Expr e pos :: rest) σ H := hs_cons (ps_expr peb hs) (h H s _ q)
/-- the ends of a block that stands ahead of rest -/
def Dn (X : Cx) (D : Ends) (rest : List Stmt) : Ends := { D with nx := fun σ' H' => HS X D rest σ' H' }
theorem hs_if (h : ET X σ S c k) (s : Same S H) (qt : k = true → ∀ S' H', Gr S H S' H' → HS X (Dn X D rest) body σ H') (qf : k = false → ∀ S' H', Gr S H S' H' → HS X (Dn X D rest) orelse σ H') : HS X D (.If c body orelse pos :: rest) σ H :=
  hs_cons (ps_if ptb psb psb) (h H s _ fun S' H' g => by
    cases k with
    | true => exact iteT (qt rfl S' H' g)
    | false => exact iteF (qf rfl S' H' g))
theorem hs_ifT (h : ET X σ S c true) (s : Same S H) (q : ∀ S' H', Gr S H S' H' → HS X (Dn X D rest) body σ H') : HS X D (.If c body orelse pos :: rest) σ H := hs_if h s (fun _ => q) (fun z => nomatch z)
/-- not taken, and there is no else -/
theorem hs_ifN (h : ET X σ S c false) (s : Same S H) (q : ∀ S' H', Gr S H S' H' → HS X D rest σ H') : HS X D (.If c body [] pos :: rest) σ H := hs_if h s (fun z => nomatch z) (fun _ S' H' g => hs_nil (q S' H' g))
theorem mn_eq {v : V} : Mn (fun (w : V) (_ : Hp) => w = v) := ⟨fun _ h => h⟩
/-- a, b, c = x, y, z with plain names -/
theorem hs_par3 {i j l : Nat} {x y z : Str} {Pa Pb Pc : V → Hp → Prop} [Mn Pa] [Mn Pb] [Mn Pc] {px py pz pt : Pos} {kt k2 pt2} (hc : X.calm = true) (hN : X.N.Nodup) (ha : EE X σ S a Pa) (hb : EE X σ S b Pb) (hcc : EE X σ S c Pc) (s : Same S H)
    (hw : swappedStores [.Tuple [.Name x px, .Name y py, .Name z pz] kt pt] (.Tuple [a, b, c] k2 pt2) X.env = pure (some [x, y, z]))
    (q : ∀ v w u S' H', Gr S H S' H' → Pa v S' → Pb w S' → Pc u S' → HS X D rest (((σ.set i (some v)).set j (some w)).set l (some u)) H')
    (hi : X.N[i]? = some x := by rfl) (hj : X.N[j]? = some y := by rfl) (hl : X.N[l]? = some z := by rfl) (hij : i ≠ j := by decide) (hil : i ≠ l := by decide) (hjl : j ≠ l := by decide)
    (hx : X.env.scope.names.lookup x = some .local := by rfl) (hy : X.env.scope.names.lookup y = some .local := by rfl) (hz : X.env.scope.names.lookup z = some .local := by rfl)
    (hs : starEach [a, b, c] X.env = (false, eval a X.env) :: starEach [b, c] X.env := by rfl) (hs2 : starEach [b, c] X.env = (false, eval b X.env) :: starEach [c] X.env := by rfl) (hs3 : starEach [c] X.env = (false, eval c X.env) :: starEach [] X.env := by rfl)
    (hss : swapsWithSole [.Tuple [.Name x px, .Name y py, .Name z pz] kt pt] (.Tuple [a, b, c] k2 pt2) pos.line X.env = pure false := by rfl) : HS X D (.Assign [.Tuple [.Name x px, .Name y py, .Name z pz] kt pt] (.Tuple [a, b, c] k2 pt2) pos :: rest) σ H :=
  hs_cons (ps_par3 hc hN hi hj hl hij hil hjl hx hy hz pab hw hss) ((ea_cons ha (ea_2 hb hcc hs2 hs3) hs).2 H s _ fun vs S' H' g al => by
    obtain ⟨v, w, u, rfl, p1, p2, p3⟩ := al.three
    exact ⟨v, w, u, rfl, q v w u S' H' g p1 p2 p3⟩)
/-- a, b = e, e a pair -/
theorem hs_unpack {i j : Nat} {x y : Str} {px py pt : Pos} {kt : Nat} (hc : X.calm = true) (hN : X.N.Nodup) (ha : EE X σ S e (Dt X.K (.tuple [d1, d2]))) (s : Same S H)
    (q : ∀ v w S' H', Gr S H S' H' → Dt X.K d1 v S' → Dt X.K d2 w S' → HS X D rest ((σ.set i (some v)).set j (some w)) H')
    (hi : X.N[i]? = some x := by rfl) (hj : X.N[j]? = some y := by rfl) (hx : Loc X.env.scope x := by first | exact Or.inl rfl | exact Or.inr rfl) (hy : Loc X.env.scope y := by first | exact Or.inl rfl | exact Or.inr rfl)
    (hfx : X.fn x = true ∨ X.env.scope.names.lookup x = some .local := by first | exact .inl rfl | exact .inr rfl) (hfy : X.fn y = true ∨ X.env.scope.names.lookup y = some .local := by first | exact .inl rfl | exact .inr rfl)
    (hn : (assignEach [.Name x px, .Name y py] X.env).length = 2 := by rfl) (hst : (assignEach [.Name x px, .Name y py] X.env).findIdx? (·.1) = none := by rfl)
    (h1 : (assignEach [.Name x px, .Name y py] X.env).map (·.2) = assign (.Name x px) X.env :: (assignEach [.Name y py] X.env).map (·.2) := by rfl) (h2 : (assignEach [.Name y py] X.env).map (·.2) = assign (.Name y py) X.env :: (assignEach [] X.env).map (·.2) := by rfl)
    (hss : swapsWithSole [.Tuple [.Name x px, .Name y py] kt pt] e pos.line X.env = pure false := by rfl) (hw : swappedStores [.Tuple [.Name x px, .Name y py] kt pt] e X.env = pure none := by rfl)
    (h3 : (assignEach [.Tuple [.Name x px, .Name y py] kt pt] X.env).map (·.2) = [assign (.Tuple [.Name x px, .Name y py] kt pt) X.env] := by rfl) : HS X D (.Assign [.Tuple [.Name x px, .Name y py] kt pt] e pos :: rest) σ H :=
  hs_cons (ps_asg peb pgb hss hw h3) (ha H s _ fun v S' H' g pv => by
    obtain ⟨v1, v2, p1, p2, hg⟩ := eg_pair (σ := σ) (px := px) (py := py) (pos := pt) (kk := kt) hc hN hi hj hx hy pv hfx hfy hn hst h1 h2
    exact hg H' g.sub _ (q v1 v2 S' H' g p1 p2))
theorem hs_mono {D' : Ends} {st : List Stmt} (h : HS X D st σ H) (h1 : ∀ σ H, D.nx σ H → D'.nx σ H) (h2 : ∀ v H, D.rt v H → D'.rt v H) (h3 : ∀ σ H, D.bk σ H → D'.bk σ H) (h4 : ∀ σ H, D.ct σ H → D'.ct σ H) : HS X D' st σ H := fun pins s I => thn (h pins s I) fun f s' q => by
  cases f with
  | next => obtain ⟨σ', H', I', z⟩ := q; exact ⟨σ', H', I', h1 _ _ z⟩
  | brk => obtain ⟨σ', H', I', z⟩ := q; exact ⟨σ', H', I', h3 _ _ z⟩
  | cont => obtain ⟨σ', H', I', z⟩ := q; exact ⟨σ', H', I', h4 _ _ z⟩
  | ret u => obtain ⟨v, σ', H', I', r, z⟩ := q; exact ⟨v, σ', H', I', r, h2 _ _ z⟩
/-- the ends of a statement that leads to M -/
def Dj (D : Ends) (S H : Hp) (M : L2.St → Hp → Prop) : Ends := { D with nx := fun σ' H' => ∃ S', Gr S H S' H' ∧ M σ' S' }
/-- an if whose ways meet in M -/
theorem hs_ifJ (M : L2.St → Hp → Prop) (h : ET X σ S c k) (s : Same S H) (qt : k = true → ∀ S' H', Gr S H S' H' → HS X (Dj D S' H' M) body σ H') (qf : k = false → ∀ S' H', Gr S H S' H' → HS X (Dj D S' H' M) orelse σ H')
    (h2 : ∀ σ' S' H', Gr S H S' H' → M σ' S' → HS X D rest σ' H') : HS X D (.If c body orelse pos :: rest) σ H :=
  hs_cons (ps_if ptb psb psb) (h H s _ fun S' H' g => by
    have key : ∀ st, HS X (Dj D S' H' M) st σ H' → HS X (Dn X D rest) st σ H' := fun st z => hs_mono z (fun σ' H2 ⟨S2, g2, m⟩ => h2 σ' S2 H2 (g.trans g2) m) (fun _ _ z => z) (fun _ _ z => z) (fun _ _ z => z)
    cases k with
    | true => exact iteT (key _ (qt rfl S' H' g))
    | false => exact iteF (key _ (qf rfl S' H' g)))
/-- the ends of a turn: Iv again behind it -/
def Dl (X : Cx) (D : Ends) (rest : List Stmt) (S H : Hp) (Iv : L2.St → Hp → Prop) : Ends :=
  { D with nx := fun σ' H' => ∃ S', Gr S H S' H' ∧ Iv σ' S', ct := fun σ' H' => ∃ S', Gr S H S' H' ∧ Iv σ' S', bk := fun σ' H' => HS X D rest σ' H' }
/-- for, nothing that stands is changed -/
theorem hs_for {tg iter : Expr} {Ps : List (V → Hp → Prop)} (Iv : Nat → L2.St → Hp → Prop) (hp : PassesOwn (model X.prog X.w) X.A X.env X.xe) (hc : X.calm = true) (hi : EI X σ S tg iter Ps) (s : Same S H) (h0 : ∀ S' H', Gr S H S' H' → Iv 0 σ S')
    (step : ∀ i P σ1 S1 H1 x S2 H2, Ps[i]? = some P → Gr S H S1 H1 → Iv i σ1 S1 → Gr S1 H1 S2 H2 → P x S2 → HG X tg x σ1 H2 fun σ3 H3 => HS X (Dl X D rest S2 H2 (Iv (i + 1))) body σ3 H3)
    (done : ∀ σ1 S1 H1, Gr S H S1 H1 → Iv Ps.length σ1 S1 → HS X D rest σ1 H1)
    (hs : ∀ x, foldedSetIterable iter X.env x = pure x := by intro _; rfl) : HS X D (.For tg iter body [] pos :: rest) σ H :=
  hs_cons (ps_for hp hc pib pgb psb hs) (hi H s _ fun J S1 H1 g1 it => for_it (g := bG X tg) (tb := bS X body) it (fun i σ' H' => ∃ S', Gr S1 H1 S' H' ∧ Iv i σ' S') ⟨S1, Gr.refl g1.sub, h0 S1 H1 g1⟩ (fun i σ' H' _ ⟨S', g, _⟩ => g.st.trans g.sub)
    (fun i x σ' H2 H3 hlt ⟨S2, g2, iv⟩ y => by
      obtain ⟨S3, g3, P, hP, px⟩ := y S2 g2.st g2.sub
      intro pins sh u I r
      refine thn ((step i P σ' S2 H2 x S3 H3 hP (g1.trans g2) iv g3 px) pins sh u I r) fun _ s' ⟨σ4, H4, I4, q4⟩ => ⟨σ4, H4, I4, ?_⟩
      exact hs_mono q4 (fun σ5 H5 ⟨S5, g5, iv5⟩ => ⟨S5, g2.trans (g3.trans g5), iv5⟩) (fun _ _ z => z) (fun _ _ z => z) (fun σ5 H5 ⟨S5, g5, iv5⟩ => ⟨S5, g2.trans (g3.trans g5), iv5⟩)) (fun σ' H' ⟨S', g, iv⟩ => done σ' S' H' (g1.trans g) iv))
/-- while, nothing that stands is changed; m falls -/
theorem hs_while (Iv : Nat → L2.St → Hp → Prop) (m0 : Nat) (hp : PassesOwn (model X.prog X.w) X.A X.env X.xe) (s : Same S H) (h0 : Iv m0 σ S)
    (step : ∀ m σ1 S1 H1, Gr S H S1 H1 → Iv m σ1 S1 → ∃ k, ET X σ1 S1 c k ∧ (k = true → ∀ S2 H2, Gr S1 H1 S2 H2 → HS X (Dl X D rest S2 H2 (fun σ' S' => ∃ m', m' < m ∧ Iv m' σ' S')) body σ1 H2) ∧ (k = false → ∀ S2 H2, Gr S1 H1 S2 H2 → HS X D rest σ1 H2)) :
    HS X D (.While c body [] pos :: rest) σ H :=
  hs_cons (ps_while hp ptb psb) ⟨fun m σ' H' => ∃ S', Gr S H S' H' ∧ Iv m σ' S', ⟨m0, S, Gr.refl s, h0⟩, fun m σ' H' ⟨S1, g1, iv⟩ => by
    obtain ⟨k, hk, h1, h2⟩ := step m σ' S1 H' g1 iv
    refine hk H' g1.sub _ fun S2 H2 g2 => ?_
    cases k with
    | false => exact iteF (h2 rfl S2 H2 g2)
    | true =>
      refine iteT ⟨fun σ3 H3 => ∃ S3 m', Gr S2 H2 S3 H3 ∧ m' < m ∧ Iv m' σ3 S3, fun σ3 H3 ⟨S3, m', g3, hm, iv3⟩ => ⟨m', hm, S3, g1.trans (g2.trans g3), iv3⟩, ?_⟩
      exact hs_mono (h1 rfl S2 H2 g2) (fun σ5 H5 ⟨S5, g5, m', hm, iv5⟩ => ⟨S5, m', g5, hm, iv5⟩) (fun _ _ z => z) (fun _ _ z => z) (fun σ5 H5 ⟨S5, g5, m', hm, iv5⟩ => ⟨S5, m', g5, hm, iv5⟩)⟩
end
/-! ## 11. defs -/
/-- a def that is known: where it stands, what it promises (no exception leaves it) -/
structure KD (P : Program) (w : World) (K : PySem.W.Frag) (mg : Str → Option Value) (base : Heap) (x : Str) (k : Nat) (sp : Sp) : Prop where
  ex : ∃ f fd ps, FnOk P w K mg base CX0 k f fd ps sp ∧ mg x = some (.ref f) ∧ PySem.W.keepIn K (.ref f) = true ∧ Binds K fd ps []
theorem KD.mono {P : Program} {w : World} {K : PySem.W.Frag} {mg : Str → Option Value} {base : Heap} {x : Str} {j k : Nat} {sp : Sp} (h : KD P w K mg base x j sp) (hk : j ≤ k) : KD P w K mg base x k sp := by
  obtain ⟨f, fd, ps, F, r⟩ := h.ex
  exact ⟨f, fd, ps, F.mono hk, r⟩
section
variable {X : Cx} {σ : L2.St} {S S' : Hp} {e a b c : Expr} {es : List Expr} {P R : V → Hp → Prop} {Ps : List (V → Hp → Prop)} {pos p : Pos} {k : Nat} {x : Str} {sp : Sp} {d : PyData} {ds : List PyData}
def SpE (sp : Sp) (S : Hp) (Ps : List (V → Hp → Prop)) (R : V → Hp → Prop) : Prop := ∀ vs S1 H1, Same S S1 → Same S1 H1 → Al Ps vs S1 → ∀ Q : VK, (∀ v S2 H2, Gr S1 H1 S2 H2 → R v S2 → Q v H2) → sp vs H1 Q E0
theorem ee_call (D : KD X.prog X.w X.K X.mg X.base x k sp) (hr : Room k X.A) (ha : EA X σ S (e :: es) Ps) (hsp : SpE sp S Ps R) (hg : Gl X x := by rfl) (hdb : (x == ("__debug__" : Str)) = false := by decide)
    (he : starEach (e :: es) X.env = (false, eval e X.env) :: starEach es X.env := by rfl) (hpl : (backTo pos (starEach es X.env)).any (·.1) = false := by rfl) : EE X σ S (.Call (.Name x p) (e :: es) [] pos) R := fun H s Q q => by
  obtain ⟨f, fd, ps, F, hm, hk, hb⟩ := D.ex
  refine he_of (pe_call F hr hg hm hk hb .nil pass0 pab hdb he hpl) (ha.2 H s _ fun vs S1 H1 g1 al => ?_)
  rw [List.append_nil]
  exact hsp vs S1 H1 g1.st g1.sub al Q fun v S2 H2 g2 rv => q v S2 H2 (g1.trans g2) rv
/-- a def of data: F tells what it gives -/
def spD (K : PySem.W.Frag) (F : List PyData → PyData → Prop) : Sp := fun vs H Q _ => ∃ S ds d, Same S H ∧ Dts K ds vs S ∧ F ds d ∧ ∀ v S' H', Gr S H S' H' → Dt K d v S' → Q v H'
theorem spD_E {F : List PyData → PyData → Prop} (hF : F ds d) : SpE (spD X.K F) S (Ds X.K ds) (Dt X.K d) := fun vs S1 H1 _ s al Q q => ⟨S1, ds, d, s, al_dts al, hF, q⟩
theorem ee_callD {F : List PyData → PyData → Prop} (D : KD X.prog X.w X.K X.mg X.base x k (spD X.K F)) (hr : Room k X.A) (hF : F ds d) (ha : EA X σ S (e :: es) (Ds X.K ds)) (hg : Gl X x := by rfl) (hdb : (x == ("__debug__" : Str)) = false := by decide)
    (he : starEach (e :: es) X.env = (false, eval e X.env) :: starEach es X.env := by rfl) (hpl : (backTo pos (starEach es X.env)).any (·.1) = false := by rfl) : EE X σ S (.Call (.Name x p) (e :: es) [] pos) (Dt X.K d) :=
  ee_call D hr ha (spD_E hF) hg hdb he hpl
end
section
variable {P : Program} {w : World} {K : PySem.W.Frag} {mg : Str → Option Value} {base : Heap} {x qual : Str} {params : Arguments} {body : List Stmt} {scope : Scope} {dvs : List V} {kws : List (Str × V)} {f : Addr} {fd : FuncData} {N ps : List Str} {k : Nat} {sp : Sp}
/-- a def by its body -/
theorem fn_hs (F : FunD K x qual params body scope dvs kws f fd) (Sc : FnScope N ps scope) (len : ∀ vs H Q E, sp vs H Q E → vs.length = ps.length)
    (hb : ∀ (cdv : Value) (A : Around) (outer : List Env) (s : Shared) (H : Hp) (vs : List V) (Q : VK) (E : XK), Room k (A.deeper (envOfC qual scope s.heap.objs.size f cdv)) → sp vs H Q E →
      HS (cxOf CX0 P w K mg base N qual scope f cdv A outer s H E).nox { nx := fun _ H' => Q .non H', rt := Q } body (start N vs) H) : FnOk P w K mg base CX0 (k + 1) f fd ps sp :=
  F.ok Sc len fun cdv A outer s H vs Q E hr h => ⟨_, PSs.nox psb, hb cdv A outer s H vs Q E hr h⟩
theorem kd_mk (F : FunD K x qual params body scope [] kws f fd) (G : FnOk P w K mg base CX0 k f fd ps sp) (hm : mg x = some (.ref f)) (hb : Binds K fd ps []) : KD P w K mg base x k sp := ⟨f, fd, ps, G, hm, F.kp, hb⟩
end
end Z
namespace Z
open PySem PySem.Spec PyProof.Rows L2
theorem Dts.one {K : PySem.W.Frag} {d : PyData} {vs : List V} {S : Hp} (h : Dts K [d] vs S) : ∃ v, vs = [v] ∧ Dt K d v S := (dts_al h).one
theorem Dts.two {K : PySem.W.Frag} {d e : PyData} {vs : List V} {S : Hp} (h : Dts K [d, e] vs S) : ∃ v w, vs = [v, w] ∧ Dt K d v S ∧ Dt K e w S := (dts_al h).two
theorem Dts.three {K : PySem.W.Frag} {d e g : PyData} {vs : List V} {S : Hp} (h : Dts K [d, e, g] vs S) : ∃ v w u, vs = [v, w, u] ∧ Dt K d v S ∧ Dt K e w S ∧ Dt K g u S := (dts_al h).three
end Z
namespace Z
open PySem PySem.Spec PyProof.Rows L2
/-! ## 12. comprehensions in short -/
def tupP (q : PyData × PyData) : PyData := .tuple [q.1, q.2]
theorem zipD_eq (xs ys : List PyData) : zipD xs ys = (xs.zip ys).map tupP := by
  unfold zipD
  rw [List.zip_eq_zipWith, List.map_zipWith]
  rfl
section
variable {X : Cx} {σ : L2.St} {S : Hp} {elt iter : Expr} {ifs : List Expr} {scope : Scope} {pos px py tp : Pos} {ds : List PyData} {ps : List (PyData × PyData)} {α : Type} {enc : α → PyData} {i j kk : Nat} {x y : Str}
theorem wipe1 {σ : L2.St} {i : Nat} {v : Option V} : wipe ((wipe σ [i]).set i v) [i] = wipe σ [i] := by
  show (((σ.set i none).set i v).set i none) = σ.set i none
  rw [List.set_set, List.set_set]
theorem filter_true {α : Type} (l : List α) : l.filter (fun _ => true) = l := by
  induction l with
  | nil => rfl
  | cons a l ih => rw [List.filter_cons]; simp
/-- [elt for x in iter if t] -/
theorem ee_lcf {p : PyData → Bool} {f : PyData → α} (hc : X.calm = true) (hN : X.N.Nodup) (ok : BlkOk X.N X.env.scope scope [(x, i)]) (hi : EI X σ S (.Name x px) iter (Ds X.K ds)) (hz : ds.length ≤ sizeLine)
    (hel : ∀ d ∈ ds, ∀ v S', Same S S' → Dt X.K d v S' → ∀ (s : Shared) (H0 : Hp) (C : Addr) (cl : List (Str × Addr)) (fp : List Addr),
      ETs (X.blk s H0 scope (compEnvC scope cl C X.env) fp) ((wipe σ [i]).set i (some v)) S' ifs (p d) ∧ (p d = true → EE (X.blk s H0 scope (compEnvC scope cl C X.env) fp) ((wipe σ [i]).set i (some v)) S' elt (Dt X.K (enc (f d)))))
    (hix : X.N[i]? = some x := by rfl) (hx : ∀ (s : Shared) (H0 : Hp) (C : Addr) (cl : List (Str × Addr)) (fp : List Addr), Loc (X.blk s H0 scope (compEnvC scope cl C X.env) fp).env.scope x ∧ ((X.blk s H0 scope (compEnvC scope cl C X.env) fp).fn x = true ∨ (X.blk s H0 scope (compEnvC scope cl C X.env) fp).env.scope.names.lookup x = some .local) := by
      intros; exact ⟨by first | exact Or.inl rfl | exact Or.inr rfl, by first | exact .inl rfl | exact .inr rfl⟩)
    (hs : ∀ x, foldedSetIterable iter X.env x = pure x := by intro _; rfl) :
    EE X σ S (.ListComp elt [⟨.Name x px, iter, ifs, 0⟩] scope pos) (Dt X.K (.list (((ds.filter p).map f).map enc))) := by
  refine (ee_lcG (own := [(x, i)]) (p := p) (G := fun d r => r = enc (f d)) hc hN ok hi hz (fun d hd v S' s hv => ⟨(wipe σ [i]).set i (some v), wipe1, fun sh H0 C cl fp => ?_⟩) hs).imp fun v S' h => ?_
  · obtain ⟨h1, h2⟩ := hel d hd v S' s hv sh H0 C cl fp
    obtain ⟨k1, k2⟩ := hx sh H0 C cl fp
    exact ⟨eg_name hN hix k1 k2, h1, fun hp => (h2 hp).imp fun w S2 hw => ⟨_, rfl, hw⟩⟩
  · have e : (ds.filter p).map (fun d => enc (f d)) = ((ds.filter p).map f).map enc := by rw [List.map_map]; rfl
    rw [← e]
    exact fun_of_G h
/-- [elt for x in iter] -/
theorem ee_lc {f : PyData → α} (hc : X.calm = true) (hN : X.N.Nodup) (ok : BlkOk X.N X.env.scope scope [(x, i)]) (hi : EI X σ S (.Name x px) iter (Ds X.K ds)) (hz : ds.length ≤ sizeLine)
    (hel : ∀ d ∈ ds, ∀ v S', Same S S' → Dt X.K d v S' → ∀ (s : Shared) (H0 : Hp) (C : Addr) (cl : List (Str × Addr)) (fp : List Addr), EE (X.blk s H0 scope (compEnvC scope cl C X.env) fp) ((wipe σ [i]).set i (some v)) S' elt (Dt X.K (enc (f d))))
    (hix : X.N[i]? = some x := by rfl) (hx : ∀ (s : Shared) (H0 : Hp) (C : Addr) (cl : List (Str × Addr)) (fp : List Addr), Loc (X.blk s H0 scope (compEnvC scope cl C X.env) fp).env.scope x ∧ ((X.blk s H0 scope (compEnvC scope cl C X.env) fp).fn x = true ∨ (X.blk s H0 scope (compEnvC scope cl C X.env) fp).env.scope.names.lookup x = some .local) := by
      intros; exact ⟨by first | exact Or.inl rfl | exact Or.inr rfl, by first | exact .inl rfl | exact .inr rfl⟩)
    (hs : ∀ x, foldedSetIterable iter X.env x = pure x := by intro _; rfl) :
    EE X σ S (.ListComp elt [⟨.Name x px, iter, [], 0⟩] scope pos) (Dt X.K (.list ((ds.map f).map enc))) :=
  (ee_lcf (p := fun _ => true) hc hN ok hi hz (fun d hd v S' s hv sh H0 C cl fp => ⟨ets_nil, fun _ => hel d hd v S' s hv sh H0 C cl fp⟩) hix hx hs).is (by rw [filter_true])
/-- [elt for x in iter], elements that are not fixed -/
theorem ee_lcN {F : PyData → PyData → Prop} (hc : X.calm = true) (hN : X.N.Nodup) (ok : BlkOk X.N X.env.scope scope [(x, i)]) (hi : EI X σ S (.Name x px) iter (Ds X.K ds)) (hz : ds.length ≤ sizeLine)
    (hel : ∀ d ∈ ds, ∀ v S', Same S S' → Dt X.K d v S' → ∀ (s : Shared) (H0 : Hp) (C : Addr) (cl : List (Str × Addr)) (fp : List Addr), EE (X.blk s H0 scope (compEnvC scope cl C X.env) fp) ((wipe σ [i]).set i (some v)) S' elt (Ex X.K (F d)))
    (hix : X.N[i]? = some x := by rfl) (hx : ∀ (s : Shared) (H0 : Hp) (C : Addr) (cl : List (Str × Addr)) (fp : List Addr), Loc (X.blk s H0 scope (compEnvC scope cl C X.env) fp).env.scope x ∧ ((X.blk s H0 scope (compEnvC scope cl C X.env) fp).fn x = true ∨ (X.blk s H0 scope (compEnvC scope cl C X.env) fp).env.scope.names.lookup x = some .local) := by
      intros; exact ⟨by first | exact Or.inl rfl | exact Or.inr rfl, by first | exact .inl rfl | exact .inr rfl⟩)
    (hs : ∀ x, foldedSetIterable iter X.env x = pure x := by intro _; rfl) :
    EE X σ S (.ListComp elt [⟨.Name x px, iter, [], 0⟩] scope pos) (Ex X.K fun d => ∃ rs, d = .list rs ∧ Paired F ds rs) := by
  refine (ee_lcG (own := [(x, i)]) (p := fun _ => true) (G := F) hc hN ok hi hz (fun d hd v S' s hv => ⟨(wipe σ [i]).set i (some v), wipe1, fun sh H0 C cl fp => ?_⟩) hs).imp fun v S' h => ?_
  · obtain ⟨k1, k2⟩ := hx sh H0 C cl fp
    exact ⟨eg_name hN hix k1 k2, ets_nil, fun _ => hel d hd v S' s hv sh H0 C cl fp⟩
  · obtain ⟨rs, h1, h2⟩ := h
    rw [filter_true] at h1
    exact ⟨_, ⟨rs, rfl, h1⟩, h2⟩
theorem wipe2 {σ : L2.St} {i j : Nat} {v w : Option V} (hij : i ≠ j) : wipe (((wipe σ [i, j]).set i v).set j w) [i, j] = wipe σ [i, j] := by
  show ((((((σ.set j none).set i none).set i v).set j w).set j none).set i none) = ((σ.set j none).set i none)
  rw [List.set_set, List.set_set, List.set_comm _ _ hij, List.set_set, List.set_set]
/-- [elt for x, y in iter if t] -/
theorem ee_lc2f {p : PyData × PyData → Bool} {f : PyData × PyData → α} (hc : X.calm = true) (hN : X.N.Nodup) (ok : BlkOk X.N X.env.scope scope [(x, i), (y, j)]) (hi : EI X σ S (.Tuple [.Name x px, .Name y py] kk tp) iter (Ds X.K (ps.map tupP))) (hz : ps.length ≤ sizeLine)
    (hel : ∀ q ∈ ps, ∀ v w S', Same S S' → Dt X.K q.1 v S' → Dt X.K q.2 w S' → ∀ (s : Shared) (H0 : Hp) (C : Addr) (cl : List (Str × Addr)) (fp : List Addr),
      ETs (X.blk s H0 scope (compEnvC scope cl C X.env) fp) (((wipe σ [i, j]).set i (some v)).set j (some w)) S' ifs (p q) ∧ (p q = true → EE (X.blk s H0 scope (compEnvC scope cl C X.env) fp) (((wipe σ [i, j]).set i (some v)).set j (some w)) S' elt (Dt X.K (enc (f q)))))
    (hij : i ≠ j := by decide) (hix : X.N[i]? = some x := by rfl) (hjy : X.N[j]? = some y := by rfl) (hx : ∀ (s : Shared) (H0 : Hp) (C : Addr) (cl : List (Str × Addr)) (fp : List Addr), (Loc (X.blk s H0 scope (compEnvC scope cl C X.env) fp).env.scope x ∧ ((X.blk s H0 scope (compEnvC scope cl C X.env) fp).fn x = true ∨ (X.blk s H0 scope (compEnvC scope cl C X.env) fp).env.scope.names.lookup x = some .local)) ∧
      (Loc (X.blk s H0 scope (compEnvC scope cl C X.env) fp).env.scope y ∧ ((X.blk s H0 scope (compEnvC scope cl C X.env) fp).fn y = true ∨ (X.blk s H0 scope (compEnvC scope cl C X.env) fp).env.scope.names.lookup y = some .local)) := by
      intros; exact ⟨⟨by first | exact Or.inl rfl | exact Or.inr rfl, by first | exact .inl rfl | exact .inr rfl⟩, ⟨by first | exact Or.inl rfl | exact Or.inr rfl, by first | exact .inl rfl | exact .inr rfl⟩⟩)
    (ha : ∀ (s : Shared) (H0 : Hp) (C : Addr) (cl : List (Str × Addr)) (fp : List Addr), (assignEach [.Name x px, .Name y py] (X.blk s H0 scope (compEnvC scope cl C X.env) fp).env).length = 2 ∧ (assignEach [.Name x px, .Name y py] (X.blk s H0 scope (compEnvC scope cl C X.env) fp).env).findIdx? (·.1) = none ∧
      (assignEach [.Name x px, .Name y py] (X.blk s H0 scope (compEnvC scope cl C X.env) fp).env).map (·.2) = assign (.Name x px) (X.blk s H0 scope (compEnvC scope cl C X.env) fp).env :: (assignEach [.Name y py] (X.blk s H0 scope (compEnvC scope cl C X.env) fp).env).map (·.2) ∧ (assignEach [.Name y py] (X.blk s H0 scope (compEnvC scope cl C X.env) fp).env).map (·.2) = assign (.Name y py) (X.blk s H0 scope (compEnvC scope cl C X.env) fp).env :: (assignEach [] (X.blk s H0 scope (compEnvC scope cl C X.env) fp).env).map (·.2) := by intros; exact ⟨rfl, rfl, rfl, rfl⟩)
    (hs : ∀ x, foldedSetIterable iter X.env x = pure x := by intro _; rfl) :
    EE X σ S (.ListComp elt [⟨.Tuple [.Name x px, .Name y py] kk tp, iter, ifs, 0⟩] scope pos) (Dt X.K (.list (((ps.filter p).map f).map enc))) := by
  have e0 : ∀ q ∈ ps.map tupP, ∃ r ∈ ps, q = tupP r := fun q hq => by
    obtain ⟨r, h1, h2⟩ := List.mem_map.mp hq
    exact ⟨r, h1, h2.symm⟩
  let un : PyData → PyData × PyData := fun d => match d with
    | .tuple [a, b] => (a, b)
    | _ => (.none, .none)
  have un_t : ∀ q, un (tupP q) = q := fun q => rfl
  refine (ee_lcG (own := [(x, i), (y, j)]) (p := fun d => p (un d)) (G := fun d r => r = enc (f (un d))) hc hN ok hi (by rw [List.length_map]; exact hz) (fun d hd v S' s hv => ?_) hs).imp fun v S' h => ?_
  · obtain ⟨q, hq, rfl⟩ := e0 d hd
    obtain ⟨l, xs, rfl, hl, hx', _⟩ := hv.tup_inv
    obtain ⟨v1, e1, p1⟩ := hx'.get (i := 0) (d := q.1) rfl
    obtain ⟨v2, e2, p2⟩ := hx'.get (i := 1) (d := q.2) rfl
    have hxs : xs = [v1, v2] := by
      have hl2 := hx'.1
      match xs, hl2 with
      | [u, w], _ => simp at e1 e2; rw [e1, e2]
    subst hxs
    refine ⟨((wipe σ [i, j]).set i (some v1)).set j (some v2), wipe2 hij, fun sh H0 C cl fp => ?_⟩
    obtain ⟨h1, h2⟩ := hel q hq v1 v2 S' s p1 p2 sh H0 C cl fp
    obtain ⟨⟨k1, k2⟩, ⟨k3, k4⟩⟩ := hx sh H0 C cl fp
    obtain ⟨a1, a2, a3, a4⟩ := ha sh H0 C cl fp
    refine ⟨fun H s2 Q qq => ?_, h1, fun hp => (h2 hp).imp fun w S2 hw => ⟨_, rfl, hw⟩⟩
    exact hg_of (pg_tup hc (pgs_cons (pg_name hN hix k1 k2) (pgs_cons (pg_name hN hjy k3 k4) pgs_nil a4) a3) a1 a2) ⟨l, _, rfl, sqt_up s2 hl, rfl, _, _, rfl, _, _, rfl, rfl, qq⟩
  · have h3 := fun_of_G (f := fun d => enc (f (un d))) (p := fun d => p (un d)) h
    have e : ((ps.map tupP).filter fun d => p (un d)).map (fun d => enc (f (un d))) = ((ps.filter p).map f).map enc := by
      rw [List.filter_map, List.map_map, List.map_map]
      rfl
    rw [← e]
    exact h3
/-- [elt for x, y in iter] -/
theorem ee_lc2 {f : PyData × PyData → α} (hc : X.calm = true) (hN : X.N.Nodup) (ok : BlkOk X.N X.env.scope scope [(x, i), (y, j)]) (hi : EI X σ S (.Tuple [.Name x px, .Name y py] kk tp) iter (Ds X.K (ps.map tupP))) (hz : ps.length ≤ sizeLine)
    (hel : ∀ q ∈ ps, ∀ v w S', Same S S' → Dt X.K q.1 v S' → Dt X.K q.2 w S' → ∀ (s : Shared) (H0 : Hp) (C : Addr) (cl : List (Str × Addr)) (fp : List Addr), EE (X.blk s H0 scope (compEnvC scope cl C X.env) fp) (((wipe σ [i, j]).set i (some v)).set j (some w)) S' elt (Dt X.K (enc (f q))))
    (hij : i ≠ j := by decide) (hix : X.N[i]? = some x := by rfl) (hjy : X.N[j]? = some y := by rfl) (hx : ∀ (s : Shared) (H0 : Hp) (C : Addr) (cl : List (Str × Addr)) (fp : List Addr), (Loc (X.blk s H0 scope (compEnvC scope cl C X.env) fp).env.scope x ∧ ((X.blk s H0 scope (compEnvC scope cl C X.env) fp).fn x = true ∨ (X.blk s H0 scope (compEnvC scope cl C X.env) fp).env.scope.names.lookup x = some .local)) ∧
      (Loc (X.blk s H0 scope (compEnvC scope cl C X.env) fp).env.scope y ∧ ((X.blk s H0 scope (compEnvC scope cl C X.env) fp).fn y = true ∨ (X.blk s H0 scope (compEnvC scope cl C X.env) fp).env.scope.names.lookup y = some .local)) := by
      intros; exact ⟨⟨by first | exact Or.inl rfl | exact Or.inr rfl, by first | exact .inl rfl | exact .inr rfl⟩, ⟨by first | exact Or.inl rfl | exact Or.inr rfl, by first | exact .inl rfl | exact .inr rfl⟩⟩)
    (ha : ∀ (s : Shared) (H0 : Hp) (C : Addr) (cl : List (Str × Addr)) (fp : List Addr), (assignEach [.Name x px, .Name y py] (X.blk s H0 scope (compEnvC scope cl C X.env) fp).env).length = 2 ∧ (assignEach [.Name x px, .Name y py] (X.blk s H0 scope (compEnvC scope cl C X.env) fp).env).findIdx? (·.1) = none ∧
      (assignEach [.Name x px, .Name y py] (X.blk s H0 scope (compEnvC scope cl C X.env) fp).env).map (·.2) = assign (.Name x px) (X.blk s H0 scope (compEnvC scope cl C X.env) fp).env :: (assignEach [.Name y py] (X.blk s H0 scope (compEnvC scope cl C X.env) fp).env).map (·.2) ∧ (assignEach [.Name y py] (X.blk s H0 scope (compEnvC scope cl C X.env) fp).env).map (·.2) = assign (.Name y py) (X.blk s H0 scope (compEnvC scope cl C X.env) fp).env :: (assignEach [] (X.blk s H0 scope (compEnvC scope cl C X.env) fp).env).map (·.2) := by intros; exact ⟨rfl, rfl, rfl, rfl⟩)
    (hs : ∀ x, foldedSetIterable iter X.env x = pure x := by intro _; rfl) :
    EE X σ S (.ListComp elt [⟨.Tuple [.Name x px, .Name y py] kk tp, iter, [], 0⟩] scope pos) (Dt X.K (.list ((ps.map f).map enc))) :=
  (ee_lc2f (p := fun _ => true) hc hN ok hi hz (fun q hq v w S' s hv hw sh H0 C cl fp => ⟨ets_nil, fun _ => hel q hq v w S' s hv hw sh H0 C cl fp⟩) hij hix hjy hx ha hs).is (by rw [filter_true])
end
end Z
namespace Z
open PySem PySem.Spec PyProof.Rows L2
/-! ## 13. the law's box: an object known by what holds of it alone -/
def Stab (b : Addr) (φ : Heap → Prop) : Prop := ∀ h1 h2 : Heap, φ h1 → (∀ o, h1.get? b = some o → h2.get? b = some o) → φ h2
section
variable {P : Program} {w : World} {H : Hp} {h : Heap} {b : Addr} {φ : Heap → Prop} {xs : List V}
theorem hok_swap {o o' : HO} (x : HOk P w H h) (hb : H b = some o) (no : ∀ a, o ≠ .own a) (nt : ∀ xs, o ≠ .tup xs) (new : ObjOk P w (upd H b o') h b o') : HOk P w (upd H b o') h := fun a u e => by
  by_cases ha : a = b
  · subst ha; rw [upd_same] at e; cases e; exact new
  · rw [upd_ne ha] at e
    refine (x a u e).stay (fun _ _ _ q => q) (fun c q => ?_) fun c ys q => ?_
    · rw [upd_ne (fun z => by subst z; rw [hb] at q; exact no a (Option.some.inj q))]; exact q
    · rw [upd_ne (fun z => by subst z; rw [hb] at q; exact nt ys (Option.some.inj q))]; exact q
end
theorem un_swap {fs ex : List Addr} {H H1 H2 H3 : Hp} {h h' : Heap} (u : Un fs ex H1 H2 h h') (k1 : ∀ a, H a = none → H1 a = none) (k2 : ∀ a, H a = none → H2 a = none → H3 a = none)
    (kt : ∀ a xs, H a = some (.tup xs) → H3 a = some (.tup xs)) (kf : ∀ a o x, H a = some (.frz o x) → H3 a = some (.frz o x)) (kb : ∀ a ps, H a = some (.tbl ps) → ∃ more, H3 a = some (.tbl (ps ++ more))) : Un fs ex H H3 h h' where
  keep := fun a o q n => u.keep a o q (k1 a n)
  slot := fun a o q n => u.slot a o q (k1 a n)
  free := fun a o q n x => k2 a n (u.free a o q (k1 a n) x)
  there := u.there
  tups := kt
  frzs := kf
  tbls := kb
section
variable {P : Program} {w : World} {K : PySem.W.Frag} {mg : Str → Option Value} {base : Heap} {k : Nat} {f : Addr} {fd : FuncData} {ps : List Str} {sp0 sp : Sp}
/-- a def over the list at b, for callers that know b by φ -/
theorem FnOk.box (F : FnOk P w K mg base CX0 k f fd ps sp0) (len : ∀ vs H Q E, sp vs H Q E → vs.length = ps.length)
    (hc : ∀ vs H Q E, sp vs H Q E → ∃ (b : Addr) (φ : Heap → Prop), H b = some (.ext φ) ∧ ∀ h, φ h → ∃ xs, ObjOk P w H h b (.lst xs) ∧
      sp0 vs (upd H b (.lst xs)) (fun v H' => ∃ ys, H' b = some (.lst ys) ∧ (∀ h', ObjOk P w H' h' b (.lst ys) → φ h') ∧ (∀ a o, H a = some o → a ≠ b → H' a = some o) ∧ Q v (upd H' b (.ext φ))) E0) : FnOk P w K mg base CX0 k f fd ps sp := by
  refine ⟨len, fun A outer s H args us vs Q E hr e0 hb rv hsp => ?_⟩
  obtain ⟨b, φ, hbo, hc⟩ := hc vs H Q E hsp
  obtain ⟨p, ⟨ob, hob⟩, st⟩ := e0.hok b _ hbo
  obtain ⟨xs, hx, hs0⟩ := hc s.heap p
  have ne : ∀ a, H a = none → a ≠ b := fun a n z => by rw [z, hbo] at n; cases n
  have e1 : Env0 P w K mg base A outer s (upd H b (.lst xs)) := ⟨e0.frames, e0.mod, fun a o q => ⟨(e0.bs a o q).1, by rw [upd_ne (ne a (e0.bs a o q).2)]; exact (e0.bs a o q).2⟩, e0.bsz, e0.funs, fun a ha => by rw [upd_ne (ne a (e0.frf a ha))]; exact e0.frf a ha,
    hok_swap e0.hok hbo (fun _ z => nomatch z) (fun _ z => nomatch z) hx, e0.bare⟩
  refine codeAny_mono (F.run A outer s _ args us vs _ E0 hr e1 hb rv hs0) fun r s' hq => ?_
  cases r with
  | error e => exact hq
  | ok fl =>
    cases fl with
    | ret u =>
      obtain ⟨v, H', os, bare, un, hok, r, ys, hy, hφ, hsm, q⟩ := hq
      refine ⟨v, upd H' b (.ext φ), os, bare, ?_, ?_, r, q⟩
      · refine un_swap un (fun a n => by rw [upd_ne (ne a n)]; exact n) (fun a n n2 => by rw [upd_ne (ne a n)]; exact n2) (fun a ys e => ?_) (fun a o x e => ?_) fun a ps e => ?_
        · have hne : a ≠ b := fun z => by rw [z, hbo] at e; cases e
          rw [upd_ne hne]; exact hsm a _ e hne
        · have hne : a ≠ b := fun z => by rw [z, hbo] at e; cases e
          rw [upd_ne hne]; exact hsm a _ e hne
        · have hne : a ≠ b := fun z => by rw [z, hbo] at e; cases e
          refine ⟨#[], ?_⟩
          rw [upd_ne hne, Array.append_empty]; exact hsm a _ e hne
      · have ox := hok b _ hy
        refine hok_swap hok hy (fun _ z => nomatch z) (fun _ z => nomatch z) ⟨hφ _ ox, ?_, st⟩
        obtain ⟨_, its, n, _, e⟩ := ox
        exact ⟨_, e⟩
    | next => exact hq
    | brk => exact hq
    | cont => exact hq
/-- a def that hands back a new list, for callers that know it by φ -/
theorem FnOk.close (F : FnOk P w K mg base CX0 k f fd ps sp0) (len : ∀ vs H Q E, sp vs H Q E → vs.length = ps.length)
    (hc : ∀ vs H Q E, sp vs H Q E → sp0 vs H (fun v H' => ∃ b ys φ, H b = none ∧ H' b = some (.lst ys) ∧ Same H H' ∧ (∀ h', ObjOk P w H' h' b (.lst ys) → φ h') ∧ Stab b φ ∧ Q v (upd H' b (.ext φ))) E0) : FnOk P w K mg base CX0 k f fd ps sp := by
  refine ⟨len, fun A outer s H args us vs Q E hr e0 hb rv hsp => ?_⟩
  refine codeAny_mono (F.run A outer s _ args us vs _ E0 hr e0 hb rv (hc vs H Q E hsp)) fun r s' hq => ?_
  cases r with
  | error e => exact hq
  | ok fl =>
    cases fl with
    | ret u =>
      obtain ⟨v, H', os, bare, un, hok, r, b, ys, φ, hn, hy, hs, hφ, st, q⟩ := hq
      refine ⟨v, upd H' b (.ext φ), os, bare, ?_, ?_, r, q⟩
      · refine un_swap un (fun _ n => n) (fun a n n2 => by rw [upd_ne (fun z => by rw [z, hy] at n2; cases n2)]; exact n2) (fun a ys e => ?_) (fun a o x e => ?_) fun a ps e => ?_
        · rw [upd_ne (ne_of_none e hn)]; exact hs _ _ e
        · rw [upd_ne (ne_of_none e hn)]; exact hs _ _ e
        · refine ⟨#[], ?_⟩
          rw [upd_ne (ne_of_none e hn), Array.append_empty]; exact hs _ _ e
      · have ox := hok b _ hy
        refine hok_swap hok hy (fun _ z => nomatch z) (fun _ z => nomatch z) ⟨hφ _ ox, ?_, st⟩
        obtain ⟨_, its, n, _, e⟩ := ox
        exact ⟨_, e⟩
    | next => exact hq
    | brk => exact hq
    | cont => exact hq
end
/-- what the box holds: the cells, the place, a great rest, a mixed number, a count -/
structure BoxV (c : Addr) (xs : List V) : Prop where
  ex : ∃ i g m k : Int, xs = [.ref c, .int i, .int g, .int m, .int k] ∧ 0 ≤ i ∧ 0 ≤ g ∧ 0 ≤ m ∧ m < 2147483648 ∧ 0 ≤ k
def boxPhi (b c : Addr) : Heap → Prop := fun h => ∃ (xs : List V) (its : List Value) (n : Nat), BoxV c xs ∧ Vals xs its ∧ h.get? b = some { cls := .type "list", data := .seq its.toArray n }
theorem box_stab {b c : Addr} : Stab b (boxPhi b c) := fun h1 h2 ⟨xs, its, n, hx, r, e⟩ k => ⟨xs, its, n, hx, r, k _ e⟩
theorem box_of {P : Program} {w : World} {H : Hp} {h : Heap} {b c : Addr} {xs : List V} (hx : BoxV c xs) (o : ObjOk P w H h b (.lst xs)) : boxPhi b c h := by
  obtain ⟨_, its, n, r, e⟩ := o
  exact ⟨xs, its, n, hx, r, e⟩
theorem of_box {P : Program} {w : World} {H : Hp} {h : Heap} {b c : Addr} (p : boxPhi b c h) : ∃ xs, BoxV c xs ∧ ObjOk P w H h b (.lst xs) := by
  obtain ⟨xs, its, n, hx, r, e⟩ := p
  refine ⟨xs, hx, ?_, its, n, r, e⟩
  obtain ⟨i, g, m, k, rfl, _⟩ := hx.ex
  show 5 ≤ 16777216
  decide
/-- v is a box -/
def BX : V → Hp → Prop := fun v S => ∃ (b c : Addr) (ns : List Int), v = .ref b ∧ b ≠ c ∧ S b = some (.ext (boxPhi b c)) ∧ S c = some (.lst (ns.map V.int)) ∧ ns.length ≤ 63
instance : Mn BX := ⟨fun s ⟨b, c, ns, e, n, h1, h2, l⟩ => ⟨b, c, ns, e, n, s _ _ h1, s _ _ h2, l⟩⟩
/-- a def over the box and data: any of what G tells may come back -/
def spB (K : PySem.W.Frag) (F : List PyData → (PyData → Prop) → Prop) : Sp := fun vs H Q _ => ∃ S v ws ds G, vs = v :: ws ∧ Same S H ∧ BX v S ∧ Dts K ds ws S ∧ F ds G ∧ ∀ d, G d → ∀ u S' H', Gr S H S' H' → Dt K d u S' → Q u H'
section
variable {X : Cx} {σ : L2.St} {S S' : Hp} {e a b c : Expr} {es : List Expr} {P R : V → Hp → Prop} {Ps : List (V → Hp → Prop)} {pos p : Pos} {k : Nat} {x : Str} {sp : Sp} {d : PyData} {ds : List PyData}
theorem spB_E {F : List PyData → (PyData → Prop) → Prop} {G : PyData → Prop} (hF : F ds G) : SpE (spB X.K F) S (BX :: Ds X.K ds) (Ex X.K G) := fun vs S1 H1 _ s al Q q => by
  cases al with
  | cons p r => exact ⟨S1, _, _, ds, G, rfl, s, p, al_dts r, hF, fun d hd u S' H' g pd => q u S' H' g ⟨d, hd, pd⟩⟩
theorem ee_callBx {F : List PyData → (PyData → Prop) → Prop} {G : PyData → Prop} (D : KD X.prog X.w X.K X.mg X.base x k (spB X.K F)) (hr : Room k X.A) (hF : F ds G) (ha : EA X σ S (e :: es) (BX :: Ds X.K ds)) (hg : Gl X x := by rfl) (hdb : (x == ("__debug__" : Str)) = false := by decide)
    (he : starEach (e :: es) X.env = (false, eval e X.env) :: starEach es X.env := by rfl) (hpl : (backTo pos (starEach es X.env)).any (·.1) = false := by rfl) : EE X σ S (.Call (.Name x p) (e :: es) [] pos) (Ex X.K G) :=
  ee_call D hr ha (spB_E hF) hg hdb he hpl
/-! ### what is not fixed, taken on -/
theorem ex_imp {K : PySem.W.Frag} {F G : PyData → Prop} {v : V} {S : Hp} (h : Ex K F v S) (f : ∀ d, F d → G d) : Ex K G v S := by
  obtain ⟨d, hd, p⟩ := h
  exact ⟨d, f d hd, p⟩
theorem EE.ex {F : PyData → Prop} (h : EE X σ S e (Dt X.K d)) (f : F d) : EE X σ S e (Ex X.K F) := h.imp fun v S' p => ⟨d, f, p⟩
theorem EE.exi {F G : PyData → Prop} (h : EE X σ S e (Ex X.K F)) (f : ∀ d, F d → G d) : EE X σ S e (Ex X.K G) := h.imp fun v S' p => ex_imp p f
/-- + of numbers that are not fixed -/
theorem ee_addE {F G : Int → Prop} (ha : EE X σ S a (Ex X.K fun d => ∃ i, d = .int i ∧ F i)) (hb : EE X σ S b (Ex X.K fun d => ∃ i, d = .int i ∧ G i)) : EE X σ S (.BinOp a .Add b pos) (Ex X.K fun d => ∃ i, d = .int i ∧ ∃ x y, F x ∧ G y ∧ i = x + y) :=
  ee_op op_add ha hb fun v w S1 H1 _ s ⟨d, ⟨i, e, fi⟩, pv⟩ ⟨d', ⟨j, e', gj⟩, pw⟩ Q q => by
    subst e; subst e'
    cases pv; cases pw
    exact ⟨i, j, rfl, rfl, q _ S1 H1 (Gr.refl s) ⟨_, ⟨_, rfl, i, j, fi, gj, rfl⟩, .int _⟩⟩
theorem ee_tupleE {F : List PyData → Prop} (hm : X.mg "tuple" = none) (ha : EE X σ S a (Ex X.K fun d => ∃ rs, d = .list rs ∧ F rs)) (hg : Gl X "tuple" := by rfl)
    (hs : starEach [a] X.env = (false, eval a X.env) :: starEach [] X.env := by rfl) : EE X σ S (.Call (.Name "tuple" p) [a] [] pos) (Ex X.K fun d => ∃ rs, d = .tuple rs ∧ F rs) :=
  ee_callTy call_tuple_of hm boot_tuple (ea_1 ha hs) (fun vs S1 H1 _ s al Q q => by
    obtain ⟨v, rfl, d, ⟨rs, rfl, hf⟩, pv⟩ := al.one
    obtain ⟨l, xs, rfl, hl, hx, z⟩ := pv.lst_inv
    exact ⟨l, xs, rfl, .inl ⟨sql_of (s _ _ hl), fun t ht => q _ _ _ (Gr.new s ht) ⟨_, ⟨rs, rfl, hf⟩, Dt.tup_mk (tus_of upd_same) (hx.up (Same.new (s.free ht))) z⟩⟩⟩) hg (he := hs) (hpl := by rfl)
/-- displays of data that is not fixed -/
def Exs (K : PySem.W.Frag) (Fs : List (PyData → Prop)) : List (V → Hp → Prop) := Fs.map (Ex K)
inductive AllF : List (PyData → Prop) → List PyData → Prop
  | nil : AllF [] []
  | cons {F : PyData → Prop} {Fs : List (PyData → Prop)} {d : PyData} {ds : List PyData} : F d → AllF Fs ds → AllF (F :: Fs) (d :: ds)
theorem AllF.len {Fs : List (PyData → Prop)} {ds : List PyData} (h : AllF Fs ds) : ds.length = Fs.length := by
  induction h with
  | nil => rfl
  | cons _ _ ih => simp [ih]
theorem al_exs {K : PySem.W.Frag} : ∀ {Fs : List (PyData → Prop)} {vs : List V} {H : Hp}, Al (Exs K Fs) vs H → ∃ ds, AllF Fs ds ∧ Dts K ds vs H
  | [], _, _, h => by cases h; exact ⟨[], .nil, .nil⟩
  | F :: Fs, _, _, h => by cases h with
    | cons p r =>
      obtain ⟨ds, h1, h2⟩ := al_exs r
      obtain ⟨d, hd, pd⟩ := p
      exact ⟨d :: ds, .cons hd h1, .cons pd h2⟩
theorem ee_tupE {es : List Expr} {x1} {Fs : List (PyData → Prop)} (h : EA X σ S es (Exs X.K Fs)) (hz : Fs.length ≤ sizeLine := by show _ ≤ 16777216; exact Nat.le_of_ble_eq_true rfl) : EE X σ S (.Tuple es x1 pos) (Ex X.K fun d => ∃ ds, d = .tuple ds ∧ AllF Fs ds) :=
  ee_tupA (vsP := fun vs S' => ∃ ds, AllF Fs ds ∧ Dts X.K ds vs S') (fun H s Q q => h.2 H s Q fun vs S' H' g al => q vs S' H' g (al_exs al)) (fun vs S' ⟨ds, h1, h2⟩ => by rw [h2.1, h1.len]; exact hz)
    fun vs S' p _ hp ⟨ds, h1, h2⟩ => ⟨_, ⟨ds, rfl, h1⟩, Dt.tup_mk (tus_of upd_same) (h2.up (Same.new hp)) (by rw [h2.1, h1.len]; exact hz)⟩
theorem ee_lstE {es : List Expr} {Fs : List (PyData → Prop)} (h : EA X σ S es (Exs X.K Fs)) (hz : Fs.length ≤ sizeLine := by show _ ≤ 16777216; exact Nat.le_of_ble_eq_true rfl) : EE X σ S (.List es pos) (Ex X.K fun d => ∃ ds, d = .list ds ∧ AllF Fs ds) :=
  ee_lstA (vsP := fun vs S' => ∃ ds, AllF Fs ds ∧ Dts X.K ds vs S') (fun H s Q q => h.2 H s Q fun vs S' H' g al => q vs S' H' g (al_exs al)) (fun vs S' ⟨ds, h1, h2⟩ => by rw [h2.1, h1.len]; exact hz)
    fun vs S' p _ hp ⟨ds, h1, h2⟩ => ⟨_, ⟨ds, rfl, h1⟩, Dt.lst_mk upd_same (h2.up (Same.new hp)) (by rw [h2.1, h1.len]; exact hz)⟩
end
end Z
namespace Z
open PySem PySem.Spec PyProof.Rows L2
/-! ### lists that change -/
section
variable {X : Cx} {σ : L2.St} {S H : Hp} {e o i : Expr} {P : V → Hp → Prop} {pos pos' : Pos} {D : Ends} {rest : List Stmt} {b : Addr} {xs : List V} {k : Int} {j : Nat} {v : V}
/-- o[i] = e -/
theorem hs_setL [Mn P] (he : EE X σ H e P) (ho : EE X σ H o (fun w _ => w = .ref b)) (hi : EE X σ H i (Dt X.K (.int k))) (hb : H b = some (.lst xs)) (hk : ixN xs.length k = some j)
    (q : ∀ v H', Same H H' → P v H' → HS X D rest σ (upd H' b (.lst (xs.set j v))))
    (ha : ∀ v, assign (.Subscript o i pos') X.env v = (do
      let ov ← holding [v] (eval o X.env)
      let iv ← holding [v, ov] (eval i X.env)
      standAt pos'
      holding [v, ov, iv] (setItem ov iv v)
      release [v, ov, iv] []) := by intro _; rfl)
    (hs : swapsWithSole [.Subscript o i pos'] e pos.line X.env = pure false := by rfl) (hw : swappedStores [.Subscript o i pos'] e X.env = pure none := by rfl)
    (h1 : (assignEach [.Subscript o i pos'] X.env).map (·.2) = [assign (.Subscript o i pos') X.env] := by rfl) : HS X D (.Assign [.Subscript o i pos'] e pos :: rest) σ H :=
  hs_cons (ps_asg peb (pg_sub peb peb set_list ha) hs hw h1) (he H (Same.refl H) _ fun v S1 H1 g1 pv => ho H1 g1.hh _ fun w S2 H2 g2 pw => hi H2 (g1.hh.trans g2.hh) _ fun u S3 H3 g3 pu => by
    subst pw
    cases pu
    have s3 := (g1.hh.trans g2.hh).trans g3.hh
    exact ⟨b, xs, k, j, rfl, rfl, s3 _ _ hb, hk, q v H3 s3 (Mn.up (g1.sub.trans (g2.hh.trans g3.hh)) pv)⟩)
/-- an item of such a list -/
theorem ee_ixB (hb : S b = some (.lst xs)) (ho : EE X σ S o (fun w _ => w = .ref b)) (hi : EE X σ S i (Dt X.K (.int k))) (hx : atI xs k = some v) (hp : ∀ S', Same S S' → P v S') (hs : PlainIx i := by exact fun _ _ => rfl) : EE X σ S (.Subscript o i pos) P := by
  haveI := mn_eq (v := .ref b)
  exact ee_2 (pe_ix ix_list peb peb hs) ho hi fun x y S1 H1 s0 s px py Q q => by
    subst px
    cases py
    exact ⟨b, xs, k, v, rfl, rfl, sql_of (s _ _ (s0 _ _ hb)), hx, q _ S1 H1 (Gr.refl s) (hp S1 s0)⟩
end
end Z
namespace Z
open PySem PySem.Spec PyProof.Rows L2
/-- an if whose ways meet in M, told of the whole heap -/
theorem hs_ifR {X : Cx} {σ : L2.St} {S H : Hp} {c : Expr} {pos : Pos} {D : Ends} {rest body orelse : List Stmt} {k : Bool} (M : L2.St → Hp → Prop) (h : ET X σ S c k) (s : Same S H) (qt : k = true → ∀ S' H', Gr S H S' H' → HS X { D with nx := M } body σ H') (qf : k = false → ∀ S' H', Gr S H S' H' → HS X { D with nx := M } orelse σ H')
    (h2 : ∀ σ' H', M σ' H' → HS X D rest σ' H') : HS X D (.If c body orelse pos :: rest) σ H :=
  hs_cons (ps_if ptb psb psb) (h H s _ fun S' H' g => by
    have key : ∀ st, HS X { D with nx := M } st σ H' → HS X (Dn X D rest) st σ H' := fun st z => hs_mono z (fun σ' H2 m => h2 σ' H2 m) (fun _ _ z => z) (fun _ _ z => z) (fun _ _ z => z)
    cases k with
    | true => exact iteT (key _ (qt rfl S' H' g))
    | false => exact iteF (key _ (qf rfl S' H' g)))
theorem ee_mulS {X : Cx} {σ : L2.St} {S : Hp} {a b : Expr} {pos : Pos} {i j : Int} (hc : CMul i j) (ha : EE X σ S a (Dt X.K (.int i))) (hb : EE X σ S b (Dt X.K (.int j))) : EE X σ S (.BinOp a .Mult b pos) (Dt X.K (.int (i * j))) := ee_op op_mul ha hb (opE_I hc fun _ => .int _)
end Z
namespace Z
open PySem PySem.Spec PyProof.Rows L2
/-! ## 14. more rules -/
section
variable {X : Cx} {σ : L2.St} {S S' : Hp} {e a b c o elt tg iter : Expr} {es : List Expr} {P R : V → Hp → Prop} {Ps : List (V → Hp → Prop)} {pos p px : Pos} {k : Bool} {x y : Str} {d d1 d2 : PyData} {ds ds1 ds2 : List PyData} {i j : Nat} {n : Int} {scope : Scope} {own : List (Str × Nat)} {D : Ends} {rest : List Stmt}
/-- xs[i], i any place of the list -/
theorem atI_nat {xs : List PyData} {n : Int} (h0 : 0 ≤ n) (h1 : n < (xs.length : Int)) : ∃ d, d ∈ xs ∧ atI xs n = some d := by
  refine ⟨xs[n.toNat]'(by omega), List.getElem_mem _, ?_⟩
  unfold atI ixN
  rw [if_pos h0, if_pos h1]
  exact List.getElem?_eq_getElem _
theorem ee_ixE (ha : EE X σ S a (Dt X.K (.list ds))) (hb : EE X σ S b (Ex X.K fun d => ∃ n, d = .int n ∧ 0 ≤ n ∧ n < (ds.length : Int))) (hs : PlainIx b := by exact fun _ _ => rfl) : EE X σ S (.Subscript a b pos) (Ex X.K fun d => d ∈ ds) :=
  ee_2 (pe_ix ix_list peb peb hs) ha hb fun x y S1 H1 _ s px ⟨d, ⟨n, e, n0, n1⟩, py⟩ Q q => by
    subst e
    cases py
    obtain ⟨l, xs, rfl, hl, hx, z⟩ := px.lst_inv
    obtain ⟨d, hd, he⟩ := atI_nat n0 n1
    obtain ⟨x, h1, h2⟩ := atI_dts hx he
    exact ⟨l, xs, n, x, rfl, rfl, sql_of (s _ _ hl), h1, q _ S1 H1 (Gr.refl s) ⟨d, hd, h2⟩⟩
/-- n in (a, b, ..) -/
theorem inV_int (n : Int) : ∀ ns : List Int, inV (.int n) (ns.map V.int) = ns.contains n
  | [] => rfl
  | m :: ns => by
    unfold inV
    rw [List.map_cons, List.any_cons]
    have h := inV_int n ns
    unfold inV at h
    rw [h, List.contains_cons]
    show (m == n || _) = _
    rw [show (m == n) = (n == m) by
      by_cases e : m = n
      · rw [e]
      · rw [beq_false_of_ne e, beq_false_of_ne (Ne.symm e)]]
theorem flat_ints (ns : List Int) : (ns.map V.int).all flatV = true := by
  induction ns with
  | nil => rfl
  | cons n ns ih => rw [List.map_cons, List.all_cons, ih]; rfl
theorem opE_inT {K : PySem.W.Frag} {ns : List Int} : OpE (rIn K false) S (Dt K (.int n)) (Dt K (.tuple (ns.map .int))) (Dt K (.bool (ns.contains n))) := fun v w S1 H1 _ s pv pw Q q => by
  cases pv
  obtain ⟨l, xs, rfl, hl, hx, z⟩ := pw.tup_inv
  rw [dts_int hx] at hl
  refine ⟨l, ns.map V.int, rfl, .inr (sqt_up s hl), rfl, flat_ints ns, ?_⟩
  rw [if_neg Bool.false_ne_true, inV_int]
  exact q _ S1 H1 (Gr.refl s) (.bl _)
theorem et_inT {ns : List Int} (ha : EE X σ S a (Dt X.K (.int n))) (hb : EE X σ S b (Dt X.K (.tuple (ns.map .int)))) (hm : behindInMarks .In b = false := by rfl) : ET X σ S (.Compare a [.In] [b] pos) (ns.contains n) := et_cmp op_in_seq ha hb opE_inT hm
/-- e.index(True) of a list of bools -/
theorem ee_indexT {bs : List Bool} {j : Nat} {apos : Pos} (hj : bs[j]? = some true) (hno : ∀ m, m < j → bs[m]? = some false) (ha : EE X σ S a (Dt X.K (.list (bs.map .bool)))) (hb : EE X σ S b (Dt X.K (.bool true)))
    (hbase : attributeBase a "index" X.env (eval a X.env) = eval a X.env := by rfl)
    (hfew : ((backTo pos (starEach [b] X.env)).all (fun x => !x.1) && (backToKw pos (keywordEach [] X.env)).all (fun x => x.1.isSome) && decide (([b] : List Expr).length + ([] : List Keyword).length + (if ([] : List Keyword).isEmpty then 0 else 1) < 30)) = true := by rfl)
    (hline : (apos.endLine == pos.line) = true := by rfl) (hs : starEach [b] X.env = (false, eval b X.env) :: starEach [] X.env := by rfl) (hplain : (backTo pos (starEach [] X.env)).any (·.1) = false := by rfl) :
    EE X σ S (.Call (.Attribute a "index" apos) [b] [] pos) (Dt X.K (.int (j : Nat))) := fun H s Q q =>
  he_of (pe_bm PySem.F.plainAttrs_list PySem.F.slot_list_index PySem.F.type_list_index mt_index peb pab hbase hfew hline hs hplain) (ha H s _ fun v S1 H1 g1 pv => by
    obtain ⟨l, xs, rfl, hl, hx, z⟩ := pv.lst_inv
    have e := dts_bl hx
    subst e
    refine ⟨.inl ⟨rfl, _, sql_of (g1.sub _ _ hl)⟩, ((ea_1 hb hs).up g1.st).2 H1 g1.sub _ fun vs S2 H2 g2 al => ?_⟩
    obtain ⟨w, rfl, pw⟩ := al.one
    cases pw
    refine ⟨l, bs.map V.bl, .bl true, j, .bl true, rfl, rfl, sql_of (g2.hh _ _ (g1.sub _ _ hl)), rfl, ?_, ?_, rfl, fun m z' hm hz => ?_, q _ S2 H2 (g1.trans g2) (.int _)⟩
    · rw [List.all_map]; exact List.all_eq_true.mpr fun b _ => rfl
    · rw [List.getElem?_map, hj]; rfl
    · rw [List.getElem?_map, hno m hm] at hz
      cases hz
      rfl)
theorem AllF.one {F : PyData → Prop} {ds : List PyData} (h : AllF [F] ds) : ∃ d, ds = [d] ∧ F d := by
  cases h with
  | cons f r => cases r; exact ⟨_, rfl, f⟩
theorem AllF.two {F G : PyData → Prop} {ds : List PyData} (h : AllF [F, G] ds) : ∃ d e, ds = [d, e] ∧ F d ∧ G e := by
  cases h with
  | cons f r => obtain ⟨e, rfl, g⟩ := r.one; exact ⟨_, _, rfl, f, g⟩
theorem ee_pairE {F G : PyData → Prop} {x1} (ha : EE X σ S a (Ex X.K F)) (hb : EE X σ S b (Ex X.K G)) (hs : starEach [a, b] X.env = (false, eval a X.env) :: starEach [b] X.env := by rfl) (hs2 : starEach [b] X.env = (false, eval b X.env) :: starEach [] X.env := by rfl) : EE X σ S (.Tuple [a, b] x1 pos) (Ex X.K fun d => ∃ d1 d2, d = .tuple [d1, d2] ∧ F d1 ∧ G d2) :=
  (ee_tupE (Fs := [F, G]) (ea_2 ha hb hs hs2)).exi fun d ⟨ds, e, h⟩ => by
    obtain ⟨d1, d2, rfl, f, g⟩ := h.two
    exact ⟨d1, d2, e, f, g⟩
end
end Z
namespace Z
open PySem PySem.Spec PyProof.Rows L2 PySem.Froz
/-! ## 15. set(text), a text of different ascii signs -/
section
variable {prog : Program} {w : World} {A : Around} {E : Value → Shared → Prop} {s : Shared}
theorem fresh_fits (led : Bool) : (SetTable.fresh 0 0 led).fits 0 = true := by cases led <;> decide +kernel
theorem run_ok {P : Program} : ∀ (cs : List Nat) (tk : Tok) (D : SD) (l : List Str), TxOk P w D l → ∃ l', TxOk P w (runD w cs tk D) l' ∧ l'.length = cs.length + l.length
  | [], _, D, l, F => ⟨l, F, by simp⟩
  | c :: r, tk, D, l, F => by
    obtain ⟨l', h1, h2⟩ := run_ok r (tk + 2) _ (sing c :: l) (add_ok tk F)
    exact ⟨l', h1, by rw [h2]; simp; omega⟩
theorem finU_get {s : Shared} {a it : Addr} {T : String} {X : SD} {n m : Nat} {o : Obj} (hne : a ≠ it) (h : s.heap.get? a = some o) : (finU s a T it X n m).heap.get? a = some (sObj T X) :=
  Heap.get?_push_of_some _ (Heap.get?_push_of_some _ (PySem.Heap.get?_update_of_ne _ (Ne.symm hne) (get_upd _ h rfl)))
theorem finU_old {s : Shared} {a it b : Addr} {T : String} {X : SD} {n m : Nat} {o : Obj} (h1 : b ≠ a) (h2 : b ≠ it) (h : s.heap.get? b = some o) : (finU s a T it X n m).heap.get? b = some o :=
  Heap.get?_push_of_some _ (Heap.get?_push_of_some _ (PySem.Heap.get?_update_of_ne _ (Ne.symm h2) (PySem.Heap.get?_update_of_ne _ (Ne.symm h1) h)))
theorem call_set_text {x : Str} {u : Tok} {Q : Value → Shared → Prop} (hh : A.handled = none) (ha : x.cps.all (· < 128) = true) (hnd : x.cps.toList.Nodup) (hlen : x.cps.size ≤ 1000)
    (h : ∀ (h' : Heap) (tk : Nat) (o : Obj) (es : Array (Int × Value)) (ep : Nat) (t : SetTable), h'.get? s.heap.objs.size = some o → o = sObj "set" (es, ep, t) → t.fits es.size = true → es.size = x.cps.size →
      (∀ b o, b < s.heap.objs.size → s.heap.get? b = some o → h'.get? b = some o) → Q (.ref s.heap.objs.size) { s with heap := h', toks := tk }) :
    wpAny (model prog w) A (call (.type "set") [.str x u]) Q E s := by
  obtain ⟨c, tl, hmro⟩ := PySem.F.called_set.mro
  have hmade := PySem.F.called_set.made
  have hsub := PySem.F.called_set.sub
  refine wpAny_call (codeAny_of_tree ?_)
  show wpAny _ _ (callAny (.type "set") _) _ _ _
  refine wpAny_pure ⟨Code.quiet_builtin _ (by decide +kernel), codeAny_builtin PySem.F.entry_type_call ?_⟩
  rw [Around.under_plain (weight_type_call_type "set" [.str x u] []) rfl]
  have h1 := PySem.F.called_set.notType
  have h2 := PySem.F.called_set.canCreate
  have hct := PySem.F.typeCall_set_1 (.str x u)
  repeat (any_goals (first | assumption | wp_step))
  refine codeAny_mono (code_set_new_1 (.str x u) (E := E) (Q₁ := fun obj s₁ => ∃ led : Bool, obj = .ref s.heap.objs.size ∧ s₁ = { s with heap := s.heap.push { cls := .type "set", dict := none, data := .set #[] 0 (.fresh 0 0 led) } }) fun led => ⟨led, rfl, rfl⟩) fun r s₁ hr => ?_
  cases r with
  | error e => exact hr
  | ok fl =>
    cases fl with
    | ret obj =>
      obtain ⟨led, rfl, rfl⟩ := hr
      have hS : (s.heap.push { cls := .type "set", dict := none, data := .set #[] 0 (.fresh 0 0 led) }).get? s.heap.objs.size = some { cls := .type "set", dict := none, data := .set #[] 0 (.fresh 0 0 led) } := Heap.get?_push_size _ rfl
      have hT : Shared.TypeIs { s with heap := s.heap.push { cls := .type "set", dict := none, data := .set #[] 0 (.fresh 0 0 led) } } (.ref s.heap.objs.size) "set" := ⟨_, hS, rfl⟩
      have hli := PySem.F.called_set.init.lookup
      have hbi := PySem.F.called_set.init.bind (.ref s.heap.objs.size)
      repeat (any_goals (first | assumption | wp_step))
      refine codeAny_mono (codeAny_call_builtin (R := wants (fun r s₂ => r = .none ∧ ∃ h' tk es ep t, s₂ = { s with heap := h', toks := tk } ∧
          h'.get? s.heap.objs.size = some (sObj "set" (es, ep, t)) ∧ t.fits es.size = true ∧ es.size = x.cps.size ∧
          (∀ b o, b < s.heap.objs.size → s.heap.get? b = some o → h'.get? b = some o)) E) PySem.F.called_set.init.plain PySem.F.entry_set_init (check_set_init_1 hT ?_)) fun r₂ s₂ hr₂ => ?_
      · have hsls := PySem.F.sub_str_set
        have hslf := PySem.F.sub_str_frozenset
        have hne : (Value.type "str" == Value.type "dict") = false := by decide
        unfold Builtin.«set.__init__» noKeywords Builtin.Frozenset.updateFrom
        generalize hPI : pyIter = PI
        wp_walk
        subst hPI
        refine wpAny_pyIter_ascii ha ?_
        refine wpAny_bind (wpAny_runValue ?_)
        have e1 : (s.heap.push { cls := .type "set", dict := none, data := .set #[] 0 (.fresh 0 0 led) }).objs.size = s.heap.objs.size + 1 := Heap.size_push _ _
        have hSz : (s.heap.push { cls := .type "set", dict := none, data := .set #[] 0 (.fresh 0 0 led) }).get? s.heap.objs.size = some (sObj "set" (#[], 0, .fresh 0 0 led)) := hS
        have hS2 : ((s.heap.push { cls := .type "set", dict := none, data := .set #[] 0 (.fresh 0 0 led) }).push { cls := .type "str_ascii_iterator", data := .fields #[.str x u, .int 0 0] }).get? s.heap.objs.size = some (sObj "set" (#[], 0, .fresh 0 0 led)) := Heap.get?_push_of_some _ hSz
        have hI2 : ((s.heap.push { cls := .type "set", dict := none, data := .set #[] 0 (.fresh 0 0 led) }).push { cls := .type "str_ascii_iterator", data := .fields #[.str x u, .int 0 0] }).get? (s.heap.objs.size + 1) = some (itObj x u 0) := by
          rw [← e1]; exact Heap.get?_push_size _ rfl
        have hne2 : s.heap.objs.size ≠ s.heap.objs.size + 1 := by omega
        rw [e1]
        refine code_update (P := prog) (w := w) (x := x) (u := u) (T := "set") hne2 (by simp [hh]) x.cps.toList 0 (#[], 0, .fresh 0 0 led) [] _ (by simp) hS2 hI2 (TxOk.nil (fresh_fits led)) (by simp) hnd (by rw [Array.length_toList]; unfold scanBound; simp; omega) ?_
        obtain ⟨l', F', hl'⟩ := run_ok (w := w) (P := prog) x.cps.toList s.toks (#[], 0, .fresh 0 0 led) [] (TxOk.nil (fresh_fits led))
        refine wpAny_pure (wpAny_pure ⟨rfl, _, _, _, _, _, rfl, finU_get (m := x.cps.toList.length) hne2 hS2, F'.fit, by rw [F'.sz, hl']; simp, fun b o hb e => ?_⟩)
        exact finU_old (m := x.cps.toList.length) (Nat.ne_of_lt hb) (Nat.ne_of_lt (Nat.lt_succ_of_lt hb)) (Heap.get?_push_of_some _ (Heap.get?_push_of_some _ e))
      · cases r₂ with
        | error e => exact hr₂
        | ok fl₂ =>
          cases fl₂ with
          | ret r =>
            obtain ⟨rfl, h', tk, es, ep, t, rfl, hS', hf, hsz, hk'⟩ := hr₂
            repeat (any_goals (first | assumption | wp_step))
            exact h _ _ _ es ep t hS' rfl hf hsz hk'
          | _ => exact hr₂.elim
    | _ => exact hr.elim
end
def tLenSetS (ta : TE) : TE := fun σ H Q => ta σ H fun x H1 => ∃ z : Str, x = .str z ∧ z.cps.all (· < 128) = true ∧ z.cps.toList.Nodup ∧ z.cps.size ≤ 1000 ∧ Q (.int (z.cps.size : Nat)) H1
theorem pe_lenSetS {X : Cx} {a : Expr} {ta : TE} {p p2 q pos : Pos} (hg : Gl X "len") (hm : X.mg "len" = none) (hg2 : Gl X "set") (hm2 : X.mg "set" = none) (ha : PE X a ta) (hc : X.calm = true := by rfl)
    (na : starEach [a] X.env = (false, eval a X.env) :: starEach [] X.env := by rfl) : PE X (.Call (.Name "len" p) [.Call (.Name "set" p2) [a] [] q] [] pos) (tLenSetS ta) := by
  refine ⟨fun pins s σ H Q I h => ?_⟩
  refine Call_ (ld_blt I hg hm boot_len ?_)
  refine PyProof.Rows.callWith_builtin1 (PyProof.Rows.args_cons ?_ rfl) rfl rfl
  refine Call_ (ld_blt I hg2 hm2 boot_set ?_)
  refine PyProof.Rows.callWith_type1 (PyProof.Rows.args_cons (thn (ha.run pins s σ H _ I h) fun v s1 ⟨x, H1, I1, r1, q1⟩ => PyProof.Rows.args_nil ?_) na) na rfl
  obtain ⟨z, rfl, ha1, hnd, hl, q1⟩ := q1
  obtain ⟨u, rfl⟩ := r1
  refine call_set_text (I1.ok.hd hc) ha1 hnd hl fun h' tk o es ep t ho he hf hn hk => ?_
  refine PyProof.Rows.args_nil ?_
  subst he
  have I2 : Inv X pins σ H1 { s1 with heap := h', toks := tk } := I1.kept fun b o e => hk b o (Heap.lt_size e) e
  exact call_len_set ho ⟨rfl, rfl, rfl⟩ rfl hf (by rw [hn] <;> omega) ⟨.int z.cps.size, H1, I2.tok _, ⟨_, by rw [hn]⟩, q1⟩
theorem ee_lenSetS {X : Cx} {σ : L2.St} {S : Hp} {a : Expr} {z : Str} {p p2 q pos : Pos} (hm : X.mg "len" = none) (hm2 : X.mg "set" = none) (ha : EE X σ S a (Dt X.K (.str z))) (h1 : z.cps.all (· < 128) = true) (h2 : z.cps.toList.Nodup) (h3 : z.cps.size ≤ 1000) (hc : X.calm = true := by rfl) (hg : Gl X "len" := by rfl) (hg2 : Gl X "set" := by rfl)
    (na : starEach [a] X.env = (false, eval a X.env) :: starEach [] X.env := by rfl) : EE X σ S (.Call (.Name "len" p) [.Call (.Name "set" p2) [a] [] q] [] pos) (Dt X.K (.int (z.cps.size : Nat))) := fun H s Q qq =>
  he_of (pe_lenSetS hg hm hg2 hm2 peb hc na) (ha H s _ fun v S1 H1 g1 pv => by
    cases pv
    exact ⟨z, rfl, h1, h2, h3, qq _ S1 H1 g1 (.int _)⟩)
end Z
namespace Y
open PySem PySem.Spec PyProof.Rows L2 Z
/-! ## enumerate over a tuple -/
theorem meets_enumT {v : Value} {o : Obj} {H : Heap → Prop} (B : Begins v o H) :
    Meets (Builtin.«enumerate.__new__» ⟨[.type "enumerate", v], []⟩) (fun _ R s => H s.heap ∧
      R (.ok (.ret (.ref (s.heap.push o).objs.size))) { s with heap := (s.heap.push o).push { cls := .type "enumerate", data := .fields #[.none, .bool false, .ref s.heap.objs.size, rawInt 0, .none, .none] } }) :=
  .of_wp fun prog w A R s h => by
    obtain ⟨hp, g, d, tk, os⟩ := s; obtain ⟨h1, h⟩ := h
    have hsub := sub_enumerate
    have q1 : ∀ {A' : Around} {E : Value → Shared → Prop} {Q : Value → Shared → Prop}, Q (.ref hp.objs.size) ⟨hp.push o, g, d, tk, os⟩ → wpAny (model prog w) A' (pyIter v) Q E ⟨hp, g, d, tk, os⟩ :=
      fun q => B.iter prog w _ _ ⟨hp, g, d, tk, os⟩ _ h1 q
    wp_walk using q1
    refine wpAny_stack_any fun st => wpAny_pure ?_
    split
    · rename_i c _ _ _ _ _
      cases (c == Value.type "enumerate")
      · wp_walk using q1
        exact ⟨_, rfl, h⟩
      · wp_walk using q1
        exact ⟨_, rfl, h⟩
    · wp_walk using q1
      exact ⟨_, rfl, h⟩
theorem call_enumT {prog : Program} {w : World} {A : Around} {E : Value → Shared → Prop} {s : Shared} {v : Value} {o : Obj} {H : Heap → Prop} {Q : Value → Shared → Prop} (B : Begins v o H) (h1 : H s.heap)
    (h : ∀ h', IsEnum h' (s.heap.objs.size + 1) s.heap.objs.size 0 .none → h'.get? s.heap.objs.size = some o → h'.objs.size = s.heap.objs.size + 2 →
      (∀ b o, s.heap.get? b = some o → h'.get? b = some o) → Q (.ref (s.heap.objs.size + 1)) { s with heap := h' }) :
    wpAny (model prog w) A (call (.type "enumerate") [v]) Q E s := by
  refine callType_new F.called_enumerate (by decide) (F.typeCall_enumerate_1 _) (F.newCall_enumerate_1 _) (fun obj => F.args_object_init_2 obj _) F.entry_enumerate_new
    (meets_enumT B) ⟨h1, ?_⟩
  have hz : (s.heap.push o).objs.size = s.heap.objs.size + 1 := Heap.size_push ..
  show _ ∧ _
  rw [hz]
  have he : IsEnum ((s.heap.push o).push { cls := .type "enumerate", data := .fields #[.none, .bool false, .ref s.heap.objs.size, rawInt 0, .none, .none] }) (s.heap.objs.size + 1) s.heap.objs.size 0 .none := by
    have := Heap.get?_push_size (s.heap.push o) (o := { cls := .type "enumerate", data := .fields #[.none, .bool false, .ref s.heap.objs.size, rawInt 0, .none, .none] }) rfl
    rw [hz] at this; exact this
  refine ⟨⟨_, he, rfl⟩, h _ he (Heap.get?_push_of_some _ (Heap.get?_push_size _ B.free)) (by rw [Heap.size_push, hz]) fun b o x => Heap.get?_push_of_some _ (Heap.get?_push_of_some _ x)⟩
/-- the tuple at a, each item in a new pair -/
def IteT (K : PySem.W.Frag) (a : Addr) : It :=
  ⟨fun i H => ∃ (xs : List V) (x : V), SqT K H a xs ∧ xs[i]? = some x, fun i H v H' => ∃ T x, v = .ref T ∧ H T = none ∧ H' = upd H T (.tup [.int (i : Nat), x]) ∧ ∀ xs, SqT K H a xs → xs[i]? = some x, fun i H => ∃ xs : List V, SqT K H a xs ∧ xs.length ≤ i⟩
theorem isTup_tuple {h : Heap} {a : Addr} {its : Array Value} (p : IsTup h a its) : h.IsTuple a its := by
  obtain ⟨o, e, c, n, d⟩ := p
  exact ⟨o, e, c, n, d⟩
theorem apart_tup {h : Heap} {a it : Addr} {its : Array Value} {i : Nat} (p : h.IsTuple a its) (q : h.IsTupleIter it a i) : a ≠ it := by
  rintro rfl
  obtain ⟨o, e, c, _⟩ := p
  obtain ⟨o', e', c', _⟩ := q
  rw [e] at e'; cases e'
  rw [c] at c'
  exact absurd c' (by decide)
theorem apart_en {h : Heap} {a e it : Addr} {its : Array Value} {k : Int} {old : Value} (p : h.IsTuple a its) (q : IsEnum h e it k old) : e ≠ a := by
  rintro rfl
  obtain ⟨o, e, c, _⟩ := p
  have e' := q
  unfold IsEnum at e'
  rw [e] at e'; cases e'
  exact absurd (Value.type.inj c) (by decide)
theorem turn_enumT {P : Program} {w : World} {K : PySem.W.Frag} {elts : List Expr} {kk : Nat} {tpos : Pos} (a e it : Addr) :
    Turn P w K (.Tuple elts kk tpos) (IteT K a) [e, it] e (fun i h => (∃ old, IsEnum h e it ((i : Nat) : Int) old) ∧ h.IsTupleIter it a i ∧ e ≠ it) where
  mem := by simp
  obj := fun i h st b hb => by
    obtain ⟨⟨old, he⟩, ⟨o, ho, hc, hd⟩, _⟩ := st
    have e' : b = e ∨ b = it := by simpa using hb
    rcases e' with z | z
    · rw [z]; exact ⟨_, he, fun v q => nomatch q⟩
    · rw [z]; exact ⟨o, ho, fun v q => by rw [hd] at q; cases q⟩
  keep := fun i h h' st k => let ⟨⟨old, he⟩, hi, hne⟩ := st; ⟨⟨old, k e (by simp) _ he⟩, hi.at fun o q => k it (by simp) o q, hne⟩
  item := by
    intro X hP hw hK hc i pins s σ H E I hf st hg
    subst hP hw hK
    obtain ⟨⟨old, he⟩, hit, hne⟩ := st
    obtain ⟨xs, x, hq, hx⟩ := hg
    obtain ⟨its, rv, p, hz⟩ := I.tuple hq
    have p := isTup_tuple p
    obtain ⟨u, hu, ru⟩ := rv.get hx
    have hel : e < s.heap.objs.size := Heap.lt_size he
    have hil : it < s.heap.objs.size := by obtain ⟨_, q, _⟩ := hit; exact Heap.lt_size q
    have D : Draws X.prog X.w X.A.in1 it [it, a] its.toArray.size (fun i v => its.toArray[i]? = some v) (fun i h => h.IsTupleIter it a i ∧ h.IsTuple a its.toArray) := Draws.tuple (show X.A.in1.handled = none from I.ok.hd hc) it a (apart_tup p hit) its.toArray
    refine wpAny_pyNext_enum_itemD D he ⟨hit, p⟩ (by
        have := (List.getElem?_eq_some_iff.mp hu).1
        simpa using this) hne (by
        intro z
        rcases List.mem_cons.mp z with z | z
        · exact hne z
        · exact apart_en p he (List.mem_singleton.mp z)) fun x' h' tk hx' ho hit' hT hsz hk => ?_
    have hx'' : its.toArray[i]? = some x' := hx'
    obtain rfl : x' = u := by
      have h2 : its[i]? = some x' := by simpa using hx''
      rw [hu] at h2; exact (Option.some.inj h2).symm
    refine ⟨_, rfl, wpAny_letOwnedTupleGo_enum (s := { s with heap := h', toks := tk + 1 }) ho fun h'' he' sb => ?_⟩
    have hT2 : h''.get? s.heap.objs.size = some { cls := .type "tuple", data := .seq #[.int i tk, x'] } := (sb.2 _ (Nat.ne_of_gt hel)).trans hT
    have new : ObjOk X.prog X.w (upd H s.heap.objs.size (.tup [.int (i : Nat), x])) h'' s.heap.objs.size (.tup [.int (i : Nat), x]) :=
      ⟨by show 2 ≤ sizeLine; decide, [.int i tk, x'], .cons ⟨_, rfl⟩ (.cons ru .nil), ⟨_, hT2, rfl, _, rfl⟩⟩
    have I1 : Inv X pins σ (upd H s.heap.objs.size (.tup [.int (i : Nat), x])) { s with heap := h'', toks := tk + 1 } :=
      I.turnedNew (ch := [e, it]) (fun b ob hb q => (sb.2 b (fun z => hb (by simp [z]))).trans (hk b ob (fun z => hb (by simp [z])) (fun z => hb (by simp [z])) q)) hf (Nat.le_refl _) new
    refine ⟨.ref s.heap.objs.size, _, I1, rfl, ⟨_, x, rfl, I.hok.fresh (Nat.le_refl _), rfl, fun ys hy => by rw [I.tuple_inj hy hq]; exact hx⟩, ⟨⟨x', ?_⟩, hit'.1.at fun o q => (sb.2 it (Ne.symm hne)).trans q, hne⟩, fun b hb => ?_⟩
    · have e1 : ((i + 1 : Nat) : Int) = (i : Int) + 1 := by omega
      rw [e1]; exact he'
    · have hb' : b < s.heap.objs.size := by
        have e' : b = e ∨ b = it := by simpa using hb
        rcases e' with z | z
        · rw [z]; exact hel
        · rw [z]; exact hil
      rw [upd_ne (Nat.ne_of_lt hb')]
      exact (hf b hb).1
  done := by
    intro X hP hw hK hc i pins s σ H E I hf st hg
    subst hP hw hK
    obtain ⟨⟨old, he⟩, hit, hne⟩ := st
    obtain ⟨xs, hq, hx⟩ := hg
    obtain ⟨its, rv, p, hz⟩ := I.tuple hq
    have p := isTup_tuple p
    obtain ⟨f0, f1, f2, f3, f4, f5⟩ := hf it (by simp)
    have hl := rv.length
    have hT : s.TypeIs (.ref e) "enumerate" := ⟨_, he, rfl⟩
    unfold pyNext
    refine wpAny_bind (wpAny_attempt (wpAny_callSpecial?_slot (name := Str.ofString "__next__") hT F.slot_enumerate_next
      (wpAny_call_entry F.slot_enumerate_next hT F.entry_enumerate_next ?_ (F.args_enumerate_next_1 _))))
    show wpAny _ _ (PySem.field (.ref e) 2 >>= _) _ _ _
    refine wpAny_bind (wpAny_field he rfl (x := .ref it) rfl ?_)
    refine wpAny_bind (wpAny_nextOf_tuple_end (I.ok.hd hc) hit p (by simp; omega) fun h' x he' hx' => ?_)
    obtain ⟨o, ho, hc'⟩ := hx'
    refine wpAny_bind (wpAny_isInstance (T := "StopIteration") (b := true) ⟨o, ho, hc'⟩ isSubtype_stop ?_)
    exact wpAny_pure ⟨rfl, I.turned (t' := s.toks) (fun b o hb q => he' b o hb q) f0 f1 f3 f4 f5⟩
  self := fun A i s Q E st h => let ⟨⟨_, he⟩, _⟩ := st; wpAny_pyIter_enum he h
def iEnumT (K : PySem.W.Frag) (ta : TA) : TI := fun σ H R => ta σ H fun vs H1 => ∃ a xs, vs = [.ref a] ∧ SqT K H1 a xs ∧ R (IteT K a) H1
theorem pi_enumT {X : Cx} {tg e : Expr} {ta : TA} {p pos tpos : Pos} {elts : List Expr} {kk : Nat} (hg : Gl X "enumerate") (hm : X.mg "enumerate" = none) (ha : PA X [e] ta) (hs : starEach [e] X.env = [(false, eval e X.env)] := by rfl) :
    PI X (.Tuple elts kk tpos) (.Call (.Name "enumerate" p) [e] [] pos) (iEnumT X.K ta) := by
  refine ⟨fun pins s σ H R I h => ?_⟩
  refine Call_ (ld_blt I hg hm boot_enumerate (PyProof.Rows.callWith_type1 (thn (ha.run pos pins s σ H _ I h) fun us s1 ⟨vs, H1, I1, r1, q1⟩ => ?_) hs rfl))
  obtain ⟨a, xs, ex, hq, q⟩ := q1
  subst ex
  cases r1 with
  | cons r rr =>
    cases rr
    cases r
    obtain ⟨its, rv, p', hz⟩ := I1.tuple hq
    refine call_enumT (begins_tuple a its.toArray) (isTup_tuple p') fun h' he hit hsz hk => wpAny_pyIter_enum he ?_
    have I2 : Inv X pins σ H1 { s1 with heap := h' } := I1.kept (t' := s1.toks) hk
    refine ⟨s1.heap.objs.size + 1, [s1.heap.objs.size + 1, s1.heap.objs.size], _, _, H1, rfl, I2, turn_enumT a (s1.heap.objs.size + 1) s1.heap.objs.size, ⟨⟨.none, he⟩, ⟨_, hit, rfl, rfl⟩, Nat.succ_ne_self _⟩, fun b hb => ?_, q⟩
    have e' : b = s1.heap.objs.size + 1 ∨ b = s1.heap.objs.size := by simpa using hb
    have hle : s1.heap.objs.size ≤ b := by
      rcases e' with z | z
      · rw [z]; exact Nat.le_add_right _ _
      · rw [z]; exact Nat.le_refl _
    exact I1.fpOk hle (I1.hok.fresh hle)
section
variable {X : Cx} {σ : L2.St} {S S' : Hp} {e a b c o : Expr} {es : List Expr} {P R : V → Hp → Prop} {pos p : Pos} {ds : List PyData}
theorem ei_enumT {elts : List Expr} {kk : Nat} {tpos : Pos} (hm : X.mg "enumerate" = none) (ha : EE X σ S a (Dt X.K (.tuple ds))) (hg : Gl X "enumerate" := by rfl) (hs : starEach [a] X.env = [(false, eval a X.env)] := by rfl) :
    EI X σ S (.Tuple elts kk tpos) (.Call (.Name "enumerate" p) [a] [] pos) (Ds X.K (enumD ds)) := fun H s R q =>
  hi_of (pi_enumT (tg := a) hg hm pab hs) ((ea_1 ha (by rw [hs]; rfl)).2 H s _ fun vs S1 H1 g1 al => by
    obtain ⟨v, rfl, pv⟩ := al.one
    obtain ⟨l, xs, rfl, hl, hx, _⟩ := pv.tup_inv
    have hlen : (Ds X.K (enumD ds)).length = xs.length := by rw [ds_len]; unfold enumD zipD; rw [List.length_zipWith, upto_len, hx.1]; omega
    refine ⟨l, xs, rfl, sqt_up g1.sub hl, q _ S1 H1 g1 ⟨fun i H hi hs => ?_, fun H hs => ?_, fun i H x H' hi hs y T st th => ?_⟩⟩
    · rw [hlen] at hi
      exact ⟨xs, xs[i], sqt_up hs hl, by simp [hi]⟩
    · rw [hlen]
      exact ⟨xs, sqt_up hs hl, Nat.le_refl _⟩
    · rw [hlen] at hi
      obtain ⟨t, x1, rfl, ht, rfl, k1⟩ := y
      have i1 : i < ds.length := by rw [← hx.1]; omega
      exact ⟨_, Gr.new th ht, _, ds_get (zipD_get (upto_get i1) (List.getElem?_eq_getElem i1)), pair_new th ht (.int _) ((hx.2 i _ _ (k1 xs (sqt_up hs hl)) (List.getElem?_eq_getElem i1)).up st)⟩)
end
end Y
namespace Y
open PySem PySem.Spec PyProof.Rows L2 Z
/-! ## own classes -/
/-- a known method -/
structure KM (P : Program) (w : World) (K : PySem.W.Frag) (mg : Str → Option Value) (base : Heap) (C : Addr) (m : Str) (k : Nat) (sp : Sp) : Prop where
  ex : ∃ f fd ps, FnOk P w K mg base CX0 k f fd ps sp ∧ PySem.W.findIn K (.ref C) m = some (some (.ref f)) ∧ PySem.W.isFn K (.ref f) = true ∧ PySem.W.keepIn K (.ref f) = true ∧ Binds K fd ps []
theorem KM.mono {P : Program} {w : World} {K : PySem.W.Frag} {mg : Str → Option Value} {base : Heap} {C : Addr} {m : Str} {j k : Nat} {sp : Sp} (h : KM P w K mg base C m j sp) (hk : j ≤ k) : KM P w K mg base C m k sp := by
  obtain ⟨f, fd, ps, F, r⟩ := h.ex
  exact ⟨f, fd, ps, F.mono hk, r⟩
/-- an instance of the class at C without the attribute m of its own -/
def InsP (C : Addr) (m : Str) (P : V → Hp → Prop) : Prop := ∀ v S, P v S → ∃ a dx fs, v = .ref a ∧ S a = some (.ins C dx fs) ∧ fs.lookup m = none
section
variable {X : Cx} {σ : L2.St} {S S' H : Hp} {e a b c o : Expr} {es : List Expr} {P P0 R : V → Hp → Prop} {Ps : List (V → Hp → Prop)} {pos p apos : Pos} {k : Nat} {x m f : Str} {sp : Sp} {C dx r : Addr} {fs : List (Str × V)} {v : V} {D : Ends} {rest : List Stmt}
/-- o.f, an attribute -/
theorem ee_fld (ho : EE X σ S o P0) (hP : ∀ w S1, P0 w S1 → ∃ a dx fs v, w = .ref a ∧ S1 a = some (.ins C dx fs) ∧ fs.lookup f = some v ∧ P v S1) (c : Cls X.K C) (n : NoAttr X.K C f) (hb : attributeBase o f X.env (eval o X.env) = eval o X.env := by rfl) : EE X σ S (.Attribute o f pos) P := fun H s Q q =>
  he_of (pe_fld peb hb) (ho H s _ fun w S1 H1 g1 pw => by
    obtain ⟨a, dx, fs, v, rfl, h1, h2, pv⟩ := hP w S1 pw
    exact ⟨a, C, dx, fs, v, rfl, g1.sub _ _ h1, c, n, h2, q v S1 H1 g1 pv⟩)
/-- self.f = e where self is not yet told in S -/
theorem hs_fld (hv : EE X σ S e P) (s : Same S H) (ho : ∀ S1, Same S S1 → EE X σ S1 o (fun w _ => w = .ref r)) (hH : H r = some (.ins C dx fs)) (c : Cls X.K C) (n : NoAttr X.K C f) (hl : fs.length < 1000)
    (q : ∀ v S' H', Gr S H S' H' → P v S' → H' r = some (.ins C dx fs) → HS X D rest σ (upd H' r (.ins C dx (putF f v fs)))) (hs : swapsWith e (some (.Attribute o f apos)) pos.line X.env = pure false := by rfl) : HS X D (.Assign [.Attribute o f apos] e pos :: rest) σ H :=
  hs_cons (ps_fld peb peb hs) (hv H s _ fun v S1 H1 g1 pv => by
    refine (ho S1 g1.st) H1 g1.sub _ fun w S2 H2 g2 pw => ?_
    subst pw
    have e1 := g1.hh _ _ hH
    have e2 := g2.hh _ _ e1
    refine ⟨r, C, dx, fs, rfl, e2, c, n, hl, ?_⟩
    have hS : S2 = S2 := rfl
    exact q v S1 H2 ⟨g1.st, g2.st.trans g2.sub, g1.hh.trans g2.hh, g1.old⟩ pv e2)
theorem ee_meth {pl : Sem Bool} (D : KM X.prog X.w X.K X.mg X.base C m k sp) (c : Cls X.K C) (hr : Room k X.A) (ho : EE X σ S o P0) [Mn P0] (hP : InsP C m P0) (ha : EA X σ S (e :: es) Ps) (hsp : SpE sp S (P0 :: Ps) R)
    (hst : starEach (e :: es) X.env = (false, eval e X.env) :: starEach es X.env := by rfl) (hpl : (backTo pos (starEach es X.env)).any (·.1) = false := by rfl)
    (ht : eval (.Call (.Attribute o m apos) (e :: es) [] pos) X.env = (do
      let ov ← eval o X.env
      standAt apos.atName
      let (f, first) ← holding [ov] (getMethod ov m pl)
      callWith pos f first (backTo pos (starEach (e :: es) X.env)) (backToKw pos (keywordEach [] X.env))) := by rfl) : EE X σ S (.Call (.Attribute o m apos) (e :: es) [] pos) R := fun H s Q q => by
  obtain ⟨f, fd, ps, F, hm, hf, hk, hb⟩ := D.ex
  refine he_of (pe_meth peb c ⟨hm, hf, hk⟩ F hr hb .nil pass0 pab hst hpl ht) (ho H s _ fun w S1 H1 g1 pw => ?_)
  obtain ⟨a, dx, fs, rfl, h1, h2⟩ := hP w S1 pw
  refine ⟨a, dx, fs, rfl, g1.sub _ _ h1, h2, (ha.up g1.st).2 H1 g1.sub _ fun vs S2 H2 g2 al => ?_⟩
  rw [List.append_nil]
  exact hsp _ S2 H2 (g1.st.trans g2.st) g2.sub (.cons (Mn.up g2.st pw) al) Q fun v S3 H3 g3 rv => q v S3 H3 ((g1.trans g2).trans g3) rv
/-- a call anywhere below the body -/
theorem run_fnA {CX : CXT} {k : Nat} {f : Addr} {fd : FuncData} {ps : List Str} {E : XK} {A : Around} {pins : List (Addr × Obj)} {s : Shared} {Q : VK} {us : List Value} {vs : List V} (F : FnOk X.prog X.w X.K X.mg X.base CX k f fd ps sp) (hr : Room k A) (hA : A.frames = X.A.frames) (hb : Binds X.K fd ps []) (hx : Passes CX X E)
    (I : Inv X pins σ H s) (r : Vals vs us) (h : sp vs H Q E) : wpAny (model X.prog X.w) A (call (.ref f) us) (EP X pins σ Q) X.xe s := by
  have hl : (us ++ []).length = ps.length := by rw [List.append_nil, ← r.length]; exact F.len _ _ _ _ h
  have e0 : Env0 X.prog X.w X.K X.mg X.base A X.stack s H := by
    have e := I.env0
    exact ⟨by rw [hA]; exact e.frames, e.mod, e.bs, e.bsz, e.funs, e.frf, e.hok, e.bare⟩
  refine wpAny_call (codeAny_mono (F.run A X.stack s H ⟨us, []⟩ us vs Q E hr e0 (by have := hb s us I.kIn hl; simpa using this) r h) fun r s' hq => ?_)
  cases r with
  | error e => exact hx pins σ H s e s' I hq
  | ok fl =>
    cases fl with
    | ret u => exact I.after hq
    | next => exact False.elim hq
    | brk => exact False.elim hq
    | cont => exact False.elim hq
theorem insAt {pins : List (Addr × Obj)} {s : Shared} {r : Addr} (I : Inv X pins σ H s) (e : H r = some (.ins C dx fs)) : ∃ ox od, PySem.W.InstAt s.heap r ox C (some od) := by
  obtain ⟨mA, J, _⟩ := ins_get I.hok e
  obtain ⟨od, J, _⟩ := J.look
  exact ⟨_, od, J⟩
/-- what v's type is, told apart from C -/
structure NotC (K : PySem.W.Frag) (C : Addr) (v : V) (H : Hp) : Prop where
  ty : (∃ r dx fs, v = .ref r ∧ H r = some (.ins C dx fs)) ∨ (∃ z, v = .str z) ∧ PySem.W.subIn K (.type "str") (.ref C) = some false
def rEqO (K : PySem.W.Frag) (C : Addr) (sp : Sp) : R2 := fun x y H Q => ∃ r dx fs, x = .ref r ∧ H r = some (.ins C dx fs) ∧ NotC K C y H ∧ sp [x, y] H (fun v H' => ∃ b, v = .bl b ∧ Q (.bl b) H') E0
theorem notC_ok {pins : List (Addr × Obj)} {s : Shared} {y : V} {u : Value} (I : Inv X pins σ H s) (ry : RelV y u) (h : NotC X.K C y H) : ∃ tb, PySem.W.Looks (model X.prog X.w) s.heap (typeOf u) tb ∧ PySem.W.notFirst X.K C tb = true := by
  rcases h.ty with ⟨r, dx, fs, rfl, e⟩ | ⟨⟨z, rfl⟩, e⟩
  · cases ry
    obtain ⟨ox, od, J⟩ := insAt I e
    exact ⟨_, J.type, by simp [PySem.W.notFirst]⟩
  · obtain ⟨t, rfl⟩ := ry
    exact ⟨.type "str", PySem.W.Looks.of_pure rfl, by simp [PySem.W.notFirst, e]⟩
theorem op_eqO (D : KM X.prog X.w X.K X.mg X.base C "__eq__" k sp) (hr : Room k X.A) : OpR X (compareOp .Eq) (rEqO X.K C sp) := by
  intro pins s σ H x y v u Q I rx ry hq
  obtain ⟨r, dx, fs, rfl, hx, hy, q⟩ := hq
  cases rx
  obtain ⟨f, fd, ps, F, hm, hf, hk, hb⟩ := D.ex
  obtain ⟨ox, od, J⟩ := insAt I hx
  obtain ⟨m, hF⟩ := I.fr
  obtain ⟨tb, L, nf⟩ := notC_ok I ry hy
  show wpAny (model X.prog X.w) X.A (richCompare .Eq (.ref r) u) _ _ _
  refine PySem.W.cmp_K (op := .Eq) hr.units0 hF I.ok.mod.kin J L nf hm hf (wpAny_mono (run_fnA (vs := [.ref r, y]) F hr rfl hb pass0 I (.cons rfl (.cons ry .nil)) q) (fun rv s' hq' => ?_) fun _ _ z => z)
  obtain ⟨w, H', I', rw', b, rfl, q'⟩ := hq'
  cases rw'
  exact ⟨.bl b, H', I', rfl, q'⟩
end
end Y
namespace Y
open PySem PySem.Spec PyProof.Rows L2 Z
section
variable {X : Cx} {σ : L2.St} {S S' H : Hp} {e a b c o : Expr} {es : List Expr} {P Pa Pb P0 R : V → Hp → Prop} {Ps : List (V → Hp → Prop)} {pos p apos : Pos} {k : Nat} {x m f : Str} {sp : Sp} {C dx r : Addr} {fs : List (Str × V)} {v : V} {D : Ends} {rest : List Stmt} {bo : Bool}
/-- what the promise of an own == (or `in`) is to be: a bool -/
def CmpP (sp : Sp) (S : Hp) (Pa Pb : V → Hp → Prop) (b : Bool) : Prop := ∀ v w S1 H1, Same S S1 → Same S1 H1 → Pa v S1 → Pb w S1 → ∀ Q : VK, (∀ S2 H2, Gr S1 H1 S2 H2 → Q (.bl b) H2) → sp [v, w] H1 Q E0
theorem opE_eqO [Mn Pa] [Mn Pb] (hC : ∀ w S1, Pa w S1 → ∃ r dx fs, w = .ref r ∧ S1 r = some (.ins C dx fs)) (hN : ∀ w S1, Pb w S1 → NotC X.K C w S1) (h : CmpP sp S Pa Pb bo) : OpE (rEqO X.K C sp) S Pa Pb (Dt X.K (.bool bo)) := fun x y S1 H1 st s px py Q q => by
  obtain ⟨r, dx, fs, rfl, e⟩ := hC x S1 px
  refine ⟨r, dx, fs, rfl, s _ _ e, ⟨?_⟩, h _ _ S1 H1 st s px py _ fun S2 H2 g => ⟨bo, rfl, q _ S2 H2 g (.bl _)⟩⟩
  rcases (hN y S1 py).ty with ⟨r', dx', fs', rfl, e'⟩ | e'
  · exact Or.inl ⟨r', dx', fs', rfl, s _ _ e'⟩
  · exact Or.inr e'
theorem ee_eqO [Mn Pa] [Mn Pb] (D : KM X.prog X.w X.K X.mg X.base C "__eq__" k sp) (hr : Room k X.A) (ha : EE X σ S a Pa) (hb : EE X σ S b Pb) (hC : ∀ w S1, Pa w S1 → ∃ r dx fs, w = .ref r ∧ S1 r = some (.ins C dx fs)) (hN : ∀ w S1, Pb w S1 → NotC X.K C w S1) (h : CmpP sp S Pa Pb bo) (hm : behindInMarks .Eq b = false := by exact nomark _) : EE X σ S (.Compare a [.Eq] [b] pos) (Dt X.K (.bool bo)) :=
  ee_cmp (op_eqO D hr) ha hb (opE_eqO hC hN h) hm
/-- repr(o), an own __repr__ that gives a text -/
theorem ee_repr (D : KM X.prog X.w X.K X.mg X.base C "__repr__" k sp) (hr : Room (k + 1) X.A) (hm : X.mg "repr" = none) (ha : EE X σ S a P0) [Mn P0] (hC : ∀ w S1, P0 w S1 → ∃ r dx fs, w = .ref r ∧ S1 r = some (.ins C dx fs)) {z : Str} (hsp : SpE sp S [P0] (Dt X.K (.str z))) (hg : Gl X "repr" := by rfl)
    (he : starEach [a] X.env = (false, eval a X.env) :: starEach [] X.env := by rfl) (hpl : (backTo pos (starEach [] X.env)).any (·.1) = false := by rfl) : EE X σ S (.Call (.Name "repr" p) [a] [] pos) (Dt X.K (.str z)) := by
  have hc : CallR X (.builtin "repr") (fun vs H Q => ∃ r dx fs, vs = [.ref r] ∧ H r = some (.ins C dx fs) ∧ sp vs H (fun v H' => ∃ z, v = .str z ∧ Q (.str z) H') E0) := by
    intro pins s σ H vs us Q I rv hq
    obtain ⟨r, dx, fs, rfl, hx, q⟩ := hq
    obtain ⟨f, fd, ps, F, hm, hf, hk, hb⟩ := D.ex
    obtain ⟨u, rfl, rx⟩ : ∃ u, us = [u] ∧ RelV (.ref r) u := by
      cases rv with
      | cons h t => cases t; exact ⟨_, rfl, h⟩
    cases rx
    obtain ⟨ox, od, J⟩ := insAt I hx
    obtain ⟨m, hF⟩ := I.fr
    refine PySem.W.repr_K (by have := hr.in1.units0; simpa [Around.in1] using this) hF I.ok.mod.kin J hm hf (wpAny_mono (run_fnA (vs := [.ref r]) F hr.in1 rfl hb pass0 I (.cons rfl .nil) q) (fun rv s' hq' => ?_) fun _ _ z => z)
    obtain ⟨w, H', I', rw', b, rfl, q'⟩ := hq'
    obtain ⟨t, rfl⟩ := rw'
    exact ⟨.str b, H', I', ⟨t, rfl⟩, q'⟩
  refine ee_callB hc hm (by first | rfl | decide +kernel) (ea_1 ha he) (fun vs S1 H1 st s al Q q => ?_) hg (by decide) (by decide) he hpl
  obtain ⟨v, rfl, pv⟩ := al.one
  obtain ⟨r, dx, fs, rfl, e⟩ := hC v S1 pv
  exact ⟨r, dx, fs, rfl, s _ _ e, hsp _ S1 H1 st s (.cons pv .nil) _ fun v S2 H2 g pv => by
    cases pv
    exact ⟨z, rfl, q _ S2 H2 g (.str _)⟩⟩
end
/-! ## a new instance -/
structure GrI (a : Addr) (S H S' H' : Hp) : Prop where
  st : Same S S'
  sub : Same S' H'
  hh : ∀ z o, z ≠ a → H z = some o → H' z = some o
  old : ∀ z o, z ≠ a → H z = some o → NT o → S' z = S z
/-- what __init__ promises -/
def spI (C : Addr) (K : PySem.W.Frag) (F : List PyData → (Addr → V → Hp → Prop) → Prop) : Sp := fun vs H Q _ => ∃ S a dx ws ds R, vs = .ref a :: ws ∧ Same S H ∧ S a = none ∧ H a = some (.ins C dx []) ∧ Dts K ds ws S ∧ F ds R ∧ ∀ l S' H', GrI a S H S' H' → S l = none → R l (.ref a) S' → Q .non H'
/-- a thing whose part at l is new -/
def NewR (R : Addr → V → Hp → Prop) (S : Hp) : V → Hp → Prop := fun v S' => ∃ l, S l = none ∧ R l v S'
theorem NewR.dn {R : Addr → V → Hp → Prop} {S S0 S' : Hp} {v : V} (s : Same S0 S) (h : NewR R S v S') : NewR R S0 v S' := let ⟨l, a, b⟩ := h; ⟨l, s.free a, b⟩
instance {R : Addr → V → Hp → Prop} {S : Hp} [h : ∀ l, Mn (R l)] : Mn (NewR R S) := ⟨fun s ⟨l, a, b⟩ => ⟨l, a, (h l).up s b⟩⟩
theorem GrI.step {a : Addr} {S H S1 H1 S2 H2 : Hp} (i : GrI a S H S1 H1) (g : Gr S1 H1 S2 H2) : GrI a S H S2 H2 :=
  ⟨i.st.trans g.st, g.sub, fun z o n h => g.hh _ _ (i.hh z o n h), fun z o n h m => (g.old z o (i.hh z o n h) m).trans (i.old z o n h m)⟩
theorem GrI.put {a : Addr} {S H S1 H1 : Hp} {o : HO} (i : GrI a S H S1 H1) (h : S a = none) : GrI a S H (upd S1 a o) (upd H1 a o) :=
  ⟨fun z u e => by
    have ne : z ≠ a := fun q => by subst q; rw [h] at e; cases e
    rw [upd_ne ne]; exact i.st z u e, fun z u e => by
    by_cases ne : z = a
    · subst ne; rw [upd_same] at e ⊢; exact e
    · rw [upd_ne ne] at e ⊢; exact i.sub z u e, fun z u n e => by rw [upd_ne n]; exact i.hh z u n e, fun z u n e m => by rw [upd_ne n]; exact i.old z u n e m⟩
theorem GrI.start {a : Addr} {S H : Hp} {o : HO} (s : Same S H) (h : S a = none) (e : H a = some o) : GrI a S H (upd S a o) H :=
  ⟨Same.new h, fun z u q => by
    by_cases ne : z = a
    · subst ne; rw [upd_same] at q; rw [e]; exact q
    · rw [upd_ne ne] at q; exact s z u q, fun z u n q => q, fun z u n q _ => upd_ne n⟩
section
variable {X : Cx} {σ : L2.St} {S S' H : Hp} {e a b c o : Expr} {es : List Expr} {P P0 : V → Hp → Prop} {Ps : List (V → Hp → Prop)} {pos p apos : Pos} {k : Nat} {x m : Str} {sp : Sp} {C f : Addr} {fd : FuncData} {ps : List Str} {ds dd : List PyData} {dvs : List V} {us : List Value} {R : Addr → V → Hp → Prop}
theorem make_init {F : List PyData → (Addr → V → Hp → Prop) → Prop} {vs : List V} {S1 H1 : Hp} {a dx : Addr} {Q : Hp → Prop} (s : Same S1 H1) (hd : Dts X.K ds vs S1) (hF : F ds R) (ha : H1 a = none) (hdx : H1 dx = none) (hne : dx ≠ a) (q : ∀ S2 H2, Gr S1 H1 S2 H2 → NewR R S1 (.ref a) S2 → Q H2) :
    spI C X.K F (.ref a :: vs) (upd (upd H1 dx (.own a)) a (.ins C dx [])) (fun v H2 => v = .non ∧ Q H2) E0 := by
  have hst : Same H1 (upd (upd H1 dx (.own a)) a (.ins C dx [])) := (Same.new hdx).trans (Same.new (by rw [upd_ne hne.symm]; exact ha))
  refine ⟨S1, a, dx, vs, ds, R, rfl, s.trans hst, s.free ha, upd_same, hd, hF, fun l S' H' g hl r => ⟨rfl, q S' H' ⟨g.st, g.sub, fun z o hz => ?_, fun z o hz m => ?_⟩ ⟨l, hl, r⟩⟩⟩
  · exact g.hh z o (ne_of_none hz ha) (hst z o hz)
  · exact g.old z o (ne_of_none hz ha) (hst z o hz) m
theorem ee_make {F : List PyData → (Addr → V → Hp → Prop) → Prop} (M : Mk X.K C f) (G : FnOk X.prog X.w X.K X.mg X.base CX0 k f fd ps (spI C X.K F)) (hr : Room (k + 1) X.A) (hm : X.mg x = some (.ref C)) (hb : Binds X.K fd ps us) (hd : Vals dvs us) (hdd : ∀ S, Dts X.K dd dvs S) (ha : EA X σ S (e :: es) (Ds X.K ds)) (hF : F (ds ++ dd) R)
    (hg : Gl X x := by rfl) (hdb : (x == ("__debug__" : Str)) = false := by decide) (he : starEach (e :: es) X.env = (false, eval e X.env) :: starEach es X.env := by rfl) (hpl : (backTo pos (starEach es X.env)).any (·.1) = false := by rfl) : EE X σ S (.Call (.Name x p) (e :: es) [] pos) (NewR R S) := fun H s Q q =>
  he_of (pe_make M G hr hg hm hb hd pass0 pab hdb he hpl) (ha.2 H s _ fun vs S1 H1 g1 al a dx h1 h2 h3 =>
    make_init g1.sub ((al_dts al).append (hdd S1)) hF h1 h2 h3 fun S2 H2 g2 r => q _ S2 H2 (g1.trans g2) (r.dn g1.st))
end
end Y
namespace Y
open PySem PySem.Spec PyProof.Rows L2 Z
section
variable {X : Cx} {σ : L2.St} {S S' H : Hp} {e a b c o : Expr} {es : List Expr} {P Pa Pb P0 R : V → Hp → Prop} {Ps : List (V → Hp → Prop)} {pos p apos : Pos} {i j l : Int} {d : PyData} {ds : List PyData} {k : Bool}
/-- a <= b <= c -/
theorem et_chainLE (ha : EE X σ S a (Dt X.K (.int i))) (hb : EE X σ S b (Dt X.K (.int j))) (hc : EE X σ S c (Dt X.K (.int l))) (hm : lastMarks [.LtE, .LtE] [b, c] = false := by with_unfolding_all rfl) : ET X σ S (.Compare a [.LtE, .LtE] [b, c] pos) (decide (i ≤ j) && decide (j ≤ l)) := fun H s Q q =>
  ht_of (pt_chain op_le op_le peb peb peb hm) (ha H s _ fun x S1 H1 g1 px => (hb.up g1.st) H1 g1.sub _ fun y S2 H2 g2 py => by
    cases px; cases py
    refine ⟨i, j, rfl, rfl, decide (i ≤ j), rfl, ?_⟩
    by_cases h : i ≤ j
    · rw [if_pos (decide_eq_true h)]
      exact (hc.up (g1.st.trans g2.st)) H2 g2.sub _ fun z S3 H3 g3 pz => by
        cases pz
        refine ⟨j, l, rfl, rfl, decide (j ≤ l), rfl, ?_⟩
        have := q S3 H3 ((g1.trans g2).trans g3)
        rw [decide_eq_true h, Bool.true_and] at this
        exact this
    · rw [if_neg (by rw [decide_eq_false h]; exact Bool.false_ne_true)]
      refine ⟨false, rfl, ?_⟩
      have := q S2 H2 (g1.trans g2)
      rw [decide_eq_false h, Bool.false_and] at this
      exact this)
/-- a sign not in a text -/
theorem et_notInC {n : Nat} {z : Str} (ha : EE X σ S a (Dt X.K (.str ⟨#[n]⟩))) (hb : EE X σ S b (Dt X.K (.str z))) (hm : behindInMarks .NotIn b = false := by with_unfolding_all rfl) : ET X σ S (.Compare a [.NotIn] [b] pos) (!decide (n ∈ z.cps.toList)) :=
  et_cmp op_notIn_sign ha hb (fun v w S1 H1 _ s px py Q q => by cases px; cases py; exact ⟨n, z, rfl, rfl, q _ S1 H1 (Gr.refl s) (.bl _)⟩) hm
/-- isinstance(a, (list, tuple)) -/
theorem ee_isiLT (hk : k = (isD d "list" || isD d "tuple")) (hm : X.mg "isinstance" = none) (h1 : X.mg "list" = none) (h2 : X.mg "tuple" = none) (ha : EE X σ S a (Dt X.K d)) {p1 p2 p3 : Pos} {x1} (hg : Gl X "isinstance" := by rfl) (hg1 : Gl X "list" := by rfl) (hg2 : Gl X "tuple" := by rfl)
    (hs : starEach [a, .Tuple [.Name "list" p1, .Name "tuple" p2] x1 p3] X.env = (false, eval a X.env) :: starEach [.Tuple [.Name "list" p1, .Name "tuple" p2] x1 p3] X.env := by rfl) : EE X σ S (.Call (.Name "isinstance" p) [a, .Tuple [.Name "list" p1, .Name "tuple" p2] x1 p3] [] pos) (Dt X.K (.bool k)) := by
  haveI m1 : Mn (fun (w : V) (_ : Hp) => w = .ty "list") := ⟨fun _ h => h⟩
  haveI m2 : Mn (fun (w : V) (_ : Hp) => w = .ty "tuple") := ⟨fun _ h => h⟩
  haveI m3 : Mn (fun (w : V) (S : Hp) => ∃ t, w = .ref t ∧ S t = some (.tup [.ty "list", .ty "tuple"])) := ⟨fun s ⟨t, e, h⟩ => ⟨t, e, s _ _ h⟩⟩
  have ht : EE X σ S (.Tuple [.Name "list" p1, .Name "tuple" p2] x1 p3) (fun (w : V) (S : Hp) => ∃ t, w = .ref t ∧ S t = some (.tup [.ty "list", .ty "tuple"])) :=
    ee_tupA (vsP := fun vs _ => vs = [.ty "list", .ty "tuple"]) (fun H s Q q => (ea_2 (ee_bltn (P := fun w _ => w = .ty "list") (v := .ty "list") (u := .type "list") h1 (by first | rfl | decide +kernel | exact boot_list) rfl rfl hg1 (by decide) (by decide)) (ee_bltn (P := fun w _ => w = .ty "tuple") (v := .ty "tuple") (u := .type "tuple") h2 (by first | rfl | decide +kernel | exact boot_tuple) rfl rfl hg2 (by decide) (by decide)) rfl rfl).2 H s Q fun vs S' H' g al => q vs S' H' g (by
        obtain ⟨v, w, rfl, rfl, rfl⟩ := al.two
        rfl)) (fun vs _ e => by subst e; show 2 ≤ 16777216; decide) (fun vs S' t st ht e => by subst e; exact ⟨t, rfl, upd_same⟩)
  refine ee_callB call_isiT hm boot_isinstance (ea_2 ha ht hs rfl) (fun vs S1 H1 _ s al Q q => ?_) hg (he := hs) (hpl := by rfl)
  obtain ⟨v, w, rfl, pv, t, rfl, pw⟩ := al.two
  refine ⟨v, t, [.ty "list", .ty "tuple"], .type (tyN d), [.type "list", .type "tuple"], k, rfl, s _ _ pw, .cons (.ty "list") (.cons (.ty "tuple") .nil), tyX_of pv s, ?_, q _ S1 H1 (Gr.refl s) (.bl k)⟩
  subst hk
  refine kitAny_cons (kit_ty (isD_ok d (by simp))) (fun e => kitAny_cons (kit_ty (isD_ok d (by simp))) (fun e2 => ?_) (fun e2 => ?_)) (fun e => ?_)
  · rw [e, e2]; exact kitAny_nil
  · rw [e2]; simp
  · rw [e]; simp
/-- list(a): a new list -/
def NewL (K : PySem.W.Frag) (S : Hp) (ds : List PyData) : V → Hp → Prop := fun v S' => ∃ l xs, v = .ref l ∧ S l = none ∧ S' l = some (.lst xs) ∧ Dts K ds xs S' ∧ xs.length ≤ sizeLine
instance {K : PySem.W.Frag} {S : Hp} {ds : List PyData} : Mn (NewL K S ds) := ⟨fun s ⟨l, xs, e, h, h1, h2, z⟩ => ⟨l, xs, e, h, s _ _ h1, h2.up s, z⟩⟩
theorem NewL.dt {K : PySem.W.Frag} {S S' : Hp} {ds : List PyData} {v : V} (h : NewL K S ds v S') : Dt K (.list ds) v S' := by
  obtain ⟨l, xs, rfl, _, h1, h2, z⟩ := h
  exact Dt.lst_mk h1 h2 z
theorem NewL.dn {K : PySem.W.Frag} {S S0 S' : Hp} {ds : List PyData} {v : V} (s : Same S0 S) (h : NewL K S ds v S') : NewL K S0 ds v S' := by
  obtain ⟨l, xs, rfl, h0, h1, h2, z⟩ := h
  exact ⟨l, xs, rfl, s.free h0, h1, h2, z⟩
theorem ee_listN (hm : X.mg "list" = none) (hd : d = .list ds ∨ d = .tuple ds) (ha : EE X σ S a (Dt X.K d)) (hg : Gl X "list" := by rfl)
    (hs : starEach [a] X.env = (false, eval a X.env) :: starEach [] X.env := by rfl) : EE X σ S (.Call (.Name "list" p) [a] [] pos) (NewL X.K S ds) :=
  ee_callTy call_list_of hm boot_list (ea_1 ha hs) (fun vs S1 H1 st s al Q q => by
    obtain ⟨v, rfl, pv⟩ := al.one
    rcases hd with rfl | rfl
    · obtain ⟨l, xs, rfl, hl, hx, z⟩ := pv.lst_inv
      exact ⟨l, xs, rfl, .inl (sql_of (s _ _ hl)), fun t ht => q _ _ _ (Gr.new s ht) ⟨t, xs, rfl, st.free (s.free ht), upd_same, hx.up (Same.new (s.free ht)), z⟩⟩
    · obtain ⟨l, xs, rfl, hl, hx, z⟩ := pv.tup_inv
      exact ⟨l, xs, rfl, .inr (sqt_up s hl), fun t ht => q _ _ _ (Gr.new s ht) ⟨t, xs, rfl, st.free (s.free ht), upd_same, hx.up (Same.new (s.free ht)), z⟩⟩) hg (he := hs) (hpl := by rfl)
/-- (x,) * n -/
theorem tuple_mul1 (l : Addr) (items : Array Value) (n : Nat) (dd : Option Addr) (sl : Array (Option Value)) (u : Tok) :
    Meets (Builtin.«tuple.__mul__» ⟨[.ref l, .int 1 u], []⟩) (fun _ R s => s.heap.get? l = some { cls := .type "tuple", dict := dd, data := .seq items n, slots := sl } ∧ R (.ok (.ret (Value.ref l))) s) :=
  .of_wp fun prog w A R s h => by
    obtain ⟨hp, g, d, tk, os⟩ := s
    obtain ⟨hl, h⟩ := h
    have f1 := AutoSeq1.idx_int
    have c0 : (decide ((1 : Int) < -(2 ^ 63)) || decide ((1 : Int) ≥ 2 ^ 63)) = false := by decide
    have c1 : (items.isEmpty || (1 : Int) == 1) = true := by simp
    wp_walk using wpAny_loadPart' hl
    repeat (first
      | (refine wpAny_ite_false (decide_eq_false (by rw [c0]; exact Bool.false_ne_true)) ?_; wp_walk using wpAny_loadPart' hl)
      | (refine wpAny_ite_true (decide_eq_true c1) ?_; wp_walk using wpAny_loadPart' hl))
    exact ⟨_, rfl, h⟩
def rRep1 (K : PySem.W.Frag) : R2 := fun x y H Q => ∃ l xs, x = .ref l ∧ y = .int 1 ∧ SqT K H l xs ∧ Q (.ref l) H
theorem op_rep1 : OpR X (binaryOp .Mult) (rRep1 X.K) := by
  intro pins s σ H x y v u Q I rx ry h
  obtain ⟨l, xs, rfl, rfl, hT, q⟩ := h
  cases rx
  obtain ⟨t, rfl⟩ := ry
  obtain ⟨its, r, ⟨⟨cls, dd, data, sl⟩, ho, hc, n, hd⟩, hs⟩ := I.tuple hT
  simp only at hc hd
  subst hc hd
  refine wpAny_binaryOp_repeat_ref (T := "tuple") (U := "int") (by decide) ⟨_, ho, rfl⟩ (fun s' => typeIs_int s' 1 t) noFill_tuple_mul F.fills_int_mul F.slot_int_rmul repeat_tuple F.slot_int_index.lookup
    (call_meets F.slot_int_rmul (typeIs_int s 1 t) F.entry_int_rmul (F.args_int_rmul_2 _ _) (int_rmul_tuple 1 t l its.toArray n dd sl)
      ⟨ho, rfl, ⟨_, ho, rfl⟩, call_meets F.slot_tuple_mul ⟨_, ho, rfl⟩ F.entry_tuple_mul (F.args_tuple_mul_2 _ _) (tuple_mul1 l its.toArray n dd sl t) ⟨ho, ?_⟩⟩)
  exact ⟨.ref l, H, I, rfl, q⟩
theorem ee_repT {n : Nat} (hn : 1 ≤ n) (hz : n ≤ 1000) (hc : ds.length ≤ 1000) (hne : ds ≠ []) (ha : EE X σ S a (Dt X.K (.tuple ds))) (hb : EE X σ S b (Dt X.K (.int n))) : EE X σ S (.BinOp a .Mult b pos) (Dt X.K (.tuple (List.replicate n ds).flatten)) := by
  by_cases h1 : n = 1
  · subst h1
    refine (ee_op op_rep1 ha hb (R := Dt X.K (.tuple ds)) fun x y S1 H1 _ s px py Q q => ?_).isd (by simp)
    cases py
    obtain ⟨l, xs, rfl, hl, hx, z⟩ := px.tup_invS
    exact ⟨l, xs, rfl, rfl, sqt_up s hl.sq, q _ S1 H1 (Gr.refl s) (Dt.tup_mk hl hx z)⟩
  · refine ee_op op_repT ha hb fun x y S1 H1 _ s px py Q q => ?_
    cases py
    obtain ⟨l, xs, rfl, hl, hx, z⟩ := px.tup_inv
    refine ⟨l, n, xs, rfl, rfl, sqt_up s hl, fun e => hne ?_, by omega, by omega, by rw [hx.1]; exact hc, fun t ht => q _ _ _ (Gr.new s ht) ?_⟩
    · have := hx.1; rw [e] at this; exact List.eq_nil_of_length_eq_zero this.symm
    · have e : ((n : Int)).toNat = n := by omega
      rw [e]
      refine Dt.tup_mk (tus_of upd_same) ((flat_dts (d := .none) rfl hx _).up (Same.new (s.free ht))) ?_
      rw [flatten_len, hx.1]
      have : ds.length * n ≤ 1000 * 1000 := Nat.mul_le_mul hc hz
      show _ ≤ 16777216
      omega
end
end Y
namespace Y
open PySem PySem.Spec PyProof.Rows L2 Z
section
variable {X : Cx} {σ : L2.St} {S S' H : Hp} {e a b c o : Expr} {es : List Expr} {P Pa Pb P0 P1 R : V → Hp → Prop} {Ps : List (V → Hp → Prop)} {pos p apos kpos : Pos} {i j l : Int} {d : PyData} {ds ds1 ds2 : List PyData} {k : Nat} {x m f kn : Str} {sp : Sp} {C dx r : Addr} {D : Ends} {rest : List Stmt}
/-! ### o.m(k = e) -/
/-! ### a def with a star parameter -/
/-! ### f-strings -/
inductive EJ (X : Cx) (σ : L2.St) (S : Hp) : List Expr → List Str → Prop
  | nil : EJ X σ S [] []
  | cons {e : Expr} {es : List Expr} {y : Str} {ys : List Str} : EE X σ S e (Dt X.K (.str y)) → EJ X σ S es ys → EJ X σ S (e :: es) (y :: ys)
theorem EJ.pj {es : List Expr} {ys : List Str} (h : EJ X σ S es ys) : PJ X es (es.map (bE X)) := by
  induction h with
  | nil => exact .nil
  | cons _ _ ih => exact .cons peb ih
theorem EJ.run {es : List Expr} {ys : List Str} (h : EJ X σ S es ys) : ∀ (acc : Str) (S1 H1 : Hp) (Q : Str → Hp → Prop), Same S S1 → Same S1 H1 → acc.length + (ys.map (·.length)).sum ≤ sizeLine → (∀ S2 H2, Gr S1 H1 S2 H2 → Q (ys.foldl (· ++ ·) acc) H2) → tJs (es.map (bE X)) acc σ H1 Q := by
  induction h with
  | nil => intro acc S1 H1 Q _ s _ q; exact q S1 H1 (Gr.refl s)
  | @cons e es y ys he _ ih =>
    intro acc S1 H1 Q st s hz q
    rw [List.map_cons, List.sum_cons] at hz
    have el : (acc ++ y).length = acc.length + y.length := by
      show (acc.cps ++ y.cps).size = _
      rw [Array.size_append]; rfl
    refine (he.up st) H1 s _ fun v S2 H2 g2 pv => ?_
    cases pv
    exact ⟨y, rfl, by rw [el]; omega, ih (acc ++ y) S2 H2 Q (st.trans g2.st) g2.sub (by rw [el]; omega) fun S3 H3 g3 => q S3 H3 (g2.trans g3)⟩
theorem ee_joined {v1 v2 : Expr} {rest : List Expr} {ys : List Str} (h : EJ X σ S (v1 :: v2 :: rest) ys) (hz : (ys.map (·.length)).sum ≤ sizeLine) : EE X σ S (.JoinedStr (v1 :: v2 :: rest) pos) (Dt X.K (.str (ys.foldl (· ++ ·) Str.empty))) := fun H s Q q =>
  he_of (pe_joined h.pj) (h.run Str.empty S H _ (Same.refl S) s (by show 0 + _ ≤ _; omega) fun S2 H2 g => q _ S2 H2 g (.str _))
theorem ee_fmtI (hz : i.natAbs.log2 < 1920) (h : EE X σ S e (Dt X.K (.int i))) : EE X σ S (.FormattedValue e (-1) none pos) (Dt X.K (.str (toString i))) := fun H s Q q =>
  he_of (pe_fmt peb) (h H s _ fun v S1 H1 g pv => by cases pv; exact .inr ⟨i, rfl, hz, q _ S1 H1 g (.str _)⟩)
/-! ### [*a, *b] -/
theorem ee_lst2 {p1 p2 : Pos} {d1 d2 : PyData} (h1 : d1 = .list ds1 ∨ d1 = .tuple ds1) (h2 : d2 = .list ds2 ∨ d2 = .tuple ds2) (hz : ds1.length + ds2.length ≤ sizeLine) (ha : EE X σ S a (Dt X.K d1)) (hb : EE X σ S b (Dt X.K d2)) (hs1 : starEach [.Starred a p1, .Starred b p2] X.env = (true, eval a X.env) :: starEach [.Starred b p2] X.env := by rfl) (hs2 : starEach [.Starred b p2] X.env = (true, eval b X.env) :: starEach [] X.env := by rfl) :
    EE X σ S (.List [.Starred a p1, .Starred b p2] pos) (Dt X.K (.list (ds1 ++ ds2))) := by
  have key : ∀ {d : PyData} {ds : List PyData} {v : V} {S1 H1 : Hp}, (d = .list ds ∨ d = .tuple ds) → Same S1 H1 → Dt X.K d v S1 → ∃ p xs, v = .ref p ∧ (SqT X.K H1 p xs ∨ SqL X.K H1 p xs) ∧ Dts X.K ds xs S1 := by
    intro d ds v S1 H1 hd s pv
    rcases hd with rfl | rfl
    · obtain ⟨l, xs, rfl, hl, hx, _⟩ := pv.lst_inv
      exact ⟨l, xs, rfl, .inr (sql_of (s _ _ hl)), hx⟩
    · obtain ⟨l, xs, rfl, hl, hx, _⟩ := pv.tup_inv
      exact ⟨l, xs, rfl, .inl (sqt_up s hl), hx⟩
  refine ee_lstA (vsP := fun vs S' => Dts X.K (ds1 ++ ds2) vs S') (fun H s Q q => ?_) (fun vs S' h => by rw [h.1, List.length_append]; exact hz) (fun vs S' p st hp h => Dt.lst_mk upd_same (h.up (Same.new hp)) (by rw [h.1, List.length_append]; exact hz))
  refine ha_of (StX.pa_star (te := bE X a) (t := StX.tStar X.K (bE X b) tNil) peb (StX.pa_star peb pa_nil hs2) hs1) (ha H s _ fun v S1 H1 g1 pv => ?_)
  obtain ⟨p, xs, rfl, hp, hx⟩ := key h1 g1.sub pv
  refine ⟨p, xs, rfl, hp, (hb.up g1.st) H1 g1.sub _ fun w S2 H2 g2 pw => ?_⟩
  obtain ⟨p', ys, rfl, hp', hy⟩ := key h2 g2.sub pw
  exact ⟨p', ys, rfl, hp', by
    show Q (xs ++ (ys ++ [])) H2
    rw [List.append_nil]
    exact q _ S2 H2 (g1.trans g2) ((hx.up g2.st).append hy)⟩
/-! ### a new list is changed -/
def del (S : Hp) (l : Addr) : Hp := fun a => if a = l then none else S a
theorem del_ne {S : Hp} {l a : Addr} (h : a ≠ l) : del S l a = S a := by unfold del; rw [if_neg h]
end
end Y
namespace Y
open PySem PySem.Spec PyProof.Rows L2 Z
end Y
namespace Y
open PySem PySem.Spec PyProof.Rows L2 Z
end Y
namespace Y
open PySem PySem.Spec PyProof.Rows L2 Z
/-! ## own errors -/
/-- what the __init__ of an own error promises: its field, its code -/
def spXI (C : Addr) (fname code : Str) : Sp := fun vs H Q _ => ∃ a v, vs = [.ref a, v] ∧ H a = some (exo a C none) ∧ ∀ dx, H dx = none → dx ≠ a → Q .non (upd (upd (upd H dx (exd dx [(fname, v)])) a (exo a C (some dx))) dx (exd dx [("code", .str code), (fname, v)]))
/-- an own error, ready to be raised -/
structure Err (P : Program) (w : World) (K : PySem.W.Frag) (mg : Str → Option Value) (base : Heap) (x : Str) (C : Addr) (fname code : Str) : Prop where
  T : OexC K C
  gl : mg x = some (.ref C)
  ex : ∃ fI fd ps, PySem.W.findIn K (.ref C) "__init__" = some (some (.ref fI)) ∧ PySem.W.typeIn K (.ref fI) = some (.type "function") ∧ FnOk P w K mg base CX0 1 fI fd ps (spXI C fname code) ∧ Binds K fd ps []
section
variable {X : Cx} {σ : L2.St} {S S' H : Hp} {e : Expr} {Pv : V → Hp → Prop} {pos p pos2 : Pos} {D : Ends} {rest : List Stmt} {x fname code : Str} {C : Addr} {E : XK} {W : WX}
/-- raise C(e) -/
theorem hs_raiseO (hc : X.calm = true) (tk : Takes X (fun cls d _ H => E cls d H)) (R : Err X.prog X.w X.K X.mg X.base x C fname code) (hr : Room 2 X.A) (ha : EE X σ S e Pv) (s : Same S H)
    (q : ∀ v S1 H1 d H3, Gr S H S1 H1 → Pv v S1 → H1 d = none → Same (upd S1 d (.xd [("code", .str code), (fname, v)])) H3 → Same H1 H3 → E (.ref C) (some d) H3) (hg : Gl X x := by rfl)
    (hdb : (x == ("__debug__" : Str)) = false := by decide) (he : starEach [e] X.env = (false, eval e X.env) :: starEach [] X.env := by rfl) (hpl : (backTo pos (starEach [] X.env)).any (·.1) = false := by rfl) : HS X D (.Raise (some (.Call (.Name x p) [e] [] pos)) none pos2 :: rest) σ H := by
  obtain ⟨fI, fd, ps, iC, tI, F1, hb⟩ := R.ex
  refine hs_cons (ps_raise hc tk (pmk_oex R.T iC tI F1 hr hb .nil pass0 hg R.gl (pa_cons (te := bE X e) (t := tNil) peb pa_nil he) hdb he hpl)) (ha H s _ fun v S1 H1 g1 pv => ?_)
  refine ⟨by show 1 ≤ 1000; decide, fun a ha0 => ⟨a, v, rfl, upd_same, fun dx hdx hne => ⟨rfl, dx, [("code", .str code), (fname, v)], ?_, upd_same, ?_, ?_⟩⟩⟩
  · rw [upd_ne (Ne.symm hne), upd_same]
  · rw [upd_ne hne] at hdx; exact hdx
  · rw [upd_ne hne] at hdx
    have key : ∀ z o, H1 z = some o → upd (L2.del (upd (upd (upd (upd H1 a (exo a C none)) dx (exd dx [(fname, v)])) a (exo a C (some dx))) dx (exd dx [("code", .str code), (fname, v)])) a) dx (.xd [("code", .str code), (fname, v)]) z = some o := fun z o hz => by
      have n1 : z ≠ a := ne_of_none hz ha0
      have n2 : z ≠ dx := ne_of_none hz hdx
      rw [upd_ne n2, L2.del_ne n1, upd_ne n2, upd_ne n1, upd_ne n2, upd_ne n1]; exact hz
    refine q v S1 H1 dx _ g1 pv hdx (fun z o hz => ?_) key
    by_cases hzd : z = dx
    · subst hzd; rw [upd_same] at hz ⊢; exact hz
    · rw [upd_ne hzd] at hz; exact key z o (g1.sub _ _ hz)
end
/-- a def that may raise, by its body -/
theorem fn_hsX {P : Program} {w : World} {K : PySem.W.Frag} {mg : Str → Option Value} {base : Heap} {x qual : Str} {params : Arguments} {body : List Stmt} {scope : Scope} {dvs : List V} {kws : List (Str × V)} {f : Addr} {fd : FuncData} {N ps : List Str} {k : Nat} {sp : Sp}
    (F : FunD K x qual params body scope dvs kws f fd) (Sc : FnScope N ps scope) (len : ∀ vs H Q E, sp vs H Q E → vs.length = ps.length)
    (hb : ∀ (cdv : Value) (A : Around) (outer : List Env) (s : Shared) (H : Hp) (vs : List V) (Q : VK) (E : XK), Room k (A.deeper (envOfC qual scope s.heap.objs.size f cdv)) → sp vs H Q E →
      Takes (cxOf (L2.CX P w) P w K mg base N qual scope f cdv A outer s H E) (fun cls d _ H' => E cls d H') →
      HS (cxOf (L2.CX P w) P w K mg base N qual scope f cdv A outer s H E) { nx := fun _ H' => Q .non H', rt := Q } body (start N vs) H) : FnOk P w K mg base (L2.CX P w) (k + 1) f fd ps sp :=
  F.ok Sc len fun cdv A outer s H vs Q E hr h => ⟨_, psb, hb cdv A outer s H vs Q E hr h (takes_of rfl rfl rfl rfl)⟩
end Y
namespace Y
open PySem PySem.Spec PyProof.Rows L2 Z
/-! ## try: .. except (A, B, C) as e: .. (the outline of the catch follows HandS.Exc's ps_try_as) -/
theorem flying_kept {B h h' : Heap} {l : List Env} {e : Addr} {Z : Obj → Prop} (x : HandSPX.FlyingZ B l e Z h) (k : ∀ b o, h.get? b = some o → h'.get? b = some o) : HandSPX.FlyingZ B l e Z h' := by
  obtain ⟨x1, x2, x3, oe, vs, T, oT, ts, he, hz, hd, h1, hn, hTe, hT, hdT, h3⟩ := x
  exact ⟨fun b o e => k b o (x1 b o e), x2, x3.of_keeps fun b o hb _ => ⟨o, k b o hb, rfl⟩, oe, vs, T, oT, ts, k _ _ he, hz, hd, h1, hn, hTe, k _ _ hT, hdT, h3⟩
theorem up_kept {h h' : Heap} (k : ∀ b o, h.get? b = some o → h'.get? b = some o) : h.UpToSlots h' := fun b o hb _ => ⟨o.slots, k b o hb⟩
/-- the test of a clause: it lays new objects at most, and answers b for exceptions of the class cls -/
def Tst (X : Cx) (t : Expr) (cls : Value) (b : Bool) : Prop := ∀ (a : Addr) (pn : List (Addr × Obj)) (σ : L2.St) (H : Hp) (s : Shared) (E : Value → Shared → Prop) (Q : Value → Shared → Prop), Inv (X.suite a pn) [] σ H s →
  PySem.W.Looks (model X.prog X.w) s.heap (typeOf (.ref a)) cls → (∀ c h', (∀ b o, s.heap.get? b = some o → h'.get? b = some o) → PySem.W.Looks (model X.prog X.w) h' (excMatches (.ref a) c) b → Q c { s with heap := h' }) →
  wpAny (model X.prog X.w) (X.A.mark (some (.ref a))) (eval t X.env) Q E s
theorem tst_name {X : Cx} {x1 : Str} {c1 cls : Value} {p1 : Pos} {b : Bool} {H : Hp} {a : Addr} {pn : List (Addr × Obj)} {σ : L2.St} {s : Shared} {E Q : Value → Shared → Prop} (n1 : Names X x1 c1) (I : Inv (X.suite a pn) [] σ H s) (q : Q c1 s) :
    wpAny (model X.prog X.w) (X.A.mark (some (.ref a))) (eval (.Name x1 p1) X.env) Q E s := by
  obtain ⟨hg, hdbg, hm | ⟨hm, hv, hnn⟩⟩ := n1
  · exact ld_glob (X := X.suite a pn) I hg hm q hdbg
  · exact ld_blt (X := X.suite a pn) I hg hm hv q hnn hdbg
theorem tst3 {X : Cx} {x1 x2 x3 : Str} {c1 c2 c3 cls : Value} {p1 p2 p3 p : Pos} {k : Nat} {b : Bool} (n1 : Names X x1 c1) (n2 : Names X x2 c2) (n3 : Names X x3 c3) (he : PySem.W.exmAny X.K cls [c1, c2, c3] = some b) : Tst X (.Tuple [.Name x1 p1, .Name x2 p2, .Name x3 p3] k p) cls b := by
  intro a pn σ H s E Q I LT q
  refine wpAny_Tuple ?_
  refine wpAny_items_cons (tst_name (cls := cls) (b := b) n1 I ?_)
  refine wpAny_items_cons (tst_name (cls := cls) (b := b) n2 I ?_)
  refine wpAny_items_cons (tst_name (cls := cls) (b := b) n3 I ?_)
  refine wpAny_items_nil ⟨by size_fits, ?_⟩
  have kp : ∀ q o, s.heap.get? q = some o → (s.heap.push { cls := .type "tuple", data := .seq [c1, c2, c3].toArray }).get? q = some o := fun _ _ z => Heap.get?_push_of_some _ z
  exact q _ _ kp (PySem.W.exm_tup3 (I.kIn.keeps kp) (LT.keeps kp) (Heap.get?_push_size s.heap rfl) he)
def bS (X : Cx) (st : Stmt) : TS := fun D σ H => ∀ (pins : List (Addr × Obj)) (s : Shared), Inv X pins σ H s → wpAny (model X.prog X.w) X.A (exec st X.env) (SP X pins D) X.xe s
/-- the ends of a suite whose name goes -/
def Dgo (i : Nat) (D : Ends) : Ends := { nx := fun σ H => D.nx (σ.set i none) H, rt := D.rt, bk := fun σ H => D.bk (σ.set i none) H, ct := fun σ H => D.ct (σ.set i none) H }
/-- what the clause wishes of an exception of the body -/
def WAs (X : Cx) (t : Expr) (i : Nat) (suite : List Stmt) (Wout : WX) (D : Ends) : WX := fun cls d σ H => σ.length = X.N.length → ∃ b, Tst X t cls b ∧
  (b = true → ∀ a oe pn, H a = none → X.base.get? a = none → Zc cls d oe → (∃ vs, oe.data = .fields vs) → HS (X.suite a ((a, oe) :: pn)) (Dgo i D) suite (σ.set i (some (.ref a))) H) ∧ (b = false → Wout cls d σ H)
theorem hs_tryAs {X : Cx} {D : Ends} {t : Expr} {n : Str} {i : Nat} {body suite rest : List Stmt} {b₀ : Stmt} {pos pos' : Pos} {Wout : WX} {σ : L2.St} {H : Hp} (hs : X.stack = X.env :: X.outer) (hf : X.env.frame = some X.env.locals) (hN : X.N.Nodup) (hi : X.N[i]? = some n) (hln : X.env.kindOf n = some .local) (tk : Takes X Wout)
    (hb : ∀ (pn : List (Addr × Obj)) (xe : Value → Shared → Prop), Takes (X.tr pn xe) (WAs X t i (b₀ :: suite) Wout (Dn X D rest)) → PassesOwn (model X.prog X.w) X.A X.env xe → HS (X.tr pn xe) (Dn X D rest) body σ H) :
    HS X D (.Try body [.ExceptHandler (some t) (some n) (b₀ :: suite) pos'] [] [] pos :: rest) σ H := by
  refine hs_cons (t := bS X _) ⟨fun pins s σ H D I h => h pins s I⟩ fun pins s I => ?_
  have ok := I.ok
  have hfr : X.A.frames = some (X.env :: X.outer) := by rw [ok.frames, hs]
  refine wpAny_Try_except ?_
  refine wpAny_mono (hb (X.pn ++ pins) (fun e s₁ => wpAny (model X.prog X.w) X.A (noteFrame e X.env) (fun _ s₂ => wpAny (model X.prog X.w) X.A (setFlight e none) (fun _ s₃ =>
    wpAny (model X.prog X.w) X.A (handleBy e X.env [.ExceptHandler (some t) (some n) (b₀ :: suite) pos']) (SP X pins (Dn X D rest)) X.xe s₃) X.xe s₂) X.xe s₁) (fun u s' xx => ?_) PassesOwn.looking [] s (I.toTry _)) (fun f s1 hsp => ?_) (fun e s1 he => he)
  · obtain ⟨a, B, sI, pins', σ', H', cls, d, rfl, J', nb, up, sky, na, os, ag, hw⟩ := xx
    have J : Inv X pins σ' H' sI := J'.ofTry ok
    obtain ⟨b, hT, hyes, hno⟩ := hw J.len
    refine Sky.land Zc.steady hfr hf (by rw [← hs]; exact sky) fun h3 fl3 up3 => ?_
    have J3 : Inv X pins σ' H' { s' with heap := h3 } := J.landed nb fl3.1 (up.trans up3) os ag
    have away : ∀ {h : Heap} {o : Obj} {vs : Array Value}, h.FunFrames B (X.env :: X.outer) → h.get? a = some o → o.data = .fields vs → a ≠ X.env.locals ∧ a ∉ X.fs := fun {h o vs} ff e dd => by
      have nfr : a ∉ frs (X.env :: X.outer) := fun hm => by
        obtain ⟨_, o', e', hnf⟩ := ff.mem hm
        rw [e] at e'; cases e'
        exact hnf _ dd
      refine ⟨fun z => nfr (List.mem_filterMap.mpr ⟨X.env, List.mem_cons_self, by rw [hf, z]⟩), fun hm => ?_⟩
      obtain ⟨e, he, q⟩ := List.mem_filterMap.mp hm
      exact nfr (List.mem_filterMap.mpr ⟨e, List.mem_cons_of_mem _ he, q⟩)
    obtain ⟨oe3, vs3, he3, hz3, hd3⟩ := fl3.there
    obtain ⟨nL, nF⟩ := away fl3.2.2.1 he3 hd3
    have nB : X.base.get? a = none := by
      cases e : X.base.get? a with
      | none => rfl
      | some o =>
        have z := nb a o (J.bs a o e).1 fun hm => by
          have z := (J.stack.mem hm).1
          rw [e] at z; cases z
        rw [fl3.2.1] at z; cases z
    have LT : PySem.W.Looks (model X.prog X.w) h3 (typeOf (.ref a)) cls := fun A Q E s k q => wpAny_typeOf_ref (k _ _ he3) (by rw [hz3.1]; exact q)
    refine PySem.W.exc_clause_as (hT a _ σ' H' _ _ _ (J3.suite he3 hd3 na nL nF) LT fun c h5 k5 L5 => ⟨b, L5, ?_⟩)
    have fl5 := flying_kept fl3 k5
    have up5 := (up.trans up3).trans (up_kept k5)
    cases b with
    | true =>
      rw [if_pos rfl]
      refine HandSPX.lands_againZ fl5 fun h4 fl4 up4 => ?_
      have J4 : Inv X pins σ' H' { s' with heap := h4 } := J.landed nb fl4.1 (up5.trans up4) os ag
      obtain ⟨oe4, vs4, he4, hz4, hd4⟩ := fl4.there
      refine store_ok (X := X.suite a ((a, oe4) :: (X.pn ++ pins))) (v := .ref a) (J4.suite he4 hd4 na nL nF) hN hi (.inl hln) rfl (fun s5 S5 => ?_) (.inr hln)
      refine wpAny_mono (hyes rfl a oe4 (X.pn ++ pins) na nB hz4 ⟨_, hd4⟩ [] s5 S5) (fun f s6 hsp => ?_) (fun _ _ z => False.elim z)
      cases f with
      | next => exact hsp.elim fun σ6 ⟨H6, S6, q6⟩ => gone_ok (S6.unsuite ok) hN hi hln fun s7 J7 => ⟨_, _, J7, q6⟩
      | brk => exact hsp.elim fun σ6 ⟨H6, S6, q6⟩ => gone_ok (S6.unsuite ok) hN hi hln fun s7 J7 => ⟨_, _, J7, q6⟩
      | cont => exact hsp.elim fun σ6 ⟨H6, S6, q6⟩ => gone_ok (S6.unsuite ok) hN hi hln fun s7 J7 => ⟨_, _, J7, q6⟩
      | ret u => exact hsp.elim fun v6 ⟨σ6, H6, S6, r6, q6⟩ => gone_ok (S6.unsuite ok) hN hi hln fun s7 J7 => ⟨_, _, _, J7, r6, q6⟩
    | false =>
      rw [if_neg (by decide)]
      refine wpAny_handleBy_nil ?_
      obtain ⟨k1, k2, k3, oe, vs, T, oT, ts', he, hz, hd, h1, hr⟩ := id fl5
      unfold PySem.passOn
      refine wpAny_bind (wpAny_field he hd h1 ?_)
      rw [if_neg (show ¬ ((Value.ref T == Value.none) = true) from by simp)]
      have fin : wpAny (model X.prog X.w) X.A (setFlight (.ref a) X.env.frame) (fun _ s4 => wpAny (model X.prog X.w) X.A (throw (.ref a) : Sem Flow) (SP X pins (Dn X D rest)) X.xe s4) X.xe { s' with heap := h5 } := by
        rw [hf]
        refine HandSPX.setFlight_upZ fl5 fun h4 hh4 up4 => wpAny_throw (tk _ _ ?_)
        exact ⟨a, B, sI, pins, σ', H', cls, d, rfl, J, nb, up5.trans up4, .inr (.inr (by rw [hs]; exact hh4)), na, os, ag, hno rfl⟩
      first
        | exact wpAny_bind (wpAny_pure (wpAny_bind fin))
        | exact wpAny_bind fin
  · cases f with
    | next => exact hsp.elim fun σ' ⟨H', J', q⟩ => wpAny_execs_nil ⟨σ', H', J'.ofTry ok, q⟩
    | brk => exact hsp.elim fun σ' ⟨H', J', q⟩ => ⟨σ', H', J'.ofTry ok, q⟩
    | cont => exact hsp.elim fun σ' ⟨H', J', q⟩ => ⟨σ', H', J'.ofTry ok, q⟩
    | ret u => exact hsp.elim fun v ⟨σ', H', J', r, q⟩ => ⟨v, σ', H', J'.ofTry ok, r, q⟩
end Y
namespace Y
open PySem PySem.Spec PyProof.Rows L2 Z
/-! ## objects shown to a call: untracked ones, told by their objects while the call runs -/
def shown (H : Hp) (a : Addr) (o : Obj) : Hp := upd H a (.frz o (.ext fun _ => True))
def shownL (H : Hp) : List (Addr × Obj) → Hp
  | [] => H
  | p :: L => shown (shownL H L) p.1 p.2
def delL (H : Hp) : List (Addr × Obj) → Hp
  | [] => H
  | p :: L => delL (L2.del H p.1) L
section
variable {P : Program} {w : World} {H H1 : Hp} {h h1 B : Heap} {a b : Addr} {o : Obj} {u : HO} {fs : List Addr}
theorem shown_same : shown H a o a = some (.frz o (.ext fun _ => True)) := upd_same
theorem shown_ne (hb : b ≠ a) : shown H a o b = H b := upd_ne hb
theorem shown_hok (x : HOk P w H h) (n : H a = none) (e : h.get? a = some o) : HOk P w (shown H a o) h := fun b v q => by
  by_cases hb : b = a
  · subst hb
    rw [shown_same] at q
    cases q
    exact ⟨e, trivial, ⟨o, e⟩, fun _ _ _ _ => trivial⟩
  · rw [shown_ne hb] at q
    exact (x b v q).stay (fun _ _ _ z => z) (fun c z => (shown_ne (ne_of_none z n)).trans z) (fun c xs z => (shown_ne (ne_of_none z n)).trans z)
theorem del_hok (x : HOk P w H h) (e : H a = some (.frz o u)) : HOk P w (L2.del H a) h := fun b v q => by
  have hb : b ≠ a := fun z => by rw [z, L2.del_same] at q; cases q
  rw [L2.del_ne hb] at q
  exact (x b v q).stay (fun _ _ _ z => z) (fun c z => (L2.del_ne (fun y => by rw [y, e] at z; cases z)).trans z) (fun c xs z => (L2.del_ne (fun y => by rw [y, e] at z; cases z)).trans z)
theorem del_un (U : Un fs [] (shown H a o) H1 h h1) (ok : HOk P w H1 h1) (n : H a = none) (e : h.get? a = some o) : Un fs [] H (L2.del H1 a) h h1 := by
  have e1 : h1.get? a = some o := (ok a _ (U.frzs a _ _ shown_same)).1
  refine ⟨fun b ob q nb hf hx => ?_, fun b ob q nb hf hx => ?_, fun b ob q nb hx => ?_, U.there, fun b xs q => ?_, fun b ob v q => ?_, fun b ps q => ?_⟩
  · by_cases hb : b = a
    · subst hb; rw [e] at q; cases q; exact e1
    · exact U.keep b ob q ((shown_ne hb).trans nb) hf hx
  · by_cases hb : b = a
    · subst hb; rw [e] at q; cases q; exact ⟨_, e1⟩
    · exact U.slot b ob q ((shown_ne hb).trans nb) hf hx
  · by_cases hb : b = a
    · subst hb; exact L2.del_same
    · exact (L2.del_ne hb).trans (U.free b ob q ((shown_ne hb).trans nb) hx)
  · have hb := ne_of_none q n
    exact (L2.del_ne hb).trans (U.tups b xs ((shown_ne hb).trans q))
  · have hb := ne_of_none q n
    exact (L2.del_ne hb).trans (U.frzs b ob v ((shown_ne hb).trans q))
  · have hb := ne_of_none q n
    obtain ⟨m, z⟩ := U.tbls b ps ((shown_ne hb).trans q)
    exact ⟨m, (L2.del_ne hb).trans z⟩
end
/-- what leaves a call by an exception bears the hiding of a shown object -/
def Hides (CX : CXT) : Prop := ∀ (outer : List Env) (H : Hp) (a : Addr) (o : Obj) (s : Shared) (E : XK) (u : Value) (s' : Shared), H a = none → s.heap.get? a = some o → CX outer (shown H a o) s (fun cls d H' => E cls d (L2.del H' a)) u s' → CX outer H s E u s'
theorem hides0 : Hides CX0 := fun _ _ _ _ _ _ _ _ _ _ h => h.elim
/-- a thing that may be shown at this state -/
structure Show (base : Heap) (outer : List Env) (H : Hp) (s : Shared) (a : Addr) (o : Obj) : Prop where
  ob : s.heap.get? a = some o
  no : H a = none
  nf : a ∉ frs outer
  nb : base.get? a = none
theorem Show.skip {base : Heap} {outer : List Env} {H : Hp} {s : Shared} {a b : Addr} {o p : Obj} (x : Show base outer H s a o) (h : a ≠ b) : Show base outer (shown H b p) s a o := ⟨x.ob, (shown_ne h).trans x.no, x.nf, x.nb⟩
theorem Show.list {base : Heap} {outer : List Env} {H : Hp} {s : Shared} {a : Addr} {o : Obj} (x : Show base outer H s a o) : ∀ {L : List (Addr × Obj)}, a ∉ L.map (·.1) → Show base outer (shownL H L) s a o
  | [], _ => x
  | p :: L, h => by
    simp only [List.map_cons, List.mem_cons, not_or] at h
    exact (x.list h.2).skip h.1
section
variable {P : Program} {w : World} {K : PySem.W.Frag} {mg : Str → Option Value} {base : Heap} {A : Around} {outer : List Env} {s : Shared} {H : Hp} {a : Addr} {o : Obj} {CX : CXT} {c : Code} {Q : VK} {E : XK}
theorem env0_shown (e : Env0 P w K mg base A outer s H) (x : Show base outer H s a o) : Env0 P w K mg base A outer s (shown H a o) := by
  refine ⟨e.frames, e.mod, fun b ob q => ⟨(e.bs b ob q).1, ?_⟩, e.bsz, e.funs, fun b hb => ?_, shown_hok e.hok x.no x.ob, e.bare⟩
  · rw [shown_ne (fun z => by rw [z, x.nb] at q; cases q)]
    exact (e.bs b ob q).2
  · have hba : b ≠ a := fun z => x.nf (by rw [← z]; exact hb)
    rw [shown_ne hba]
    exact e.frf b hb
theorem hide (hd : Hides CX) (n : H a = none) (e : s.heap.get? a = some o) (h : codeAny (model P w) A c (CR CX outer P w (shown H a o) s (fun v H' => Q v (L2.del H' a)) (fun cls d H' => E cls d (L2.del H' a))) s) : codeAny (model P w) A c (CR CX outer P w H s Q E) s := by
  refine codeAny_mono h fun r s' hq => ?_
  cases r with
  | error u => exact hd _ _ _ _ _ _ _ _ n e hq
  | ok fl =>
    cases fl with
    | ret u =>
      obtain ⟨v, H', os, bare, un, hok, r, q⟩ := hq
      exact ⟨v, L2.del H' a, os, bare, del_un un hok n e, del_hok hok (un.frzs a _ _ shown_same), r, q⟩
    | next => exact False.elim hq
    | brk => exact False.elim hq
    | cont => exact False.elim hq
theorem env0_shownL (e : Env0 P w K mg base A outer s H) : ∀ {L : List (Addr × Obj)}, (∀ p ∈ L, Show base outer H s p.1 p.2) → (L.map (·.1)).Nodup → Env0 P w K mg base A outer s (shownL H L)
  | [], _, _ => e
  | p :: L, x, nd => by
    rw [List.map_cons, List.nodup_cons] at nd
    exact env0_shown (env0_shownL e (fun q hq => x q (List.mem_cons_of_mem _ hq)) nd.2) ((x p List.mem_cons_self).list nd.1)
theorem hideL (hd : Hides CX) : ∀ {L : List (Addr × Obj)} {Q : VK} {E : XK}, (∀ p ∈ L, Show base outer H s p.1 p.2) → (L.map (·.1)).Nodup → codeAny (model P w) A c (CR CX outer P w (shownL H L) s (fun v H' => Q v (delL H' L)) (fun cls d H' => E cls d (delL H' L))) s → codeAny (model P w) A c (CR CX outer P w H s Q E) s
  | [], _, _, _, _, h => h
  | p :: L, Q, E, x, nd, h => by
    rw [List.map_cons, List.nodup_cons] at nd
    have xp := (x p List.mem_cons_self).list nd.1
    exact hideL hd (fun q hq => x q (List.mem_cons_of_mem _ hq)) nd.2 (hide hd xp.no xp.ob h)
end
section
variable {X : Cx} {CX : CXT} {k : Nat} {f : Addr} {fd : FuncData} {ps : List Str} {sp : Sp} {ds : List Value} {dvs : List V} {E : XK} {pins : List (Addr × Obj)} {σ : L2.St} {H : Hp} {s : Shared} {Q : VK} {us : List Value} {vs : List V} {L : List (Addr × Obj)}
/-- the call of a def to which the things of L are shown -/
theorem run_shown (F : FnOk X.prog X.w X.K X.mg X.base CX k f fd ps sp) (hr : Room k X.A) (hb : Binds X.K fd ps ds) (hv : Vals dvs ds) (hx : Passes CX X E) (hd : Hides CX) (I : Inv X pins σ H s) (r : Vals vs us)
    (x : ∀ p ∈ L, Show X.base X.stack H s p.1 p.2) (nd : (L.map (·.1)).Nodup) (h : sp (vs ++ dvs) (shownL H L) (fun v H' => Q v (delL H' L)) (fun cls d H' => E cls d (delL H' L))) :
    wpAny (model X.prog X.w) X.A (call (.ref f) us) (EP X pins σ Q) X.xe s := by
  have r2 : Vals (vs ++ dvs) (us ++ ds) := r.append hv
  have hl : (us ++ ds).length = ps.length := by rw [← r2.length]; exact F.len _ _ _ _ h
  refine wpAny_call (codeAny_mono (hideL (base := X.base) (L := L) (Q := Q) (E := E) hd x nd (F.run X.A X.stack s (shownL H L) ⟨us, []⟩ (us ++ ds) (vs ++ dvs) _ _ hr (env0_shownL I.env0 x nd) (hb s us I.kIn hl) r2 h)) fun r s' hq => ?_)
  cases r with
  | error e => exact hx pins σ H s e s' I hq
  | ok fl =>
    cases fl with
    | ret u => exact I.after hq
    | next => exact False.elim hq
    | brk => exact False.elim hq
    | cont => exact False.elim hq
end
end Y
namespace Y
open PySem PySem.Spec PyProof.Rows L2 Z
/-! ## the other way: shown things are taken out for a call (the cells of a closure) -/
abbrev Tr : HO := .ext fun _ => True
section
variable {P : Program} {w : World} {H H1 : Hp} {h h1 B : Heap} {a b : Addr} {o : Obj} {u : HO} {fs : List Addr}
theorem unshow_un (U : Un fs [] (L2.del H a) H1 h h1) (hH : H a = some (.frz o Tr)) : Un fs [] H (shown H1 a o) h h1 := by
  have ne : ∀ b v, H b = some v → (∀ p q, v ≠ .frz p q) → b ≠ a := fun b v e q z => by
    rw [z, hH] at e; cases e; exact q _ _ rfl
  have nn : ∀ b, H b = none → b ≠ a := fun b e z => by rw [z, hH] at e; cases e
  refine ⟨fun b ob q nb hf hx => U.keep b ob q ((L2.del_ne (nn b nb)).trans nb) hf hx, fun b ob q nb hf hx => U.slot b ob q ((L2.del_ne (nn b nb)).trans nb) hf hx, fun b ob q nb hx => (shown_ne (nn b nb)).trans (U.free b ob q ((L2.del_ne (nn b nb)).trans nb) hx), U.there, fun b xs q => ?_, fun b ob v q => ?_, fun b ps q => ?_⟩
  · have hb := ne b _ q fun _ _ z => by cases z
    exact (shown_ne hb).trans (U.tups b xs ((L2.del_ne hb).trans q))
  · by_cases hb : b = a
    · subst hb; rw [hH] at q; cases q; exact shown_same
    · exact (shown_ne hb).trans (U.frzs b ob v ((L2.del_ne hb).trans q))
  · have hb := ne b _ q fun _ _ z => by cases z
    obtain ⟨m, z⟩ := U.tbls b ps ((L2.del_ne hb).trans q)
    exact ⟨m, (shown_ne hb).trans z⟩
theorem unshow_ub (U : UB fs (L2.del H a) H1 h B h1) (hH : H a = some (.frz o Tr)) : UB fs H (shown H1 a o) h B h1 := by
  have ne : ∀ b v, H b = some v → (∀ p q, v ≠ .frz p q) → b ≠ a := fun b v e q z => by
    rw [z, hH] at e; cases e; exact q _ _ rfl
  have nn : ∀ b, H b = none → b ≠ a := fun b e z => by rw [z, hH] at e; cases e
  refine ⟨fun b ob q nb hf => U.keep b ob q ((L2.del_ne (nn b nb)).trans nb) hf, U.slot, fun b ob q nb => (shown_ne (nn b nb)).trans (U.free b ob q ((L2.del_ne (nn b nb)).trans nb)), U.there, fun b xs q => ?_, fun b ob v q => ?_, fun b ps q => ?_⟩
  · have hb := ne b _ q fun _ _ z => by cases z
    exact (shown_ne hb).trans (U.tups b xs ((L2.del_ne hb).trans q))
  · by_cases hb : b = a
    · subst hb; rw [hH] at q; cases q; exact shown_same
    · exact (shown_ne hb).trans (U.frzs b ob v ((L2.del_ne hb).trans q))
  · have hb := ne b _ q fun _ _ z => by cases z
    obtain ⟨m, z⟩ := U.tbls b ps ((L2.del_ne hb).trans q)
    exact ⟨m, (shown_ne hb).trans z⟩
end
/-- a thing that is shown here -/
structure Shown (outer : List Env) (H : Hp) (s : Shared) (a : Addr) (o : Obj) : Prop where
  at_ : H a = some (.frz o Tr)
  ob : s.heap.get? a = some o
  nf : a ∉ frs outer
theorem Shown.of {P : Program} {w : World} {outer : List Env} {H : Hp} {s : Shared} {a : Addr} {o : Obj} (ok : HOk P w H s.heap) (fr : ∀ b ∈ frs outer, H b = none) (h : H a = some (.frz o Tr)) : Shown outer H s a o :=
  ⟨h, (ok a _ h).1, fun z => by have q := fr a z; rw [h] at q; cases q⟩
theorem Shown.skip {outer : List Env} {H : Hp} {s : Shared} {a b : Addr} {o : Obj} (x : Shown outer H s a o) (n : a ≠ b) : Shown outer (L2.del H b) s a o := ⟨(L2.del_ne n).trans x.at_, x.ob, x.nf⟩
/-- what leaves a call by an exception bears that a hidden thing is shown again -/
structure Bares (P : Program) (w : World) (CX : CXT) : Prop where
  mono : ∀ (outer : List Env) (H : Hp) (s : Shared) (E E' : XK) (u : Value) (s' : Shared), (∀ c d H', E c d H' → E' c d H') → CX outer H s E u s' → CX outer H s E' u s'
  show_ : ∀ (outer : List Env) (H : Hp) (a : Addr) (o : Obj) (s : Shared) (E : XK) (u : Value) (s' : Shared), Shown outer H s a o → CX outer (L2.del H a) s (fun cls d H' => H' a = none → E cls d (shown H' a o)) u s' → CX outer H s E u s'
theorem baresX {P : Program} {w : World} : Bares P w (L2.CX P w) := ⟨fun outer H s E E' u s' hE ⟨y, B, H', cls, d, eu, fl, ok, ub, na, os, ag, q⟩ => ⟨y, B, H', cls, d, eu, fl, ok, ub, na, os, ag, hE _ _ _ q⟩, fun outer H a o s E u s' x ⟨y, B, H', cls, d, eu, fl, ok, ub, na, os, ag, hE⟩ => by
  have e1 : B.get? a = some o := ub.keep a o x.ob L2.del_same x.nf
  have n1 : H' a = none := ub.free a o x.ob L2.del_same
  refine ⟨y, B, shown H' a o, cls, d, eu, fl, shown_hok ok n1 e1, unshow_ub ub x.at_, ?_, os, ag, hE n1⟩
  rw [shown_ne (fun z => by have q := fl.2.1; rw [z, e1] at q; cases q)]
  exact na⟩
theorem shownL_ne {b : Addr} : ∀ {L : List (Addr × Obj)} {H : Hp}, b ∉ L.map (·.1) → shownL H L b = H b
  | [], _, _ => rfl
  | p :: L, H, h => by
    rw [List.map_cons, List.mem_cons, not_or] at h
    exact (shown_ne h.1).trans (shownL_ne h.2)
section
variable {P : Program} {w : World} {K : PySem.W.Frag} {mg : Str → Option Value} {base : Heap} {A : Around} {outer : List Env} {s : Shared} {H : Hp} {a : Addr} {o : Obj} {CX : CXT} {c : Code} {Q : VK} {E : XK}
theorem env0_del (e : Env0 P w K mg base A outer s H) (x : Shown outer H s a o) : Env0 P w K mg base A outer s (L2.del H a) := by
  have nn : ∀ b, H b = none → b ≠ a := fun b e z => by rw [z, x.at_] at e; cases e
  refine ⟨e.frames, e.mod, fun b ob q => ⟨(e.bs b ob q).1, ?_⟩, e.bsz, e.funs, fun b hb => ?_, del_hok e.hok x.at_, e.bare⟩
  · rw [L2.del_ne (nn b (e.bs b ob q).2)]
    exact (e.bs b ob q).2
  · rw [L2.del_ne (nn b (e.frf b hb))]
    exact e.frf b hb
theorem bare (hd : Bares P w CX) (x : Shown outer H s a o) (h : codeAny (model P w) A c (CR CX outer P w (L2.del H a) s (fun v H' => H' a = none → Q v (shown H' a o)) (fun cls d H' => H' a = none → E cls d (shown H' a o))) s) : codeAny (model P w) A c (CR CX outer P w H s Q E) s := by
  refine codeAny_mono h fun r s' hq => ?_
  cases r with
  | error u => exact hd.show_ _ _ _ _ _ _ _ _ x hq
  | ok fl =>
    cases fl with
    | ret u =>
      obtain ⟨v, H', os, br, un, hok, r, q⟩ := hq
      have e1 : s'.heap.get? a = some o := un.keep a o x.ob L2.del_same x.nf (by simp)
      have n1 : H' a = none := un.free a o x.ob L2.del_same (by simp)
      exact ⟨v, shown H' a o, os, br, unshow_un un x.at_, shown_hok hok n1 e1, r, q n1⟩
    | next => exact False.elim hq
    | brk => exact False.elim hq
    | cont => exact False.elim hq
theorem env0_delL : ∀ {L : List (Addr × Obj)} {H : Hp}, Env0 P w K mg base A outer s H → (∀ p ∈ L, Shown outer H s p.1 p.2) → (L.map (·.1)).Nodup → Env0 P w K mg base A outer s (delL H L)
  | [], _, e, _, _ => e
  | p :: L, H, e, x, nd => by
    rw [List.map_cons, List.nodup_cons] at nd
    exact env0_delL (L := L) (H := L2.del H p.1) (env0_del e (x p List.mem_cons_self)) (fun q hq => (x q (List.mem_cons_of_mem _ hq)).skip fun z => nd.1 (by rw [← z]; exact List.mem_map_of_mem hq)) nd.2
theorem cr_mono {Q' : VK} {E' : XK} (hd : Bares P w CX) (hQ : ∀ v H', Q v H' → Q' v H') (hE : ∀ c d H', E c d H' → E' c d H') (h : codeAny (model P w) A c (CR CX outer P w H s Q E) s) : codeAny (model P w) A c (CR CX outer P w H s Q' E') s := by
  refine codeAny_mono h fun r s' hq => ?_
  cases r with
  | error u => exact hd.mono _ _ _ _ _ _ _ hE hq
  | ok fl =>
    cases fl with
    | ret u =>
      obtain ⟨v, H', os, br, un, hok, r, q⟩ := hq
      exact ⟨v, H', os, br, un, hok, r, hQ _ _ q⟩
    | next => exact hq
    | brk => exact hq
    | cont => exact hq
theorem bareL (hd : Bares P w CX) : ∀ {L : List (Addr × Obj)} {H : Hp} {Q : VK} {E : XK}, (∀ p ∈ L, Shown outer H s p.1 p.2) → (L.map (·.1)).Nodup → codeAny (model P w) A c (CR CX outer P w (delL H L) s (fun v H' => (∀ p ∈ L, H' p.1 = none) → Q v (shownL H' L)) (fun cls d H' => (∀ p ∈ L, H' p.1 = none) → E cls d (shownL H' L))) s → codeAny (model P w) A c (CR CX outer P w H s Q E) s
  | [], _, _, _, _, _, h => cr_mono hd (fun v H' q => q (fun p hp => by cases hp)) (fun cl d H' q => q (fun p hp => by cases hp)) h
  | p :: L, H, Q, E, x, nd, h => by
    rw [List.map_cons, List.nodup_cons] at nd
    refine bare hd (x p List.mem_cons_self) (bareL hd (fun q hq => (x q (List.mem_cons_of_mem _ hq)).skip fun z => nd.1 (by rw [← z]; exact List.mem_map_of_mem hq)) nd.2 (cr_mono hd (fun v H' q q1 q2 => q fun r hr => ?_) (fun cl d H' q q1 q2 => q fun r hr => ?_) h))
    · rcases List.mem_cons.mp hr with e | e
      · rw [e]; rw [shownL_ne nd.1] at q2; exact q2
      · exact q1 r e
    · rcases List.mem_cons.mp hr with e | e
      · rw [e]; rw [shownL_ne nd.1] at q2; exact q2
      · exact q1 r e
end
end Y
namespace Y
open PySem PySem.Spec PyProof.Rows L2 Z LamX NdefX
/-! ## lambdas that are kept: what one promises, called wherever (after HandS.Nested's nok_of and HandS.Lambda's pe_act) -/
/-- a lambda: its words, the cells that it captured, its code object, its defaults' tuple -/
structure LF where
  qual : Str
  params : Arguments
  body : Expr
  scope : Scope
  cl : List (Str × Addr)
  c : Addr
  dT : Option Addr
abbrev LF.nf (F : LF) : NF := ⟨"<lambda>", F.qual, F.params, [], F.scope, F.cl, F.c⟩
abbrev LF.fd (F : LF) (pm ctv : Value) : FuncData := { PySem.W.kla_fn "<lambda>" F.qual F.params F.body F.scope F.cl pm (.ref F.c) ctv with defaults := F.dT.elim .none .ref }
/-- the object at f is the lambda F -/
def LamO (f : Addr) (F : LF) : HO := .ext fun h => ∃ (pm ctv : Value), h.get? f = some ({ cls := .type "function", data := .func (F.fd pm ctv) } : Obj)
/-- what its parameters get -/
def LBind (F : LF) (ps : List Str) : Prop := ∀ (pm ctv : Value) (its : List Value) (s : Shared), (F.dT = none → its = []) → (∀ T, F.dT = some T → ∃ o n, s.heap.get? T = some o ∧ o.data = .seq its.toArray n) → its.length = ps.length → BindsTo s (F.fd pm ctv) ⟨[], []⟩ (ps.zip its)
/-- its defaults stand in H -/
def LDef (F : LF) (dvs : List V) (H : Hp) : Prop := (F.dT = none → dvs = []) ∧ ∀ T, F.dT = some T → H T = some (.tup dvs)
/-- the promise of the lambda F at f: sp ws, ws what its captured cells hold at the call -/
structure LOk (P : Program) (w : World) (K : PySem.W.Frag) (mg : Str → Option Value) (base : Heap) (CX : CXT) (k : Nat) (f : Addr) (F : LF) (fr : List Str) (dvs : List V) (sp : List (Option V) → Hp → VK → XK → Prop) : Prop where
  run : ∀ (A : Around) (outer : List Env) (s : Shared) (H : Hp) (ws : List (Option V)) (Q : VK) (E : XK), Room k A → Env0 P w K mg base A outer s H → H f = some (LamO f F) → H F.c = some (CodeO F.c F.qual) → LDef F dvs H →
    CellsAt F.cl fr ws s.heap H → sp ws H Q E → codeAny (model P w) A (.call (.ref f) ⟨[], []⟩) (CR CX outer P w H s Q E) s
section
variable {CX : CXT} {P : Program} {w : World} {K : PySem.W.Frag} {mg : Str → Option Value} {base : Heap} {N ps fr : List Str} {F : LF} {f : Addr} {k j : Nat} {dvs : List V} {sp : List (Option V) → Hp → VK → XK → Prop}
theorem lok_of (S : NScope N ps fr F.scope) (hb : LBind F ps) (hl : dvs.length = ps.length)
    (hbody : ∀ (A : Around) (outer : List Env) (s : Shared) (H : Hp) (ws : List (Option V)) (Q : VK) (E : XK), Room k (A.deeper (envF F.nf f s.heap.objs.size)) → ws.length = fr.length → sp ws H Q E →
      HE (ncx CX P w K mg base N F.nf f A outer s H E) F.body (startF N dvs ws) H Q) : LOk P w K mg base CX (k + 1) f F fr dvs sp := by
  refine ⟨fun A outer s H ws Q E hr e0 hf hc hd C hsp => ?_⟩
  have lim : s.heap.NoLimit := e0.mod.nolimit.keeps fun b o e => (e0.bs b o e).1
  obtain ⟨⟨pm, ctv, ho⟩, _, _⟩ := e0.hok f _ hf
  obtain ⟨us, r, hus⟩ : ∃ us : List Value, Vals dvs us ∧ ((F.dT = none → us = []) ∧ ∀ T, F.dT = some T → ∃ o n, s.heap.get? T = some o ∧ o.data = .seq us.toArray n) := by
    cases e : F.dT with
    | none =>
      have z := hd.1 e
      subst z
      exact ⟨[], .nil, ⟨fun _ => rfl, fun T q => (by cases q)⟩⟩
    | some T =>
      obtain ⟨_, its, r, o, ho, _, hn⟩ : _ ∧ ∃ its : List Value, Vals dvs its ∧ IsTup s.heap T its.toArray := e0.hok T _ (hd.2 T e)
      obtain ⟨m, hn⟩ := hn
      exact ⟨its, r, ⟨fun q => (by cases q), fun T' q => (by cases q; exact ⟨o, m, ho, hn⟩)⟩⟩
  refine PySem.W.kla_callFunE hr.depth ho rfl S.co S.gen rfl (codeO_at e0.hok hc) (hb pm ctv us s hus.1 hus.2 (by rw [← r.length]; exact hl) _ _ _ _ ?_)
  refine wpAny_newFunctionEnv S.nocell (fun ⟨n, _⟩ hy => S.par n (List.of_mem_zip hy).1) (fun h₁ hns hsb => ⟨lim.fresh _ hsb, ?_⟩) S.kind
  show codeAny _ _ (.expr F.body (envF F.nf f s.heap.objs.size)) _ _
  have kp : ∀ b o, s.heap.get? b = some o → h₁.get? b = some o := fun b o e => hsb.extBut b o (Nat.ne_of_lt (Heap.lt_size e)) (Heap.get?_push_of_some _ e)
  have I : Inv (ncx CX P w K mg base N F.nf f A outer s H E) [] (startF N dvs ws) H { s with heap := h₁, toks := s.toks + (ps.zip us).length } := inv_startN (F := F.nf) S hr.hd e0 hl r C hns kp
  refine PySem.W.kla_codeExpr (wpAny_mono (hbody A outer s H ws Q E (hr.deeper _) C.len hsp [] _ I) (fun v s' hq => ?_) fun e s' hq => hq)
  obtain ⟨w', H', J, rv, q⟩ := hq
  exact ⟨w', H', J.os, J.bare, J.base, J.hok, rv, q⟩
theorem LOk.mono (o : LOk P w K mg base CX j f F fr dvs sp) (h : j ≤ k) : LOk P w K mg base CX k f F fr dvs sp := ⟨fun A outer s H ws Q E hr => o.run A outer s H ws Q E (hr.mono h)⟩
end
end Y
namespace Y
open PySem PySem.Spec PyProof.Rows L2 Z LamX NdefX
/-! ## a lambda is made, with defaults or without (after KE.KLam's kla_makeTail and HandS.Nested's ndef_make, which have no defaults) -/
section
variable {M : Model} {A : Around} {E : Value → Shared → Prop} {s : Shared} {name qual : Str} {params : Arguments} {body : Expr} {scope : Scope} {env : Env} {c P : Addr} {ps : Array Value} {pos : Pos} {line : Nat} {mg : Str → Option Value} {clos : List (Str × Addr)} {Q : Value → Shared → Prop} {dV : Value}
abbrev lamFd (qual : Str) (params : Arguments) (body : Expr) (scope : Scope) (cl : List (Str × Addr)) (pm cdv ct dV : Value) : FuncData := { PySem.W.kla_fn "<lambda>" qual params body scope cl pm cdv ct with defaults := dV }
/-- the end of the making: what closes over, the code object got by t, then the function -/
theorem tail_end {cv ct : Value} (hg : s.heap.Ns mainGlobals mg) (hge0 : env.globals = mainGlobals) (hb : s.heap.BuiltinsAt mg P)
    (h : Q (.ref s.heap.objs.size) { s with heap := s.heap.push { cls := .type "function", data := .func (lamFd qual params body scope clos ((mg "__name__").getD .none) cv ct dV) } }) :
    wpAny M A (do let bl ← builtinsFor mainGlobals env.builtins
                  let pm ← nsGet mainGlobals "__name__"
                  let dc ← (pure .none : Sem Value)
                  newObj (.type "function") (.func { name := "<lambda>", qualname := qual, params, body := .expr body, scope, globals := mainGlobals, closure := clos, closureTuple := ct, code := cv, builtins := bl, defaults := dV, kwdefaults := .none, annotations := none, pyModule := pm.getD .none, doc := dc })) Q E s := by
  obtain ⟨bm, ob, hbm, hne0, _, hneP, hbo, hcls, hdict, hdata⟩ := hb
  refine wpAny_bind (wpAny_builtinsFor hg hbm hne0 hbo hcls hdict hdata ?_)
  refine wpAny_bind (wpAny_nsGet hg ?_)
  exact wpAny_bind (wpAny_pure (wpAny_newObj_type h (by size_fits)))
theorem lam_tail (hcl : closureFor scope env = pure clos) (hge0 : env.globals = mainGlobals) (hg : s.heap.Ns mainGlobals mg) (hcode : env.code = .ref c) (C : PySem.W.CodeHd s.heap c P) (hP : s.heap.get? P = some { cls := .none, data := .fields ps }) (ht : TriplesOk ps.toList) (hgP : mainGlobals ≠ P) (hb : s.heap.BuiltinsAt mg P)
    (hnew : codeAmong pos ps.toList = none → ∀ (c' : Addr) (ctv : Value) (h' : Heap) (tk : Tok), Heap.ExtBut P s.heap h' → s.heap.objs.size ≤ c' → c' < h'.objs.size → h'.CodeRec (.ref c') qual → h'.get? P = some { cls := .none, data := .fields (ps ++ #[rawInt pos.line, rawInt pos.col, .ref c']) } →
      Q (.ref h'.objs.size) { s with heap := h'.push { cls := .type "function", data := .func (lamFd qual params body scope clos ((mg "__name__").getD .none) (.ref c') ctv dV) }, toks := tk })
    (hhit : ∀ cv, codeAmong pos ps.toList = some cv → ∀ (ctv : Value) (h' : Heap) (tk : Tok), (∀ b o, s.heap.get? b = some o → h'.get? b = some o) → s.heap.objs.size ≤ h'.objs.size →
      Q (.ref h'.objs.size) { s with heap := h'.push { cls := .type "function", data := .func (lamFd qual params body scope clos ((mg "__name__").getD .none) cv ctv dV) }, toks := tk }) :
    wpAny M A (makeTail "<lambda>" qual params (.expr body) scope env dV .none none pos line) Q E s := by
  have key : ∀ (ct : Value) (h1 : Heap), (∀ b o, s.heap.get? b = some o → h1.get? b = some o) → s.heap.objs.size ≤ h1.objs.size → h1.Ns mainGlobals mg →
      wpAny M A (do let cv ← functionCode env pos line "<lambda>" qual params scope (.expr body)
                    let bl ← builtinsFor mainGlobals env.builtins
                    let pm ← nsGet mainGlobals "__name__"
                    let dc ← (pure .none : Sem Value)
                    newObj (.type "function") (.func { name := "<lambda>", qualname := qual, params, body := .expr body, scope, globals := mainGlobals, closure := clos, closureTuple := ct, code := cv, builtins := bl, defaults := dV, kwdefaults := .none, annotations := none, pyModule := pm.getD .none, doc := dc })) Q E { s with heap := h1 } := by
    intro ct h1 k1 z1 g1
    have C1 := C.keeps k1
    have hP1 := k1 _ _ hP
    have hb1 := hb.keeps k1
    cases hc : codeAmong pos ps.toList with
    | none =>
      refine wpAny_bind (wpAny_functionCodeX hcode (C1.code hP1 ht) (C1.tab hP1) hc fun c' h' tk hx hge hlt _ hrec htb _ => ?_)
      have hx' : Heap.ExtBut P s.heap h' := fun b o hb' e => hx b o hb' (k1 b o e)
      obtain ⟨bm, ob, hbm, hne0, q4, hneP, hbo, q⟩ := hb1
      exact tail_end (g1.extBut hx hgP) hge0 ⟨bm, ob, hbm, hne0, q4, hneP, hx _ _ hneP hbo, q⟩ (hnew hc c' ct h' tk hx' (Nat.le_trans z1 hge) hlt hrec htb.2)
    | some cv =>
      refine wpAny_bind (wpAny_functionCode_hit hcode (C1.code hP1 ht) hc ?_)
      exact tail_end g1 hge0 hb1 (hhit cv hc ct h1 s.toks k1 z1)
  unfold makeTail
  rw [hcl, hge0]
  refine wpAny_bind (wpAny_pure ?_)
  cases hq : clos.isEmpty with
  | true =>
    simp only [if_true]
    exact wpAny_bind (wpAny_pure (key .none s.heap (fun _ _ e => e) (Nat.le_refl _) hg))
  | false =>
    simp only [Bool.false_eq_true, if_false]
    refine wpAny_bind (wpAny_newTextTuple ?_)
    exact key _ _ (fun b o e => Heap.get?_push_of_some _ e) (by rw [Heap.size_push]; omega) (hg.push _)
end
end Y
namespace Y
open PySem PySem.Spec PyProof.Rows L2 Z LamX NdefX
theorem lamO_ne {f : Addr} {F : LF} (ps : Array Value) : LamO f F ≠ .tbl ps := fun z => by unfold LamO at z; cases z
section
variable {X : Cx} {pins : List (Addr × Obj)} {σ : L2.St} {H : Hp} {s : Shared}
/-- a lambda's object just made is known from now on -/
theorem inv_lam {F : LF} {o : Obj} {t' : Nat} {pm ctv : Value} (I : Inv X pins σ H s) (ho : o = { cls := .type "function", data := .func (F.fd pm ctv) }) :
    Inv X pins σ (upd H s.heap.objs.size (LamO s.heap.objs.size F)) { s with heap := s.heap.push o, toks := t' } := by
  subst ho
  have e : (s.heap.push ({ cls := .type "function", data := .func (F.fd pm ctv) } : Obj)).get? s.heap.objs.size = some ({ cls := .type "function", data := .func (F.fd pm ctv) } : Obj) := Heap.get?_push_size _ rfl
  exact I.laid (a := s.heap.objs.size) (fun b u e => Heap.get?_push_of_some _ e) (Nat.le_refl _) ⟨⟨pm, ctv, e⟩, ⟨_, e⟩, fun h1 h2 ⟨p, t, z⟩ st => ⟨p, t, st _ z⟩⟩
/-- what stands behind the making: the lambda at f, its code object at c' -/
structure Made (T : List NTab) (F : Addr → LF) (H H1 : Hp) (f c' : Addr) : Prop where
  ext : ExtN H H1
  mono : ∀ b, H1 b = none → H b = none
  tabs : TabsN T H1
  new : H f = none
  lam : H1 f = some (LamO f (F c'))
  code : H1 c' = some (CodeO c' (F c').qual)
theorem lam_made {T : List NTab} {nm : Nat → Nat → Str} {c P : Addr} {params : Arguments} {body : Expr} {scope : Scope} {pos : Pos} {dT : Option Addr} {E : Value → Shared → Prop} {Q : Value → Shared → Prop} (I : Inv X pins σ H s) (TB : TabB X.base X.mg c P) (hcode : X.env.code = .ref c)
    (hm : (P, nm) ∈ T) (hn : nm pos.line pos.col = X.env.qual ++ "<lambda>") (hu : ∀ p ∈ T, p.1 = P → p.2 = nm) (hT : TabsN T H) (hfree : ∀ y ∈ scope.names, y.2 = .free → ∃ c, X.env.cells.lookup y.1 = some c)
    (h : ∀ (f c' : Addr) (H1 : Hp) (s' : Shared), Inv X pins σ H1 s' → Made T (fun c' => ⟨X.env.qual ++ "<lambda>", params, body, scope, cloFrom X.env.cells scope.names [], c', dT⟩) H H1 f c' → Q (.ref f) s') :
    wpAny (model X.prog X.w) X.A (makeTail "<lambda>" (X.env.qual ++ "<lambda>") params (.expr body) scope X.env (dT.elim .none .ref) .none none pos pos.line) Q E s := by
  obtain ⟨ps, hP, ht, ha⟩ := (show TabN H P nm from hT _ hm)
  have bP : s.heap.BuiltinsAt X.mg P := TB.bm.keeps I.bk
  have hP' : s.heap.get? P = some { cls := .none, data := .fields ps } := I.hok P _ hP
  refine lam_tail (closure_ok hfree) I.ok.glob (I.mod.glob.keeps I.bk) hcode (TB.code.keeps I.bk) hP' ht TB.gP bP (fun hc c' ctv h' tk hx hge hlt hrec htb => ?_) (fun cv hc ctv h' tk hx hsz => ?_)
  · obtain ⟨c2, oc, vs, t, e2, hoc, hd, hv⟩ := hrec
    cases e2
    have nC : H c' = none := I.hok.fresh hge
    have I1 := inv_table (t' := tk) (more := #[rawInt pos.line, rawInt pos.col, .ref c']) (h' := h') I hP (fun b o hb e => hx b o hb e) htb hge ⟨oc, vs, t, hoc, hd, hv⟩
    have hE : ExtN H (upd (upd H P (.tbl (ps ++ #[rawInt pos.line, rawInt pos.col, .ref c']))) c' (CodeO c' (X.env.qual ++ "<lambda>"))) := fun b o e n => by
      rw [upd_ne (ne_of_none e nC), upd_ne (fun z => n ps (Option.some.inj (e.symm.trans (by rw [z]; exact hP))))]
      exact e
    have eL : (ps ++ #[rawInt pos.line, rawInt pos.col, .ref c']).toList = ps.toList ++ [rawInt pos.line, rawInt pos.col, .ref c'] := by simp
    have T1 : TabsN T (upd (upd H P (.tbl (ps ++ #[rawInt pos.line, rawInt pos.col, .ref c']))) c' (CodeO c' (X.env.qual ++ "<lambda>"))) := fun p hp => by
      by_cases hb : p.1 = P
      · rw [hu p hp hb, hb]
        refine ⟨_, by rw [upd_ne (ne_of_none hP nC), upd_same], by rw [eL]; exact PySem.TriplesOk_snoc _ _ _ _ ht, fun p' cv hcv => ?_⟩
        rw [eL] at hcv
        rcases among_app2 _ ht hcv with z | ⟨z, z1, z2⟩
        · obtain ⟨c0, e1, e2⟩ := ha p' cv z
          exact ⟨c0, e1, hE _ _ e2 codeO_ne⟩
        · refine ⟨c', z, ?_⟩
          rw [← z1, ← z2, hn]
          exact upd_same
      · obtain ⟨ps', a1, a2, a3⟩ := hT p hp
        refine ⟨ps', by rw [upd_ne (ne_of_none a1 nC), upd_ne hb]; exact a1, a2, fun p' cv hcv => ?_⟩
        obtain ⟨c0, e1, e2⟩ := a3 p' cv hcv
        exact ⟨c0, e1, hE _ _ e2 codeO_ne⟩
    have nF := I1.hok.fresh (Nat.le_refl _)
    have I2 := inv_lam (F := ⟨X.env.qual ++ "<lambda>", params, body, scope, cloFrom X.env.cells scope.names [], c', dT⟩) (t' := tk) (pm := (X.mg "__name__").getD .none) (ctv := ctv) I1 rfl
    refine h h'.objs.size c' _ _ I2 ⟨fun b o e n => ?_, fun b e => upd_none (upd_none (upd_none e)), T1.ext fun b o e => ?_, I.hok.fresh (Nat.le_trans hge (Nat.le_of_lt hlt)), upd_same, ?_⟩
    · have e1 := hE b o e n
      exact (upd_ne (ne_of_none e1 nF)).trans e1
    · exact (upd_ne (ne_of_none e nF)).trans e
    · exact (upd_ne (Nat.ne_of_lt hlt)).trans upd_same
  · obtain ⟨c', e, hco⟩ := ha pos cv hc
    subst e
    rw [hn] at hco
    have I1 : Inv X pins σ H { s with heap := h', toks := tk } := I.kept hx
    have nF : H h'.objs.size = none := I1.hok.fresh (Nat.le_refl _)
    have I2 := inv_lam (F := ⟨X.env.qual ++ "<lambda>", params, body, scope, cloFrom X.env.cells scope.names [], c', dT⟩) (t' := tk) (pm := (X.mg "__name__").getD .none) (ctv := ctv) I1 rfl
    refine h h'.objs.size c' _ _ I2 ⟨fun b o e n => ?_, fun b e => upd_none e, hT.ext fun b o e => ?_, nF, upd_same, ?_⟩
    · exact (upd_ne (ne_of_none e nF)).trans e
    · exact (upd_ne (ne_of_none e nF)).trans e
    · exact (upd_ne (ne_of_none hco nF)).trans hco
end
/-- the Lambda expression: no default -/
theorem he_lam0 {X : Cx} {σ : L2.St} {H : Hp} {T : List NTab} {nm : Nat → Nat → Str} {c P : Addr} {params : Arguments} {body : Expr} {scope : Scope} {pos : Pos} {Q : VK} (TB : TabB X.base X.mg c P) (hcode : X.env.code = .ref c) (hm : (P, nm) ∈ T) (hn : nm pos.line pos.col = X.env.qual ++ "<lambda>") (hu : ∀ p ∈ T, p.1 = P → p.2 = nm) (hT : TabsN T H)
    (hfree : ∀ y ∈ scope.names, y.2 = .free → X.env.scope.names.lookup y.1 = some .cell ∨ X.env.scope.names.lookup y.1 = some .free) (hdef : defaultsOf params X.env = ([], []))
    (h : ∀ f c' H1, Made T (fun c' => ⟨X.env.qual ++ "<lambda>", params, body, scope, cloFrom X.env.cells scope.names [], c', none⟩) H H1 f c' → Q (.ref f) H1) : HE X (.Lambda params body scope pos) σ H Q := fun pins s I => by
  refine PySem.W.kla_eval hdef ?_
  rw [makeFunction_eq]
  simp only [List.zip_nil_right, List.filterMap_nil, List.isEmpty_nil, if_true, pure_bind]
  exact lam_made (dT := none) I TB hcode hm hn hu hT (fun y hy e => (hfree y hy e).elim (fun z => I.ok.has _ (.inl z)) fun z => I.ok.has _ (.inr z)) fun f c' H1 s' I1 M => ⟨.ref f, H1, I1, rfl, h f c' H1 M⟩
/-- .. with one default -/
theorem he_lam1 {X : Cx} {σ : L2.St} {H : Hp} {T : List NTab} {nm : Nat → Nat → Str} {c P : Addr} {params : Arguments} {body e : Expr} {scope : Scope} {pos : Pos} {Q : VK} (TB : TabB X.base X.mg c P) (hcode : X.env.code = .ref c) (hm : (P, nm) ∈ T) (hn : nm pos.line pos.col = X.env.qual ++ "<lambda>") (hu : ∀ p ∈ T, p.1 = P → p.2 = nm)
    (hfree : ∀ y ∈ scope.names, y.2 = .free → X.env.scope.names.lookup y.1 = some .cell ∨ X.env.scope.names.lookup y.1 = some .free) (hdef : defaultsOf params X.env = ([eval e X.env], []))
    (h : HE X e σ H fun v H0 => TabsN T H0 ∧ ∀ d, H0 d = none → ∀ f c' H1, Made T (fun c' => ⟨X.env.qual ++ "<lambda>", params, body, scope, cloFrom X.env.cells scope.names [], c', some d⟩) (upd H0 d (.tup [v])) H1 f c' → Q (.ref f) H1) : HE X (.Lambda params body scope pos) σ H Q := fun pins s I => by
  rw [arm_eval_Lambda, hdef]
  show wpAny _ _ (do let dv ← evalAll [eval e X.env]; let kdv ← holding dv (evalAllOpt []); makeFunction "<lambda>" (X.env.qual ++ "<lambda>") params (.expr body) scope X.env dv kdv [] pos pos.line) _ _ s
  refine wpAny_bind ?_
  show wpAny _ _ (do let v ← eval e X.env; let r ← holding [v] (evalAll []); pure (v :: r)) _ _ s
  refine wpAny_bind (thn (h pins s I) fun u s1 hh => ?_)
  obtain ⟨v, H0, I0, rv, hT, q⟩ := hh
  refine wpAny_bind (wpAny_holding (wpAny_pure (wpAny_pure ?_)))
  refine wpAny_bind (wpAny_holding (wpAny_pure ?_))
  rw [makeFunction_eq]
  simp only [List.zip_nil_right, List.filterMap_nil, List.isEmpty_nil, List.isEmpty_cons, Bool.false_eq_true, if_false, if_true, pure_bind]
  refine wpAny_bind (wpAny_newTextTuple ?_)
  have nD : H0 s1.heap.objs.size = none := I0.hok.fresh (Nat.le_refl _)
  have I1 : Inv X pins σ (upd H0 s1.heap.objs.size (.tup [v])) { s1 with heap := s1.heap.push { cls := .type "tuple", data := .seq [u].toArray }, toks := s1.toks } :=
    I0.laid (fun b o e => Heap.get?_push_of_some _ e) (Nat.le_refl _) ⟨by size_fits, [u], .cons rv .nil, IsTup.new _ _⟩
  exact lam_made (dT := some s1.heap.objs.size) I1 TB hcode hm hn hu (hT.ext fun b o e => (upd_ne (ne_of_none e nD)).trans e) (fun y hy e => (hfree y hy e).elim (fun z => I0.ok.has _ (.inl z)) fun z => I0.ok.has _ (.inr z)) fun f c' H1 s' I2 M => ⟨.ref f, H1, I2, rfl, q _ nD f c' H1 M⟩
end Y
namespace Y
open PySem PySem.Spec PyProof.Rows L2 Z LamX NdefX
/-! ## a kept lambda is called, its cells shown here -/
theorem delL_ne {b : Addr} : ∀ {L : List (Addr × Obj)} {H : Hp}, (∀ p ∈ L, p.1 ≠ b) → delL H L b = H b
  | [], _, _ => rfl
  | p :: L, H, h => (delL_ne (L := L) (H := L2.del H p.1) fun q hq => h q (List.mem_cons_of_mem _ hq)).trans (L2.del_ne (Ne.symm (h p List.mem_cons_self)))
theorem delL_none {b : Addr} : ∀ {L : List (Addr × Obj)} {H : Hp}, H b = none → delL H L b = none
  | [], _, h => h
  | p :: L, H, h => delL_none (L := L) (H := L2.del H p.1) (by
      by_cases hb : b = p.1
      · rw [hb]; exact L2.del_same
      · exact (L2.del_ne hb).trans h)
theorem delL_mem {b : Addr} : ∀ {L : List (Addr × Obj)} {H : Hp}, b ∈ L.map (·.1) → delL H L b = none
  | p :: L, H, h => by
    rw [List.map_cons, List.mem_cons] at h
    by_cases hb : b = p.1
    · exact delL_none (L := L) (H := L2.del H p.1) (by rw [hb]; exact L2.del_same)
    · exact delL_mem (L := L) (H := L2.del H p.1) (h.resolve_left hb)
/-- the captured cells among the shown things, what they hold (ws) -/
structure CellsL (cl : List (Str × Addr)) (fr : List Str) (ws : List (Option V)) (L : List (Addr × Obj)) : Prop where
  len : ws.length = fr.length
  all : ∀ y c, cl.lookup y = some c → ∃ o v, (c, o) ∈ L ∧ o.data = .cell v
  inj : ∀ x y c, cl.lookup x = some c → cl.lookup y = some c → x = y
  has : ∀ (i : Nat) (y : Str), fr[i]? = some y → ∃ c, cl.lookup y = some c ∧ ∀ v, ws[i]? = some (some v) → ∃ u o, L2.RelV v u ∧ (c, o) ∈ L ∧ o.data = .cell (some u)
theorem CellsL.at_ {cl : List (Str × Addr)} {fr : List Str} {ws : List (Option V)} {L : List (Addr × Obj)} {h : Heap} {H : Hp} (C : CellsL cl fr ws L) (hL : ∀ p ∈ L, h.get? p.1 = some p.2) : CellsAt cl fr ws h (delL H L) := by
  refine ⟨C.len, fun y c e => ?_, C.inj, fun i y e => ?_⟩
  · obtain ⟨o, v, m, d⟩ := C.all y c e
    exact ⟨delL_mem (List.mem_map.mpr ⟨_, m, rfl⟩), v, o, hL _ m, d⟩
  · obtain ⟨c, e1, e2⟩ := C.has i y e
    refine ⟨c, e1, fun v hv => ?_⟩
    obtain ⟨u, o, r, m, d⟩ := e2 v hv
    exact ⟨u, r, o, hL _ m, d⟩
/-- a kept lambda with its cells shown: what is known of it in H -/
structure Kept (F : LF) (f : Addr) (fr : List Str) (dvs : List V) (ws : List (Option V)) (L : List (Addr × Obj)) (H : Hp) : Prop where
  lam : H f = some (LamO f F)
  code : H F.c = some (CodeO F.c F.qual)
  dfl : LDef F dvs H
  shw : ∀ p ∈ L, H p.1 = some (.frz p.2 Tr)
  nd : (L.map (·.1)).Nodup
  cells : CellsL F.cl fr ws L
theorem Kept.ext {F : LF} {f : Addr} {fr : List Str} {dvs : List V} {ws : List (Option V)} {L : List (Addr × Obj)} {H H' : Hp} (k : Kept F f fr dvs ws L H) (s : Same H H') : Kept F f fr dvs ws L H' :=
  ⟨s _ _ k.lam, s _ _ k.code, ⟨k.dfl.1, fun T e => s _ _ (k.dfl.2 T e)⟩, fun p hp => s _ _ (k.shw p hp), k.nd, k.cells⟩
section
variable {X : Cx} {σ : L2.St} {H : Hp} {i k : Nat} {a : Str} {p1 p2 : Pos} {f : Addr} {F : LF} {fr : List Str} {dvs : List V} {ws : List (Option V)} {L : List (Addr × Obj)} {sp : List (Option V) → Hp → VK → XK → Prop} {W : WX} {E : XK} {Q : VK}
/-- a(), a the name of slot i -/
theorem he_callLam (tk : Takes X W) (hW : ∀ cls d σ' H', E cls d H' → W cls d σ' H') (LO : LOk X.prog X.w X.K X.mg X.base (L2.CX X.prog X.w) k f F fr dvs sp) (hr : Room k X.A) (hs : σ[i]? = some (some (.ref f))) (KH : Kept F f fr dvs ws L H)
    (h : sp ws (delL H L) (fun v H' => (∀ p ∈ L, H' p.1 = none) → Q v (shownL H' L)) (fun cls d H' => (∀ p ∈ L, H' p.1 = none) → E cls d (shownL H' L))) (hN : X.N[i]? = some a) (hv : Vis X.env.scope a) (hd : (a == ("__debug__" : Str)) = false := by decide) (hcd : (a == ("__classdict__" : Str)) = false := by decide) :
    HE X (.Call (.Name a p1) [] [] p2) σ H Q := fun pins s I => by
  refine wpAny_Call_Name_kw (thn ((pe_var (pos := p1) (i := i) hN hv hd hcd).run pins s σ H (fun v H1 => v = .ref f ∧ H1 = H) I ⟨.ref f, hs, rfl, rfl⟩) fun u s1 ⟨v, H1, I1, r1, q1⟩ => ?_)
  obtain ⟨ev, eH⟩ := q1
  subst ev
  rw [eH] at I1
  obtain rfl : u = Value.ref f := r1
  obtain ⟨⟨pm, ctv, ho⟩, _, _⟩ := I1.hok f _ KH.lam
  refine PySem.W.callWith_F0 ⟨_, _, _, _, ho⟩ ?_
  have e0 := I1.env0
  have sh : ∀ p ∈ L, Shown X.stack H s1 p.1 p.2 := fun p hp => Shown.of I1.hok e0.frf (KH.shw p hp)
  have off : ∀ b v, H b = some v → (∀ o, v ≠ .frz o Tr) → delL H L b = H b := fun b v e n => delL_ne fun p hp z => by
    have q := KH.shw p hp
    rw [z, e] at q
    exact n _ (Option.some.inj q)
  have o1 : delL H L f = some (LamO f F) := (off f _ KH.lam fun o z => by unfold LamO at z; cases z).trans KH.lam
  have o2 : delL H L F.c = some (CodeO F.c F.qual) := (off _ _ KH.code fun o z => by unfold CodeO at z; cases z).trans KH.code
  have o3 : LDef F dvs (delL H L) := ⟨KH.dfl.1, fun T e => (off T _ (KH.dfl.2 T e) fun o z => by cases z).trans (KH.dfl.2 T e)⟩
  have rc : codeAny (model X.prog X.w) X.A (.call (.ref f) ⟨[], []⟩) (CR (L2.CX X.prog X.w) X.stack X.prog X.w H s1 Q E) s1 :=
    bareL baresX sh KH.nd (LO.run X.A X.stack s1 (delL H L) ws _ _ hr (env0_delL e0 sh KH.nd) o1 o2 o3 (KH.cells.at_ fun p hp => (sh p hp).ob) h)
  have hx : Passes (L2.CX X.prog X.w) X E := passes_call tk hW
  refine wpAny_call (codeAny_mono rc fun r s' hq => ?_)
  cases r with
  | error e => exact hx pins σ H s1 e s' I1 hq
  | ok fl =>
    cases fl with
    | ret u => exact I1.after hq
    | next => exact False.elim hq
    | brk => exact False.elim hq
    | cont => exact False.elim hq
end
end Y
namespace Y
open PySem PySem.Spec PyProof.Rows L2 Z
/-! ## a text in a list of texts; what a caught error keeps -/
theorem dts_str {K : PySem.W.Frag} {H : Hp} {ns : List Str} {xs : List V} (h : Dts K (ns.map .str) xs H) : xs = ns.map V.str := by
  refine List.ext_getElem? fun i => ?_
  cases e : ns[i]? with
  | none =>
    rw [List.getElem?_map, e]
    refine List.getElem?_eq_none ?_
    rw [h.1, List.length_map]
    exact List.getElem?_eq_none_iff.mp e
  | some n =>
    obtain ⟨hi, _⟩ := List.getElem?_eq_some_iff.mp e
    have hx : i < xs.length := by rw [h.1, List.length_map]; exact hi
    have q := h.2 i xs[i] (.str n) (List.getElem?_eq_getElem hx) (by rw [List.getElem?_map, e]; rfl)
    rw [List.getElem?_map, e, List.getElem?_eq_getElem hx]
    cases hq : xs[i] with
    | str m => rw [hq] at q; cases q; rfl
    | _ => rw [hq] at q; cases q
theorem inV_str (n : Str) : ∀ ns : List Str, inV (.str n) (ns.map V.str) = ns.any fun m => decide (m = n)
  | [] => rfl
  | m :: ns => by
    have h := inV_str n ns
    unfold inV at h ⊢
    rw [List.map_cons, List.any_cons, h, List.any_cons]
    congr 1
theorem flat_strs (ns : List Str) : (ns.map V.str).all flatV = true := by
  induction ns with
  | nil => rfl
  | cons n ns ih => rw [List.map_cons, List.all_cons, ih]; rfl
section
variable {X : Cx} {σ : L2.St} {S : Hp} {a b : Expr} {pos : Pos} {n : Str} {ns : List Str}
theorem opE_inLs {K : PySem.W.Frag} : OpE (rIn K false) S (Dt K (.str n)) (Dt K (.list (ns.map .str))) (Dt K (.bool (ns.any fun m => decide (m = n)))) := fun v w S1 H1 _ s pv pw Q q => by
  cases pv
  obtain ⟨l, xs, rfl, hl, hx, z⟩ := pw.lst_inv
  rw [dts_str hx] at hl
  refine ⟨l, ns.map V.str, rfl, .inl (sql_of (s _ _ hl)), rfl, flat_strs ns, ?_⟩
  rw [if_neg Bool.false_ne_true, inV_str]
  exact q _ S1 H1 (Gr.refl s) (.bl _)
theorem et_inLs (ha : EE X σ S a (Dt X.K (.str n))) (hb : EE X σ S b (Dt X.K (.list (ns.map .str)))) (hm : behindInMarks .In b = false := by rfl) : ET X σ S (.Compare a [.In] [b] pos) (ns.any fun m => decide (m = n)) := et_cmp op_in_seq ha hb opE_inLs hm
end
/-- a shown own error, its code, the attribute n -/
def ExcAt (C : Addr) (code n : Str) (v : V) (w : V) (S : Hp) : Prop := ∃ (a : Addr) (oe : Obj) (dd : Addr) (fs : List (Str × V)), w = .ref a ∧ S a = some (.frz oe Tr) ∧ oe.cls = .ref C ∧ oe.dict = some dd ∧ (∃ vs, oe.data = .fields vs) ∧ S dd = some (.xd fs) ∧ fs.lookup ("code" : Str) = some (V.str code) ∧ fs.lookup n = some v
instance {C : Addr} {code n : Str} {v : V} : Mn (ExcAt C code n v) := ⟨fun s ⟨a, oe, dd, fs, h1, h2, h3, h4, h5, h6, h7, h8⟩ => ⟨a, oe, dd, fs, h1, s _ _ h2, h3, h4, h5, s _ _ h6, h7, h8⟩⟩
end Y
namespace Y
open PySem PySem.Spec PyProof.Rows L2 Z
/-- a state with the exception shown, and back -/
theorem Gr.unshown {S H S1 H1 : Hp} {a : Addr} {oe : Obj} (s : Same S H) (n : H a = none) (g : Gr (shown S a oe) (shown H a oe) S1 H1) : Gr S H (L2.del S1 a) (L2.del H1 a) := by
  have nS : S a = none := s.free n
  refine ⟨fun b o e => ?_, fun b o e => ?_, fun b o e => ?_, fun b o e m => ?_⟩
  · have hb := ne_of_none e nS
    exact (L2.del_ne hb).trans (g.st b o ((shown_ne hb).trans e))
  · by_cases hb : b = a
    · rw [hb, L2.del_same] at e; cases e
    · rw [L2.del_ne hb] at e
      exact (L2.del_ne hb).trans (g.sub b o e)
  · have hb := ne_of_none e n
    exact (L2.del_ne hb).trans (g.hh b o ((shown_ne hb).trans e))
  · have hb := ne_of_none e n
    exact (L2.del_ne hb).trans ((g.old b o ((shown_ne hb).trans e) m).trans (shown_ne hb))
theorem shown_same_sub {S H : Hp} {a : Addr} {oe : Obj} (s : Same S H) : Same (shown S a oe) (shown H a oe) := fun b o e => by
  by_cases hb : b = a
  · subst hb; rw [shown_same] at e ⊢; exact e
  · rw [shown_ne hb] at e ⊢; exact s b o e
/-- shown things put back on top -/
theorem Gr.shownL {S H S1 H1 : Hp} {L : List (Addr × Obj)} (g : Gr S (delL H L) S1 H1) (hL : ∀ p ∈ L, H1 p.1 = none) (hk : ∀ p ∈ L, H p.1 = some (.frz p.2 Tr)) (nd : (L.map (·.1)).Nodup) : Gr S H S1 (shownL H1 L) := by
  have atL : ∀ {L : List (Addr × Obj)} {p : Addr × Obj}, p ∈ L → (L.map (·.1)).Nodup → Y.shownL H1 L p.1 = some (.frz p.2 Tr) := by
    intro L
    induction L with
    | nil => intro p hp; cases hp
    | cons q L ih =>
      intro p hp nd
      rw [List.map_cons, List.nodup_cons] at nd
      rcases List.mem_cons.mp hp with e | e
      · rw [e]; exact shown_same
      · exact (shown_ne fun z => nd.1 (by rw [← z]; exact List.mem_map_of_mem e)).trans (ih e nd.2)
  have top : Same H1 (Y.shownL H1 L) := fun b o e => by
    have hb : b ∉ L.map (·.1) := fun z => by
      obtain ⟨p, hp, rfl⟩ := List.mem_map.mp z
      rw [hL p hp] at e; cases e
    exact (shownL_ne hb).trans e
  refine ⟨g.st, g.sub.trans top, fun b o e => ?_, fun b o e m => ?_⟩
  · by_cases hb : b ∈ L.map (·.1)
    · obtain ⟨p, hp, rfl⟩ := List.mem_map.mp hb
      rw [hk p hp] at e
      rw [atL hp nd]; exact e
    · exact top b o (g.hh b o ((delL_ne fun p hp z => hb (by rw [← z]; exact List.mem_map_of_mem hp)).trans e))
  · by_cases hb : b ∈ L.map (·.1)
    · obtain ⟨p, hp, rfl⟩ := List.mem_map.mp hb
      have n1 : S1 p.1 = none := g.sub.free (hL p hp)
      rw [n1, g.st.free n1]
    · exact g.old b o ((delL_ne fun p hp z => hb (by rw [← z]; exact List.mem_map_of_mem hp)).trans e) m
end Y
namespace Y
open PySem PySem.Spec PyProof.Rows L2 L2H Z
/-! ## a def called within an except suite, the caught exception pinned; it raises nothing there (after HandS.HotCalls, without its wish on the exception's context) -/
structure FnP (P : Program) (w : World) (K : PySem.W.Frag) (mg : Str → Option Value) (base : Heap) (k : Nat) (f : Addr) (fd : FuncData) (ps : List Str) (sp : Addr × Obj → List V → Hp → VK → Prop) : Prop where
  len : ∀ p vs H Q, sp p vs H Q → vs.length = ps.length
  run : ∀ (A : Around) (outer : List Env) (s : Shared) (H : Hp) (args : Args) (us : List Value) (vs : List V) (Q : VK) (p : Addr × Obj), RoomH k A → PinOk outer H s p → Env0 P w K mg base A outer s H → BindsTo s fd args (ps.zip us) → Vals vs us → sp p vs H Q →
    codeAny (model P w) A (.call (.ref f) args) (CR CX0 outer P w H s Q (fun _ _ _ => False)) s
section
variable {P : Program} {w : World} {K : PySem.W.Frag} {mg : Str → Option Value} {base : Heap} {x qual : Str} {params : Arguments} {body : List Stmt} {scope : Scope} {dvs : List V} {kws : List (Str × V)} {f : Addr} {fd : FuncData} {N ps : List Str} {k : Nat} {sp : Addr × Obj → List V → Hp → VK → Prop}
theorem fn_hsP (F : FunD K x qual params body scope dvs kws f fd) (S : FnScope N ps scope) (len : ∀ p vs H Q, sp p vs H Q → vs.length = ps.length)
    (hb : ∀ (cdv : Value) (A : Around) (outer : List Env) (s : Shared) (H : Hp) (vs : List V) (Q : VK) (p : Addr × Obj), RoomH k (A.deeper (envOfC qual scope s.heap.objs.size f cdv)) → sp p vs H Q →
      HS (cxH CX0 P w K mg base N qual scope f cdv A outer s H (fun _ _ _ => False) p) { nx := fun _ H' => Q .non H', rt := Q } body (start N vs) H) : FnP P w K mg base (k + 1) f fd ps sp := by
  obtain ⟨oc, od, dV, kV, doc, pm, an, cdv, ct, osl, rfl, lk, hcd, _, _⟩ := F.ex
  refine ⟨len, fun A outer s H args us vs Q p hr hpin e0 hbt r hsp => ?_⟩
  have hl := len _ _ _ _ hsp
  have KX : K.In s.heap := e0.mod.kin.keeps fun b o e => (e0.bs b o e).1
  have lim : s.heap.NoLimit := e0.mod.nolimit.keeps fun b o e => (e0.bs b o e).1
  have hkind : ∀ y ∈ ps.zip us, scope.names.lookup y.1 = some .local ∨ (scope.names.lookup y.1 = some .cell ∧ ((cellsFrom (s.heap.objs.size + 1) scope.names []).lookup y.1).isSome = true) := fun ⟨n, v⟩ hy => by
    rcases S.par n (List.of_mem_zip hy).1 with q | q
    · exact .inl q
    · exact .inr ⟨q, PySem.W.cellsFrom_some _ _ _ (.inl q)⟩
  refine codeAny_call_function hr.depth (KX _ _ lk) rfl S.co S.gen rfl (PySem.W.codeRec_of KX hcd) (hbt _ _ _ _ ?_)
  refine wpAny_newFunctionEnv_cells S.kind hkind fun env he s1 xx => ?_
  subst he
  refine ⟨lim.keeps xx.toInCall.keep, codeAny_func ?_⟩
  have I : Inv (cxH CX0 P w K mg base N qual scope f cdv A outer s H (fun _ _ _ => False) p) [] (L2.start N vs) H s1 := inv_startH S hpin e0 hl r xx
  refine wpAny_mono (hb cdv A outer s H vs Q p (hr.deeper _) hsp [] s1 I) (fun fl s' hs => ?_) fun e s' hs => hs
  have fin : ∀ {σ' : L2.St} {H' : Hp} {v : V} {u : Value}, Inv (cxH CX0 P w K mg base N qual scope f cdv A outer s H (fun _ _ _ => False) p) [] σ' H' s' → L2.RelV v u → Q v H' → CE outer P w H s Q u s' :=
    fun {σ' H' v u} J rv q => ⟨v, H', J.os, J.bare, J.base, J.hok, rv, q⟩
  cases fl with
  | ret u => exact hs.elim fun v ⟨σ', H', J, rv, q⟩ => fin J rv q
  | next => exact hs.elim fun σ' ⟨H', J, q⟩ => fin (v := V.non) (u := Value.none) J rfl q
  | brk => exact hs.elim fun _ ⟨_, _, q⟩ => False.elim q
  | cont => exact hs.elim fun _ ⟨_, _, q⟩ => False.elim q
end
/-- f(e), e the caught exception, in its suite -/
theorem he_callP {X : Cx} {a : Addr} {oe : Obj} {pn : List (Addr × Obj)} {k : Nat} {f : Addr} {fd : FuncData} {ps : List Str} {sp : Addr × Obj → List V → Hp → VK → Prop} {fx : Str} {e : Expr} {σ : L2.St} {H : Hp} {Q : VK} {p pos : Pos} (F : FnP X.prog X.w X.K X.mg X.base k f fd ps sp) (hr : RoomH k (X.suite a ((a, oe) :: pn)).A)
    (hm : X.mg fx = some (.ref f)) (hk : PySem.W.keepIn X.K (.ref f) = true) (hb : Binds X.K fd ps []) (ha : HE (X.suite a ((a, oe) :: pn)) e σ H (fun v H1 => v = .ref a ∧ H1 = H)) (h : sp (a, oe) [.ref a] H Q)
    (hg : Gl X fx := by rfl) (hdb : (fx == ("__debug__" : Str)) = false := by decide) (he : starEach [e] X.env = (false, eval e X.env) :: starEach [] X.env := by rfl) (hpl : (backTo pos (starEach [] X.env)).any (·.1) = false := by rfl) :
    HE (X.suite a ((a, oe) :: pn)) (.Call (.Name fx p) [e] [] pos) σ H Q := fun pins s I => by
  refine wpAny_Call_Name_kw (ld_glob I hg hm ?_ hdb)
  refine PySem.W.callWith_K (h₀ := X.base) I.ok.mod.kin hk (thn ((pa_cons (X := X.suite a ((a, oe) :: pn)) (te := bE (X.suite a ((a, oe) :: pn)) e) peb pa_nil he).run pos pins s σ H (fun vs H1 => vs = [.ref a] ∧ H1 = H) I ?_) fun us s1 ⟨vs, H1, I1, r, q⟩ => ⟨I1.kIn, ?_⟩) he hpl
  · exact fun pins' s' I' => thn (ha pins' s' I') fun u s1 ⟨v, H1, I1, r, e1, e2⟩ => ⟨v, H1, I1, r, by rw [e1], e2⟩
  · obtain ⟨rfl, rfl⟩ := q
    have hl : us.length = ps.length := by rw [← r.length]; exact F.len _ _ _ _ h
    have pk : PinOk X.stack H1 s1 (a, oe) := by
      obtain ⟨e1, n, nL, nF, nc⟩ := I1.pin (a, oe) (List.mem_append_left _ List.mem_cons_self)
      exact ⟨e1, n, fun hm' => (List.mem_cons.mp (I1.stkSub _ hm')).elim nL nF, nc⟩
    have hbt := hb s1 us I1.kIn (by rw [List.append_nil]; exact hl)
    rw [List.append_nil] at hbt
    refine wpAny_call (codeAny_mono (F.run _ X.stack s1 H1 ⟨us, []⟩ us [.ref a] Q (a, oe) hr pk I1.env0 hbt r h) fun r s' hq => ?_)
    cases r with
    | error e => exact (show False from hq).elim
    | ok fl =>
      cases fl with
      | ret u => exact I1.after hq
      | next => exact False.elim hq
      | brk => exact False.elim hq
      | cont => exact False.elim hq
end Y
namespace Y
open PySem PySem.Spec PyProof.Rows L2 L2H Z
/-! ## attributes of the pinned exception -/
/-- the exception p: its class, its code, the value of its attribute n -/
def ExcP (C : Addr) (code n : Str) (v : V) (p : Addr × Obj) (S : Hp) : Prop := ∃ (dd : Addr) (fs : List (Str × V)), p.2.cls = .ref C ∧ p.2.dict = some dd ∧ (∃ vs, p.2.data = .fields vs) ∧ S dd = some (.xd fs) ∧ fs.lookup ("code" : Str) = some (V.str code) ∧ fs.lookup n = some v
theorem ExcP.up {C : Addr} {code n : Str} {v : V} {p : Addr × Obj} {S S' : Hp} (h : ExcP C code n v p S) (s : Same S S') : ExcP C code n v p S' := by
  obtain ⟨dd, fs, h1, h2, h3, h4, h5, h6⟩ := h
  exact ⟨dd, fs, h1, h2, h3, s _ _ h4, h5, h6⟩
section
variable {X : Cx} {σ : L2.St} {S : Hp} {e : Expr} {P : V → Hp → Prop} {pos : Pos} {C dd : Addr} {n code : Str} {p : Addr × Obj} {fs : List (Str × V)} {v : V}
theorem ee_xfP [Mn P] (hp : p ∈ X.pn) (hc : p.2.cls = .ref C) (hdd : p.2.dict = some dd) (hf : ∃ vs, p.2.data = .fields vs) (T : XfC X.K C) (hno : PySem.W.findIn X.K (.ref C) n = some none) (he : EE X σ S e (fun w _ => w = .ref p.1)) (hx : S dd = some (.xd fs)) (l : fs.lookup n = some v) (pv : P v S)
    (hb : attributeBase e n X.env (eval e X.env) = eval e X.env := by rfl) : EE X σ S (.Attribute e n pos) P := fun H s Q q pins sh I => by
  refine attr_of hb (thn (he H s (fun w H1 => w = .ref p.1 ∧ ∃ S1, Gr S H S1 H1) (fun v S1 H1 g pv => ⟨pv, S1, g⟩) pins sh I) fun x s1 hh => ?_)
  obtain ⟨w, H1, I1, rx, ew, S1, g⟩ := hh
  subst ew
  obtain rfl : x = Value.ref p.1 := rx
  obtain ⟨vs, hd⟩ := hf
  have ho : s1.heap.get? p.1 = some p.2 := (I1.pin p (List.mem_append_left _ hp)).1
  have hx1 : ObjOk X.prog X.w H1 s1.heap dd (.xd fs) := I1.hok dd _ (g.sub _ _ (g.st _ _ hx))
  obtain ⟨mA, hns, hr⟩ := hx1
  obtain ⟨od, hod, hl⟩ := lookIn_ns hns
  obtain ⟨u', hu, ru⟩ := RelO.some_of (v := v) (o := mA n) (by rw [← l]; exact hr n)
  have J : PySem.W.InstAt s1.heap p.1 p.2 C (some od) := ⟨ho, hc, by unfold PySem.W.notCls; rw [hd] <;> rfl, by rw [hdd]; exact hod⟩
  exact HandSPX.exc_get I1.kIn J T.ga T.gg T.exC (PySem.W.findObj_own T.hdC hno rfl (by rw [hl, hu])) (handed_of ru) ⟨v, H1, I1.tok _, ru, q v S1 H1 g (Mn.up g.st pv)⟩
end
end Y
namespace Y
open PySem PySem.Spec PyProof.Rows L2 Z
section
variable {X : Cx} {pins : List (Addr × Obj)} {σ : L2.St} {S H : Hp} {s : Shared} {x : Str} {c : Addr}
/-- a cell of the running frame may be shown -/
theorem show_cell (I : Inv X pins σ H s) (e : X.env.cells.lookup x = some c) (hf : X.fn x = true) : ∃ o cv, o.data = .cell cv ∧ Show X.base X.stack H s c o := by
  obtain ⟨cv, o, ho, hd⟩ := I.cell x c e
  have lt := I.ok.cab x c hf e
  refine ⟨o, cv, hd, ho, I.freeC x c e, fun hm => ?_, ?_⟩
  · rcases List.mem_cons.mp (I.stkSub c hm) with h | h
    · exact I.cne x c e h
    · obtain ⟨_, o', e', _⟩ := I.ok.funs.mem h
      exact absurd (Heap.lt_size e') (Nat.not_lt.mpr lt)
  · cases hb : X.base.get? c with
    | none => rfl
    | some o' => exact absurd (Heap.lt_size (I.ok.bs c o' hb).1) (Nat.not_lt.mpr lt)
end
end Y
namespace Y
open PySem PySem.Spec PyProof.Rows L2 Z
/-! ## a list comprehension over things of any kind (Z3's ee_lcG with predicates for the items) -/
section
variable {α : Type} {R : α → V → Hp → Prop} {X : Cx} {σ : L2.St} {S : Hp} {elt tg iter : Expr} {ifs : List Expr} {scope : Scope} {own : List (Str × Nat)} {pos : Pos} {ds : List α} {p : α → Bool} {G : α → PyData → Prop}
theorem lc_loopA (hz : ds.length ≤ sizeLine)
    (hel : ∀ d ∈ ds, ∀ v S', Same S S' → R d v S' → ∃ τ, wipe τ (own.map (·.2)) = wipe σ (own.map (·.2)) ∧ ∀ (s : Shared) (H0 : Hp) (C : Addr) (cl : List (Str × Addr)) (fp : List Addr),
      EG (X.blk s H0 scope (compEnvC scope cl C X.env) fp) S' tg v (wipe σ (own.map (·.2))) τ ∧ ETs (X.blk s H0 scope (compEnvC scope cl C X.env) fp) τ S' ifs (p d) ∧ (p d = true → EE (X.blk s H0 scope (compEnvC scope cl C X.env) fp) τ S' elt (Ex X.K (G d)))) {H : Hp} (Q : VK) (q : ∀ v S' H', Gr S H S' H' → (∃ rs, Paired G (ds.filter p) rs ∧ Dt X.K (.list rs) v S') → Q v H') {J : It} {S1 H1 : Hp} (g1 : Gr S H S1 H1) (it : ItP J S1 (ds.map R)) :
    ∀ D, H1 D = none → ∃ W : Nat → Nat → Hp → Prop, (∃ m, W 0 m (upd H1 D (.lst []))) ∧ ∀ i m H, W i m H →
      (J.stop i H ∧ Q (.ref D) H) ∨ (J.go i H ∧ ∃ Nx : Hp → Prop, (∀ H', Nx H' → ∃ m', m' < m ∧ W (i + 1) m' H') ∧ ∀ x H', J.yld i H x H' → gBlk X scope tg x (wipe σ (own.map (·.2))) H' fun σ2 H2 => wipe σ2 (own.map (·.2)) = wipe σ (own.map (·.2)) ∧ tBlk X scope ifs σ2 H2 fun b H3 =>
        if b = true then eBlk X scope elt σ2 H3 fun y H4 => ∃ acc, H4 D = some (.lst acc) ∧ acc.length < sizeLine ∧ Nx (upd H4 D (.lst (acc ++ [y]))) else Nx H3) := by
  intro D hD
  have hD1 : S1 D = none := g1.sub.free hD
  have hlen : (List.map R ds).length = ds.length := List.length_map ..
  refine lc_it (g := gBlk X scope tg) (tt := tBlk X scope ifs) (te := eBlk X scope elt) (vs := own.map (·.2)) (σ := σ) (Qd := Q (.ref D)) it (fun i H' => ∃ S' xs rs, Same S1 S' ∧ Same S' H' ∧ Same H1 H' ∧ (∀ a o, H1 a = some o → NT o → S' a = S1 a) ∧ S' D = none ∧ H' D = some (.lst xs) ∧ Paired G ((ds.take i).filter p) rs ∧ Dts X.K rs xs S' ∧ xs.length ≤ i)
    ⟨S1, [], [], Same.refl _, Same.mut g1.sub hD1, Same.new hD, fun _ _ _ _ => rfl, hD1, upd_same, .nil, .nil, Nat.le_refl _⟩ (fun i H' _ ⟨S', _, _, a, b, _⟩ => a.trans b) ?_ ?_
  · intro i x H2 H3 hi2 ⟨S2, xs, rs, k1, k2, k3, k4, k5, k6, k7, k8, k9⟩ y
    rw [hlen] at hi2
    obtain ⟨S3, g3, P, hP, px⟩ := y S2 k1 k2
    obtain ⟨d, hd⟩ : ∃ d, ds[i]? = some d := ⟨ds[i], List.getElem?_eq_getElem hi2⟩
    rw [List.getElem?_map, hd] at hP
    obtain rfl := Option.some.inj hP
    have sS3 : Same S S3 := g1.st.trans (k1.trans g3.st)
    obtain ⟨τ, hw, hb⟩ := hel d (List.mem_of_getElem? hd) x S3 sS3 px
    have hf : ∀ q, p d = q → (ds.take (i + 1)).filter p = (ds.take i).filter p ++ (if q = true then [d] else []) := fun q hq => by
      rw [take_snoc hd, List.filter_append]
      cases q with
      | true => simp [hq]
      | false => simp [hq]
    intro sh H0 C cl fp
    refine (hb sh H0 C cl fp).1 H3 g3.sub _ ⟨hw, ?_⟩
    intro sh' H0' C' cl' fp'
    refine (hb sh' H0' C' cl' fp').2.1 H3 g3.sub _ fun S4 H4 g4 => ?_
    have g34 := g3.trans g4
    cases hpd : p d with
    | false =>
      refine iteF ⟨S4, xs, rs, k1.trans g34.st, g34.sub, k3.trans g34.hh, fun a o h n => (g34.old a o (k3 a o h) n).trans (k4 a o h n), (g34.old D _ k6 (fun _ z => nomatch z)).trans k5, g34.hh _ _ k6, ?_, k8.up g34.st, by omega⟩
      rw [hf false hpd]
      simpa using k7
    | true =>
      refine iteT ?_
      intro sh'' H0'' C'' cl'' fp''
      refine ((hb sh'' H0'' C'' cl'' fp'').2.2 hpd).up g4.st H4 g4.sub _ fun w S5 H5 g5 ⟨r, hr, hrw⟩ => ?_
      have g := g34.trans g5
      have hD5 : S5 D = none := (g.old D _ k6 (fun _ z => nomatch z)).trans k5
      refine ⟨xs, g.hh _ _ k6, Nat.lt_of_le_of_lt k9 (Nat.lt_of_lt_of_le hi2 hz), S5, xs ++ [w], rs ++ [r], k1.trans g.st, Same.mut g.sub hD5, fun a o h => ?_, fun a o h n => (g.old a o (k3 a o h) n).trans (k4 a o h n), hD5, upd_same, ?_, (k8.up g.st).snoc hrw, by rw [List.length_append]; show xs.length + 1 ≤ i + 1; omega⟩
      · rw [upd_ne (ne_of_none h hD)]; exact g.hh _ _ (k3 a o h)
      · rw [hf true hpd]
        exact paired_snoc k7 hr
  · intro H2 ⟨S2, xs, rs, k1, k2, k3, k4, k5, k6, k7, k8, k9⟩
    rw [hlen] at k7 k9
    rw [List.take_length] at k7
    refine q _ (upd S2 D (.lst xs)) H2 (g1.trans ⟨k1.trans (Same.new k5), fun a o h => ?_, k3, fun a o h n => by rw [upd_ne (ne_of_none h hD)]; exact k4 a o h n⟩) ⟨rs, k7, Dt.lst_mk upd_same (k8.up (Same.new k5)) (Nat.le_trans k9 hz)⟩
    by_cases ha : a = D
    · subst ha; rw [upd_same] at h; rw [k6]; exact h
    · rw [upd_ne ha] at h; exact k2 a o h
theorem lc_readA (hi : EI X σ S tg iter (ds.map R)) (hz : ds.length ≤ sizeLine)
    (hel : ∀ d ∈ ds, ∀ v S', Same S S' → R d v S' → ∃ τ, wipe τ (own.map (·.2)) = wipe σ (own.map (·.2)) ∧ ∀ (s : Shared) (H0 : Hp) (C : Addr) (cl : List (Str × Addr)) (fp : List Addr),
      EG (X.blk s H0 scope (compEnvC scope cl C X.env) fp) S' tg v (wipe σ (own.map (·.2))) τ ∧ ETs (X.blk s H0 scope (compEnvC scope cl C X.env) fp) τ S' ifs (p d) ∧ (p d = true → EE (X.blk s H0 scope (compEnvC scope cl C X.env) fp) τ S' elt (Ex X.K (G d)))) {H : Hp} (s : Same S H) (Q : VK) (q : ∀ v S' H', Gr S H S' H' → (∃ rs, Paired G (ds.filter p) rs ∧ Dt X.K (.list rs) v S') → Q v H') :
    tLc (bI X tg iter) (gBlk X scope tg) (tBlk X scope ifs) (eBlk X scope elt) (own.map (·.2)) σ H Q := hi H s _ fun J S1 H1 g1 it => lc_loopA hz hel Q q g1 it
theorem ee_lcA (hc : X.calm = true) (hN : X.N.Nodup) (ok : BlkOk X.N X.env.scope scope own) (hi : EI X σ S tg iter (ds.map R)) (hz : ds.length ≤ sizeLine)
    (hel : ∀ d ∈ ds, ∀ v S', Same S S' → R d v S' → ∃ τ, wipe τ (own.map (·.2)) = wipe σ (own.map (·.2)) ∧ ∀ (s : Shared) (H0 : Hp) (C : Addr) (cl : List (Str × Addr)) (fp : List Addr),
      EG (X.blk s H0 scope (compEnvC scope cl C X.env) fp) S' tg v (wipe σ (own.map (·.2))) τ ∧ ETs (X.blk s H0 scope (compEnvC scope cl C X.env) fp) τ S' ifs (p d) ∧ (p d = true → EE (X.blk s H0 scope (compEnvC scope cl C X.env) fp) τ S' elt (Ex X.K (G d))))
    (hs : ∀ x, foldedSetIterable iter X.env x = pure x := by intro _; rfl) :
    EE X σ S (.ListComp elt [⟨tg, iter, ifs, 0⟩] scope pos) (fun v S' => ∃ rs, Paired G (ds.filter p) rs ∧ Dt X.K (.list rs) v S') := fun H s Q q =>
  he_of (pe_lc (own := own) (wi := bI X tg iter) (g := gBlk X scope tg) (tt := tBlk X scope ifs) (te := eBlk X scope elt) hc hN pib ok
    (fun s H0 C cl fp => ⟨fun pins sh σ' H' v u Q' I r h => h s H0 C cl fp pins sh u I r⟩) (fun s H0 C cl fp => ⟨fun pins sh σ' H' Q' I h => h s H0 C cl fp pins sh I⟩) (fun s H0 C cl fp => ⟨fun pins sh σ' H' Q' I h => h s H0 C cl fp pins sh I⟩) hs) (lc_readA hi hz hel s Q q)
end
end Y
namespace Y
open PySem PySem.Spec PyProof.Rows L2 Z
/-- a list whose items have the Ps -/
def LstP (Ps : List (V → Hp → Prop)) (v : V) (S : Hp) : Prop := ∃ l xs, v = .ref l ∧ S l = some (.lst xs) ∧ Al Ps xs S
theorem al_len {Ps : List (V → Hp → Prop)} {xs : List V} {H : Hp} (h : Al Ps xs H) : xs.length = Ps.length := by
  induction h with
  | nil => rfl
  | cons _ _ ih => rw [List.length_cons, List.length_cons, ih]
theorem al_get {Ps : List (V → Hp → Prop)} {xs : List V} {H : Hp} (h : Al Ps xs H) : ∀ {i : Nat} {x : V}, xs[i]? = some x → ∃ P, Ps[i]? = some P ∧ P x H := by
  induction h with
  | nil => intro i x e; cases e
  | cons p _ ih =>
    intro i x e
    cases i with
    | zero => cases e; exact ⟨_, rfl, p⟩
    | succ i => exact ih e
section
variable {X : Cx} {σ : L2.St} {S : Hp} {e tg : Expr} {Ps : List (V → Hp → Prop)}
theorem ei_lstP (hP : ∀ P ∈ Ps, Mn P) (ha : EE X σ S e (LstP Ps)) : EI X σ S tg e Ps := fun H s R q =>
  hi_of (pi_list peb) (ha H s _ fun v S1 H1 g1 pv => by
    obtain ⟨l, xs, rfl, hl, hx⟩ := pv
    have hlen := al_len hx
    refine ⟨l, rfl, ⟨xs, sql_of (g1.sub _ _ hl)⟩, q _ S1 H1 g1 ⟨fun i H hi hs => ?_, fun H hs => ?_, fun i H x H' hi hs y T st th => ?_⟩⟩
    · rw [← hlen] at hi
      exact (walk_list (K := X.K) (a := l) (xs := xs)).goes i H hi (sql_of (hs _ _ hl))
    · rw [← hlen]
      exact (walk_list (K := X.K) (a := l) (xs := xs)).stops H (sql_of (hs _ _ hl))
    · rw [← hlen] at hi
      obtain ⟨rfl, hy⟩ := (walk_list (K := X.K) (a := l) (xs := xs)).yields i H x H' hi (sql_of (hs _ _ hl)) y
      obtain ⟨P, e1, e2⟩ := al_get hx hy
      have m := hP P (List.mem_of_getElem? e1)
      exact ⟨T, Gr.refl th, P, e1, m.up st e2⟩)
end
/-- a closure's promise seen from the state with the cells: the state without them, and back -/
theorem Gr.under {S H S1 H1 : Hp} {L : List (Addr × Obj)} (s : Same S H) (hS : ∀ p ∈ L, S p.1 = some (.frz p.2 Tr)) (nd : (L.map (·.1)).Nodup) (g : Gr (delL S L) H S1 H1) : Gr S H (Y.shownL S1 L) H1 := by
  have atL : ∀ {L : List (Addr × Obj)} {p : Addr × Obj}, p ∈ L → (L.map (·.1)).Nodup → Y.shownL S1 L p.1 = some (.frz p.2 Tr) := by
    intro L
    induction L with
    | nil => intro p hp; cases hp
    | cons q L ih =>
      intro p hp nd
      rw [List.map_cons, List.nodup_cons] at nd
      rcases List.mem_cons.mp hp with e | e
      · rw [e]; exact shown_same
      · exact (shown_ne fun z => nd.1 (by rw [← z]; exact List.mem_map_of_mem e)).trans (ih e nd.2)
  have off : ∀ b, b ∉ L.map (·.1) → delL S L b = S b := fun b hb => delL_ne fun p hp z => hb (by rw [← z]; exact List.mem_map_of_mem hp)
  refine ⟨fun b o e => ?_, fun b o e => ?_, g.hh, fun b o e m => ?_⟩
  · by_cases hb : b ∈ L.map (·.1)
    · obtain ⟨p, hp, rfl⟩ := List.mem_map.mp hb
      rw [atL hp nd, ← hS p hp]; exact e
    · rw [shownL_ne hb]
      exact g.st b o ((off b hb).trans e)
  · by_cases hb : b ∈ L.map (·.1)
    · obtain ⟨p, hp, rfl⟩ := List.mem_map.mp hb
      rw [atL hp nd] at e
      rw [← e]
      exact g.hh _ _ (s _ _ (hS p hp))
    · rw [shownL_ne hb] at e
      exact g.sub b o e
  · by_cases hb : b ∈ L.map (·.1)
    · obtain ⟨p, hp, rfl⟩ := List.mem_map.mp hb
      rw [atL hp nd, hS p hp]
    · rw [shownL_ne hb]
      exact (g.old b o e m).trans (off b hb)
end Y
namespace Y
open PySem PySem.Spec PyProof.Rows L2 Z
end Y
namespace Y
open PySem PySem.Spec PyProof.Rows L2 Z
/-- lambda: .. gets nothing -/
theorem lbind0 {F : LF} (hd : F.dT = none) (h : ∀ pm ctv, bindArgs (F.fd pm ctv) ⟨[], []⟩ = pure []) : LBind F [] := fun pm ctv its s h0 _ _ => by
  rw [h0 hd]
  exact .of_eq (h pm ctv)
/-- lambda x=e: .. gets its default -/
theorem lbind1 {F : LF} {x : Str} {T : Addr} (hd : F.dT = some T) (h : ∀ pm ctv, ∃ k, bindArgs (F.fd pm ctv) ⟨[], []⟩ = seqItems? (F.fd pm ctv).defaults >>= k ∧ ∀ u, k (some #[u]) = pure [(x, u)]) : LBind F [x] := fun pm ctv its s _ h1 hl => by
  obtain ⟨o, n, ho, hs⟩ := h1 T hd
  obtain ⟨k, e1, e2⟩ := h pm ctv
  match its, hl with
  | [u], _ => exact .of_defaults (show (F.dT.elim Value.none .ref) = .ref T by rw [hd]; rfl) ho hs e1 (e2 u)
end Y
namespace Y
open PySem PySem.Spec PyProof.Rows L2 Z LamX NdefX
/-! ## the running frame's cells, shown to a call -/
theorem gr_unshownL : ∀ {L : List (Addr × Obj)} {S H S1 H1 : Hp}, Same S H → (∀ p ∈ L, H p.1 = none) → (L.map (·.1)).Nodup → Gr (Y.shownL S L) (Y.shownL H L) S1 H1 → Gr S H (delL S1 L) (delL H1 L)
  | [], _, _, _, _, _, _, _, g => g
  | p :: L, S, H, S1, H1, s, n, nd, g => by
    rw [List.map_cons, List.nodup_cons] at nd
    have s1 : Same (Y.shownL S L) (Y.shownL H L) := by
      have key : ∀ {L : List (Addr × Obj)} {S H : Hp}, Same S H → Same (Y.shownL S L) (Y.shownL H L) := by
        intro L
        induction L with
        | nil => intro S H s; exact s
        | cons q L ih => intro S H s; exact shown_same_sub (ih s)
      exact key s
    have n1 : Y.shownL H L p.1 = none := (shownL_ne nd.1).trans (n p List.mem_cons_self)
    exact gr_unshownL (L := L) s (fun q hq => n q (List.mem_cons_of_mem _ hq)) nd.2 (Gr.unshown s1 n1 g)
theorem shownL_at {L : List (Addr × Obj)} {S : Hp} {p : Addr × Obj} (hp : p ∈ L) (nd : (L.map (·.1)).Nodup) : Y.shownL S L p.1 = some (.frz p.2 Tr) := by
  induction L with
  | nil => cases hp
  | cons q L ih =>
    rw [List.map_cons, List.nodup_cons] at nd
    rcases List.mem_cons.mp hp with e | e
    · rw [e]; exact shown_same
    · exact (shown_ne fun z => nd.1 (by rw [← z]; exact List.mem_map_of_mem e)).trans (ih e nd.2)
/-- L: the cells of the names xs, with what they hold -/
structure CellsOf (X : Cx) (σ : L2.St) (xs : List Str) (L : List (Addr × Obj)) : Prop where
  nd : (L.map (·.1)).Nodup
  has : ∀ x ∈ xs, ∃ (c : Addr) (o : Obj), X.env.cells.lookup x = some c ∧ (c, o) ∈ L ∧ (∃ cv, o.data = .cell cv) ∧ ∀ (j : Nat) (v : V), X.N[j]? = some x → σ[j]? = some (some v) → ∃ u, o.data = .cell (some u) ∧ RelV v u
  of : ∀ p ∈ L, ∃ x ∈ xs, X.env.cells.lookup x = some p.1
section
variable {X : Cx} {pins : List (Addr × Obj)} {σ : L2.St} {S H : Hp} {s : Shared}
theorem cells_show (I : Inv X pins σ H s) : ∀ {xs : List Str}, xs.Nodup → (∀ x ∈ xs, X.env.scope.names.lookup x = some .cell ∧ X.fn x = true) → ∃ L, CellsOf X σ xs L ∧ ∀ p ∈ L, Show X.base X.stack H s p.1 p.2
  | [], _, _ => ⟨[], ⟨List.nodup_nil, fun x hx => (by cases hx), fun p hp => (by cases hp)⟩, fun p hp => (by cases hp)⟩
  | x :: xs, nd, hk => by
    rw [List.nodup_cons] at nd
    obtain ⟨L, C, hs⟩ := cells_show I nd.2 fun y hy => hk y (List.mem_cons_of_mem _ hy)
    obtain ⟨k1, k2⟩ := hk x List.mem_cons_self
    obtain ⟨c, hc⟩ := I.ok.has x (.inl k1)
    obtain ⟨o, cv, hd, sh⟩ := show_cell I hc k2
    have nc : c ∉ L.map (·.1) := fun z => by
      obtain ⟨p, hp, e⟩ := List.mem_map.mp z
      obtain ⟨y, hy, hyc⟩ := C.of p hp
      rw [e] at hyc
      exact nd.1 (by rw [I.ok.inj x y c hc hyc]; exact hy)
    refine ⟨(c, o) :: L, ⟨by rw [List.map_cons, List.nodup_cons]; exact ⟨nc, C.nd⟩, fun y hy => ?_, fun p hp => ?_⟩, fun p hp => ?_⟩
    · rcases List.mem_cons.mp hy with e | e
      · subst e
        refine ⟨c, o, hc, List.mem_cons_self, ⟨cv, hd⟩, fun j v hj hv => ?_⟩
        obtain ⟨m, _, hl⟩ := I.loc
        obtain ⟨u, r, l⟩ := hl j y v hj hv (.inr (.inl k1))
        rcases l with ⟨z, _⟩ | ⟨_, c', hc', o', ho', hd'⟩
        · have z' : X.env.scope.names.lookup y = some .local := z
          rw [k1] at z'; cases z'
        · rw [hc] at hc'; cases hc'
          rw [sh.ob] at ho'; cases ho'
          exact ⟨u, hd', r⟩
      · obtain ⟨c', o', h1, h2, h3⟩ := C.has y e
        exact ⟨c', o', h1, List.mem_cons_of_mem _ h2, h3⟩
    · rcases List.mem_cons.mp hp with e | e
      · subst e; exact ⟨x, List.mem_cons_self, hc⟩
      · obtain ⟨y, hy, h⟩ := C.of p e
        exact ⟨y, List.mem_cons_of_mem _ hy, h⟩
    · rcases List.mem_cons.mp hp with e | e
      · subst e; exact sh
      · exact hs p e
/-- a lambda's captured cells among them -/
theorem cellsL_of {xs : List Str} {L : List (Addr × Obj)} {cl : List (Str × Addr)} {fr : List Str} {js : List Nat} (ok : X.Ok) (C : CellsOf X σ xs L) (K : Caps X cl fr js) (hcl : ∀ y c, cl.lookup y = some c → y ∈ xs) (hfr : ∀ y ∈ fr, y ∈ xs) : CellsL cl fr (js.map (slotAt σ)) L := by
  refine ⟨?_, fun y c e => ?_, fun x y c e1 e2 => ok.inj x y c (K.sub x c e1) (K.sub y c e2), fun i y e => ?_⟩
  · have q := congrArg List.length K.at_
    rw [List.length_map, List.length_map] at q
    rw [List.length_map]; exact q
  · obtain ⟨c', o, h1, h2, ⟨cv, h3⟩, _⟩ := C.has y (hcl y c e)
    rw [K.sub y c e] at h1; cases h1
    exact ⟨o, cv, h2, h3⟩
  · obtain ⟨c, o, h1, h2, _, h4⟩ := C.has y (hfr y (List.mem_of_getElem? e))
    refine ⟨c, K.sup y (List.mem_of_getElem? e) c h1, fun v ev => ?_⟩
    have e2 : (js.map fun j => X.N[j]?)[i]? = some (some y) := by
      rw [K.at_, List.getElem?_map, e]; rfl
    rw [List.getElem?_map] at e2 ev
    cases ej : js[i]? with
    | none => rw [ej] at e2; cases e2
    | some j =>
      rw [ej] at e2 ev
      have hj : X.N[j]? = some y := Option.some.inj (show some (X.N[j]?) = some (some y) from e2)
      obtain ⟨u, h5, h6⟩ := h4 j v hj (slotAt_some (Option.some.inj (show some (slotAt σ j) = some (some v) from ev)))
      exact ⟨u, o, h6, h2, h5⟩
end
/-! ## what is known without the tables -/
def noTab (S : Hp) : Hp := fun a => match S a with
  | some (.tbl _) => none
  | o => o
theorem noTab_at {S : Hp} {a : Addr} {o : HO} (h : S a = some o) (n : ∀ ps, o ≠ .tbl ps) : noTab S a = some o := by
  unfold noTab
  rw [h]
  cases o with
  | tbl ps => exact absurd rfl (n ps)
  | _ => rfl
theorem noTab_sub {S : Hp} : Same (noTab S) S := fun a o h => by
  unfold noTab at h
  cases e : S a with
  | none => rw [e] at h; cases h
  | some u =>
    rw [e] at h
    cases u with
    | tbl ps => cases h
    | _ => exact h
theorem noTab_no {S : Hp} {a : Addr} {ps : Array Value} : noTab S a ≠ some (.tbl ps) := fun h => by
  unfold noTab at h
  cases e : S a with
  | none => rw [e] at h; cases h
  | some u =>
    rw [e] at h
    cases u with
    | tbl qs => cases h
    | _ => cases h
theorem dt_noTab {K : PySem.W.Frag} {d : PyData} {v : V} {S : Hp} (h : Dt K d v S) : Dt K d v (Y.noTab S) := by
  induction h with
  | non => exact .non
  | bl b => exact .bl b
  | int i => exact .int i
  | str x => exact .str x
  | lst h l z _ ih => exact .lst (noTab_at h (fun _ z => nomatch z)) l z ih
  | tup h l z _ ih =>
    refine .tup ?_ l z ih
    rcases h with h | ⟨e0, (h | ⟨o', h⟩) | h⟩
    · exact .inl (noTab_at h (fun _ z => nomatch z))
    · exact .inl (noTab_at h (fun _ z => nomatch z))
    · exact .inr ⟨e0, .inl (.inr ⟨o', noTab_at h (fun _ z => nomatch z)⟩)⟩
    · exact .inr ⟨e0, .inr h⟩
theorem bx_noTab {v : V} {S : Hp} (h : BX v S) : BX v (Y.noTab S) := by
  obtain ⟨b, c, ns, e, n, h1, h2, l⟩ := h
  exact ⟨b, c, ns, e, n, noTab_at h1 (fun _ z => nomatch z), noTab_at h2 (fun _ z => nomatch z), l⟩
end Y
namespace Y
open PySem PySem.Spec PyProof.Rows L2 Z
section
variable {X : Cx} {σ : L2.St} {S S' H : Hp} {a b c e d0 tg : Expr} {pos p : Pos} {i j l m : Int} {b1 b2 b3 : Bool} {g1 g2 : Int → Int → V} {D : Ends} {rest body : List Stmt} {x : Str} {k n : Nat}
/-- f(k1 = e1, k2 = e2), by name alone; the values stand the other way round in the def -/
def gS {α : Type} : List α → List α → List α
  | us, [a, b] => us ++ [b, a]
  | us, ws => us ++ ws
theorem gS_rel {vs zs : List V} {us ws : List Value} (r1 : Vals vs us) (r3 : Vals zs ws) : Vals (gS vs zs) (gS us ws) := by
  cases r3 with
  | nil => exact r1.append .nil
  | cons a t =>
    cases t with
    | nil => exact r1.append (.cons a .nil)
    | cons b t =>
      cases t with
      | nil => exact r1.append (.cons b (.cons a .nil))
      | cons c t => exact r1.append (.cons a (.cons b (.cons c t)))
/-- for .. in range(n): what is kept is told of the whole heap -/
theorem hs_forR {n : Nat} (Iv : Nat → L2.St → Hp → Prop) (hp : PassesOwn (model X.prog X.w) X.A X.env X.xe) (hc : X.calm = true) (hm : X.mg "range" = none) (hn : (n : Int) < 2 ^ 62) (ha : EE X σ S a (Dt X.K (.int (n : Nat)))) (s : Same S H) (h0 : ∀ S' H', Gr S H S' H' → Iv 0 σ H')
    (step : ∀ i σ1 H1, i < n → Iv i σ1 H1 → HG X tg (.int (i : Nat)) σ1 H1 fun σ3 H3 => HS X { D with nx := Iv (i + 1), ct := Iv (i + 1), bk := fun σ' H' => HS X D rest σ' H' } body σ3 H3)
    (done : ∀ σ1 H1, Iv n σ1 H1 → HS X D rest σ1 H1) (hg : Gl X "range" := by rfl) (hs1 : starEach [a] X.env = [(false, eval a X.env)] := by rfl) (hs : ∀ x, foldedSetIterable (.Call (.Name "range" p) [a] [] pos) X.env x = pure x := by intro _; rfl) {pos2 : Pos} :
    HS X D (.For tg (.Call (.Name "range" p) [a] [] pos) body [] pos2 :: rest) σ H :=
  hs_cons (ps_for hp hc (pi_range1 hg hm pab hs1) pgb psb hs) ((ea_1 ha (by rw [hs1]; rfl)).2 H s _ fun vs S1 H1 g1 al => by
    obtain ⟨v, rfl, pv⟩ := al.one
    cases pv
    refine ⟨(n : Int), rfl, by omega, hn, for_it (G := fun _ => True) (Y := fun i H x H' => H' = H ∧ x = .int (0 + (i : Int))) (n := n) ⟨fun i H hi _ => ?_, fun H _ => ?_, fun i H x H' _ _ y => y⟩ Iv (h0 S1 H1 g1) (fun _ _ _ _ _ => trivial) (fun i x σ' H2 H3 hi iv y => ?_) done⟩
    · show i < ((n : Int)).toNat
      omega
    · show ((n : Int)).toNat ≤ n
      omega
    · obtain ⟨rfl, rfl⟩ := y
      rw [Int.zero_add]
      exact step i σ' H3 hi iv)
end
section
variable {P : Program} {w : World} {K : PySem.W.Frag} {mg : Str → Option Value} {base : Heap} {x qual : Str} {params : Arguments} {body : List Stmt} {scope : Scope} {dvs : List V} {kws : List (Str × V)} {f c : Addr} {fd : FuncData} {N ps : List Str} {k : Nat} {sp : Sp}
/-- a def by its body, its code object known -/
theorem fn_hsC (F : FunD K x qual params body scope dvs kws f fd) (Sc : FnScope N ps scope) (hc : fd.code = .ref c) (len : ∀ vs H Q E, sp vs H Q E → vs.length = ps.length)
    (hb : ∀ (A : Around) (outer : List Env) (s : Shared) (H : Hp) (vs : List V) (Q : VK) (E : XK), Room k (A.deeper (envOfC qual scope s.heap.objs.size f (.ref c))) → sp vs H Q E →
      HS (cxOf CX0 P w K mg base N qual scope f (.ref c) A outer s H E).nox { nx := fun _ H' => Q .non H', rt := Q } body (start N vs) H) : FnOk P w K mg base CX0 (k + 1) f fd ps sp := by
  obtain ⟨oc, od, dV, kV, doc, pm, an, cdv, ct, osl, rfl, lk, hcd, _, _⟩ := F.ex
  have e : cdv = .ref c := hc
  subst e
  exact fn_of lk hcd Sc len fun A outer s H vs Q E hr hsp => ⟨_, PSs.nox psb, hb A outer s H vs Q E hr hsp⟩
end
end Y
namespace Y
open PySem PySem.Spec PyProof.Rows L2 Z
/-! ## an own error of the ValueErrors, told by one Bool -/
theorem oexB_ok {K : PySem.W.Frag} {C : Addr} (h : oexB K C = true) : OexC K C := by
  unfold oexB at h
  simp only [Bool.and_eq_true, decide_eq_true_eq] at h
  obtain ⟨h1, h2, h3, h4, h5⟩ := h
  refine ⟨?_, h2, h3, h4, h5⟩
  split at h1
  · rename_i t dd cd sl lk
    rw [Bool.and_eq_true] at h1
    obtain ⟨ht, h1⟩ := h1
    split at h1
    · rename_i C' bm k0 k1 k2 k3 n k5 hm hs
      simp only [Bool.and_eq_true, beq_iff_eq, Bool.not_eq_true'] at h1 ht
      obtain ⟨rfl, hb, rfl, hd, hl⟩ := h1
      subst ht
      obtain ⟨nm, bs, mro, ns, qn, hd', sn, sub, ab, col, del⟩ := cd
      dsimp only at hm hd hl
      subst hm hd hl
      have hsl : sl = #[k0, k1, k2, k3, some (.builtin "ValueError.__new__"), k5] := by
        obtain ⟨l⟩ := sl
        simp only at hs
        rw [hs]
      subst hsl
      exact ⟨nm, qn, ns, bs, bm, sn, sub, ab, col, dd, k0, k1, k2, k3, k5, lk, hb⟩
    · cases h1
  · cases h1
theorem errB_ok {K : PySem.W.Frag} {C fI : Addr} {f : Str} (h : errB K C fI f = true) : OexC K C ∧ XfC K C ∧ PySem.W.findIn K (.ref C) f = some none ∧ PySem.W.findIn K (.ref C) "code" = some none ∧ PySem.W.findIn K (.ref C) "__init__" = some (some (.ref fI)) ∧ PySem.W.typeIn K (.ref fI) = some (.type "function") := by
  unfold errB at h
  simp only [Bool.and_eq_true, decide_eq_true_eq] at h
  obtain ⟨h1, h2, h3, h4, h5, h6⟩ := h
  exact ⟨oexB_ok h1, xfB_ok h2, He.eqO_ok h3, He.eqO_ok h4, He.eqO_ok h5, h6⟩
end Y
namespace Y
open PySem PySem.Spec PyProof.Rows L2 Z
/-! ## dicts whose keys are tuples of ints, whose values are ints -/
abbrev MapI := List (List Int × Int)
def kI (k : List Int) : List L2.Key := k.map Sum.inl
def kvM (m : MapI) : List (List L2.Key × V) := m.map fun q => (kI q.1, V.int q.2)
def getM (m : MapI) (k : List Int) : Option Int := (m.find? fun q => decide (q.1 = k)).map (·.2)
def putM (m : MapI) (k : List Int) (n : Int) : MapI := if (m.any fun q => decide (q.1 = k)) = true then m.map (fun q => if q.1 = k then (q.1, n) else q) else m ++ [(k, n)]
theorem kI_inj : ∀ {k l : List Int}, kI k = kI l → k = l
  | [], [], _ => rfl
  | [], _ :: _, h => by cases h
  | _ :: _, [], h => by cases h
  | a :: k, b :: l, h => by
    have h1 : Sum.inl a = Sum.inl b ∧ kI k = kI l := List.cons.inj h
    rw [Sum.inl.inj h1.1, kI_inj h1.2]
theorem kI_iff {k l : List Int} : kI k = kI l ↔ k = l := ⟨kI_inj, fun h => by rw [h]⟩
theorem kI_dec {k l : List Int} : decide (kI k = kI l) = decide (k = l) := decide_eq_decide.mpr kI_iff
theorem kI_kV (k : List Int) : (kI k).map kV = k.map V.int := by
  unfold kI
  rw [List.map_map]
  rfl
theorem valV_kvM (k : List Int) : ∀ m : MapI, valV (kvM m) (kI k) = (getM m k).map V.int
  | [] => rfl
  | q :: m => by
    have ih := valV_kvM k m
    unfold valV kvM getM at *
    rw [List.map_cons, List.find?_cons, List.find?_cons, kI_dec]
    cases decide (q.1 = k) with
    | true => rfl
    | false => exact ih
theorem any_kvM (k : List Int) : ∀ m : MapI, ((kvM m).any fun kv => decide (kv.1 = kI k)) = m.any fun q => decide (q.1 = k)
  | [] => rfl
  | q :: m => by
    unfold kvM
    rw [List.map_cons, List.any_cons, List.any_cons, kI_dec]
    exact congrArg _ (any_kvM k m)
theorem putK_kvM (m : MapI) (k : List Int) (n : Int) : putK (kvM m) (kI k) (.int n) = kvM (putM m k n) := by
  unfold putK putM
  rw [any_kvM]
  split
  · unfold kvM
    rw [List.map_map, List.map_map]
    refine List.map_congr_left fun q _ => ?_
    show (if kI q.1 = kI k then (kI q.1, V.int n) else (kI q.1, V.int q.2)) = (kI (if q.1 = k then (q.1, n) else q).1, V.int (if q.1 = k then (q.1, n) else q).2)
    by_cases h : q.1 = k
    · rw [if_pos (kI_iff.mpr h), if_pos h]
    · rw [if_neg (fun z => h (kI_inj z)), if_neg h]
  · unfold kvM
    rw [List.map_append]
    rfl
theorem kvM_len (m : MapI) : (kvM m).length = m.length := List.length_map ..
theorem putM_len (m : MapI) (k : List Int) (n : Int) : (putM m k n).length ≤ m.length + 1 := by
  unfold putM
  split
  · rw [List.length_map]; omega
  · rw [List.length_append]; simp
/-- v is a tuple of these ints -/
def KyP (k : List Int) (w : V) (S : Hp) : Prop := ∃ b, w = .ref b ∧ S b = some (.tup (k.map V.int))
instance {k : List Int} : Mn (KyP k) := ⟨fun s ⟨b, e, h⟩ => ⟨b, e, s _ _ h⟩⟩
theorem ky_of {K : PySem.W.Frag} {k : List Int} {v : V} {S : Hp} (h : Dt K (.tuple (k.map .int)) v S) (hk : k ≠ []) : KyP k v S := by
  obtain ⟨a, xs, rfl, hl, hx, _⟩ := h.tup_invS
  have e := dts_int hx
  subst e
  rcases hl with hl | ⟨e, _⟩
  · exact ⟨a, rfl, hl⟩
  · exact absurd (List.map_eq_nil_iff.mp e) hk
theorem KyP.dt {K : PySem.W.Frag} {k : List Int} {v : V} {S : Hp} (h : KyP k v S) (hz : k.length ≤ sizeLine) : Dt K (.tuple (k.map .int)) v S := by
  obtain ⟨b, rfl, h⟩ := h
  exact Dt.tup_mk (.inl h) (int_dts k S) (by rw [List.length_map]; exact hz)
section
variable {X : Cx} {σ : L2.St} {S S' H : Hp} {e f o i : Expr} {P : V → Hp → Prop} {pos pos' p apos cpos : Pos} {D : Ends} {rest : List Stmt} {a : Addr} {m : MapI} {k : List Int} {n : Int}
theorem EE.ky (h : EE X σ S e (Dt X.K (.tuple (k.map .int)))) (hk : k ≠ []) : EE X σ S e (KyP k) := h.imp fun _ _ q => ky_of q hk
/-- o.get(e, f) -/
theorem ee_dget2 (hu : X.A.units + 1 < cLine) (hd : S a = some (.dT (kvM m))) (ho : EE X σ S o (fun w _ => w = .ref a)) (he : EE X σ S e (KyP k)) (hf : EE X σ S f (Dt X.K (.int n))) (hm : M2 X o "get" apos e f cpos := by exact ⟨rfl, rfl, rfl, rfl⟩) :
    EE X σ S (.Call (.Attribute o "get" apos) [e, f] [] cpos) (Dt X.K (.int ((getM m k).getD n))) := fun H s Q q =>
  he_of (pe_dget2 hu peb peb peb hm) (ho H s _ fun w S1 H1 g1 pw => by
    subst pw
    refine ⟨a, rfl, .inr ⟨_, .inl (g1.sub _ _ (g1.st _ _ hd))⟩, (he.up g1.st) H1 g1.sub _ fun y S2 H2 g2 py => ((hf.up g1.st).up g2.st) H2 g2.sub _ fun z S3 H3 g3 pz => ?_⟩
    cases pz
    obtain ⟨b, rfl, hb⟩ := py
    have g := (g1.trans g2).trans g3
    refine ⟨_, DGet.t (k := kI k) (g.sub _ _ (g.st _ _ hd)) (by rw [kI_kV]; exact g3.sub _ _ (g3.st _ _ hb)), ?_⟩
    rw [valV_kvM]
    have e : ((getM m k).map V.int).getD (V.int n) = V.int ((getM m k).getD n) := by cases getM m k <;> rfl
    rw [e]
    exact q _ S3 H3 g (.int _))
/-- o[i], there -/
theorem ee_dix (hu : X.A.units + 1 < cLine) (hd : S a = some (.dT (kvM m))) (hk : getM m k = some n) (ho : EE X σ S o (fun w _ => w = .ref a)) (hi : EE X σ S i (KyP k)) (hs : NoSl i := by exact fun _ _ => rfl) : EE X σ S (.Subscript o i pos) (Dt X.K (.int n)) := fun H s Q q =>
  he_of (pe_dget hu peb peb hs) (ho H s _ fun w S1 H1 g1 pw => (hi.up g1.st) H1 g1.sub _ fun y S2 H2 g2 py => by
    subst pw
    obtain ⟨b, rfl, hb⟩ := py
    have g := g1.trans g2
    refine ⟨a, .int n, rfl, ?_, q _ S2 H2 g (.int _)⟩
    have h := DGet.t (k := kI k) (g.sub _ _ (g.st _ _ hd)) (by rw [kI_kV]; exact g2.sub _ _ hb)
    rw [valV_kvM, hk] at h
    exact h)
/-- {} -/
theorem hs_dnew {x : Str} {j : Nat} (hN : X.N.Nodup) (q : ∀ b, H b = none → HS X D rest (σ.set j (some (.ref b))) (upd H b (.dT (kvM [])))) (hi : X.N[j]? = some x := by rfl) (hx : Loc X.env.scope x := by first | exact Or.inl rfl | exact Or.inr rfl)
    (hs : swapsWith (.Dict [] [] p) (some (.Name x pos')) pos.line X.env = pure false := by rfl) (hf : X.fn x = true ∨ X.env.scope.names.lookup x = some .local := by first | exact .inl rfl | exact .inr rfl) : HS X D (.Assign [.Name x pos'] (.Dict [] [] p) pos :: rest) σ H :=
  hs_cons (ps_set hN hi hx pe_dnewT hs hf) fun b hb => q b hb
/-- len(o) -/
theorem ee_dlen (hm : X.mg "len" = none) (hd : S a = some (.dT (kvM m))) (ho : EE X σ S o (fun w _ => w = .ref a)) (hg : Gl X "len" := by rfl) (hs : starEach [o] X.env = (false, eval o X.env) :: starEach [] X.env := by rfl) : EE X σ S (.Call (.Name "len" p) [o] [] pos) (Dt X.K (.int m.length)) := by
  haveI := mn_eq (v := .ref a)
  exact ee_callB call_len_dT hm boot_len (ea_1 ho hs) (fun vs S1 H1 s0 s al Q q => by
    obtain ⟨v, rfl, pv⟩ := al.one
    subst pv
    refine ⟨a, _, rfl, s _ _ (s0 _ _ hd), ?_⟩
    rw [kvM_len]
    exact q _ S1 H1 (Gr.refl s) (.int _)) hg (he := hs) (hpl := by rfl)
end
end Y
namespace Y
open PySem PySem.Spec PyProof.Rows L2 Z
/-! ## sorted, of data -/
def SortOk {β : Type} (enc : β → PyData) (bs : List β) (u : Nat) : Prop := PySem.W.AllAlike (bs.map enc) ∧ PySem.W.Sortable (bs.map enc) ∧ ∀ b ∈ bs, u + 2 + (enc b).depth < cLine
def srt {β : Type} (enc : β → PyData) (bs : List β) : List β := bs.mergeSort (PySem.W.dataLe false enc)
end Y
namespace Y
open PySem PySem.Spec PyProof.Rows L2 Z
/-! ## sorted(d), d a dict with tuple keys -/
/-- S, and the tuples of H -/
def learn (S H : Hp) : Hp := fun a => match S a with
  | some o => some o
  | none => match H a with
    | some (.tup xs) => some (.tup xs)
    | _ => none
theorem learn_l {S H : Hp} : Same S (learn S H) := fun a o h => by unfold learn; rw [h]
theorem learn_sub {S H : Hp} (s : Same S H) : Same (learn S H) H := fun a o h => by
  unfold learn at h
  cases e : S a with
  | some u => rw [e] at h; cases h; exact s a _ e
  | none =>
    rw [e] at h
    cases e2 : H a with
    | none => rw [e2] at h; cases h
    | some u =>
      rw [e2] at h
      cases u with
      | tup xs => exact h
      | _ => cases h
theorem learn_tup {S H : Hp} (s : Same S H) {a : Addr} {xs : List V} (h : H a = some (.tup xs)) : learn S H a = some (.tup xs) := by
  unfold learn
  cases e : S a with
  | some u =>
    have h2 := s a u e
    rw [h] at h2
    exact h2.symm
  | none =>
    rw [h]
theorem Gr.learn {S H : Hp} (s : Same S H) : Gr S H (Y.learn S H) H := ⟨learn_l, learn_sub s, Same.refl H, fun a o h n => by
  unfold Y.learn
  cases e : S a with
  | some u => rfl
  | none =>
    rw [h]
    cases o with
    | tup xs => exact absurd rfl (n xs)
    | _ => rfl⟩
abbrev tI' (k : List Int) : PyData := .tuple (k.map .int)
theorem readsAll_ints : ∀ {h : Heap} {us : List Value} {k : List Int} {as : List Addr}, ReadsAll h us (k.map PyData.int) as → as = []
  | _, _, [], _, r => by
    generalize e : ([] : List Int).map PyData.int = ds at r
    cases r with
    | nil => rfl
    | cons _ _ => cases e
  | h, us, i :: k, as, r => by
    generalize e : (i :: k).map PyData.int = ds at r
    cases r with
    | nil => cases e
    | cons r1 r2 =>
      cases e
      cases r1
      rw [readsAll_ints r2]
      rfl
theorem reads_tI {h : Heap} {u : Value} {k : List Int} {as : List Addr} (r : Reads h u (tI' k) as) : as = [] := by
  cases r with
  | tuple _ _ _ h4 => exact readsAll_ints h4
theorem each_keys {R : Value → List Int → Prop} {H : Hp} : ∀ {m : MapI} {ks : List (List L2.Key × Addr × Value)}, Paired (fun (p : List L2.Key × V) (q : List L2.Key × Addr × Value) => p.1 = q.1 ∧ H q.2.1 = some (.tup (p.1.map kV)) ∧ RelV p.2 q.2.2) (kvM m) ks → (∀ k b, H b = some (.tup (k.map V.int)) → R (.ref b) k) → PySem.W.EachIs R (ks.map fun x => Value.ref x.2.1) (m.map (·.1))
  | [], _, h, _ => by
    generalize e : kvM [] = l at h
    cases h with
    | nil => exact .nil
    | cons _ _ => cases e
  | q :: m, _, h, hR => by
    generalize e : kvM (q :: m) = l at h
    cases h with
    | nil => cases e
    | cons h1 h2 =>
      have e1 := (List.cons.inj e).1
      have e2 := (List.cons.inj e).2
      subst e1
      subst e2
      refine .cons (hR _ _ ?_) (each_keys h2 hR)
      have := h1.2.1
      rw [kI_kV] at this
      exact this
theorem refs_of_each {R : Value → List Int → Prop} {us : List Value} {bs : List (List Int)} (h : PySem.W.EachIs R us bs) {T : V → List Int → Prop} (hR : ∀ u k, R u k → ∃ b, u = .ref b ∧ T (.ref b) k) : ∃ ys, Vals ys us ∧ PySem.W.EachIs T ys bs := by
  induction h with
  | nil => exact ⟨[], .nil, .nil⟩
  | cons h _ ih =>
    obtain ⟨ys, v, e⟩ := ih
    obtain ⟨b, rfl, t⟩ := hR _ _ h
    exact ⟨.ref b :: ys, .cons rfl v, .cons t e⟩
section
variable {X : Cx}
def keysM (m : MapI) : List (List Int) := m.map (·.1)
def rSortDT (u : Nat) : List V → Hp → VK → Prop := fun vs H Q => ∃ (a : Addr) (m : MapI), vs = [.ref a] ∧ H a = some (.dT (kvM m)) ∧ SortOk tI' (keysM m) u ∧
  ∀ (ys : List V) (p : Addr), H p = none → PySem.W.EachIs (fun x k => KyP k x H) ys (srt tI' (keysM m)) → ys.length ≤ sizeLine → Q (.ref p) (upd H p (.lst ys))
theorem cr_sortDT (hcalm : X.calm = true) : CallR X (.builtin "sorted") (rSortDT X.A.units) := fun pins s σ H vs us Q I r ⟨a, m, ev, hd, ⟨hal, hk, hu⟩, q⟩ => by
  subst ev
  rw [Vals.ref1 r]
  obtain ⟨z, hs, ks, pr, o, es, ep, ho, hx, hdt, he, hn⟩ := (show ObjOk X.prog X.w H s.heap a (.dT (kvM m)) from I.hok a _ hd)
  have l1 : es.size = ks.length := size_of_entries he
  have l2 : (kvM m).length = ks.length := Paired.length pr
  refine Calls.call_function_entry PyProof.Rows.kind_sorted PyProof.Rows.plain_sorted PyProof.Rows.entry_sorted (PyProof.Rows.args_sorted1 _) ?_
  unfold Builtin.«sorted»
  refine wpAny_bind (m := checkCount "sorted" 1 1 _) (wpAny_pure ?_)
  refine wpAny_bind (PySem.W.kdu_collect (A := X.A.in1) (kdl_raw hs hx hdt) (I.ok.hd hcalm) ho (by omega) fun h' tk acc hkp hacc => ?_)
  have ea : acc.toList = ks.map fun x => Value.ref x.2.1 := by
    refine List.ext_getElem? fun j => ?_
    have hl : acc.toList.length = ks.length := by rw [Array.length_toList, hacc.1]; exact l1
    rw [List.getElem?_map]
    by_cases hj : j < ks.length
    · have hj2 : j < acc.toList.length := by omega
      obtain ⟨en, hen, hv⟩ := hacc.2 j acc.toList[j] (by rw [← Array.getElem?_toList]; exact List.getElem?_eq_getElem hj2)
      have qe := entry_at he j
      rw [hen, List.getElem?_eq_getElem hj] at qe
      have e2 := Option.some.inj qe
      rw [List.getElem?_eq_getElem hj2, List.getElem?_eq_getElem hj, hv, e2]
      rfl
    · rw [List.getElem?_eq_none (by omega), List.getElem?_eq_none (by omega)]
      rfl
  have I1 : Inv X pins σ H { s with heap := h', toks := tk } := I.kept hkp
  have hml : m.length = ks.length := by rw [← l2, kvM_len]
  have hal' : acc.toList.length = m.length := by rw [ea, List.length_map, hml]
  refine wpAny_bind (wpAny_newList ?_ (by rw [hal']; omega))
  have hoL : (h'.push (seqObj "list" acc.toList.toArray 0)).get? h'.objs.size = some (seqObj "list" acc.toList.toArray 0) := Heap.get?_push_size _ rfl
  have e0 : PySem.W.EachIs (fun v k => ∃ b, v = Value.ref b ∧ H b = some (.tup (k.map V.int))) acc.toList (keysM m) := by
    rw [ea]
    exact each_keys pr fun k b hb => ⟨b, rfl, hb⟩
  show wpAny _ _ _ _ _ { s with heap := h'.push (seqObj "list" acc.toList.toArray 0), toks := tk }
  refine wpAny_bind (wpAny_holding (wpAny_mono (PySem.W.list_sort_data (A := X.A.in1) (s := { s with heap := h'.push (seqObj "list" acc.toList.toArray 0), toks := tk }) (enc := tI') (bs := keysM m) (Q := fun _ s' => EP X pins σ Q (.ref h'.objs.size) s') hoL e0 (e0.mono fun v k hv => ?_) hal hk (by unfold keysM; rw [List.length_map]; omega) (fun b hb => ?_) fun out hol hout => ?_) (fun _ s' x => wpAny_pure ⟨_, rfl, x⟩) fun _ _ e => e))
  · obtain ⟨b, rfl, hb⟩ := hv
    have hz : k.length ≤ sizeLine := by
      obtain ⟨w, _⟩ := (show ObjOk X.prog X.w H s.heap b (.tup (k.map V.int)) from I.hok b _ hb)
      rw [List.length_map] at w
      exact w
    obtain ⟨as, ra⟩ := Dp.reads I1 (tI' k) (.ref b) (.ref b) ((show KyP k (.ref b) H from ⟨b, rfl, hb⟩).dt (K := X.K) hz).dp rfl
    have e := reads_tI ra
    subst e
    exact ⟨[], PyProof.Rows.Reads.keeps (fun b o q => Heap.get?_push_of_some _ q) ra, List.not_mem_nil⟩
  · have := hu b hb
    show X.A.units + 1 + 1 + _ < _
    omega
  · obtain ⟨ys, vy, ey⟩ := refs_of_each hout (T := fun x k => KyP k x H) fun u k ⟨b, e, hb⟩ => ⟨b, e, b, rfl, hb⟩
    obtain ⟨en, he'⟩ := PyProof.Rows.sortedHeap_at (h := h'.push (seqObj "list" acc.toList.toArray 0)) (out := out.toArray) hoL
    have hnL : H h'.objs.size = none := I1.hok.fresh (Nat.le_refl _)
    have hyl : ys.length ≤ sizeLine := by rw [vy.length, hol]; unfold keysM; rw [List.length_map]; omega
    refine ⟨.ref _, upd H h'.objs.size (.lst ys), I1.laid (t' := tk) (a := h'.objs.size) (fun b ob hb => ?_) (Nat.le_refl _) ⟨hyl, out, en, vy, by simpa using he'⟩, rfl, q ys _ hnL ey hyl⟩
    have hlt := Heap.lt_size hb
    rw [PyProof.Rows.sortedHeap_old (Nat.ne_of_lt hlt) (by rw [Heap.size_push]; exact Nat.lt_succ_of_lt hlt)]
    exact Heap.get?_push_of_some _ hb
end
end Y
namespace Y
open PySem PySem.Spec PyProof.Rows L2 Z
/-! ## sorted(d) as an expression; sums of tuples -/
theorem dts_of_each {K : PySem.W.Frag} {H S : Hp} (h : ∀ v k, KyP k v H → KyP k v S) : ∀ {ks : List (List Int)} {ys : List V}, PySem.W.EachIs (fun x k => KyP k x H) ys ks → (∀ k ∈ ks, k.length ≤ sizeLine) → Dts K (ks.map tI') ys S
  | [], _, e, _ => by cases e; exact .nil
  | k :: ks, _, e, hz => by
    cases e with
    | cons p r => exact Dts.cons ((h _ _ p).dt (hz k (List.mem_cons_self ..))) (dts_of_each h r fun j hj => hz j (List.mem_cons_of_mem _ hj))
theorem mem_srt {β : Type} {enc : β → PyData} {bs : List β} {b : β} : b ∈ srt enc bs ↔ b ∈ bs := (List.mergeSort_perm ..).mem_iff
section
variable {X : Cx} {σ : L2.St} {S H : Hp} {e : Expr} {p pos : Pos} {a : Addr} {m : MapI}
theorem ee_sortDT (hc : X.calm = true) (hm : X.mg "sorted" = none) (hok : SortOk tI' (keysM m) X.A.units) (hz : ∀ k ∈ keysM m, k.length ≤ sizeLine) (hd : S a = some (.dT (kvM m))) (he : EE X σ S e (fun w _ => w = .ref a)) (hg : Gl X "sorted" := by rfl) (hs : starEach [e] X.env = (false, eval e X.env) :: starEach [] X.env := by rfl) :
    EE X σ S (.Call (.Name "sorted" p) [e] [] pos) (Dt X.K (.list ((srt tI' (keysM m)).map tI'))) := by
  haveI := mn_eq (v := .ref a)
  exact ee_callB (cr_sortDT hc) hm (by first | rfl | exact boot_sorted) (ea_1 he hs) (fun vs S1 H1 s0 s al Q q => by
    obtain ⟨v, rfl, pv⟩ := al.one
    subst pv
    refine ⟨a, m, rfl, s _ _ (s0 _ _ hd), hok, fun ys p hp hy hl => ?_⟩
    have g1 := Gr.learn s
    have g2 := Gr.new (H := H1) (S := learn S1 H1) (o := .lst ys) g1.sub hp
    refine q _ _ _ (g1.trans g2) (Dt.lst_mk upd_same ((show Dts X.K ((srt tI' (keysM m)).map tI') ys (learn S1 H1) from dts_of_each (fun v k ⟨b, e, h⟩ => ⟨b, e, learn_tup s h⟩) hy fun k hk => hz k (mem_srt.mp hk)).up g2.st) hl)) hg (he := hs) (hpl := by rfl)
end
end Y
namespace Y
open PySem PySem.Spec PyProof.Rows L2 Z
section
variable {X : Cx} {σ : L2.St} {S S' H : Hp} {a b c e d0 tg o i : Expr} {pos pos' p : Pos} {D : Ends} {rest body : List Stmt} {r : Addr} {m : MapI} {k : List Int} {n : Int}
/-- for: what is kept is told of the whole heap (a thing that S does not tell may change) -/
theorem hs_forH {iter : Expr} {Ps : List (V → Hp → Prop)} (hp : PassesOwn (model X.prog X.w) X.A X.env X.xe) (hc : X.calm = true) (hi : EI X σ S tg iter Ps) (s : Same S H)
    (q : ∀ S1 H1, Gr S H S1 H1 → ∃ Iv : Nat → L2.St → Hp → Prop, Iv 0 σ H1 ∧ (∀ i σ' H', Iv i σ' H' → Same S1 H') ∧
      (∀ i P σ1 H2 x H3, Ps[i]? = some P → Iv i σ1 H2 → (∀ T, Same S1 T → Same T H2 → ∃ T', Gr T H2 T' H3 ∧ P x T') → HG X tg x σ1 H3 fun σ3 H4 => HS X { D with nx := Iv (i + 1), ct := Iv (i + 1), bk := fun σ' H' => HS X D rest σ' H' } body σ3 H4) ∧
      (∀ σ1 H2, Iv Ps.length σ1 H2 → HS X D rest σ1 H2))
    (hs : ∀ x, foldedSetIterable iter X.env x = pure x := by intro _; rfl) : HS X D (.For tg iter body [] pos :: rest) σ H :=
  hs_cons (ps_for hp hc pib pgb psb hs) (hi H s _ fun J S1 H1 g1 it => by
    obtain ⟨Iv, h0, hsame, step, done⟩ := q S1 H1 g1
    refine for_it it Iv h0 (fun i σ' H' _ iv => hsame i σ' H' iv) (fun i x σ' H2 H3 hlt iv y => ?_) done
    have hl : ∃ P, Ps[i]? = some P := ⟨_, List.getElem?_eq_getElem hlt⟩
    obtain ⟨P, hP⟩ := hl
    refine step i P σ' H2 x H3 hP iv fun T sT tH => ?_
    obtain ⟨T', g, P', hP', px⟩ := y T sT tH
    rw [hP] at hP'
    cases hP'
    exact ⟨T', g, px⟩)
/-- o[i] = e, what stands is told -/
theorem hs_dputS (hu : X.A.units + 1 < cLine) (he : EE X σ S e (Dt X.K (.int n))) (ho : EE X σ S o (fun w _ => w = .ref r)) (hi : EE X σ S i (KyP k)) (s : Same S H) (hd : S r = some (.dT (kvM m))) (hl : m.length < 16777216) (q : ∀ S' H', Gr S H S' H' → HS X D rest σ (upd H' r (.dT (kvM (putM m k n)))))
    (hs : swapsWith e (some (.Subscript o i pos')) pos.line X.env = pure false := by rfl) : HS X D (.Assign [.Subscript o i pos'] e pos :: rest) σ H :=
  haveI := mn_eq (v := .ref r)
  hs_cons (ps_dput hu peb peb peb hs) (he H s _ fun v S1 H1 g1 pv => (ho.up g1.st) H1 g1.sub _ fun w S2 H2 g2 pw => ((hi.up g1.st).up g2.st) H2 g2.sub _ fun y S3 H3 g3 py => by
    cases pv
    subst pw
    obtain ⟨b, rfl, hb⟩ := py
    have g := (g1.trans g2).trans g3
    refine ⟨r, _, rfl, DPut.t (k := kI k) (g.sub _ _ (g.st _ _ hd)) (by rw [kI_kV]; exact g3.sub _ _ hb) (by rw [kvM_len]; exact hl), ?_⟩
    rw [putK_kvM]
    exact q S3 H3 g)
/-- from a new thing b to the old one a -/
theorem GrI.under {a b : Addr} {S H S1 H1 T H' : Hp} {o : HO} (i : GrI a S H S1 H1) (hb : H1 b = none) (j : GrI b S1 (upd H1 b o) T H') : GrI a S H T H' :=
  ⟨i.st.trans j.st, j.sub, fun z u n e => by
    have e1 := i.hh z u n e
    have nz : z ≠ b := fun q => by subst q; rw [hb] at e1; cases e1
    exact j.hh z u nz (by rw [upd_ne nz]; exact e1), fun z u n e m => by
    have e1 := i.hh z u n e
    have nz : z ≠ b := fun q => by subst q; rw [hb] at e1; cases e1
    exact (j.old z u nz (by rw [upd_ne nz]; exact e1) m).trans (i.old z u n e m)⟩
theorem sub_new {S H : Hp} {b : Addr} {o : HO} (s : Same S H) (hb : H b = none) : Same S (upd H b o) := fun z u e => by
  have nz : z ≠ b := fun q => by subst q; rw [s _ _ e] at hb; cases hb
  rw [upd_ne nz]; exact s _ _ e
end
end Y
namespace Y
open PySem PySem.Spec PyProof.Rows L2 Z
/-! ## a list comprehension, its list told as new (after Z3's ee_lcG) -/
section
variable {X : Cx} {σ : L2.St} {S : Hp} {elt tg iter : Expr} {ifs : List Expr} {scope : Scope} {own : List (Str × Nat)} {pos : Pos} {ds : List PyData} {p : PyData → Bool} {G : PyData → PyData → Prop}
theorem lc_loopNw (hz : ds.length ≤ sizeLine)
    (hel : ∀ d ∈ ds, ∀ v S', Same S S' → Dt X.K d v S' → ∃ τ, wipe τ (own.map (·.2)) = wipe σ (own.map (·.2)) ∧ ∀ (s : Shared) (H0 : Hp) (C : Addr) (cl : List (Str × Addr)) (fp : List Addr),
      EG (X.blk s H0 scope (compEnvC scope cl C X.env) fp) S' tg v (wipe σ (own.map (·.2))) τ ∧ ETs (X.blk s H0 scope (compEnvC scope cl C X.env) fp) τ S' ifs (p d) ∧ (p d = true → EE (X.blk s H0 scope (compEnvC scope cl C X.env) fp) τ S' elt (Ex X.K (G d)))) {H : Hp} (Q : VK) (q : ∀ v S' H', Gr S H S' H' → (∃ rs, Paired G (ds.filter p) rs ∧ NewL X.K S rs v S') → Q v H') {J : It} {S1 H1 : Hp} (g1 : Gr S H S1 H1) (it : ItP J S1 (Ds X.K ds)) :
    ∀ D, H1 D = none → ∃ W : Nat → Nat → Hp → Prop, (∃ m, W 0 m (upd H1 D (.lst []))) ∧ ∀ i m H, W i m H →
      (J.stop i H ∧ Q (.ref D) H) ∨ (J.go i H ∧ ∃ Nx : Hp → Prop, (∀ H', Nx H' → ∃ m', m' < m ∧ W (i + 1) m' H') ∧ ∀ x H', J.yld i H x H' → gBlk X scope tg x (wipe σ (own.map (·.2))) H' fun σ2 H2 => wipe σ2 (own.map (·.2)) = wipe σ (own.map (·.2)) ∧ tBlk X scope ifs σ2 H2 fun b H3 =>
        if b = true then eBlk X scope elt σ2 H3 fun y H4 => ∃ acc, H4 D = some (.lst acc) ∧ acc.length < sizeLine ∧ Nx (upd H4 D (.lst (acc ++ [y]))) else Nx H3) := by
  intro D hD
  have hD1 : S1 D = none := g1.sub.free hD
  have hlen : (Ds X.K ds).length = ds.length := ds_len
  refine lc_it (g := gBlk X scope tg) (tt := tBlk X scope ifs) (te := eBlk X scope elt) (vs := own.map (·.2)) (σ := σ) (Qd := Q (.ref D)) it (fun i H' => ∃ S' xs rs, Same S1 S' ∧ Same S' H' ∧ Same H1 H' ∧ (∀ a o, H1 a = some o → NT o → S' a = S1 a) ∧ S' D = none ∧ H' D = some (.lst xs) ∧ Paired G ((ds.take i).filter p) rs ∧ Dts X.K rs xs S' ∧ xs.length ≤ i)
    ⟨S1, [], [], Same.refl _, Same.mut g1.sub hD1, Same.new hD, fun _ _ _ _ => rfl, hD1, upd_same, .nil, .nil, Nat.le_refl _⟩ (fun i H' _ ⟨S', _, _, a, b, _⟩ => a.trans b) ?_ ?_
  · intro i x H2 H3 hi2 ⟨S2, xs, rs, k1, k2, k3, k4, k5, k6, k7, k8, k9⟩ y
    rw [hlen] at hi2
    obtain ⟨S3, g3, P, hP, px⟩ := y S2 k1 k2
    obtain ⟨d, hd⟩ : ∃ d, ds[i]? = some d := ⟨ds[i], List.getElem?_eq_getElem hi2⟩
    rw [ds_get hd] at hP
    obtain rfl := Option.some.inj hP
    have sS3 : Same S S3 := g1.st.trans (k1.trans g3.st)
    obtain ⟨τ, hw, hb⟩ := hel d (List.mem_of_getElem? hd) x S3 sS3 px
    have hf : ∀ q, p d = q → (ds.take (i + 1)).filter p = (ds.take i).filter p ++ (if q = true then [d] else []) := fun q hq => by
      rw [take_snoc hd, List.filter_append]
      cases q with
      | true => simp [hq]
      | false => simp [hq]
    intro sh H0 C cl fp
    refine (hb sh H0 C cl fp).1 H3 g3.sub _ ⟨hw, ?_⟩
    intro sh' H0' C' cl' fp'
    refine (hb sh' H0' C' cl' fp').2.1 H3 g3.sub _ fun S4 H4 g4 => ?_
    have g34 := g3.trans g4
    cases hpd : p d with
    | false =>
      refine iteF ⟨S4, xs, rs, k1.trans g34.st, g34.sub, k3.trans g34.hh, fun a o h n => (g34.old a o (k3 a o h) n).trans (k4 a o h n), (g34.old D _ k6 (fun _ z => nomatch z)).trans k5, g34.hh _ _ k6, ?_, k8.up g34.st, by omega⟩
      rw [hf false hpd]
      simpa using k7
    | true =>
      refine iteT ?_
      intro sh'' H0'' C'' cl'' fp''
      refine ((hb sh'' H0'' C'' cl'' fp'').2.2 hpd).up g4.st H4 g4.sub _ fun w S5 H5 g5 ⟨r, hr, hrw⟩ => ?_
      have g := g34.trans g5
      have hD5 : S5 D = none := (g.old D _ k6 (fun _ z => nomatch z)).trans k5
      refine ⟨xs, g.hh _ _ k6, Nat.lt_of_le_of_lt k9 (Nat.lt_of_lt_of_le hi2 hz), S5, xs ++ [w], rs ++ [r], k1.trans g.st, Same.mut g.sub hD5, fun a o h => ?_, fun a o h n => (g.old a o (k3 a o h) n).trans (k4 a o h n), hD5, upd_same, ?_, (k8.up g.st).snoc hrw, by rw [List.length_append]; show xs.length + 1 ≤ i + 1; omega⟩
      · rw [upd_ne (ne_of_none h hD)]; exact g.hh _ _ (k3 a o h)
      · rw [hf true hpd]
        exact paired_snoc k7 hr
  · intro H2 ⟨S2, xs, rs, k1, k2, k3, k4, k5, k6, k7, k8, k9⟩
    rw [hlen] at k7 k9
    rw [List.take_length] at k7
    refine q _ (upd S2 D (.lst xs)) H2 (g1.trans ⟨k1.trans (Same.new k5), fun a o h => ?_, k3, fun a o h n => by rw [upd_ne (ne_of_none h hD)]; exact k4 a o h n⟩) ⟨rs, k7, D, xs, rfl, g1.st.free hD1, upd_same, k8.up (Same.new k5), Nat.le_trans k9 hz⟩
    by_cases ha : a = D
    · subst ha; rw [upd_same] at h; rw [k6]; exact h
    · rw [upd_ne ha] at h; exact k2 a o h
theorem lc_readNw (hi : EI X σ S tg iter (Ds X.K ds)) (hz : ds.length ≤ sizeLine)
    (hel : ∀ d ∈ ds, ∀ v S', Same S S' → Dt X.K d v S' → ∃ τ, wipe τ (own.map (·.2)) = wipe σ (own.map (·.2)) ∧ ∀ (s : Shared) (H0 : Hp) (C : Addr) (cl : List (Str × Addr)) (fp : List Addr),
      EG (X.blk s H0 scope (compEnvC scope cl C X.env) fp) S' tg v (wipe σ (own.map (·.2))) τ ∧ ETs (X.blk s H0 scope (compEnvC scope cl C X.env) fp) τ S' ifs (p d) ∧ (p d = true → EE (X.blk s H0 scope (compEnvC scope cl C X.env) fp) τ S' elt (Ex X.K (G d)))) {H : Hp} (s : Same S H) (Q : VK) (q : ∀ v S' H', Gr S H S' H' → (∃ rs, Paired G (ds.filter p) rs ∧ NewL X.K S rs v S') → Q v H') :
    tLc (bI X tg iter) (gBlk X scope tg) (tBlk X scope ifs) (eBlk X scope elt) (own.map (·.2)) σ H Q := hi H s _ fun J S1 H1 g1 it => lc_loopNw hz hel Q q g1 it
theorem ee_lcGN (hc : X.calm = true) (hN : X.N.Nodup) (ok : BlkOk X.N X.env.scope scope own) (hi : EI X σ S tg iter (Ds X.K ds)) (hz : ds.length ≤ sizeLine)
    (hel : ∀ d ∈ ds, ∀ v S', Same S S' → Dt X.K d v S' → ∃ τ, wipe τ (own.map (·.2)) = wipe σ (own.map (·.2)) ∧ ∀ (s : Shared) (H0 : Hp) (C : Addr) (cl : List (Str × Addr)) (fp : List Addr),
      EG (X.blk s H0 scope (compEnvC scope cl C X.env) fp) S' tg v (wipe σ (own.map (·.2))) τ ∧ ETs (X.blk s H0 scope (compEnvC scope cl C X.env) fp) τ S' ifs (p d) ∧ (p d = true → EE (X.blk s H0 scope (compEnvC scope cl C X.env) fp) τ S' elt (Ex X.K (G d))))
    (hs : ∀ x, foldedSetIterable iter X.env x = pure x := by intro _; rfl) :
    EE X σ S (.ListComp elt [⟨tg, iter, ifs, 0⟩] scope pos) (fun v S' => ∃ rs, Paired G (ds.filter p) rs ∧ NewL X.K S rs v S') := fun H s Q q =>
  he_of (pe_lc (own := own) (wi := bI X tg iter) (g := gBlk X scope tg) (tt := tBlk X scope ifs) (te := eBlk X scope elt) hc hN pib ok
    (fun s H0 C cl fp => ⟨fun pins sh σ' H' v u Q' I r h => h s H0 C cl fp pins sh u I r⟩) (fun s H0 C cl fp => ⟨fun pins sh σ' H' Q' I h => h s H0 C cl fp pins sh I⟩) (fun s H0 C cl fp => ⟨fun pins sh σ' H' Q' I h => h s H0 C cl fp pins sh I⟩) hs) (lc_readNw hi hz hel s Q q)
end
section
variable {X : Cx} {σ : L2.St} {S : Hp} {elt iter : Expr} {scope : Scope} {pos px : Pos} {ds : List PyData} {α : Type} {enc : α → PyData} {i : Nat} {x : Str}
theorem ee_lcNw {f : PyData → α} (hc : X.calm = true) (hN : X.N.Nodup) (ok : BlkOk X.N X.env.scope scope [(x, i)]) (hi : EI X σ S (.Name x px) iter (Ds X.K ds)) (hz : ds.length ≤ sizeLine)
    (hel : ∀ d ∈ ds, ∀ v S', Same S S' → Dt X.K d v S' → ∀ (s : Shared) (H0 : Hp) (C : Addr) (cl : List (Str × Addr)) (fp : List Addr), EE (X.blk s H0 scope (compEnvC scope cl C X.env) fp) ((wipe σ [i]).set i (some v)) S' elt (Dt X.K (enc (f d))))
    (hix : X.N[i]? = some x := by rfl) (hx : ∀ (s : Shared) (H0 : Hp) (C : Addr) (cl : List (Str × Addr)) (fp : List Addr), Loc (X.blk s H0 scope (compEnvC scope cl C X.env) fp).env.scope x ∧ ((X.blk s H0 scope (compEnvC scope cl C X.env) fp).fn x = true ∨ (X.blk s H0 scope (compEnvC scope cl C X.env) fp).env.scope.names.lookup x = some .local) := by
      intros; exact ⟨by first | exact Or.inl rfl | exact Or.inr rfl, by first | exact .inl rfl | exact .inr rfl⟩)
    (hs : ∀ x, foldedSetIterable iter X.env x = pure x := by intro _; rfl) :
    EE X σ S (.ListComp elt [⟨.Name x px, iter, [], 0⟩] scope pos) (NewL X.K S ((ds.map f).map enc)) := by
  refine (ee_lcGN (own := [(x, i)]) (p := fun _ => true) (G := fun d r => r = enc (f d)) hc hN ok hi hz (fun d hd v S' s hv => ⟨(wipe σ [i]).set i (some v), wipe1, fun sh H0 C cl fp => ?_⟩) hs).imp fun v S' h => ?_
  · obtain ⟨k1, k2⟩ := hx sh H0 C cl fp
    exact ⟨eg_name hN hix k1 k2, ets_nil, fun _ => (hel d hd v S' s hv sh H0 C cl fp).imp fun w S2 hw => ⟨_, rfl, hw⟩⟩
  · obtain ⟨rs, h1, h2⟩ := h
    rw [filter_true] at h1
    rw [paired_map h1] at h2
    have e : ds.map (fun d => enc (f d)) = (ds.map f).map enc := by rw [List.map_map]; rfl
    rw [← e]
    exact h2
theorem NewL.is {K : PySem.W.Frag} {S S' : Hp} {ds ds' : List PyData} {v : V} (h : NewL K S ds v S') (e : ds = ds') : NewL K S ds' v S' := e ▸ h
end
end Y
namespace Y
open PySem PySem.Spec PyProof.Rows L2 Z
/-! ## name = [elt for x, y in iter] on one line, the name a local; the same for one target -/
def unT (d : PyData) : PyData × PyData := match d with
  | .tuple [a, b] => (a, b)
  | _ => (.none, .none)
end Y
namespace Y
open PySem PySem.Spec PyProof.Rows L2 Z
/-! ## own == with a list on the right -/
end Y
namespace Y
open PySem PySem.Spec PyProof.Rows L2 Z
/-! ## dict([]), list(d) of a dict with tuple keys -/
section
variable {X : Cx} {σ : L2.St} {S S' H : Hp} {e : Expr} {p pos : Pos} {a : Addr} {m : MapI}
/-- a thing that was not there -/
theorem gr_none {S H S1 H1 : Hp} {b : Addr} {o : HO} (g : Gr S H S1 H1) (hb : S b = none) (h1 : S1 b = some o) (nt : NT o) : H b = none := by
  cases e : H b with
  | none => rfl
  | some u =>
    have e1 := g.hh _ _ e
    rw [g.sub _ _ h1] at e1
    cases e1
    have := g.old b _ e nt
    rw [h1, hb] at this
    cases this
end
end Y
namespace Y
open PySem PySem.Spec PyProof.Rows L2 Z
end Y
namespace Y
open PySem PySem.Spec PyProof.Rows L2 Z
/-! ## own + and * of two things of one class -/
section
variable {X : Cx} {σ : L2.St} {S H : Hp} {a b : Expr} {Pa Pb R : V → Hp → Prop} {pos : Pos} {k : Nat} {sp : Sp} {C : Addr} {m : Str} {op : Operator}
def rBinO (C : Addr) (sp : Sp) : R2 := fun x y H Q => ∃ r dx fs r' dx' fs', x = .ref r ∧ H r = some (.ins C dx fs) ∧ y = .ref r' ∧ H r' = some (.ins C dx' fs') ∧ sp [x, y] H (fun v H' => ∃ a, v = .ref a ∧ Q v H') E0
theorem op_binO (hd : dunder op.info.2 = m) (D : KM X.prog X.w X.K X.mg X.base C m k sp) (hs : PySem.W.selfFirst X.K C = true) (hr : Room k X.A) : OpR X (binaryOp op) (rBinO C sp) := by
  subst hd
  intro pins s σ H x y v u Q I rx ry hq
  obtain ⟨r, dx, fs, r', dx', fs', rfl, hx, rfl, hy, q⟩ := hq
  cases rx
  cases ry
  obtain ⟨f, fd, ps, F, hm, hf, hk, hb⟩ := D.ex
  obtain ⟨ox, od, J⟩ := insAt I hx
  obtain ⟨oy, oe, J'⟩ := insAt I hy
  obtain ⟨mm, hF⟩ := I.fr
  refine PySem.W.binop_K hF I.ok.mod.kin J J'.type hs hm hf (wpAny_mono (run_fnA (vs := [.ref r, .ref r']) F hr rfl hb pass0 I (.cons rfl (.cons rfl .nil)) q) (fun rv s' hq' => ?_) fun _ _ z => z)
  obtain ⟨w, H', I', rw', a, rfl, q'⟩ := hq'
  cases rw'
  exact ⟨.ref a, H', I', rfl, q'⟩
/-- what the promise of an own operator is to be -/
def BinP (sp : Sp) (S : Hp) (Pa Pb R : V → Hp → Prop) : Prop := ∀ v w S1 H1, Same S S1 → Same S1 H1 → Pa v S1 → Pb w S1 → ∀ Q : VK, (∀ a S2 H2, Gr S1 H1 S2 H2 → R (.ref a) S2 → Q (.ref a) H2) → sp [v, w] H1 Q E0
theorem ee_binO [Mn Pa] [Mn Pb] (hd : dunder op.info.2 = m) (D : KM X.prog X.w X.K X.mg X.base C m k sp) (hs : PySem.W.selfFirst X.K C = true) (hr : Room k X.A) (ha : EE X σ S a Pa) (hb : EE X σ S b Pb) (hA : ∀ w S1, Pa w S1 → ∃ r dx fs, w = .ref r ∧ S1 r = some (.ins C dx fs)) (hB : ∀ w S1, Pb w S1 → ∃ r dx fs, w = .ref r ∧ S1 r = some (.ins C dx fs)) (h : BinP sp S Pa Pb R) : EE X σ S (.BinOp a op b pos) R :=
  ee_op (op_binO hd D hs hr) ha hb fun x y S1 H1 st s px py Q q => by
    obtain ⟨r, dx, fs, e, hx⟩ := hA x S1 px
    obtain ⟨r', dx', fs', e', hy⟩ := hB y S1 py
    refine ⟨r, dx, fs, r', dx', fs', e, s _ _ hx, e', s _ _ hy, h x y S1 H1 st s px py _ fun a S2 H2 g ra => ⟨a, rfl, q _ S2 H2 g ra⟩⟩
end
end Y
namespace Y
open PySem PySem.Spec PyProof.Rows L2 Z
/-! ## own ** with an int on the right -/
section
open PySem.W
variable {prog : Program} {w : World} {A : Around} {E : Value → Shared → Prop} {s : Shared} {K : Frag} {x C L f : Addr} {h h₀ : Heap} {m : Str → Option Value} {ox : Obj} {od : Option Obj} {b tb : Value} {M : Model} {nm : String} {i : Int} {t : Tok}
theorem fills_C (X : K.In h) (hs : selfFirst K C = true) (hf : findIn K (.ref C) (dunder nm) = some (some (.ref f))) : Looks M h (fillsNumberSlot (.ref C) nm) true := by
  unfold selfFirst at hs
  cases ec : clsIn K C with
  | none => rw [ec] at hs; cases hs
  | some cd =>
    rw [ec] at hs
    have hs : (cd.mro.head? == some (.ref C)) = true := hs
    have hs := beq_iff_eq.mp hs
    unfold fillsNumberSlot
    refine Looks.andThen (a := cd.mro) (Looks.andThen (looks_clsIn X ec) Looks.now) ?_
    cases em : cd.mro with
    | nil => rw [em] at hs; cases hs
    | cons c rest =>
      rw [em] at hs
      have e : c = .ref C := Option.some.inj hs
      subst e
      unfold List.anyM
      refine Looks.andThen (a := true) ?_ Looks.now
      unfold List.anyM
      refine Looks.andThen (a := true) ?_ Looks.now
      exact Looks.andThen (looks_findIn X hf) Looks.now
theorem slotPy_C (X : K.In h) (hf : findIn K (.ref C) (dunder nm) = some (some (.ref f))) (hr : findIn K (.ref C) (dunderR nm) = some none) : Looks M h (numberSlotInPython (.ref C) nm) true := by
  unfold numberSlotInPython
  exact Looks.andThen (looks_findIn X hf) (Looks.andThen Looks.now (Looks.andThen (looks_findIn X hr) (Looks.andThen Looks.now Looks.now)))
theorem tryMeth_K {Q : Option Value → Shared → Prop} (X : K.In s.heap) (I : InstAt s.heap x ox C od) (hf : findIn K (.ref C) (dunder nm) = some (some (.ref f))) (hfn : isFn K (.ref f) = true) (hq : wpAny M A (call (.ref f) [.ref x, b]) (fun v s' => v ≠ .notImplemented ∧ Q (some v) s') E s) : wpAny M A (tryMethod (.ref x) (dunder nm) b) Q E s := by
  unfold tryMethod callSpecial? specialOf
  refine wpAny_bind (wpAny_bind (wpAny_bind (I.type.here ((looks_findIn X hf).here ?_))))
  refine wpAny_holding (wpAny_bind ?_)
  have hb : Looks M s.heap (bindSpecial (.ref f) (.ref x)) (.ref f, [.ref x]) := by
    unfold bindSpecial
    exact Looks.andThen (looks_typeIn X (beq_iff_eq.mp hfn)) Looks.now
  refine hb.here ?_
  refine wpAny_bind (wpAny_mono hq (fun v s' ⟨hv, q⟩ => ?_) fun _ _ z => z)
  refine wpAny_pure ?_
  cases v <;> first | exact absurd rfl hv | exact wpAny_pure q
theorem pow_KI {Q : Value → Shared → Prop} (F : Fr h₀ L s.heap m) (X₀ : K.In h₀) (I : InstAt s.heap x ox C od) (hs : selfFirst K C = true) (hf : findIn K (.ref C) "__pow__" = some (some (.ref f))) (hr : findIn K (.ref C) "__rpow__" = some none) (hsub : subIn K (.type "int") (.ref C) = some false) (hfn : isFn K (.ref f) = true)
    (hq : wpAny (model prog w) A (call (.ref f) [.ref x, .int i t]) (fun v s' => v ≠ .notImplemented ∧ Q v s') E s) : wpAny (model prog w) A (binaryOp .Pow (.ref x) (.int i t)) Q E s := by
  have X := X₀.keeps F.keep
  have hf' : findIn K (.ref C) (dunder "pow") = some (some (.ref f)) := hf
  have hr' : findIn K (.ref C) (dunderR "pow") = some none := hr
  unfold binaryOp
  refine wpAny_holding ?_
  show wpAny _ _ (binaryOp1 "pow" _ _ >>= _) _ _ _
  refine wpAny_bind ?_
  unfold binaryOp1
  refine wpAny_bind (I.type.here (wpAny_bind (wpAny_pure (wpAny_bind ((fills_C X hs hf').here ?_)))))
  have k1 : findIn K (.type "int") (dunder "pow") = some (some (.builtin "int.__pow__")) := by
    show fastLookup "int" (dunder "pow") = _
    decide +kernel
  have k2 : findIn K (.type "int") (dunderR "pow") = some (some (.builtin "int.__rpow__")) := by
    show fastLookup "int" (dunderR "pow") = _
    decide +kernel
  have f1 : Looks (model prog w) s.heap (fillsNumberSlot (.type "int") "pow") true := by
    unfold fillsNumberSlot
    refine Looks.andThen (looks_findIn X k1) (Looks.andThen (looks_findIn X k2) ?_)
    have e : ((some (Value.builtin "int.__pow__")).isSome && !isSeqSlot (some (.builtin "int.__pow__")) || (some (Value.builtin "int.__rpow__")).isSome && !isSeqSlot (some (.builtin "int.__rpow__"))) = true := by decide +kernel
    rw [e]
    exact Looks.now
  dsimp only
  rw [if_neg (show ¬ ((Value.ref C == Value.type "int") = true) from fun h => Bool.false_ne_true h)]
  refine wpAny_bind (f1.here ?_)
  rw [if_pos (show (true && true) = true from rfl)]
  refine wpAny_bind ((looks_subIn X hsub).here ?_)
  rw [if_neg (show ¬ (false = true) from Bool.false_ne_true)]
  rw [if_neg (show ¬ (false = true) from Bool.false_ne_true)]
  rw [if_pos (show (true && true && !false) = true from rfl)]
  refine wpAny_bind ((slotPy_C X hf' hr').here ?_)
  rw [if_pos (show true = true from rfl)]
  refine wpAny_bind (wpAny_pure ?_)
  rw [if_pos (show (!false) = true from rfl)]
  refine wpAny_bind ((looks_findIn X k2).here ?_)
  rw [if_pos (show true = true from rfl)]
  refine wpAny_bind (tryMeth_K X I hf' hfn (wpAny_mono hq (fun v s' ⟨hv, q⟩ => ⟨hv, ?_⟩) fun _ _ z => z))
  exact wpAny_pure (wpAny_pure q)
end
/-- the facts that own ** wants -/
structure PowC (K : PySem.W.Frag) (C : Addr) : Prop where
  first : PySem.W.selfFirst K C = true
  rpow : PySem.W.findIn K (.ref C) "__rpow__" = some none
  int : PySem.W.subIn K (.type "int") (.ref C) = some false
section
variable {X : Cx} {σ : L2.St} {S H : Hp} {a b : Expr} {Pa R : V → Hp → Prop} {pos : Pos} {k : Nat} {sp : Sp} {C : Addr} {i : Int}
def rPowO (C : Addr) (sp : Sp) : R2 := fun x y H Q => ∃ r dx fs i, x = .ref r ∧ H r = some (.ins C dx fs) ∧ y = .int i ∧ sp [x, y] H (fun v H' => ∃ a, v = .ref a ∧ Q v H') E0
theorem op_powO (D : KM X.prog X.w X.K X.mg X.base C "__pow__" k sp) (pc : PowC X.K C) (hr : Room k X.A) : OpR X (binaryOp .Pow) (rPowO C sp) := by
  intro pins s σ H x y v u Q I rx ry hq
  obtain ⟨r, dx, fs, i, rfl, hx, rfl, q⟩ := hq
  cases rx
  obtain ⟨t, rfl⟩ := ry
  obtain ⟨f, fd, ps, F, hm, hf, hk, hb⟩ := D.ex
  obtain ⟨ox, od, J⟩ := insAt I hx
  obtain ⟨mm, hF⟩ := I.fr
  refine pow_KI hF I.ok.mod.kin J pc.first hm pc.rpow pc.int hf (wpAny_mono (run_fnA (vs := [.ref r, .int i]) F hr rfl hb pass0 I (.cons rfl (.cons ⟨t, rfl⟩ .nil)) q) (fun rv s' hq' => ?_) fun _ _ z => z)
  obtain ⟨w, H', I', rw', a, rfl, q'⟩ := hq'
  cases rw'
  exact ⟨(fun z => nomatch z), .ref a, H', I', rfl, q'⟩
theorem ee_powO [Mn Pa] (D : KM X.prog X.w X.K X.mg X.base C "__pow__" k sp) (pc : PowC X.K C) (hr : Room k X.A) (ha : EE X σ S a Pa) (hb : EE X σ S b (Dt X.K (.int i))) (hA : ∀ w S1, Pa w S1 → ∃ r dx fs, w = .ref r ∧ S1 r = some (.ins C dx fs)) (h : BinP sp S Pa (Dt X.K (.int i)) R) : EE X σ S (.BinOp a .Pow b pos) R :=
  ee_op (op_powO D pc hr) ha hb fun x y S1 H1 st s px py Q q => by
    obtain ⟨r, dx, fs, e, hx⟩ := hA x S1 px
    have e2 := py.int_inv
    exact ⟨r, dx, fs, i, e, s _ _ hx, e2, h x y S1 H1 st s px py _ fun a S2 H2 g ra => ⟨a, rfl, q _ S2 H2 g ra⟩⟩
end
end Y
namespace Y
open PySem PySem.Spec PyProof.Rows L2 Z
/-! ## a list comprehension with two clauses, the second list the same for each item of the first -/
def iBlk (X : Cx) (scope : Scope) (tg iter : Expr) : TI := fun σ' H' R => ∀ (s : Shared) (H0 : Hp) (C : Addr) (cl : List (Str × Addr)) (fp : List Addr), HI (X.blk s H0 scope (compEnvC scope cl C X.env) fp) tg iter σ' H' R
def prodD (f : PyData → PyData → PyData) (ds1 ds2 : List PyData) : List PyData := ds1.flatMap fun a => ds2.map fun b => f a b
theorem walk_W {J : It} {n : Nat} {G : Hp → Prop} {Yd : Nat → Hp → V → Hp → Prop} (it : Walk J n G Yd) {H0 : Hp} {End : Hp → Prop} {St : Nat → V → Hp → (Hp → Prop) → Prop} (Pv : Nat → Hp → Prop) (h0 : Pv 0 H0) (hG : ∀ i H, i ≤ n → Pv i H → G H) (step : ∀ i x H H', i < n → Pv i H → Yd i H x H' → St i x H' (Pv (i + 1))) (done : ∀ H, Pv n H → End H) :
    ∃ W : Nat → Nat → Hp → Prop, (∃ m, W 0 m H0) ∧ ∀ i m H, W i m H → (J.stop i H ∧ End H) ∨ (J.go i H ∧ ∃ Nx : Hp → Prop, (∀ H', Nx H' → ∃ m', m' < m ∧ W (i + 1) m' H') ∧ ∀ x H', J.yld i H x H' → St i x H' Nx) := by
  refine ⟨fun i m H => i ≤ n ∧ m = n - i ∧ Pv i H, ⟨n, Nat.zero_le _, rfl, h0⟩, fun i m H ⟨hi, hm, hp⟩ => ?_⟩
  by_cases e : i = n
  · subst e
    exact .inl ⟨it.stops H (hG _ _ (Nat.le_refl _) hp), done H hp⟩
  · have hlt : i < n := by omega
    exact .inr ⟨it.goes i H hlt (hG _ _ hi hp), Pv (i + 1), fun H' h => ⟨n - (i + 1), by omega, by omega, rfl, h⟩, fun x H' y => step i x H H' hlt hp (it.yields i H x H' hlt (hG _ _ hi hp) y)⟩
section
variable {X : Cx} {σ : L2.St} {S : Hp} {elt tg iter tg1 iter1 : Expr} {scope : Scope} {own : List (Str × Nat)} {vs1 : List Nat} {pos : Pos} {ds1 ds2 : List PyData} {f : PyData → PyData → PyData}
/-- what is kept: rs stands in the list at D -/
def LcI (K : PySem.W.Frag) (S1 H1 : Hp) (D : Addr) (B : Hp) (rs : List PyData) (H' : Hp) : Prop := ∃ S' xs, Same B S' ∧ Same S' H' ∧ Same H1 H' ∧ (∀ a o, H1 a = some o → NT o → S' a = S1 a) ∧ S' D = none ∧ H' D = some (.lst xs) ∧ Dts K rs xs S'
theorem lc_loop22 (hz : ds1.length * ds2.length < 1000000)
    (hel : ∀ d ∈ ds1, ∀ v S', Same S S' → Dt X.K d v S' → ∃ τ, wipe τ (own.map (·.2)) = wipe σ (own.map (·.2)) ∧ ∀ (s : Shared) (H0 : Hp) (C : Addr) (cl : List (Str × Addr)) (fp : List Addr),
      EG (X.blk s H0 scope (compEnvC scope cl C X.env) fp) S' tg v (wipe σ (own.map (·.2))) τ ∧ EI (X.blk s H0 scope (compEnvC scope cl C X.env) fp) τ S' tg1 iter1 (Ds X.K ds2) ∧
      ∀ e ∈ ds2, ∀ w S2, Same S' S2 → Dt X.K e w S2 → ∃ τ2, wipe τ2 vs1 = wipe τ vs1 ∧ ∀ (s : Shared) (H0 : Hp) (C : Addr) (cl : List (Str × Addr)) (fp : List Addr), EG (X.blk s H0 scope (compEnvC scope cl C X.env) fp) S2 tg1 w (wipe τ vs1) τ2 ∧ EE (X.blk s H0 scope (compEnvC scope cl C X.env) fp) τ2 S2 elt (Dt X.K (f d e)))
    {H : Hp} (Q : VK) (q : ∀ v S' H', Gr S H S' H' → Dt X.K (.list (prodD f ds1 ds2)) v S' → Q v H') {J : It} {S1 H1 : Hp} (g1 : Gr S H S1 H1) (it : ItP J S1 (Ds X.K ds1)) :
    ∀ D, H1 D = none → ∃ W : Nat → Nat → Hp → Prop, (∃ m, W 0 m (upd H1 D (.lst []))) ∧ ∀ i m H, W i m H →
      (J.stop i H ∧ Q (.ref D) H) ∨ (J.go i H ∧ ∃ Nx : Hp → Prop, (∀ H', Nx H' → ∃ m', m' < m ∧ W (i + 1) m' H') ∧ ∀ x H', J.yld i H x H' → gBlk X scope tg x (wipe σ (own.map (·.2))) H' fun σ2 H2 => wipe σ2 (own.map (·.2)) = wipe σ (own.map (·.2)) ∧ tBlk X scope [] σ2 H2 fun b H3 =>
        if b = true then iBlk X scope tg1 iter1 σ2 H3 fun J1 H4 => ∃ W1 : Nat → Nat → Hp → Prop, (∃ m, W1 0 m H4) ∧ ∀ j k H, W1 j k H → (J1.stop j H ∧ Nx H) ∨ (J1.go j H ∧ ∃ Nx1 : Hp → Prop, (∀ H', Nx1 H' → ∃ k', k' < k ∧ W1 (j + 1) k' H') ∧ ∀ x H', J1.yld j H x H' → gBlk X scope tg1 x (wipe σ2 vs1) H' fun σ3 H5 => wipe σ3 vs1 = wipe σ2 vs1 ∧ tBlk X scope [] σ3 H5 fun b H6 => if b = true then eBlk X scope elt σ3 H6 fun y H7 => ∃ acc, H7 D = some (.lst acc) ∧ acc.length < sizeLine ∧ Nx1 (upd H7 D (.lst (acc ++ [y]))) else Nx1 H6) else Nx H3) := by
  intro D hD
  have hD1 : S1 D = none := g1.sub.free hD
  have hlen : (Ds X.K ds1).length = ds1.length := ds_len
  have hlen2 : (Ds X.K ds2).length = ds2.length := ds_len
  refine walk_W it (fun i H' => LcI X.K S1 H1 D S1 (prodD f (ds1.take i) ds2) H') ⟨S1, [], Same.refl _, Same.mut g1.sub hD1, Same.new hD, fun _ _ _ _ => rfl, hD1, upd_same, .nil⟩ (fun i H' _ ⟨S', _, a, b, _⟩ => a.trans b) ?_ ?_
  · intro i x H2 H3 hi2 ⟨S2, xs, k1, k2, k3, k4, k5, k6, k8⟩ y
    rw [hlen] at hi2
    obtain ⟨S3, g3, P, hP, px⟩ := y S2 k1 k2
    obtain ⟨d, hd⟩ : ∃ d, ds1[i]? = some d := ⟨ds1[i], List.getElem?_eq_getElem hi2⟩
    rw [ds_get hd] at hP
    obtain rfl := Option.some.inj hP
    have sS3 : Same S S3 := g1.st.trans (k1.trans g3.st)
    obtain ⟨τ, hw, hb⟩ := hel d (List.mem_of_getElem? hd) x S3 sS3 px
    have eP : prodD f (ds1.take (i + 1)) ds2 = prodD f (ds1.take i) ds2 ++ ds2.map fun b => f d b := by
      unfold prodD
      rw [take_snoc hd, List.flatMap_append]
      simp
    have hpl : (prodD f (ds1.take i) ds2).length ≤ i * ds2.length := by
      unfold prodD
      rw [List.length_flatMap]
      have : ∀ l : List PyData, (l.map fun a => (ds2.map fun b => f a b).length).sum = l.length * ds2.length := fun l => by
        induction l with
        | nil => simp
        | cons a l ih => rw [List.map_cons, List.sum_cons, ih, List.length_cons, Nat.succ_mul, List.length_map]; omega
      rw [this]
      exact Nat.mul_le_mul_right _ (by rw [List.length_take]; omega)
    have hbound : i * ds2.length + ds2.length ≤ ds1.length * ds2.length := by
      rw [← Nat.succ_mul]
      exact Nat.mul_le_mul_right _ hi2
    intro sh H0 C cl fp
    refine (hb sh H0 C cl fp).1 H3 g3.sub _ ⟨hw, ?_⟩
    intro sh' H0' C' cl' fp'
    refine (ets_nil (X := X.blk sh' H0' scope (compEnvC scope cl' C' X.env) fp') (σ := τ) (S := S3)) H3 g3.sub _ fun S4 H4 g4 => ?_
    refine iteT ?_
    intro sh2 H02 C2 cl2 fp2
    refine ((hb sh2 H02 C2 cl2 fp2).2.1.up g4.st) H4 g4.sub _ fun J1 S5 H5 g5 it1 => ?_
    have g35 := (g3.trans g4).trans g5
    have hD5 : S5 D = none := (g35.old D _ k6 (fun _ z => nomatch z)).trans k5
    refine walk_W it1 (fun j H' => LcI X.K S1 H1 D S5 (prodD f (ds1.take i) ds2 ++ (ds2.take j).map fun b => f d b) H') ⟨S5, xs, Same.refl _, g5.sub, k3.trans g35.hh, fun a o h n => (g35.old a o (k3 a o h) n).trans (k4 a o h n), hD5, g35.hh _ _ k6, by simpa using k8.up g35.st⟩ (fun j H' _ ⟨S', _, a, b, _⟩ => a.trans b) ?_ ?_
    · intro j w H6 H7 hj2 ⟨S6, ys, m1, m2, m3, m4, m5, m6, m8⟩ yy
      rw [hlen2] at hj2
      obtain ⟨S7, g7, P', hP', pw⟩ := yy S6 m1 m2
      obtain ⟨e, he⟩ : ∃ e, ds2[j]? = some e := ⟨ds2[j], List.getElem?_eq_getElem hj2⟩
      rw [ds_get he] at hP'
      obtain rfl := Option.some.inj hP'
      have sS7 : Same S3 S7 := (g4.st.trans g5.st).trans (m1.trans g7.st)
      obtain ⟨τ2, hw2, hb2⟩ := (hb sh2 H02 C2 cl2 fp2).2.2 e (List.mem_of_getElem? he) w S7 sS7 pw
      intro sh3 H03 C3 cl3 fp3
      refine (hb2 sh3 H03 C3 cl3 fp3).1 H7 g7.sub _ ⟨hw2, ?_⟩
      intro sh4 H04 C4 cl4 fp4
      refine (ets_nil (X := X.blk sh4 H04 scope (compEnvC scope cl4 C4 X.env) fp4) (σ := τ2) (S := S7)) H7 g7.sub _ fun S8 H8 g8 => ?_
      refine iteT ?_
      intro sh5 H05 C5 cl5 fp5
      refine ((hb2 sh5 H05 C5 cl5 fp5).2.up g8.st) H8 g8.sub _ fun z S9 H9 g9 pz => ?_
      have g := (g7.trans g8).trans g9
      have hD9 : S9 D = none := (g.old D _ m6 (fun _ z => nomatch z)).trans m5
      refine ⟨ys, g.hh _ _ m6, ?_, S9, ys ++ [z], m1.trans g.st, Same.mut g.sub hD9, fun a o h => ?_, fun a o h n => (g.old a o (m3 a o h) n).trans (m4 a o h n), hD9, upd_same, ?_⟩
      · have hyl := m8.1
        rw [List.length_append, List.length_map, List.length_take] at hyl
        show ys.length < 16777216
        have : min j ds2.length ≤ ds2.length := Nat.min_le_right _ _
        omega
      · rw [upd_ne (ne_of_none h hD)]; exact g.hh _ _ (m3 a o h)
      · rw [take_snoc he, List.map_append, ← List.append_assoc]
        exact (m8.up g.st).snoc pz
    · intro H6 ⟨S6, ys, m1, m2, m3, m4, m5, m6, m8⟩
      rw [hlen2, List.take_length] at m8
      rw [eP]
      exact ⟨S6, ys, k1.trans (g35.st.trans m1), m2, m3, m4, m5, m6, m8⟩
  · intro H2 ⟨S2, xs, k1, k2, k3, k4, k5, k6, k8⟩
    rw [hlen, List.take_length] at k8
    have hxl : xs.length ≤ sizeLine := by
      rw [k8.1]
      have : ∀ l : List PyData, (prodD f l ds2).length = l.length * ds2.length := fun l => by
        unfold prodD
        induction l with
        | nil => simp
        | cons a l ih => rw [List.flatMap_cons, List.length_append, ih, List.length_map, List.length_cons, Nat.succ_mul]; omega
      rw [this]
      show _ ≤ 16777216
      omega
    refine q _ (upd S2 D (.lst xs)) H2 (g1.trans ⟨k1.trans (Same.new k5), fun a o h => ?_, k3, fun a o h n => by rw [upd_ne (ne_of_none h hD)]; exact k4 a o h n⟩) (Dt.lst_mk upd_same (k8.up (Same.new k5)) hxl)
    by_cases ha : a = D
    · subst ha; rw [upd_same] at h; rw [k6]; exact h
    · rw [upd_ne ha] at h; exact k2 a o h
/-- [elt for a in A for b in B] -/
theorem ee_lc22 (hc : X.calm = true) (hN : X.N.Nodup) (ok : BlkOk X.N X.env.scope scope own) (hv : ∀ i ∈ vs1, i ∈ own.map (·.2)) (hi : EI X σ S tg iter (Ds X.K ds1)) (hz : ds1.length * ds2.length < 1000000)
    (hel : ∀ d ∈ ds1, ∀ v S', Same S S' → Dt X.K d v S' → ∃ τ, wipe τ (own.map (·.2)) = wipe σ (own.map (·.2)) ∧ ∀ (s : Shared) (H0 : Hp) (C : Addr) (cl : List (Str × Addr)) (fp : List Addr),
      EG (X.blk s H0 scope (compEnvC scope cl C X.env) fp) S' tg v (wipe σ (own.map (·.2))) τ ∧ EI (X.blk s H0 scope (compEnvC scope cl C X.env) fp) τ S' tg1 iter1 (Ds X.K ds2) ∧
      ∀ e ∈ ds2, ∀ w S2, Same S' S2 → Dt X.K e w S2 → ∃ τ2, wipe τ2 vs1 = wipe τ vs1 ∧ ∀ (s : Shared) (H0 : Hp) (C : Addr) (cl : List (Str × Addr)) (fp : List Addr), EG (X.blk s H0 scope (compEnvC scope cl C X.env) fp) S2 tg1 w (wipe τ vs1) τ2 ∧ EE (X.blk s H0 scope (compEnvC scope cl C X.env) fp) τ2 S2 elt (Dt X.K (f d e)))
    (hs : ∀ x, foldedSetIterable iter X.env x = pure x := by intro _; rfl) (hs1 : ∀ (env : Env) x, foldedSetIterable iter1 env x = pure x := by intro _ _; rfl) :
    EE X σ S (.ListComp elt [⟨tg, iter, [], 0⟩, ⟨tg1, iter1, [], 0⟩] scope pos) (Dt X.K (.list (prodD f ds1 ds2))) := fun H s Q q =>
  he_of (pe_lc2 (own := own) (vs1 := vs1) (wi := bI X tg iter) (wi1 := iBlk X scope tg1 iter1) (g := gBlk X scope tg) (g1 := gBlk X scope tg1) (tt := tBlk X scope []) (tt1 := tBlk X scope []) (te := eBlk X scope elt) hc hN pib ok hv
    (fun s H0 C cl fp => ⟨fun pins sh σ' H' v u Q' I r h => h s H0 C cl fp pins sh u I r⟩) (fun s H0 C cl fp => ⟨fun pins sh σ' H' Q' I h => h s H0 C cl fp pins sh I⟩) (fun s H0 C cl fp => ⟨fun pins sh σ' H' R I h => h s H0 C cl fp pins sh I⟩) (fun s H0 C cl fp => ⟨fun pins sh σ' H' v u Q' I r h => h s H0 C cl fp pins sh u I r⟩) (fun s H0 C cl fp => ⟨fun pins sh σ' H' Q' I h => h s H0 C cl fp pins sh I⟩) (fun s H0 C cl fp => ⟨fun pins sh σ' H' Q' I h => h s H0 C cl fp pins sh I⟩) hs hs1)
    (hi H s _ fun J S1 H1 g1 it => lc_loop22 hz hel Q q g1 it)
end
end Y
namespace Y
open PySem PySem.Spec PyProof.Rows L2 Z LamX NdefX
/-! ## sorted(e, key=lambda x: x[1]) -/
/-- an item that is a tuple, its second part the key k -/
def PairKey (h : Heap) (v : Value) (k : PyData) : Prop := ∃ t its u, v = .ref t ∧ IsTup h t its ∧ its[1]? = some u ∧ Reads h u k []
theorem PairKey.keeps {h h' : Heap} {v : Value} {k : PyData} (p : PairKey h v k) (hk : ∀ b o, h.get? b = some o → h'.get? b = some o) : PairKey h' v k := by
  obtain ⟨t, its, u, e, ht, hu, hr⟩ := p
  exact ⟨t, its, u, e, ht.keeps hk, hu, PyProof.Rows.Reads.keeps hk hr⟩
end Y
namespace Y
open PySem PySem.Spec PyProof.Rows L2 Z
/-! ## a dict comprehension whose store is told by a rule (after HandS.DictComp's dc_core, which is for keys that are ints or texts) -/
/-- the new dict is told as o0; Sto D y z H N: what the store of z at y asks, N behind it -/
structure DcRule (o0 : HO) (Sto : Addr → V → V → Hp → (Hp → Prop) → Prop) (X : Cx) : Prop where
  lay : ∀ (H : Hp) (h : Heap), sysModules < h.objs.size → ObjOk X.prog X.w (upd H h.objs.size o0) (h.push { cls := .type "dict", data := .dict #[] }) h.objs.size o0
  put : ∀ (Z : Cx), Z.prog = X.prog → Z.w = X.w → Z.A = X.A → ∀ (pins : List (Addr × Obj)) (σ : L2.St) (s : Shared) (E : Value → Shared → Prop) (D : Addr) (y z : V) (H : Hp) (N : Hp → Prop) (u r : Value) (Q : Unit → Shared → Prop),
    Inv Z pins σ H s → RelV y u → RelV z r → Sto D y z H N → (∀ H' s', Inv Z pins σ H' s' → N H' → Q () s') → wpAny (model X.prog X.w) X.A (dictSet D u r) Q E s
/-- the reading: D the new dict, W what is kept -/
def tDcR (o0 : HO) (Sto : Addr → V → V → Hp → (Hp → Prop) → Prop) (wi : TI) (g : TG) (tk tv : TE) (vs : List Nat) : TE := fun σ H Q => wi σ H fun J H1 => ∀ D, H1 D = none → ∃ W : Nat → Nat → Hp → Prop, (∃ m, W 0 m (upd H1 D o0)) ∧ ∀ i m H, W i m H →
  (J.stop i H ∧ Q (.ref D) H) ∨ (J.go i H ∧ ∃ Nx : Hp → Prop, (∀ H', Nx H' → ∃ m', m' < m ∧ W (i + 1) m' H') ∧ ∀ x H', J.yld i H x H' → g x (wipe σ vs) H' fun σ2 H2 => wipe σ2 vs = wipe σ vs ∧ tk σ2 H2 fun y H4 => tv σ2 H4 fun z H5 => Sto D y z H5 Nx)
section
variable {X : Cx} {o0 : HO} {Sto : Addr → V → V → Hp → (Hp → Prop) → Prop} {pins : List (Addr × Obj)} {s : Shared} {σ : L2.St} {H : Hp} {Q : VK} {kx vx tg iter : Expr} {scope : Scope} {own : List (Str × Nat)} {pos : Pos} {wi : TI} {g : TG} {tk tv : TE}
theorem dc_any (R : DcRule o0 Sto X) (hc : X.calm = true) (hN : X.N.Nodup) (I : Inv X pins σ H s) (hi : PI X tg iter wi) (ok : BlkOk X.N X.env.scope scope own)
    (hg : ∀ (s : Shared) (H : Hp) (C : Addr) (cl : List (Str × Addr)) (fp : List Addr), PG (X.blk s H scope (compEnvC scope cl C X.env) fp) tg g)
    (hk : ∀ (s : Shared) (H : Hp) (C : Addr) (cl : List (Str × Addr)) (fp : List Addr), PE (X.blk s H scope (compEnvC scope cl C X.env) fp) kx tk)
    (he : ∀ (s : Shared) (H : Hp) (C : Addr) (cl : List (Str × Addr)) (fp : List Addr), PE (X.blk s H scope (compEnvC scope cl C X.env) fp) vx tv) (hs : ∀ x, foldedSetIterable iter X.env x = pure x)
    (h : tDcR o0 Sto wi g tk tv (own.map (·.2)) σ H Q) : wpAny (model X.prog X.w) X.A (eval (.DictComp kx vx [⟨tg, iter, [], 0⟩] scope pos) X.env) (EP X pins σ Q) X.xe s := by
  have closed : ∀ y ∈ scope.names, y.2 = .free → ∃ c, X.env.cells.lookup y.1 = some c := fun y hy e => (ok.free y hy e).elim (fun z => I.ok.has _ (.inl z)) fun z => I.ok.has _ (.inr z)
  rw [arm_eval_DictComp]
  refine wpAny_comprehension_free rfl hs (closure_ok closed) ok.kind (fun y hy e => by rw [ok.uniq y hy, e]) (thn (hi.run pins s σ H _ I h) fun _ _ h1 => thn h1 fun _ s2 h2 => ?_)
  obtain ⟨it, fp, tn, J, H2, rfl, I2, T, st2, f2, q⟩ := h2
  refine wpAny_newObj_type (newEnv_comp ?_)
  have hDn : H2 s2.heap.objs.size = none := I2.hok.fresh (Nat.le_refl _)
  obtain ⟨W, ⟨m0, w0⟩, turn⟩ := q _ hDn
  -- the state with the new dict
  obtain ⟨s3, hs3⟩ : ∃ s3 : Shared, s3 = { s2 with heap := s2.heap.push { cls := .type "dict", data := .dict #[] } } := ⟨_, rfl⟩
  obtain ⟨D, hD⟩ : ∃ D, D = s2.heap.objs.size := ⟨_, rfl⟩
  rw [← hD] at hDn w0 turn
  have old3 : ∀ b o, s2.heap.get? b = some o → s3.heap.get? b = some o := fun b o e => by rw [hs3]; exact Heap.get?_push_of_some _ e
  have I3 : Inv X pins σ (upd H2 D o0) s3 := by
    rw [hs3, hD]
    exact I2.laid (t' := s2.toks) (fun b o e => Heap.get?_push_of_some _ e) (Nat.le_refl _) (R.lay H2 s2.heap I2.big)
  have below : ∀ b ∈ fp, b < s2.heap.objs.size := fun b hb => (T.obj _ _ st2 b hb).elim fun o z => Heap.lt_size z.1
  have f3 : ∀ b ∈ fp, FpOk X pins (upd H2 D o0) b ∧ b < s3.heap.objs.size := fun b hb => by
    refine ⟨⟨(upd_ne (by rw [hD]; exact Nat.ne_of_lt (below b hb))).trans (f2 b hb).1, (f2 b hb).2⟩, ?_⟩
    rw [hs3]
    show b < (s2.heap.push _).objs.size
    rw [Heap.size_push]
    exact Nat.lt_succ_of_lt (below b hb)
  have I4 := block_start I3 ok hN f3
  obtain ⟨cl, hcl⟩ : ∃ cl, cl = cellsFrom (s3.heap.objs.size + 1) scope.names (cloFrom X.env.cells scope.names []) := ⟨_, rfl⟩
  obtain ⟨ce, hce⟩ : ∃ ce, ce = compEnvC scope cl s3.heap.objs.size X.env := ⟨_, rfl⟩
  obtain ⟨H3, hH3⟩ : ∃ H3, H3 = upd H2 D o0 := ⟨_, rfl⟩
  obtain ⟨s4, hs4⟩ : ∃ s4 : Shared, s4 = { s3 with heap := pushCells (s3.heap.push { cls := .type "dict", data := .dict #[] }) scope.names } := ⟨_, rfl⟩
  have pg := hg s3 H3 s3.heap.objs.size cl fp
  have pk := hk s3 H3 s3.heap.objs.size cl fp
  have pe := he s3 H3 s3.heap.objs.size cl fp
  rw [← hcl, ← hce, ← hH3, ← hs4] at I4
  rw [← hce] at pg pk pe
  rw [← hH3] at I3 w0 f3
  have cL : ce.locals = s3.heap.objs.size := by rw [hce]; rfl
  have fpn : ∀ b ∈ fp, H3 b = none := fun b hb => (f3 b hb).1.1
  have st4 : tn 0 s4.heap := T.keep _ _ _ (T.keep _ _ _ st2 fun b _ o e => old3 b o e) fun b _ o e => by rw [hs4]; exact pushCells_keeps _ _ _ _ (Heap.get?_push_of_some _ e)
  have stat : ∀ {σ' : L2.St} {H' : Hp} {s' : Shared}, Inv (X.blk s3 H3 scope ce fp) [] σ' H' s' → (∀ b ∈ fp, H' b = none) → ∀ b ∈ fp, FpOk (X.blk s3 H3 scope ce fp) [] H' b := fun {_ H' _} I' hn b hb =>
    ⟨hn b hb, (I'.ok.exf b hb).1, I'.ok.exfs b hb, .inl hb, fun x c e => (I'.ok.exf b hb).2 x c e, fun p hp => nomatch (show p ∈ ([] : List (Addr × Obj)) from hp)⟩
  have loop : codeAny (model X.prog X.w) X.A (.compLoop (.DictComp kx vx [⟨tg, iter, [], 0⟩] scope pos) 0 (.ref it) (.ref D) ce) (compPost (model X.prog X.w) X.A X.xe none (EP X pins σ Q) (.ref D) s3.heap.objs.size) s4 := by
    refine compLoop_anyD (fun n z => ∃ i H', Inv (X.blk s3 H3 scope ce fp) [] (wipe σ (own.map (·.2))) H' z ∧ tn i z.heap ∧ (∀ b ∈ fp, H' b = none) ∧ W i n H') ?_ m0 ⟨0, H3, I4, st4, fpn, w0⟩
    rintro n s5 ⟨i, H5, I5, st5, n5, w5⟩
    rcases turn i n H5 w5 with ⟨stop, fin⟩ | ⟨go, Nx, less, step⟩
    · refine thnF (T.done (X.blk s3 H3 scope ce fp) rfl rfl rfl hc i [] s5 _ H5 (fun _ _ => False) I5 (stat I5 n5) st5 stop) fun r s6 z => ?_
      obtain ⟨rfl, I6⟩ := z
      have free6 : H5 s3.heap.objs.size = none := by rw [← cL]; exact I6.free
      obtain ⟨m, ns, _⟩ := I6.loc
      have ns6 : s6.heap.Ns s3.heap.objs.size m := by rw [← cL]; exact ns
      have I7 : Inv X pins σ H5 s6 := I3.call' (ch := fp) I6.os I6.base I6.hok I6.bare fun b hb => ⟨(f3 b hb).1.2.2.2.1, (f3 b hb).1.2.1, (f3 b hb).1.2.2.2.2.1, (f3 b hb).1.2.2.2.2.2⟩
      obtain ⟨g0, g1, g2, g3, g4, g5⟩ := I3.fpOk (Nat.le_refl _) free6
      exact ⟨m, ns6, fun h'' sb => ⟨.ref D, H5, I7.turned (t' := s6.toks) (fun b o hb e => (sb.2 b hb).trans e) g0 g1 g3 g4 g5, rfl, fin⟩⟩
    · refine thnF (T.item (X.blk s3 H3 scope ce fp) rfl rfl rfl hc i [] s5 _ H5 (fun _ _ => False) I5 (stat I5 n5) st5 go) fun r s6 z => ?_
      obtain ⟨u, rfl, h6⟩ := z
      refine thnF h6 fun _ s7 ⟨x, H7, I7, r7, y7, st7, n7⟩ => ?_
      refine thnF (pg.run _ s7 _ H7 x u _ (I7.pinned (stat I7 n7) (T.obj _ _ st7)) r7 (step x H7 y7)) fun _ s8 ⟨σ8, H8, I8, hw8, q8⟩ => ?_
      refine wpAny_pure ?_
      rw [if_pos rfl]
      refine thnF (pk.run _ s8 σ8 H8 _ I8 q8) fun _ s9 ⟨y, H9, I9, r9, q9⟩ => ?_
      refine thnF (pe.run _ s9 σ8 H9 _ I9 q9) fun _ s10 ⟨z, H10, I10, r10, q10⟩ => ?_
      refine R.put (X.blk s3 H3 scope ce fp) rfl rfl rfl _ _ _ _ _ _ _ _ _ _ _ _ I10 r9 r10 q10 fun H' s' I' nx => ?_
      obtain ⟨m', hm, w'⟩ := less H' nx
      have stays : ∀ b ∈ fp, ∀ o, s7.heap.get? b = some o → s'.heap.get? b = some o ∧ H' b = none := fun b hb o e => by
        have z := I'.pin (b, o) (List.mem_append_right _ (List.mem_append_right _ (mem_pinsAt hb e)))
        exact ⟨z.1, z.2.1⟩
      refine ⟨m', hm, i + 1, H', (I'.unpinned (pins := [])).weak (by rw [← hw8, wipe_length]) (fun j v e => ?_), T.keep _ _ _ st7 fun b hb o e => (stays b hb o e).1, fun b hb => ?_, w'⟩
      · rw [← hw8] at e
        exact (wipe_some e).1
      · obtain ⟨o, e, _⟩ := T.obj _ _ st7 b hb
        exact (stays b hb o e).2
  have start := codeAny_compStart_dict loop (T.self X.A 0 _ _ _ st4 loop)
  rw [hce, hcl, hs4] at start
  rw [← hs3, ← hD]
  exact start
end
end Y
namespace Y
open PySem PySem.Spec PyProof.Rows L2 Z
/-! ## a dict with tuple keys that is not changed any more: locked; what is read of it -/
def DcO (m : MapI) (d : Addr) (S : Hp) : Prop := ∃ o, S d = some (.frz o (.dT (kvM m)))
theorem DcO.up {m : MapI} {d : Addr} {S S' : Hp} (h : DcO m d S) (s : Same S S') : DcO m d S' := h.elim fun o e => ⟨o, s _ _ e⟩
def DcV (m : MapI) (v : V) (S : Hp) : Prop := ∃ d, v = .ref d ∧ DcO m d S
instance {m : MapI} : Mn (DcV m) := ⟨fun s ⟨d, e, h⟩ => ⟨d, e, h.up s⟩⟩
theorem DcO.rd {m : MapI} {d : Addr} {S : Hp} (h : DcO m d S) : Rd S d (.dT (kvM m)) := .inr h
/-- from now on the thing at d is locked -/
theorem hs_freeze {X : Cx} {D : Ends} {st : List Stmt} {σ : L2.St} {H : Hp} {d : Addr} {u : HO} (h : H d = some u) (mu : Mut (some u)) (q : ∀ o, HS X D st σ (upd H d (.frz o u))) : HS X D st σ H := fun pins s I => by
  obtain ⟨o, I1⟩ := I.lock h mu
  exact q o pins s I1
/-! ### for a, b in o.items() -/
end Y
namespace Y
open PySem PySem.Spec PyProof.Rows L2 Z
/-! ## o.items() as a value; list of it; a display of two -/
/-- S, all that is new in T, the tuples of H -/
def grown (S H T : Hp) : Hp := fun a => match S a with
  | some o => some o
  | none => match H a with
    | none => T a
    | some (.tup xs) => some (.tup xs)
    | some _ => none
theorem grown_S {S H T : Hp} {a : Addr} {o : HO} (h : S a = some o) : grown S H T a = some o := by unfold grown; rw [h]
theorem Gr.all {S H T : Hp} (s : Same S H) (st : Same H T) : Gr S H (grown S H T) T := by
  refine ⟨fun a o h => grown_S h, fun a o h => ?_, st, fun a o h n => ?_⟩
  · unfold grown at h
    cases e : S a with
    | some u => rw [e] at h; cases h; exact st a _ (s a _ e)
    | none =>
      rw [e] at h
      cases q : H a with
      | none => simp only [q] at h; exact h
      | some u =>
        cases u <;> simp only [q] at h <;> first | cases h | skip
        exact st a _ q
  · unfold grown
    cases e : S a with
    | some u => rfl
    | none =>
      cases q : H a with
      | none => rw [q] at h; cases h
      | some u =>
        rw [q] at h
        cases h
        cases o <;> first | rfl | exact absurd rfl (n _)
/-- the items view at p of the locked dict at d -/
def ItV (m : MapI) (v : V) (S : Hp) : Prop := ∃ p d, v = .ref p ∧ S p = some (L2.DX.itemsO p d) ∧ DcO m d S
instance {m : MapI} : Mn (ItV m) := ⟨fun s ⟨p, d, e, h, q⟩ => ⟨p, d, e, s _ _ h, q.up s⟩⟩
end Y
namespace Y
open PySem PySem.Spec PyProof.Rows L2 Z
/-! ## {kx: vx for x in iter}, keys tuples of ints, values ints -/
def StoT (D : Addr) (y z : V) (H : Hp) (N : Hp → Prop) : Prop := ∃ kvs k b, y = V.ref b ∧ H b = some (.tup (k.map kV)) ∧ H D = some (.dT kvs) ∧ kvs.length < sizeLine ∧ N (upd H D (.dT (putK kvs k z)))
theorem dcRuleT {X : Cx} (hu : X.A.units < cLine) : DcRule (.dT []) StoT X where
  lay := fun H h hb => dt_empty h hb
  put := by
    intro Z hP hw hA pins σ s E D y z H N u r Q I ry rz hS q
    obtain ⟨kvs, k, b, rfl, hb, hD, hl, hN⟩ := hS
    obtain rfl : u = Value.ref b := ry
    obtain ⟨zl, hd, xs, rel, dd⟩ := dt_of I.hok hD
    have lx : kvs.length = xs.length := Paired.length rel
    have hu' : Z.A.units < cLine := by rw [hA]; exact hu
    rw [← hP, ← hw, ← hA]
    refine wpAny_dictSet_heap (knd := tupleKind (mixKind Z.prog Z.w)) (hsz := by omega) hu' (key_of I.hok hb) dd fun h' dd' hs => q _ _ ?_ hN
    have hl2 : (putK kvs k z).length ≤ sizeLine := by have := length_putK kvs k z; omega
    obtain ⟨o, es, ep, ho, h2, h3, h4, _, h5⟩ := dd'
    refine d_write I (by rw [hD]; exact True.intro) hs ⟨o, ho⟩ ⟨hl2, hd, _, (rel.put k hb rz).keeps fun c ys ec => ?_, o, es, ep, ho, h2, h3, h4, h5⟩
    rw [upd_ne (ne_of ec hD (fun z => nomatch z))]
    exact ec
/-- the dict that the store of the pairs leaves -/
def mkM (ps : List (List Int × Int)) : MapI := ps.foldl (fun m p => putM m p.1 p.2) []
theorem mkM_snoc (ps : List (List Int × Int)) (p : List Int × Int) : mkM (ps ++ [p]) = putM (mkM ps) p.1 p.2 := by
  unfold mkM
  rw [List.foldl_append]
  rfl
theorem mkM_lenA : ∀ (ps : List (List Int × Int)) (m : MapI), (ps.foldl (fun m p => putM m p.1 p.2) m).length ≤ m.length + ps.length
  | [], m => Nat.le_refl _
  | p :: ps, m => by
    have h := mkM_lenA ps (putM m p.1 p.2)
    have h2 := putM_len m p.1 p.2
    show (ps.foldl _ (putM m p.1 p.2)).length ≤ m.length + (ps.length + 1)
    omega
theorem mkM_len (ps : List (List Int × Int)) : (mkM ps).length ≤ ps.length := by
  have h : (mkM ps).length ≤ ([] : MapI).length + ps.length := mkM_lenA ps []
  rw [List.length_nil, Nat.zero_add] at h
  exact h
/-- a new dict -/
def NewM (S : Hp) (m : MapI) (v : V) (S' : Hp) : Prop := ∃ d, v = .ref d ∧ S d = none ∧ S' d = some (.dT (kvM m))
section
variable {X : Cx} {σ : L2.St} {S : Hp} {kx vx tg iter : Expr} {scope : Scope} {own : List (Str × Nat)} {pos : Pos} {α : Type} {enc : α → PyData} {kf : α → List Int} {vf : α → Int} {as : List α}
theorem ee_dcT (hu : X.A.units < cLine) (hc : X.calm = true) (hN : X.N.Nodup) (ok : BlkOk X.N X.env.scope scope own) (hi : EI X σ S tg iter (Ds X.K (as.map enc))) (hz : as.length ≤ 1000000)
    (hel : ∀ a ∈ as, ∀ v S', Same S S' → Dt X.K (enc a) v S' → ∃ τ, wipe τ (own.map (·.2)) = wipe σ (own.map (·.2)) ∧ ∀ (s : Shared) (H0 : Hp) (C : Addr) (cl : List (Str × Addr)) (fp : List Addr),
      EG (X.blk s H0 scope (compEnvC scope cl C X.env) fp) S' tg v (wipe σ (own.map (·.2))) τ ∧ EE (X.blk s H0 scope (compEnvC scope cl C X.env) fp) τ S' kx (KyP (kf a)) ∧ EE (X.blk s H0 scope (compEnvC scope cl C X.env) fp) τ S' vx (Dt X.K (.int (vf a))))
    (hs : ∀ x, foldedSetIterable iter X.env x = pure x := by intro _; rfl) : EE X σ S (.DictComp kx vx [⟨tg, iter, [], 0⟩] scope pos) (NewM S (mkM (as.map fun a => (kf a, vf a)))) := fun H s Q q => by
  intro pins sh I
  refine dc_any (dcRuleT hu) (wi := bI X tg iter) (g := gBlk X scope tg) (tk := eBlk X scope kx) (tv := eBlk X scope vx) hc hN I pib ok (fun s H0 C cl fp => ⟨fun pins sh σ' H' v u Q' I r h => h s H0 C cl fp pins sh u I r⟩) (fun s H0 C cl fp => ⟨fun pins sh σ' H' Q' I h => h s H0 C cl fp pins sh I⟩) (fun s H0 C cl fp => ⟨fun pins sh σ' H' Q' I h => h s H0 C cl fp pins sh I⟩) hs ?_
  refine hi H s _ fun J S1 H1 g1 it D hD => ?_
  have hlen : (Ds X.K (as.map enc)).length = as.length := by rw [ds_len, List.length_map]
  let mm : Nat → MapI := fun i => mkM ((as.take i).map fun a => (kf a, vf a))
  have hS1 : S1 D = none := g1.sub.free hD
  refine walk_W it (fun i H' => ∃ S', Same S1 S' ∧ Same S' H' ∧ Same H1 H' ∧ (∀ a o, H1 a = some o → NT o → S' a = S1 a) ∧ S' D = none ∧ H' D = some (.dT (kvM (mm i)))) ⟨S1, Same.refl _, (g1.sub).trans (Same.new hD), Same.new hD, fun _ _ _ _ => rfl, hS1, upd_same⟩ (fun i H' _ ⟨S', a, b, _⟩ => a.trans b) ?_ ?_
  · intro i x H2 H3 hi2 ⟨S2, k1, k2, k3, k4, k5, k6⟩ y
    rw [hlen] at hi2
    obtain ⟨S3, g3, P', hP', px⟩ := y S2 k1 k2
    obtain ⟨a, ha⟩ : ∃ a, as[i]? = some a := ⟨as[i], List.getElem?_eq_getElem hi2⟩
    rw [ds_get (by rw [List.getElem?_map, ha]; rfl)] at hP'
    obtain rfl := Option.some.inj hP'
    have sS3 : Same S S3 := (g1.st.trans k1).trans g3.st
    obtain ⟨τ, hw, hb⟩ := hel a (List.mem_of_getElem? ha) x S3 sS3 px
    intro sh1 H01 C1 cl1 fp1
    refine (hb sh1 H01 C1 cl1 fp1).1 H3 g3.sub _ ⟨hw, ?_⟩
    intro sh2 H02 C2 cl2 fp2
    refine (hb sh2 H02 C2 cl2 fp2).2.1 H3 g3.sub _ fun yk S4 H4 g4 pk => ?_
    intro sh3 H03 C3 cl3 fp3
    refine ((hb sh3 H03 C3 cl3 fp3).2.2.up g4.st) H4 g4.sub _ fun z S5 H5 g5 pz => ?_
    obtain ⟨b, rfl, hb4⟩ := pk
    cases pz
    have g := (g3.trans g4).trans g5
    have hD5 : S5 D = none := (g.old D _ k6 (fun _ z => nomatch z)).trans k5
    have mlen : (mm i).length ≤ i := Nat.le_trans (mkM_len _) (by rw [List.length_map, List.length_take]; omega)
    refine ⟨kvM (mm i), kI (kf a), b, rfl, by rw [kI_kV]; exact g5.sub _ _ (g5.st _ _ hb4), g.hh _ _ k6, by rw [kvM_len]; show _ < 16777216; omega, S5, k1.trans g.st, Same.mut g.sub hD5, fun c o e => ?_, fun c o e n => (g.old c o (k3 c o e) n).trans (k4 c o e n), hD5, ?_⟩
    · rw [upd_ne (ne_of_none e hD)]; exact g.hh _ _ (k3 c o e)
    · rw [putK_kvM, upd_same]
      show _ = some (HO.dT (kvM (mkM ((as.take (i + 1)).map fun a => (kf a, vf a)))))
      rw [take_snoc ha, List.map_append]
      exact congrArg (fun z => some (HO.dT (kvM z))) (mkM_snoc ((as.take i).map fun a => (kf a, vf a)) (kf a, vf a)).symm
  · intro H2 ⟨S2, k1, k2, k3, k4, k5, k6⟩
    rw [hlen] at k6
    have em : mm as.length = mkM (as.map fun a => (kf a, vf a)) := by show mkM _ = _; rw [List.take_length]
    rw [em] at k6
    refine q _ (upd S2 D (.dT (kvM (mkM (as.map fun a => (kf a, vf a)))))) H2 (g1.trans ⟨k1.trans (Same.new k5), fun a o h => ?_, k3, fun a o h n => by rw [upd_ne (ne_of_none h hD)]; exact k4 a o h n⟩) ⟨D, rfl, s.free ((show H D = none from by
      cases e : H D with
      | none => rfl
      | some o => exact absurd (g1.hh _ _ e) (by rw [hD]; intro z; cases z))), upd_same⟩
    by_cases ha : a = D
    · subst ha; rw [upd_same] at h; rw [k6]; exact h
    · rw [upd_ne ha] at h; exact k2 a o h
end
end Y
namespace Y
open PySem PySem.Spec PyProof.Rows L2 Z
/-! ## == of two dicts with tuple keys and ints as values -/
end Y
namespace Y
open PySem PySem.Spec PyProof.Rows L2 Z
/-! ## len(o), bool(o) of an own thing -/
/-! ## a staticmethod def m(*xs, kn=d), called through its class -/
section
variable {X : Cx} {σ : L2.St} {S S' H : Hp} {a e e0 : Expr} {es : List Expr} {P P0 P1 R : V → Hp → Prop} {Ps : List (V → Hp → Prop)} {pos p apos kpos : Pos} {k : Nat} {x m kn : Str} {dv : V} {sp : List V → V → Hp → VK → Prop} {C : Addr}
theorem get_static {pins : List (Addr × Obj)} {s : Shared} {p g : Addr} {mc : Value} {pl : Sem Bool} {A : Around} {E : Value → Shared → Prop} {Q : Value × List Value → Shared → Prop} (I : Inv X pins σ H s) (r : ClX.CRead X.K C mc) (h1 : PySem.W.findCls X.K (.ref C) mc m = some (.get (.builtin "staticmethod.__get__") (.ref p) .none (.ref C))) (h2 : ∃ rest, PySem.W.recIn X.K p "staticmethod" = some (.ref g :: rest))
    (h : ∀ s', Inv X pins σ H s' → Q (.ref g, []) s') : wpAny (model X.prog X.w) A (getMethod (.ref C) m pl) Q E s := by
  obtain ⟨rest, h2⟩ := h2
  refine PySem.W.method_cls I.kIn r.ga (PySem.W.cls_bind I.kIn r.rd h1 (wpAny_call (PySem.W.sm_get (s := { s with toks := s.toks + 1 }) I.kIn h2 (PySem.W.handed_on rfl (h _ (I.tok _))))))
end
end Y
namespace Y
open PySem PySem.Spec PyProof.Rows L2 Z
/-! ## a def m(*xs, kn=d) by its body -/
end Y
namespace Y
open PySem PySem.Spec PyProof.Rows L2 Z
section
variable {X : Cx} {σ : L2.St} {S H : Hp} {elt iter : Expr} {scope : Scope} {pos px : Pos} {x : Str} {i : Nat} {D : Ends} {rest : List Stmt}
/-- a, b = e, e a pair that is not fixed -/
theorem hs_unpackF {e : Expr} {i j : Nat} {x y : Str} {px py pt pos : Pos} {kt : Nat} {F G : PyData → Prop} (hc : X.calm = true) (hN : X.N.Nodup) (ha : EE X σ S e (Ex X.K fun d => ∃ d1 d2, d = .tuple [d1, d2] ∧ F d1 ∧ G d2)) (s : Same S H)
    (q : ∀ d1 d2 v w S' H', F d1 → G d2 → Gr S H S' H' → Dt X.K d1 v S' → Dt X.K d2 w S' → HS X D rest ((σ.set i (some v)).set j (some w)) H')
    (hi : X.N[i]? = some x := by rfl) (hj : X.N[j]? = some y := by rfl) (hx : Loc X.env.scope x := by first | exact Or.inl rfl | exact Or.inr rfl) (hy : Loc X.env.scope y := by first | exact Or.inl rfl | exact Or.inr rfl)
    (hfx : X.fn x = true ∨ X.env.scope.names.lookup x = some .local := by first | exact .inl rfl | exact .inr rfl) (hfy : X.fn y = true ∨ X.env.scope.names.lookup y = some .local := by first | exact .inl rfl | exact .inr rfl)
    (hn : (assignEach [.Name x px, .Name y py] X.env).length = 2 := by rfl) (hst : (assignEach [.Name x px, .Name y py] X.env).findIdx? (·.1) = none := by rfl)
    (h1 : (assignEach [.Name x px, .Name y py] X.env).map (·.2) = assign (.Name x px) X.env :: (assignEach [.Name y py] X.env).map (·.2) := by rfl) (h2 : (assignEach [.Name y py] X.env).map (·.2) = assign (.Name y py) X.env :: (assignEach [] X.env).map (·.2) := by rfl)
    (hss : swapsWithSole [.Tuple [.Name x px, .Name y py] kt pt] e pos.line X.env = pure false := by rfl) (hw : swappedStores [.Tuple [.Name x px, .Name y py] kt pt] e X.env = pure none := by rfl)
    (h3 : (assignEach [.Tuple [.Name x px, .Name y py] kt pt] X.env).map (·.2) = [assign (.Tuple [.Name x px, .Name y py] kt pt) X.env] := by rfl) : HS X D (.Assign [.Tuple [.Name x px, .Name y py] kt pt] e pos :: rest) σ H :=
  hs_cons (ps_asg peb pgb hss hw h3) (ha H s _ fun v S' H' g ⟨d, ⟨d1, d2, hd, f, gg⟩, pv⟩ => by
    subst hd
    obtain ⟨v1, v2, p1, p2, hg⟩ := eg_pair (σ := σ) (px := px) (py := py) (pos := pt) (kk := kt) hc hN hi hj hx hy pv hfx hfy hn hst h1 h2
    exact hg H' g.sub _ (q d1 d2 v1 v2 S' H' f gg g p1 p2))
end
end Y
namespace Y
open PySem PySem.Spec PyProof.Rows L2 Z LamX NdefX
/-! ## expressions and statements that may raise an own error -/
/-- a kind of own error: its class, its code, the attribute that it keeps -/
structure EK where
  C : Addr
  code : Str
  fn : Option Str
/-- E is met by an error of the kind k that keeps g -/
def XErr (K : PySem.W.Frag) (k : EK) (g : PyData) (S H : Hp) (E : XK) : Prop := ∀ d fs S3 H3, Gr S H S3 H3 → H d = none → S3 d = some (.xd fs) → fs.lookup ("code" : Str) = some (V.str k.code) → (k.fn = none → g = .none) → (∀ x, k.fn = some x → ∃ v, fs.lookup x = some v ∧ Dt K g v S3) → E (.ref k.C) (some d) H3
theorem XErr.up {K : PySem.W.Frag} {k : EK} {g : PyData} {S H S1 H1 : Hp} {E : XK} (h : XErr K k g S H E) (gr : Gr S H S1 H1) : XErr K k g S1 H1 E := fun d fs S3 H3 g3 hd hx hc hn hf => h d fs S3 H3 (gr.trans g3) (gr.hh.free hd) hx hc hn hf
theorem XErr.wide {K : PySem.W.Frag} {k : EK} {g : PyData} {S H H' : Hp} {E : XK} (h : XErr K k g S H E) (hh : Same H H') : XErr K k g S H' E := fun d fs S3 H3 gr hd hx hc hn hf => h d fs S3 H3 ⟨gr.st, gr.sub, hh.trans gr.hh, fun a o e m => gr.old a o (hh _ _ e) m⟩ (hh.free hd) hx hc hn hf
/-- e gives P, or raises as O -/
def ER (X : Cx) (E : XK) (σ : L2.St) (S : Hp) (e : Expr) (P : V → Hp → Prop) (O : EK → PyData → Prop) : Prop := ∀ H, Same S H → (∀ k g, O k g → XErr X.K k g S H E) → ∀ Q : VK, (∀ v S1 H1, Gr S H S1 H1 → P v S1 → Q v H1) → HE X e σ H Q
/-- a promise with both ends -/
def SpO (K : PySem.W.Frag) (sp : Sp) (S : Hp) (Ps : List (V → Hp → Prop)) (P : V → Hp → Prop) (O : EK → PyData → Prop) : Prop := ∀ vs S1 H1, Same S S1 → Same S1 H1 → Al Ps vs S1 → ∀ (Q : VK) (E : XK), (∀ v S2 H2, Gr S1 H1 S2 H2 → P v S2 → Q v H2) → (∀ k g, O k g → XErr K k g S1 H1 E) → sp vs H1 Q E
/-- a promise that is an error: of the kind that G tells -/
def spX (K : PySem.W.Frag) (G : List V → Hp → EK → PyData → Prop) : Sp := fun vs H _ E => ∃ S k g, Same S H ∧ G vs S k g ∧ XErr K k g S H E
def O1 (k : EK) (g : PyData) : EK → PyData → Prop := fun k' g' => k' = k ∧ g' = g
def NoP : V → Hp → Prop := fun _ _ => False
theorem spX_O {K : PySem.W.Frag} {S : Hp} {Ps : List (V → Hp → Prop)} {P : V → Hp → Prop} {O : EK → PyData → Prop} {G : List V → Hp → EK → PyData → Prop} (h : ∀ vs S1, Same S S1 → Al Ps vs S1 → ∃ k g, G vs S1 k g ∧ O k g) : SpO K (spX K G) S Ps P O := fun vs S1 H1 st s al Q E _ hx => by
  obtain ⟨k, g, h1, h2⟩ := h vs S1 st al
  exact ⟨S1, k, g, s, h1, hx k g h2⟩
structure KDX (P : Program) (w : World) (K : PySem.W.Frag) (mg : Str → Option Value) (base : Heap) (x : Str) (k : Nat) (sp : Sp) : Prop where
  ex : ∃ f fd ps, FnOk P w K mg base (L2.CX P w) k f fd ps sp ∧ mg x = some (.ref f) ∧ PySem.W.keepIn K (.ref f) = true ∧ Binds K fd ps []
structure KMX (P : Program) (w : World) (K : PySem.W.Frag) (mg : Str → Option Value) (base : Heap) (C : Addr) (m : Str) (k : Nat) (sp : Sp) : Prop where
  ex : ∃ f fd ps, FnOk P w K mg base (L2.CX P w) k f fd ps sp ∧ PySem.W.findIn K (.ref C) m = some (some (.ref f)) ∧ PySem.W.isFn K (.ref f) = true ∧ PySem.W.keepIn K (.ref f) = true ∧ Binds K fd ps []
/-- what the __init__ of an own class promises when it raises -/
def spXI' (C : Addr) (K : PySem.W.Frag) (G : List V → Hp → EK → PyData → Prop) : Sp := fun vs H _ E => ∃ S a dx ws k g, vs = .ref a :: ws ∧ Same S H ∧ S a = none ∧ H a = some (.ins C dx []) ∧ G ws S k g ∧ XErr K k g S H E
section
variable {X : Cx} {σ : L2.St} {S S' H : Hp} {e a b c o : Expr} {es : List Expr} {P Pa Pb P0 P1 R : V → Hp → Prop} {Ps : List (V → Hp → Prop)} {pos p apos pos2 kpos : Pos} {k : Nat} {x m f kn : Str} {sp : Sp} {C : Addr} {D : Ends} {rest : List Stmt} {O : EK → PyData → Prop} {E : XK} {op : Operator}
theorem EE.er (h : EE X σ S e P) : ER X E σ S e P O := fun H s _ Q q => h H s Q q
theorem ER.imp (h : ER X E σ S e P O) (f : ∀ v S', P v S' → R v S') : ER X E σ S e R O := fun H s hx Q q => h H s hx Q fun v S1 H1 g p => q v S1 H1 g (f v S1 p)
theorem ER.up (h : ER X E σ S e P O) (s : Same S S') (hk : ∀ H, Same S' H → (∀ k g, O k g → XErr X.K k g S' H E) → ∀ k g, O k g → XErr X.K k g S H E) (hq : ∀ v S1 H1 H, Same S' H → Gr S H S1 H1 → P v S1 → ∃ S2, Gr S' H S2 H1 ∧ P v S2) : ER X E σ S' e P O := fun H s' hx Q q => h H (s.trans s') (hk H s' hx) Q fun v S1 H1 g p => let ⟨S2, g2, p2⟩ := hq v S1 H1 H s' g p; q v S2 H1 g2 p2
/-- f(e, ..) -/
theorem er_call (tk : Takes X (fun cls d _ H => E cls d H)) (D1 : KDX X.prog X.w X.K X.mg X.base x k sp) (hr : Room k X.A) (ha : EA X σ S (e :: es) Ps) (hsp : SpO X.K sp S Ps P O) (hg : Gl X x := by rfl) (hdb : (x == ("__debug__" : Str)) = false := by decide)
    (he : starEach (e :: es) X.env = (false, eval e X.env) :: starEach es X.env := by rfl) (hpl : (backTo pos (starEach es X.env)).any (·.1) = false := by rfl) : ER X E σ S (.Call (.Name x p) (e :: es) [] pos) P O := fun H s hx Q q => by
  obtain ⟨f, fd, ps, F, hm, hk, hb⟩ := D1.ex
  refine he_of (pe_call F hr hg hm hk hb .nil (passes_call tk fun _ _ _ _ h => h) pab hdb he hpl) (ha.2 H s _ fun vs S1 H1 g1 al => ?_)
  rw [List.append_nil]
  exact hsp vs S1 H1 g1.st g1.sub al Q E (fun v S2 H2 g2 pv => q v S2 H2 (g1.trans g2) pv) fun k g o => (hx k g o).up g1
/-- o.m(e, ..) -/
theorem er_meth {pl : Sem Bool} (tk : Takes X (fun cls d _ H => E cls d H)) (D1 : KMX X.prog X.w X.K X.mg X.base C m k sp) (c : Cls X.K C) (hr : Room k X.A) (ho : EE X σ S o P0) [Mn P0] (hP : InsP C m P0) (ha : EA X σ S (e :: es) Ps) (hsp : SpO X.K sp S (P0 :: Ps) R O)
    (hst : starEach (e :: es) X.env = (false, eval e X.env) :: starEach es X.env := by rfl) (hpl : (backTo pos (starEach es X.env)).any (·.1) = false := by rfl)
    (ht : eval (.Call (.Attribute o m apos) (e :: es) [] pos) X.env = (do
      let ov ← eval o X.env
      standAt apos.atName
      let (f, first) ← holding [ov] (getMethod ov m pl)
      callWith pos f first (backTo pos (starEach (e :: es) X.env)) (backToKw pos (keywordEach [] X.env))) := by rfl) : ER X E σ S (.Call (.Attribute o m apos) (e :: es) [] pos) R O := fun H s hx Q q => by
  obtain ⟨f, fd, ps, F, hm, hf, hk, hb⟩ := D1.ex
  refine he_of (pe_meth peb c ⟨hm, hf, hk⟩ F hr hb .nil (passes_call tk fun _ _ _ _ h => h) pab hst hpl ht) (ho H s _ fun w S1 H1 g1 pw => ?_)
  obtain ⟨a, dx, fs, rfl, h1, h2⟩ := hP w S1 pw
  refine ⟨a, dx, fs, rfl, g1.sub _ _ h1, h2, (ha.up g1.st).2 H1 g1.sub _ fun vs S2 H2 g2 al => ?_⟩
  rw [List.append_nil]
  exact hsp _ S2 H2 (g1.st.trans g2.st) g2.sub (.cons (Mn.up g2.st pw) al) Q E (fun v S3 H3 g3 rv => q v S3 H3 ((g1.trans g2).trans g3) rv) fun k g o => (hx k g o).up (g1.trans g2)
/-- C(e, ..), where __init__ raises -/
theorem er_make {f : Addr} {fd : FuncData} {ps : List Str} {us : List Value} {dvs : List V} {Pd : List (V → Hp → Prop)} {G : List V → Hp → EK → PyData → Prop} (tk : Takes X (fun cls d _ H => E cls d H)) (M : Mk X.K C f) (F : FnOk X.prog X.w X.K X.mg X.base (L2.CX X.prog X.w) k f fd ps (spXI' C X.K G)) (hr : Room (k + 1) X.A) (hm : X.mg x = some (.ref C)) (hb : Binds X.K fd ps us) (hd : Vals dvs us) (ha : EA X σ S (e :: es) Ps)
    (hG : ∀ ws S1, Same S S1 → Al Ps ws S1 → ∃ k g, G (ws ++ dvs) S1 k g ∧ O k g) (hg : Gl X x := by rfl) (hdb : (x == ("__debug__" : Str)) = false := by decide) (he : starEach (e :: es) X.env = (false, eval e X.env) :: starEach es X.env := by rfl) (hpl : (backTo pos (starEach es X.env)).any (·.1) = false := by rfl) : ER X E σ S (.Call (.Name x p) (e :: es) [] pos) R O := fun H s hx Q q =>
  he_of (pe_make M F hr hg hm hb hd (passes_call tk fun _ _ _ _ h => h) pab hdb he hpl) (ha.2 H s _ fun vs S1 H1 g1 al a dx h1 h2 h3 => by
    obtain ⟨k, g, hk, ho⟩ := hG vs S1 g1.st al
    have hst : Same H1 (upd (upd H1 dx (.own a)) a (.ins C dx [])) := (Same.new h2).trans (Same.new (by rw [upd_ne h3.symm]; exact h1))
    exact ⟨S1, a, dx, vs ++ dvs, k, g, rfl, g1.sub.trans hst, g1.sub.free h1, upd_same, hk, ((hx k g ho).up g1).wide hst⟩)
/-- own operators of two things of one class, which raise -/
theorem er_binO [Mn Pa] [Mn Pb] (tk : Takes X (fun cls d _ H => E cls d H)) (hd : dunder op.info.2 = m) (D1 : KMX X.prog X.w X.K X.mg X.base C m k sp) (hs : PySem.W.selfFirst X.K C = true) (hr : Room k X.A) (ha : EE X σ S a Pa) (hb : EE X σ S b Pb) (hA : ∀ w S1, Pa w S1 → ∃ r dx fs, w = .ref r ∧ S1 r = some (.ins C dx fs)) (hB : ∀ w S1, Pb w S1 → ∃ r dx fs, w = .ref r ∧ S1 r = some (.ins C dx fs)) (hsp : SpO X.K sp S [Pa, Pb] NoP O) : ER X E σ S (.BinOp a op b pos) R O := fun H s hx Q q => by
  have ho : OpR X (binaryOp op) (fun x y H Q => ∃ r dx fs r' dx' fs', x = .ref r ∧ H r = some (.ins C dx fs) ∧ y = .ref r' ∧ H r' = some (.ins C dx' fs') ∧ sp [x, y] H (fun _ _ => False) E) := by
    subst hd
    intro pins s σ H x y v u Q I rx ry hq
    obtain ⟨r, dx, fs, r', dx', fs', rfl, hx, rfl, hy, q⟩ := hq
    cases rx
    cases ry
    obtain ⟨f, fd, ps, F, hm, hf, hk, hb⟩ := D1.ex
    obtain ⟨ox, od, J⟩ := insAt I hx
    obtain ⟨oy, oe, J'⟩ := insAt I hy
    obtain ⟨mm, hF⟩ := I.fr
    refine PySem.W.binop_K hF I.ok.mod.kin J J'.type hs hm hf (wpAny_mono (run_fnA (vs := [.ref r, .ref r']) F hr rfl hb (passes_call tk fun _ _ _ _ h => h) I (.cons rfl (.cons rfl .nil)) q) (fun rv s' hq' => ?_) fun _ _ z => z)
    obtain ⟨w, H', I', rw', q'⟩ := hq'
    exact q'.elim
  refine he_of (pe_op ho peb peb) (ha H s _ fun v S1 H1 g1 pv => (hb.up g1.st) H1 g1.sub _ fun w S2 H2 g2 pw => ?_)
  obtain ⟨r, dx, fs, rfl, h1⟩ := hA v S1 pv
  obtain ⟨r', dx', fs', rfl, h2⟩ := hB w S2 pw
  exact ⟨r, dx, fs, r', dx', fs', rfl, g2.sub _ _ (g2.st _ _ h1), rfl, g2.sub _ _ h2, hsp _ S2 H2 (g1.st.trans g2.st) g2.sub (.cons (Mn.up g2.st pv) (.cons pw .nil)) _ E (fun _ _ _ _ z => z.elim) fun k g o => (hx k g o).up (g1.trans g2)⟩
/-! ### statements -/
theorem hs_exprX (h : ER X E σ S e P O) (s : Same S H) (hx : ∀ k g, O k g → XErr X.K k g S H E) (q : ∀ v S' H', Gr S H S' H' → P v S' → HS X D rest σ H') (hs : swapsWith e none pos.line X.env = pure false := by rfl) : HS X D (.Expr e pos :: rest) σ H := hs_cons (ps_expr peb hs) (h H s hx _ q)
theorem hs_retX (h : ER X E σ S e P O) (s : Same S H) (hx : ∀ k g, O k g → XErr X.K k g S H E) (q : ∀ v S' H', Gr S H S' H' → P v S' → D.rt v H') : HS X D (.Return (some e) pos :: rest) σ H := hs_cons (ps_ret peb) (h H s hx _ q)
theorem hs_setX {i : Nat} {pos' : Pos} (h : ER X E σ S e P O) (s : Same S H) (hx : ∀ k g, O k g → XErr X.K k g S H E) (hN : X.N.Nodup) (q : ∀ v S' H', Gr S H S' H' → P v S' → HS X D rest (σ.set i (some v)) H') (hi : X.N[i]? = some x := by rfl) (hxl : Loc X.env.scope x := by first | exact Or.inl rfl | exact Or.inr rfl)
    (hs : swapsWith e (some (.Name x pos')) pos.line X.env = pure false := by rfl) (hf : X.fn x = true ∨ X.env.scope.names.lookup x = some .local := by first | exact .inl rfl | exact .inr rfl | assumption) : HS X D (.Assign [.Name x pos'] e pos :: rest) σ H :=
  hs_cons (ps_set hN hi hxl peb hs hf) (h H s hx _ q)
/-- raise C(e) -/
theorem hs_raiseX {ke : EK} {fname : Str} {G : PyData → Prop} (hc : X.calm = true) (tk : Takes X (fun cls d _ H => E cls d H)) (R : Err X.prog X.w X.K X.mg X.base x ke.C fname ke.code) (hfn : ke.fn = some fname) (hne : fname ≠ "code") (hr : Room 2 X.A) (ha : EE X σ S e (Ex X.K G)) (s : Same S H) (hx : ∀ g, G g → XErr X.K ke g S H E) (hg : Gl X x := by rfl)
    (hdb : (x == ("__debug__" : Str)) = false := by decide) (he : starEach [e] X.env = (false, eval e X.env) :: starEach [] X.env := by rfl) (hpl : (backTo pos (starEach [] X.env)).any (·.1) = false := by rfl) : HS X D (.Raise (some (.Call (.Name x p) [e] [] pos)) none pos2 :: rest) σ H :=
  hs_raiseO hc tk R hr ha s (fun v S1 H1 d H3 gr ⟨g, hgg, pv⟩ hd h1 h2 => by
    have n1 : S1 d = none := gr.sub.free hd
    refine hx g hgg d _ (upd S1 d (.xd [("code", .str ke.code), (fname, v)])) H3 ⟨gr.st.trans (Same.new n1), h1, gr.hh.trans h2, fun a o ha m => (upd_ne (ne_of_none ha (gr.hh.free hd))).trans (gr.old a o ha m)⟩ (gr.hh.free hd) upd_same rfl (fun z => by rw [hfn] at z; cases z) fun y hy => ?_
    rw [hfn] at hy
    cases hy
    refine ⟨v, ?_, pv.up (Same.new n1)⟩
    show (([("code", V.str ke.code), (fname, v)] : List (Str × V)).lookup fname) = some v
    have e1 : (fname == ("code" : Str)) = false := by simpa using hne
    simp [List.lookup, e1]) hg hdb he hpl
theorem hs_raise1 {ke : EK} {fname : Str} {g : PyData} (hc : X.calm = true) (tk : Takes X (fun cls d _ H => E cls d H)) (R : Err X.prog X.w X.K X.mg X.base x ke.C fname ke.code) (hfn : ke.fn = some fname) (hne : fname ≠ "code") (hr : Room 2 X.A) (ha : EE X σ S e (Dt X.K g)) (s : Same S H) (hx : XErr X.K ke g S H E) (hg : Gl X x := by rfl)
    (hdb : (x == ("__debug__" : Str)) = false := by decide) (he : starEach [e] X.env = (false, eval e X.env) :: starEach [] X.env := by rfl) (hpl : (backTo pos (starEach [] X.env)).any (·.1) = false := by rfl) : HS X D (.Raise (some (.Call (.Name x p) [e] [] pos)) none pos2 :: rest) σ H :=
  hs_raiseX (G := fun d => d = g) hc tk R hfn hne hr (ha.ex rfl) s (fun g' e => by subst e; exact hx) hg hdb he hpl
end
/-! ### kept lambdas that may raise -/
def spAsk (K : PySem.W.Frag) (W : List (Option V) → Hp → Prop) (P : V → Hp → Prop) (O : EK → PyData → Prop) : List (Option V) → Hp → VK → XK → Prop := fun ws H Q E => ∃ S, Same S H ∧ W ws S ∧ (∀ v S1 H1, Gr S H S1 H1 → P v S1 → Q v H1) ∧ ∀ k g, O k g → XErr K k g S H E
theorem lok_ask {P : Program} {w : World} {K : PySem.W.Frag} {mg : Str → Option Value} {base : Heap} {N ps fr : List Str} {F : LF} {f : Addr} {k : Nat} {dvs : List V} {W : List (Option V) → Hp → Prop} {Pv : V → Hp → Prop} {O : EK → PyData → Prop} (Sc : NScope N ps fr F.scope) (hB : LBind F ps) (hl : dvs.length = ps.length)
    (h : ∀ (A : Around) (outer : List Env) (s : Shared) (H : Hp) (ws : List (Option V)) (E : XK) (S : Hp), Room k (A.deeper (envF F.nf f s.heap.objs.size)) → ws.length = fr.length → W ws S → Takes (ncx (L2.CX P w) P w K mg base N F.nf f A outer s H E) (fun cls d _ H => E cls d H) → ER (ncx (L2.CX P w) P w K mg base N F.nf f A outer s H E) E (startF N dvs ws) S F.body Pv O) : LOk P w K mg base (L2.CX P w) (k + 1) f F fr dvs (spAsk K W Pv O) :=
  lok_of Sc hB hl fun A outer s H ws Q E hr hlen ⟨S, sS, hw, hq, hx⟩ => h A outer s H ws E S hr hlen hw (takes_of rfl rfl rfl rfl) H sS hx Q hq
end Y
namespace Y
open PySem PySem.Spec PyProof.Rows L2 Z
/-! ## staticmethods that may raise (after Y45, Y46) -/
end Y
namespace Y
open PySem PySem.Spec PyProof.Rows L2 L2H Z LamX NdefX
/-! ## what a caught error keeps: any kind -/
def fldAt : List Str := ["InvalidSystem", "InvalidFact", "InvalidFactor", "InvalidGroup", "InvalidClaim", "InvalidSums", "InvalidDeed", "InvalidCommand", "WrongSchema", "TooHigh", "EqualSums"]
def fldNm : List Str := ["InvalidName", "WrongKind", "DuplicateName", "UnknownName"]
def fldNo : List Str := ["InvalidText", "Boundless", "NoTable", "NotThere", "Empty", "NothingLeft"]
/-- the attribute that is read of an error with a code -/
def fieldOf (c : Str) : Option Str := if (fldAt.any fun m => decide (m = c)) = true then some "at" else if (fldNm.any fun m => decide (m = c)) = true then some "name" else if (fldNo.any fun m => decide (m = c)) = true then none else if decide (c = "InvalidPage") = true then some "line" else if decide (c = "WrongWidth") = true then some "width" else if decide (c = "TooMany") = true then some "most" else if decide (c = "Full") = true then some "limit" else some "given"
/-- what a kind of error must tell to be caught and read -/
structure KOk (K : PySem.W.Frag) (tup : List Value) (k : EK) : Prop where
  T : XfC K k.C
  cd : PySem.W.findIn K (.ref k.C) "code" = some none
  at_ : ∀ x, k.fn = some x → PySem.W.findIn K (.ref k.C) x = some none
  ex : PySem.W.exmAny K (.ref k.C) tup = some true
  fld : k.fn = fieldOf k.code
  nt : decide (k.code = "Tight") = false
  nb : decide (k.code = "BrokenClaim") = false
/-- the pinned exception is of the kind k, and keeps g -/
def ExcG (K : PySem.W.Frag) (k : EK) (g : PyData) (p : Addr × Obj) (S : Hp) : Prop := ∃ (dd : Addr) (fs : List (Str × V)), p.2.cls = .ref k.C ∧ p.2.dict = some dd ∧ (∃ vs, p.2.data = .fields vs) ∧ S dd = some (.xd fs) ∧ fs.lookup ("code" : Str) = some (V.str k.code) ∧ (k.fn = none → g = .none) ∧ ∀ x, k.fn = some x → ∃ v, fs.lookup x = some v ∧ Dt K g v S
theorem ExcG.up {K : PySem.W.Frag} {k : EK} {g : PyData} {p : Addr × Obj} {S S' : Hp} (h : ExcG K k g p S) (s : Same S S') : ExcG K k g p S' := by
  obtain ⟨dd, fs, h1, h2, h3, h4, h5, h6, h7⟩ := h
  exact ⟨dd, fs, h1, h2, h3, s _ _ h4, h5, h6, fun x hx => let ⟨v, a, b⟩ := h7 x hx; ⟨v, a, b.up s⟩⟩
section
variable {X : Cx} {σ : L2.St} {S : Hp} {e : Expr} {pos : Pos} {k : EK} {g : PyData} {p : Addr × Obj} {tup : List Value} {x : Str}
theorem ee_codeG (hp : p ∈ X.pn) (px : ExcG X.K k g p S) (ok : KOk X.K tup k) (he : EE X σ S e (fun w _ => w = .ref p.1)) (hb : attributeBase e "code" X.env (eval e X.env) = eval e X.env := by rfl) : EE X σ S (.Attribute e "code" pos) (Dt X.K (.str k.code)) := by
  obtain ⟨dd, fs, h1, h2, h3, h4, h5, _⟩ := px
  exact ee_xfP hp h1 h2 h3 ok.T ok.cd he h4 h5 (.str _) hb
theorem ee_keptG (hp : p ∈ X.pn) (px : ExcG X.K k g p S) (ok : KOk X.K tup k) (hx : k.fn = some x) (he : EE X σ S e (fun w _ => w = .ref p.1)) (hb : attributeBase e x X.env (eval e X.env) = eval e X.env := by rfl) : EE X σ S (.Attribute e x pos) (Dt X.K g) := by
  obtain ⟨dd, fs, h1, h2, h3, h4, _, _, h7⟩ := px
  obtain ⟨v, h8, h9⟩ := h7 x hx
  exact ee_xfP hp h1 h2 h3 ok.T (ok.at_ x hx) he h4 h8 h9 hb
end
def spFieldG (K : PySem.W.Frag) (tup : List Value) (p : Addr × Obj) (vs : List V) (H : Hp) (Q : VK) : Prop := ∃ S k g, Same S H ∧ vs = [.ref p.1] ∧ KOk K tup k ∧ ExcG K k g p S ∧ ∀ v S1 H1, Gr S H S1 H1 → Dt K g v S1 → Q v H1
section
variable {P : Program} {w : World} {K : PySem.W.Frag} {mg : Str → Option Value} {base : Heap}
/-- an ask: a kept lambda with what it may answer -/
structure AskI (P : Program) (w : World) (K : PySem.W.Frag) (mg : Str → Option Value) (base : Heap) (tup : List Value) (k : Nat) where
  Od : PyData → Prop
  O : EK → PyData → Prop
  f : Addr
  F : LF
  fr : List Str
  dvs : List V
  ws : List (Option V)
  L : List (Addr × Obj)
  sp : List (Option V) → Hp → VK → XK → Prop
  S0 : Hp
  lok : LOk P w K mg base (L2.CX P w) k f F fr dvs sp
  ok : ∀ e g, O e g → KOk K tup e
  hR : ∀ S2 H2 Q' E', Same S0 S2 → Same S2 H2 → (∀ v S1 H1, Gr S2 H2 S1 H1 → Ex K Od v S1 → Q' v H1) → (∀ e g, O e g → XErr K e g S2 H2 E') → sp ws H2 Q' E'
def AskJ {tup : List Value} {k : Nat} (it : AskI P w K mg base tup k) (v : V) (S : Hp) : Prop := v = .ref it.f ∧ Kept it.F it.f it.fr it.dvs it.ws it.L S ∧ Same it.S0 (delL S it.L)
theorem delL_mono : ∀ {L : List (Addr × Obj)} {S S' : Hp}, Same S S' → Same (delL S L) (delL S' L)
  | [], _, _, s => s
  | p :: L, S, S', s => delL_mono (L := L) (S := L2.del S p.1) (S' := L2.del S' p.1) fun b o e => by
      by_cases hb : b = p.1
      · rw [hb, L2.del_same] at e; cases e
      · rw [L2.del_ne hb] at e ⊢; exact s b o e
theorem shownL_sub {L : List (Addr × Obj)} {S : Hp} (h : ∀ p ∈ L, S p.1 = none) : Same S (shownL S L) := fun b o e => by
  have hb : b ∉ L.map (·.1) := fun z => by
    obtain ⟨p, hp, rfl⟩ := List.mem_map.mp z
    rw [h p hp] at e; cases e
  exact (shownL_ne hb).trans e
instance askMn {tup : List Value} {k : Nat} {it : AskI P w K mg base tup k} : Mn (AskJ it) := ⟨fun s ⟨h1, h2, h3⟩ => ⟨h1, h2.ext s, h3.trans (delL_mono s)⟩⟩
end
/-! ## lambdas in a list -/
def LamF (e : Expr) (qual : Str) (cells : List (Str × Addr)) (c : Addr) (dT : Option Addr) : LF := match e with
  | .Lambda params body scope _ => ⟨qual, params, body, scope, cloFrom cells scope.names [], c, dT⟩
  | e => ⟨qual, default, e, default, [], c, dT⟩
def LamSc (e : Expr) : Scope := match e with
  | .Lambda _ _ s _ => s
  | _ => default
/-- the lambda at f, in a state -/
def AskS (F : LF) (f : Addr) (dvs : List V) (S : Hp) : Prop := S f = some (LamO f F) ∧ S F.c = some (CodeO F.c F.qual) ∧ LDef F dvs S
theorem AskS.up {F : LF} {f : Addr} {dvs : List V} {S S' : Hp} (h : AskS F f dvs S) (s : Same S S') : AskS F f dvs S' := ⟨s _ _ h.1, s _ _ h.2.1, ⟨h.2.2.1, fun T e => s _ _ (h.2.2.2 T e)⟩⟩
theorem extN_trans {H1 H2 H3 : Hp} (a : ExtN H1 H2) (b : ExtN H2 H3) : ExtN H1 H3 := fun x o e n => b x o (a x o e n) n
theorem extN_new {H : Hp} {p : Addr} {o : HO} (h : H p = none) : ExtN H (upd H p o) := fun b u e _ => (upd_ne (ne_of_none e h)).trans e
theorem extN_refl {H : Hp} : ExtN H H := fun _ _ e _ => e
theorem codeO_ne' {c : Addr} {q : Str} (ps : Array Value) : CodeO c q ≠ .tbl ps := fun z => by unfold CodeO at z; cases z
theorem AskS.ext {F : LF} {f : Addr} {dvs : List V} {H H' : Hp} (h : AskS F f dvs H) (s : ExtN H H') : AskS F f dvs H' := ⟨s _ _ h.1 lamO_ne, s _ _ h.2.1 codeO_ne', ⟨h.2.2.1, fun T e => s _ _ (h.2.2.2 T e) (fun _ z => nomatch z)⟩⟩
theorem AskS.noTab {F : LF} {f : Addr} {dvs : List V} {H : Hp} (h : AskS F f dvs H) : AskS F f dvs (Y.noTab H) := ⟨noTab_at h.1 lamO_ne, noTab_at h.2.1 codeO_ne', ⟨h.2.2.1, fun T e => noTab_at (h.2.2.2 T e) (fun _ z => nomatch z)⟩⟩
/-- v is the lambda e (b: it has a default) -/
def AskE (cells : List (Str × Addr)) (q : Str) (e : Expr) (b : Bool) (v : V) (S : Hp) : Prop := ∃ f c dT, v = .ref f ∧ (b = false → dT = none) ∧ (b = true → ∃ T, dT = some T) ∧ AskS (LamF e q cells c dT) f (if b = true then [.int 0] else []) S
theorem AskE.ext {cells : List (Str × Addr)} {q : Str} {e : Expr} {b : Bool} {v : V} {H H' : Hp} (h : AskE cells q e b v H) (s : ExtN H H') : AskE cells q e b v H' := let ⟨f, c, dT, h1, h2, h3, h4⟩ := h; ⟨f, c, dT, h1, h2, h3, h4.ext s⟩
theorem AskE.noTab {cells : List (Str × Addr)} {q : Str} {e : Expr} {b : Bool} {v : V} {H : Hp} (h : AskE cells q e b v H) : AskE cells q e b v (Y.noTab H) := let ⟨f, c, dT, h1, h2, h3, h4⟩ := h; ⟨f, c, dT, h1, h2, h3, h4.noTab⟩
instance {cells : List (Str × Addr)} {q : Str} {e : Expr} {b : Bool} : Mn (AskE cells q e b) := ⟨fun s ⟨f, c, dT, h1, h2, h3, h4⟩ => ⟨f, c, dT, h1, h2, h3, h4.up s⟩⟩
abbrev AskEs (cells : List (Str × Addr)) (q : Str) (es : List (Expr × Bool)) : List (V → Hp → Prop) := es.map fun p => AskE cells q p.1 p.2
theorem askEs_ext {cells : List (Str × Addr)} {q : Str} {H H' : Hp} (s : ExtN H H') : ∀ {es : List (Expr × Bool)} {vs : List V}, Al (AskEs cells q es) vs H → Al (AskEs cells q es) vs H'
  | [], _, h => by cases h; exact .nil
  | _ :: _, _, h => by cases h with | cons a t => exact .cons (a.ext s) (askEs_ext s t)
theorem askEs_noTab {cells : List (Str × Addr)} {q : Str} {H : Hp} : ∀ {es : List (Expr × Bool)} {vs : List V}, Al (AskEs cells q es) vs H → Al (AskEs cells q es) vs (Y.noTab H)
  | [], _, h => by cases h; exact .nil
  | _ :: _, _, h => by cases h with | cons a t => exact .cons a.noTab (askEs_noTab t)
theorem askEs_up {cells : List (Str × Addr)} {q : Str} {H H' : Hp} (s : Same H H') : ∀ {es : List (Expr × Bool)} {vs : List V}, Al (AskEs cells q es) vs H → Al (AskEs cells q es) vs H'
  | [], _, h => by cases h; exact .nil
  | _ :: _, _, h => by cases h with | cons a t => exact .cons (Mn.up s a) (askEs_up s t)
theorem al_app {Ps Qs : List (V → Hp → Prop)} {vs ws : List V} {S : Hp} (h : Al Ps vs S) (g : Al Qs ws S) : Al (Ps ++ Qs) (vs ++ ws) S := by
  induction h with
  | nil => exact g
  | cons p _ ih => exact .cons p (ih g)
theorem ldef0 {F : LF} {H : Hp} (h : F.dT = none) : LDef F [] H := ⟨fun _ => rfl, fun T e => (by rw [h] at e; cases e)⟩
theorem ldef1 {F : LF} {H : Hp} {T : Addr} {dvs : List V} (h : F.dT = some T) (e : H T = some (.tup dvs)) : LDef F dvs H := ⟨fun q => (by rw [h] at q; cases q), fun T' q => (by rw [h] at q; cases q; exact e)⟩
/-- what is asked of a lambda's expression -/
structure LamOk (X : Cx) (e : Expr) (b : Bool) : Prop where
  ex : ∃ params body scope pos, e = .Lambda params body scope pos ∧ (∀ y ∈ scope.names, y.2 = .free → X.env.scope.names.lookup y.1 = some .cell ∨ X.env.scope.names.lookup y.1 = some .free) ∧ (b = false → defaultsOf params X.env = ([], [])) ∧ (b = true → ∃ p0 k0, defaultsOf params X.env = ([eval (.Constant (.int 0) k0 p0) X.env], []))
/-- the law's code table is told -/
structure TabU (X : Cx) (c Pt : Addr) (q : Str) : Prop where
  tab : TabB X.base X.mg c Pt
  code : X.env.code = .ref c
  qual : X.env.qual ++ "<lambda>" = q
/-! ## a call to which the running frame's cells are shown -/
theorem shownL_mono {L : List (Addr × Obj)} : ∀ {S H : Hp}, Same S H → Same (Y.shownL S L) (Y.shownL H L) := by
  induction L with
  | nil => intro S H s; exact s
  | cons q L ih => intro S H s; exact shown_same_sub (ih s)
theorem unshow_sub {L : List (Addr × Obj)} {S : Hp} (h : ∀ p ∈ L, S p.1 = none) : Same S (delL (Y.shownL S L) L) := fun b o e => by
  have hb : ∀ p ∈ L, p.1 ≠ b := fun p hp z => by rw [← z, h p hp] at e; cases e
  rw [delL_ne hb, shownL_ne (fun z => by obtain ⟨p, hp, q⟩ := List.mem_map.mp z; exact hb p hp q)]
  exact e
theorem clo_in {cells : List (Str × Addr)} {names : List (Str × NameKind)} {xs : List Str} (h : ∀ y ∈ names, y.2 = .free → y.1 ∈ xs) {y : Str} {c : Addr} (e : (cloFrom cells names []).lookup y = some c) : y ∈ xs := by
  rcases cloFrom_mem (PySem.mem_of_lookup e) with hm | ⟨h1, _⟩
  · cases hm
  · exact h _ h1 rfl
theorem kept_of {F : LF} {g : Addr} {fr : List Str} {dvs : List V} {ws : List (Option V)} {L : List (Addr × Obj)} {S : Hp} (h : AskS F g dvs S) (s : Same S (Y.shownL S L)) (nd : (L.map (·.1)).Nodup) (cl : CellsL F.cl fr ws L) : Kept F g fr dvs ws L (Y.shownL S L) :=
  ⟨s _ _ h.1, s _ _ h.2.1, ⟨h.2.2.1, fun T e => s _ _ (h.2.2.2 T e)⟩, fun p hp => shownL_at hp nd, nd, cl⟩
end Y
namespace Y
open PySem PySem.Spec PyProof.Rows L2 Z
/-! ## staticmethods def m(a, b, ..) of plain parameters, called x.m(e, ..) -/
structure KSP (P : Program) (w : World) (K : PySem.W.Frag) (mg : Str → Option Value) (base : Heap) (ctx : L2.CXT) (C : Addr) (m : Str) (k : Nat) (sp : Sp) : Prop where
  ex : ∃ (p g : Addr) (mc : Value) (fd : FuncData) (ps : List Str), ClX.CRead K C mc ∧ PySem.W.findCls K (.ref C) mc m = some (.get (.builtin "staticmethod.__get__") (.ref p) .none (.ref C)) ∧ (∃ rest, PySem.W.recIn K p "staticmethod" = some (.ref g :: rest)) ∧ PySem.W.keepIn K (.ref g) = true ∧ FnOk P w K mg base ctx k g fd ps sp ∧ Binds K fd ps []
section
variable {X : Cx} {σ : L2.St} {S : Hp} {e : Expr} {es : List Expr} {R : V → Hp → Prop} {Ps : List (V → Hp → Prop)} {pos p apos : Pos} {k : Nat} {x m : Str} {sp : Sp} {O : EK → PyData → Prop} {E : XK} {C : Addr}
theorem ee_staticP {pl : Sem Bool} (D : KSP X.prog X.w X.K X.mg X.base CX0 C m k sp) (hr : Room k X.A) (hxc : X.mg x = some (.ref C)) (ha : EA X σ S (e :: es) Ps) (hsp : SpE sp S Ps R) (hg : Gl X x := by rfl) (hd : (x == ("__debug__" : Str)) = false := by decide)
    (hpl : (backTo pos (starEach es X.env)).any (·.1) = false := by rfl) (hst : starEach (e :: es) X.env = (false, eval e X.env) :: starEach es X.env := by rfl)
    (ht : eval (.Call (.Attribute (.Name x p) m apos) (e :: es) [] pos) X.env = (do
      let ov ← eval (.Name x p) X.env
      standAt apos.atName
      let (f, first) ← holding [ov] (getMethod ov m pl)
      callWith pos f first (backTo pos (starEach (e :: es) X.env)) (backToKw pos (keywordEach [] X.env))) := by rfl) : EE X σ S (.Call (.Attribute (.Name x p) m apos) (e :: es) [] pos) R := fun H s Q q => by
  obtain ⟨p, g, mc, fd, ps, r, h1, h2, hk, F, hb⟩ := D.ex
  intro pins s0 I
  refine PySem.W.methodCall_KW (pl := pl) (ld_glob I hg hxc (get_static I r h1 h2 fun s1 I1 => ?_) hd) ht
  refine PySem.W.callWith_K (h₀ := X.base) (first := []) I.ok.mod.kin hk (thn (ha.2 H s (fun vs H1 => ∃ S1, Gr S H S1 H1 ∧ Al Ps vs S1) (fun vs S1 H1 g1 al => ⟨S1, g1, al⟩) pos pins s1 I1) fun us s2 ⟨vs, H1, I2, rv, S1, g1, al⟩ => ⟨I2.kIn, ?_⟩) hst hpl
  exact run_fn (dvs := []) (E := E0) F hr hb .nil pass0 I2 rv (by
    rw [List.append_nil]
    exact hsp vs S1 H1 g1.st g1.sub al Q fun u S3 H3 g3 rr => q u S3 H3 (g1.trans g3) rr)
theorem er_staticP {pl : Sem Bool} (tk : Takes X (fun cls d _ H => E cls d H)) (D : KSP X.prog X.w X.K X.mg X.base (L2.CX X.prog X.w) C m k sp) (hr : Room k X.A) (hxc : X.mg x = some (.ref C)) (ha : EA X σ S (e :: es) Ps) (hsp : SpO X.K sp S Ps R O) (hg : Gl X x := by rfl) (hd : (x == ("__debug__" : Str)) = false := by decide)
    (hpl : (backTo pos (starEach es X.env)).any (·.1) = false := by rfl) (hst : starEach (e :: es) X.env = (false, eval e X.env) :: starEach es X.env := by rfl)
    (ht : eval (.Call (.Attribute (.Name x p) m apos) (e :: es) [] pos) X.env = (do
      let ov ← eval (.Name x p) X.env
      standAt apos.atName
      let (f, first) ← holding [ov] (getMethod ov m pl)
      callWith pos f first (backTo pos (starEach (e :: es) X.env)) (backToKw pos (keywordEach [] X.env))) := by rfl) : ER X E σ S (.Call (.Attribute (.Name x p) m apos) (e :: es) [] pos) R O := fun H s hx Q q => by
  obtain ⟨p, g, mc, fd, ps, r, h1, h2, hk, F, hb⟩ := D.ex
  intro pins s0 I
  refine PySem.W.methodCall_KW (pl := pl) (ld_glob I hg hxc (get_static I r h1 h2 fun s1 I1 => ?_) hd) ht
  refine PySem.W.callWith_K (h₀ := X.base) (first := []) I.ok.mod.kin hk (thn (ha.2 H s (fun vs H1 => ∃ S1, Gr S H S1 H1 ∧ Al Ps vs S1) (fun vs S1 H1 g1 al => ⟨S1, g1, al⟩) pos pins s1 I1) fun us s2 ⟨vs, H1, I2, rv, S1, g1, al⟩ => ⟨I2.kIn, ?_⟩) hst hpl
  exact run_fn (dvs := []) F hr hb .nil (passes_call tk fun _ _ _ _ h => h) I2 rv (by
    rw [List.append_nil]
    exact hsp vs S1 H1 g1.st g1.sub al Q E (fun u S3 H3 g3 rr => q u S3 H3 (g1.trans g3) rr) fun k g o => (hx k g o).up g1)
end
end Y
namespace Y
open PySem PySem.Spec PyProof.Rows L2 L2H Z LamX NdefX
/-! ## what stays when cells and tables are hidden -/
def NF (o : HO) : Prop := (∀ x, o ≠ .frz x Tr) ∧ ∀ ps, o ≠ .tbl ps
def Les (S S' : Hp) : Prop := ∀ a o, S a = some o → NF o → S' a = some o
theorem les_same {S S' : Hp} (s : Same S S') : Les S S' := fun a o e _ => s a o e
theorem les_delL {S : Hp} {L : List (Addr × Obj)} (e : ∀ p ∈ L, S p.1 = some (.frz p.2 Tr)) : Les S (delL S L) := fun a o h n => (delL_ne fun p hp z => by
  rw [← z, e p hp] at h
  cases h
  exact n.1 _ rfl).trans h
theorem les_noTab {S : Hp} : Les S (Y.noTab S) := fun a o h n => noTab_at h n.2
class Rb (P : V → Hp → Prop) : Prop where
  rb : ∀ {v : V} {S S' : Hp}, Les S S' → P v S → P v S'
theorem Rb.mn {P : V → Hp → Prop} (r : Rb P) : Mn P := ⟨fun s h => r.rb (les_same s) h⟩
theorem dt_rb {K : PySem.W.Frag} {d : PyData} {v : V} {S S' : Hp} (h : Dt K d v S) (e : Les S S') : Dt K d v S' := by
  induction h with
  | non => exact .non
  | bl b => exact .bl b
  | int i => exact .int i
  | str x => exact .str x
  | lst h l z _ ih => exact .lst (e _ _ h ⟨(fun _ z => nomatch z), (fun _ z => nomatch z)⟩) l z fun i x d hx hd => ih i x d hx hd e
  | tup h l z _ ih =>
    refine .tup ?_ l z fun i x d hx hd => ih i x d hx hd e
    rcases h with h | ⟨e0, (h | ⟨o', h⟩) | h⟩
    · exact .inl (e _ _ h ⟨(fun _ z => nomatch z), (fun _ z => nomatch z)⟩)
    · exact .inl (e _ _ h ⟨(fun _ z => nomatch z), (fun _ z => nomatch z)⟩)
    · exact .inr ⟨e0, .inl (.inr ⟨o', (e _ _ h ⟨(fun _ z => nomatch z), (fun _ z => nomatch z)⟩)⟩)⟩
    · exact .inr ⟨e0, .inr h⟩
instance {K : PySem.W.Frag} {d : PyData} : Rb (Dt K d) := ⟨fun e h => dt_rb h e⟩
instance {K : PySem.W.Frag} {F : PyData → Prop} : Rb (Ex K F) := ⟨fun e ⟨d, hd, h⟩ => ⟨d, hd, dt_rb h e⟩⟩
def NoV : V → Hp → Prop := fun _ _ => False
instance : Rb NoV := ⟨fun _ h => h⟩
instance : Mn NoV := ⟨fun _ h => h⟩
theorem dts_rb {K : PySem.W.Frag} {ds : List PyData} {vs : List V} {S S' : Hp} (h : Dts K ds vs S) (e : Les S S') : Dts K ds vs S' := ⟨h.1, fun i x d hx hd => dt_rb (h.2 i x d hx hd) e⟩
/-! ## asks whose answers need not be data -/
/-- what an ask's answer is: a pair of "" and a value that has P, or the code and what the error keeps -/
def RtV (K : PySem.W.Frag) (P : V → Hp → Prop) (O : EK → PyData → Prop) (v : V) (S : Hp) : Prop := (∃ l u, v = .ref l ∧ S l = some (.tup [.str "", u]) ∧ P u S) ∨ ∃ k g, O k g ∧ Dt K (.tuple [.str k.code, g]) v S
theorem rtv_rb {K : PySem.W.Frag} {P : V → Hp → Prop} {O : EK → PyData → Prop} (m : Rb P) : Rb (RtV K P O) := ⟨fun s h => by
  rcases h with ⟨l, u, a, b, c⟩ | ⟨k, g, a, b⟩
  · exact .inl ⟨l, u, a, s _ _ b ⟨(fun _ z => nomatch z), (fun _ z => nomatch z)⟩, m.rb s c⟩
  · exact .inr ⟨k, g, a, dt_rb b s⟩⟩
section
variable {P : Program} {w : World} {K : PySem.W.Frag} {mg : Str → Option Value} {base : Heap}
def spTryV (P : Program) (w : World) (K : PySem.W.Frag) (mg : Str → Option Value) (base : Heap) (tup : List Value) (k : Nat) : Sp := fun vs H Q _ => ∃ S f F fr dvs ws L sp R O, Rb R ∧ vs = [.ref f] ∧ LOk P w K mg base (L2.CX P w) k f F fr dvs sp ∧ Kept F f fr dvs ws L H ∧ Same S (delL H L) ∧ (∀ e g, O e g → KOk K tup e) ∧
  (∀ Q' E', (∀ v S1 H1, Gr S (delL H L) S1 H1 → R v S1 → Q' v H1) → (∀ e g, O e g → XErr K e g S (delL H L) E') → sp ws (delL H L) Q' E') ∧ ∀ w S1 H1, Gr S H S1 H1 → RtV K R O w S1 → Q w H1
/-- an ask: a kept lambda with what it may answer -/
structure AskIV (P : Program) (w : World) (K : PySem.W.Frag) (mg : Str → Option Value) (base : Heap) (tup : List Value) (k : Nat) where
  R : V → Hp → Prop
  rb : Rb R
  O : EK → PyData → Prop
  f : Addr
  F : LF
  fr : List Str
  dvs : List V
  ws : List (Option V)
  L : List (Addr × Obj)
  sp : List (Option V) → Hp → VK → XK → Prop
  S0 : Hp
  lok : LOk P w K mg base (L2.CX P w) k f F fr dvs sp
  ok : ∀ e g, O e g → KOk K tup e
  hR : ∀ S2 H2 Q' E', Same S0 S2 → Same S2 H2 → (∀ v S1 H1, Gr S2 H2 S1 H1 → R v S1 → Q' v H1) → (∀ e g, O e g → XErr K e g S2 H2 E') → sp ws H2 Q' E'
def AskJV {tup : List Value} {k : Nat} (it : AskIV P w K mg base tup k) (v : V) (S : Hp) : Prop := v = .ref it.f ∧ Kept it.F it.f it.fr it.dvs it.ws it.L S ∧ Same it.S0 (delL S it.L)
instance askMnV {tup : List Value} {k : Nat} {it : AskIV P w K mg base tup k} : Mn (AskJV it) := ⟨fun s ⟨h1, h2, h3⟩ => ⟨h1, h2.ext s, h3.trans (delL_mono s)⟩⟩
theorem tryV_E {tup : List Value} {k : Nat} {S : Hp} (it : AskIV P w K mg base tup k) : SpE (spTryV P w K mg base tup k) S [AskJV it] (RtV K it.R it.O) := fun vs S1 H1 _ s al Q q => by
  obtain ⟨v, rfl, pv⟩ := al.one
  obtain ⟨rfl, KH, s0⟩ := pv
  refine ⟨delL S1 it.L, it.f, it.F, it.fr, it.dvs, it.ws, it.L, it.sp, it.R, it.O, it.rb, rfl, it.lok, KH.ext s, delL_mono s, it.ok, fun Q' E' hq hx => it.hR _ _ Q' E' s0 (delL_mono s) hq hx, fun w S2 H2 g2 pw => q w _ H2 (Y.Gr.under s KH.shw KH.nd g2) ((rtv_rb it.rb).rb (les_same (shownL_sub fun p hp => ?_)) pw)⟩
  rw [g2.old _ _ (s _ _ (KH.shw p hp)) (fun _ z => nomatch z)]
  exact delL_mem (List.mem_map_of_mem hp)
/-- _law_tries -/
def spTriesV (P : Program) (w : World) (K : PySem.W.Frag) (mg : Str → Option Value) (base : Heap) (tup : List Value) (k : Nat) : Sp := fun vs H Q _ => ∃ (S : Hp) (its : List (AskIV P w K mg base tup k)) (l : V), Same S H ∧ vs = [l] ∧ LstP (its.map AskJV) l S ∧ its.length ≤ 1000 ∧ ∀ u S1 H1, Gr S H S1 H1 → LstP (its.map fun it => RtV K it.R it.O) u S1 → Q u H1
end
/-! ## a list comprehension whose elements are of any kind -/
section
variable {α : Type} {R : α → V → Hp → Prop} {X : Cx} {σ : L2.St} {S : Hp} {elt tg iter : Expr} {ifs : List Expr} {scope : Scope} {own : List (Str × Nat)} {pos : Pos} {ds : List α} {G : α → V → Hp → Prop}
theorem al_map_up {ds : List α} (hG : ∀ d ∈ ds, Mn (G d)) {xs : List V} {S S' : Hp} (s : Same S S') (h : Al (ds.map G) xs S) : Al (ds.map G) xs S' := by
  induction ds generalizing xs with
  | nil => cases h; exact .nil
  | cons d ds ih =>
    rw [List.map_cons] at h ⊢
    cases h with
    | cons a t => exact .cons ((hG d List.mem_cons_self).up s a) (ih (fun x hx => hG x (List.mem_cons_of_mem _ hx)) t)
theorem al_snoc {Ps : List (V → Hp → Prop)} {P : V → Hp → Prop} {xs : List V} {x : V} {S : Hp} (h : Al Ps xs S) (p : P x S) : Al (Ps ++ [P]) (xs ++ [x]) S := by
  induction h with
  | nil => exact .cons p .nil
  | cons a _ ih => exact .cons a (ih p)
theorem lc_loopB (hG : ∀ d ∈ ds, Mn (G d)) (hz : ds.length ≤ sizeLine)
    (hel : ∀ d ∈ ds, ∀ v S', Same S S' → R d v S' → ∃ τ, wipe τ (own.map (·.2)) = wipe σ (own.map (·.2)) ∧ ∀ (s : Shared) (H0 : Hp) (C : Addr) (cl : List (Str × Addr)) (fp : List Addr),
      EG (X.blk s H0 scope (compEnvC scope cl C X.env) fp) S' tg v (wipe σ (own.map (·.2))) τ ∧ ETs (X.blk s H0 scope (compEnvC scope cl C X.env) fp) τ S' ifs true ∧ EE (X.blk s H0 scope (compEnvC scope cl C X.env) fp) τ S' elt (G d)) {H : Hp} (Q : VK) (q : ∀ v S' H', Gr S H S' H' → LstP (ds.map G) v S' → Q v H') {J : It} {S1 H1 : Hp} (g1 : Gr S H S1 H1) (it : ItP J S1 (ds.map R)) :
    ∀ D, H1 D = none → ∃ W : Nat → Nat → Hp → Prop, (∃ m, W 0 m (upd H1 D (.lst []))) ∧ ∀ i m H, W i m H →
      (J.stop i H ∧ Q (.ref D) H) ∨ (J.go i H ∧ ∃ Nx : Hp → Prop, (∀ H', Nx H' → ∃ m', m' < m ∧ W (i + 1) m' H') ∧ ∀ x H', J.yld i H x H' → gBlk X scope tg x (wipe σ (own.map (·.2))) H' fun σ2 H2 => wipe σ2 (own.map (·.2)) = wipe σ (own.map (·.2)) ∧ tBlk X scope ifs σ2 H2 fun b H3 =>
        if b = true then eBlk X scope elt σ2 H3 fun y H4 => ∃ acc, H4 D = some (.lst acc) ∧ acc.length < sizeLine ∧ Nx (upd H4 D (.lst (acc ++ [y]))) else Nx H3) := by
  intro D hD
  have hD1 : S1 D = none := g1.sub.free hD
  have hlen : (List.map R ds).length = ds.length := List.length_map ..
  refine lc_it (g := gBlk X scope tg) (tt := tBlk X scope ifs) (te := eBlk X scope elt) (vs := own.map (·.2)) (σ := σ) (Qd := Q (.ref D)) it (fun i H' => ∃ S' xs, Same S1 S' ∧ Same S' H' ∧ Same H1 H' ∧ (∀ a o, H1 a = some o → NT o → S' a = S1 a) ∧ S' D = none ∧ H' D = some (.lst xs) ∧ Al ((ds.take i).map G) xs S' ∧ xs.length ≤ i)
    ⟨S1, [], Same.refl _, Same.mut g1.sub hD1, Same.new hD, fun _ _ _ _ => rfl, hD1, upd_same, .nil, Nat.le_refl _⟩ (fun i H' _ ⟨S', _, a, b, _⟩ => a.trans b) ?_ ?_
  · intro i x H2 H3 hi2 ⟨S2, xs, k1, k2, k3, k4, k5, k6, k8, k9⟩ y
    rw [hlen] at hi2
    obtain ⟨S3, g3, P, hP, px⟩ := y S2 k1 k2
    obtain ⟨d, hd⟩ : ∃ d, ds[i]? = some d := ⟨ds[i], List.getElem?_eq_getElem hi2⟩
    rw [List.getElem?_map, hd] at hP
    obtain rfl := Option.some.inj hP
    have sS3 : Same S S3 := g1.st.trans (k1.trans g3.st)
    obtain ⟨τ, hw, hb⟩ := hel d (List.mem_of_getElem? hd) x S3 sS3 px
    intro sh H0 C cl fp
    refine (hb sh H0 C cl fp).1 H3 g3.sub _ ⟨hw, ?_⟩
    intro sh' H0' C' cl' fp'
    refine (hb sh' H0' C' cl' fp').2.1 H3 g3.sub _ fun S4 H4 g4 => ?_
    have g34 := g3.trans g4
    refine iteT ?_
    intro sh'' H0'' C'' cl'' fp''
    haveI := hG d (List.mem_of_getElem? hd)
    refine (EE.up g4.st (hb sh'' H0'' C'' cl'' fp'').2.2) H4 g4.sub _ fun w S5 H5 g5 hrw => ?_
    have g := g34.trans g5
    have hD5 : S5 D = none := (g.old D _ k6 (fun _ z => nomatch z)).trans k5
    refine ⟨xs, g.hh _ _ k6, Nat.lt_of_le_of_lt k9 (Nat.lt_of_lt_of_le hi2 hz), S5, xs ++ [w], k1.trans g.st, Same.mut g.sub hD5, fun a o h => ?_, fun a o h n => (g.old a o (k3 a o h) n).trans (k4 a o h n), hD5, upd_same, ?_, by rw [List.length_append]; show xs.length + 1 ≤ i + 1; omega⟩
    · rw [upd_ne (ne_of_none h hD)]; exact g.hh _ _ (k3 a o h)
    · rw [take_snoc hd, List.map_append]
      exact al_snoc (al_map_up (fun d hd => hG d (List.mem_of_mem_take hd)) g.st k8) hrw
  · intro H2 ⟨S2, xs, k1, k2, k3, k4, k5, k6, k8, k9⟩
    rw [hlen] at k8 k9
    rw [List.take_length] at k8
    refine q _ (upd S2 D (.lst xs)) H2 (g1.trans ⟨k1.trans (Same.new k5), fun a o h => ?_, k3, fun a o h n => by rw [upd_ne (ne_of_none h hD)]; exact k4 a o h n⟩) ⟨D, xs, rfl, upd_same, al_map_up hG (Same.new k5) k8⟩
    by_cases ha : a = D
    · subst ha; rw [upd_same] at h; rw [k6]; exact h
    · rw [upd_ne ha] at h; exact k2 a o h
theorem lc_readB (hG : ∀ d ∈ ds, Mn (G d)) (hi : EI X σ S tg iter (ds.map R)) (hz : ds.length ≤ sizeLine)
    (hel : ∀ d ∈ ds, ∀ v S', Same S S' → R d v S' → ∃ τ, wipe τ (own.map (·.2)) = wipe σ (own.map (·.2)) ∧ ∀ (s : Shared) (H0 : Hp) (C : Addr) (cl : List (Str × Addr)) (fp : List Addr),
      EG (X.blk s H0 scope (compEnvC scope cl C X.env) fp) S' tg v (wipe σ (own.map (·.2))) τ ∧ ETs (X.blk s H0 scope (compEnvC scope cl C X.env) fp) τ S' ifs true ∧ EE (X.blk s H0 scope (compEnvC scope cl C X.env) fp) τ S' elt (G d)) {H : Hp} (s : Same S H) (Q : VK) (q : ∀ v S' H', Gr S H S' H' → LstP (ds.map G) v S' → Q v H') :
    tLc (bI X tg iter) (gBlk X scope tg) (tBlk X scope ifs) (eBlk X scope elt) (own.map (·.2)) σ H Q := hi H s _ fun J S1 H1 g1 it => lc_loopB hG hz hel Q q g1 it
theorem ee_lcB (hG : ∀ d ∈ ds, Mn (G d)) (hc : X.calm = true) (hN : X.N.Nodup) (ok : BlkOk X.N X.env.scope scope own) (hi : EI X σ S tg iter (ds.map R)) (hz : ds.length ≤ sizeLine)
    (hel : ∀ d ∈ ds, ∀ v S', Same S S' → R d v S' → ∃ τ, wipe τ (own.map (·.2)) = wipe σ (own.map (·.2)) ∧ ∀ (s : Shared) (H0 : Hp) (C : Addr) (cl : List (Str × Addr)) (fp : List Addr),
      EG (X.blk s H0 scope (compEnvC scope cl C X.env) fp) S' tg v (wipe σ (own.map (·.2))) τ ∧ ETs (X.blk s H0 scope (compEnvC scope cl C X.env) fp) τ S' ifs true ∧ EE (X.blk s H0 scope (compEnvC scope cl C X.env) fp) τ S' elt (G d))
    (hs : ∀ x, foldedSetIterable iter X.env x = pure x := by intro _; rfl) :
    EE X σ S (.ListComp elt [⟨tg, iter, ifs, 0⟩] scope pos) (LstP (ds.map G)) := fun H s Q q =>
  he_of (pe_lc (own := own) (wi := bI X tg iter) (g := gBlk X scope tg) (tt := tBlk X scope ifs) (te := eBlk X scope elt) hc hN pib ok
    (fun s H0 C cl fp => ⟨fun pins sh σ' H' v u Q' I r h => h s H0 C cl fp pins sh u I r⟩) (fun s H0 C cl fp => ⟨fun pins sh σ' H' Q' I h => h s H0 C cl fp pins sh I⟩) (fun s H0 C cl fp => ⟨fun pins sh σ' H' Q' I h => h s H0 C cl fp pins sh I⟩) hs) (lc_readB hG hi hz hel s Q q)
end
/-! ## a call to which the running frame's cells are shown -/
section
variable {X : Cx} {σ : L2.St} {S H : Hp} {e : Expr} {es : List Expr} {x : Str} {k : Nat} {sp : Sp} {p pos : Pos} {R : V → Hp → Prop} {Q : VK}
theorem he_callCellsV (hR : Rb R) (xs : List Str) (hxs : xs.Nodup) (hk : ∀ y ∈ xs, X.env.scope.names.lookup y = some .cell ∧ X.fn y = true) (D : KD X.prog X.w X.K X.mg X.base x k sp) (hr : Room k X.A)
    (ha : HA X (e :: es) σ H fun vs H1 => ∃ S1, Same S1 H1 ∧ (X.Ok → ∀ L, CellsOf X σ xs L → (∀ p ∈ L, H1 p.1 = none) → ∀ Q' : VK, (∀ v S2 H2, Gr (Y.shownL S1 L) (Y.shownL H1 L) S2 H2 → R v S2 → Q' v H2) → sp vs (Y.shownL H1 L) Q' E0) ∧ ∀ v S2 H2, Gr S1 H1 S2 H2 → R v S2 → Q v H2)
    (hg : Gl X x := by rfl) (hdb : (x == ("__debug__" : Str)) = false := by decide) (he : starEach (e :: es) X.env = (false, eval e X.env) :: starEach es X.env := by rfl) (hpl : (backTo pos (starEach es X.env)).any (·.1) = false := by rfl) : HE X (.Call (.Name x p) (e :: es) [] pos) σ H Q := fun pins s0 I => by
  obtain ⟨f, fd, ps, F1, hm, hkp, hb⟩ := D.ex
  refine wpAny_Call_Name_kw (ld_glob I hg hm ?_ hdb)
  refine PySem.W.callWith_K (h₀ := X.base) I.ok.mod.kin hkp (thn (ha pos pins s0 I) fun us s1 ⟨vs, H1, I1, r, S1, s, hsp, q⟩ => ⟨I1.kIn, ?_⟩) he hpl
  obtain ⟨L, C, hsh⟩ := cells_show I1 hxs hk
  refine run_shown F1 hr hb .nil pass0 hides0 I1 r hsh C.nd ?_
  rw [List.append_nil]
  exact hsp I1.ok L C (fun p hp => (hsh p hp).no) _ fun v S2 H2 g2 pv => q v (delL S2 L) (delL H2 L) (gr_unshownL s (fun p hp => (hsh p hp).no) C.nd g2) (hR.rb (les_delL fun p hp => g2.st _ _ (shownL_at hp C.nd)) pv)
end
/-- an ask of the law: the lambda e, what its captured names hold, what it answers -/
structure AskV (X : Cx) (q : Str) (tup : List Value) (k : Nat) (σ : L2.St) (xs : List Str) (S : Hp) where
  e : Expr
  b : Bool
  fr : List Str
  js : List Nat
  R : V → Hp → Prop
  rb : Rb R
  O : EK → PyData → Prop
  W : List (Option V) → Hp → Prop
  lam : ∃ params body scope pos, e = .Lambda params body scope pos
  lok : ∀ f c dT, (b = false → dT = none) → (b = true → ∃ T, dT = some T) → LOk X.prog X.w X.K X.mg X.base (L2.CX X.prog X.w) k f (LamF e q X.env.cells c dT) fr (if b = true then [.int 0] else []) (spAsk X.K W R O)
  free : ∀ y ∈ (LamSc e).names, y.2 = .free → X.env.scope.names.lookup y.1 = some .cell ∨ X.env.scope.names.lookup y.1 = some .free
  sub : ∀ y ∈ (LamSc e).names, y.2 = .free → y.1 ∈ xs
  hfr : ∀ y ∈ fr, (y, NameKind.free) ∈ (LamSc e).names
  hjs : js.map (fun j => X.N[j]?) = fr.map some
  ok : ∀ e g, O e g → KOk X.K tup e
  hW : ∀ S', Same S S' → W (js.map (slotAt σ)) S'
/-- a kept ask, from its description -/
theorem askV_mk {X : Cx} {q : Str} {tup : List Value} {k : Nat} {σ : L2.St} {xs : List Str} {S S1 : Hp} {L : List (Addr × Obj)} (ok : X.Ok) (Cs : CellsOf X σ xs L) (s0 : Same S S1) (hn : ∀ p ∈ L, S1 p.1 = none) (it : AskV X q tup k σ xs S) {v : V} (h : AskE X.env.cells q it.e it.b v S1) :
    ∃ i : AskIV X.prog X.w X.K X.mg X.base tup k, i.R = it.R ∧ i.O = it.O ∧ AskJV i v (Y.shownL S1 L) := by
  obtain ⟨f, c, dT, rfl, h0, h1, ha⟩ := h
  have hS : Same S1 (Y.shownL S1 L) := shownL_sub hn
  have hU : Same S1 (delL (Y.shownL S1 L) L) := unshow_sub hn
  obtain ⟨params, body, scope, pos, he⟩ := it.lam
  have hcl : (LamF it.e q X.env.cells c dT).cl = cloFrom X.env.cells (LamSc it.e).names [] := by rw [he]; rfl
  have kc := cellsL_of (js := it.js) (fr := it.fr) (cl := (LamF it.e q X.env.cells c dT).cl) ok Cs (by rw [hcl]; exact Caps.made ok it.free it.hfr it.hjs) (fun y c' e => by rw [hcl] at e; exact clo_in it.sub e) (fun y hy => it.sub (y, .free) (it.hfr y hy) rfl)
  exact ⟨⟨it.R, it.rb, it.O, f, LamF it.e q X.env.cells c dT, it.fr, _, it.js.map (slotAt σ), L, spAsk X.K it.W it.R it.O, S1, it.lok f c dT h0 h1, it.ok, fun S2 H2 Q' E' s02 s22 hq hx => ⟨S2, s22, it.hW S2 (s0.trans s02), hq, hx⟩⟩, rfl, rfl, rfl, kept_of ha hS Cs.nd kc, hU⟩
theorem asksV_mk {X : Cx} {q : Str} {tup : List Value} {k : Nat} {σ : L2.St} {xs : List Str} {S S1 : Hp} {L : List (Addr × Obj)} (ok : X.Ok) (Cs : CellsOf X σ xs L) (s0 : Same S S1) (hn : ∀ p ∈ L, S1 p.1 = none) : ∀ (its : List (AskV X q tup k σ xs S)) {vs : List V}, Al (AskEs X.env.cells q (its.map fun it => (it.e, it.b))) vs S1 →
    ∃ is : List (AskIV X.prog X.w X.K X.mg X.base tup k), is.map (fun i => RtV X.K i.R i.O) = its.map (fun i => RtV X.K i.R i.O) ∧ Al (is.map AskJV) vs (Y.shownL S1 L)
  | [], _, h => by cases h; exact ⟨[], rfl, .nil⟩
  | it :: its, _, h => by
    cases h with
    | cons a t =>
      obtain ⟨i, e1, e2, h1⟩ := askV_mk ok Cs s0 hn it a
      obtain ⟨is, e3, h2⟩ := asksV_mk ok Cs s0 hn its t
      refine ⟨i :: is, ?_, .cons h1 h2⟩
      rw [List.map_cons, List.map_cons, e3, e1, e2]
theorem al_rb {Ps : List (V → Hp → Prop)} (h : ∀ P ∈ Ps, Rb P) {xs : List V} {S S' : Hp} (s : Les S S') (a : Al Ps xs S) : Al Ps xs S' := by
  induction a with
  | nil => exact .nil
  | cons p _ ih => exact .cons ((h _ List.mem_cons_self).rb s p) (ih (fun P hP => h P (List.mem_cons_of_mem _ hP)) s)
theorem lstP_rb {Ps : List (V → Hp → Prop)} (h : ∀ P ∈ Ps, Rb P) : Rb (LstP Ps) := ⟨fun s ⟨l, xs, a, b, c⟩ => ⟨l, xs, a, s _ _ b ⟨(fun _ z => nomatch z), (fun _ z => nomatch z)⟩, al_rb h s c⟩⟩
section
variable {X : Cx} {σ : L2.St} {S H : Hp} {q : Str} {tup : List Value} {k : Nat} {xs : List Str} {x y : Str} {p p2 pos : Pos} {i : Nat} {l : Addr} {vs : List V}
/-- _law_tries(asks) -/
theorem ee_triesV (hxs : xs.Nodup) (hk : ∀ y ∈ xs, X.env.scope.names.lookup y = some .cell ∧ X.fn y = true) (D : KD X.prog X.w X.K X.mg X.base x (k + 3) (spTriesV X.prog X.w X.K X.mg X.base tup k)) (hr : Room (k + 3) X.A) (its : List (AskV X q tup k σ xs S)) (hz : its.length ≤ 1000) (hv : σ[i]? = some (some (.ref l))) (hl : S l = some (.lst vs)) (al : Al (AskEs X.env.cells q (its.map fun it => (it.e, it.b))) vs S)
    (hi : X.N[i]? = some y := by rfl) (hvis : Vis X.env.scope y := by first | exact Or.inl rfl | exact Or.inr (Or.inl rfl)) (hd : (y == ("__debug__" : Str)) = false := by decide) (hcd : (y == ("__classdict__" : Str)) = false := by decide) (hg : Gl X x := by rfl) (hdb : (x == ("__debug__" : Str)) = false := by decide) (he : starEach [.Name y p2] X.env = (false, eval (.Name y p2) X.env) :: starEach [] X.env := by rfl) (hpl : (backTo pos (starEach [] X.env)).any (·.1) = false := by rfl) :
    EE X σ S (.Call (.Name x p) [.Name y p2] [] pos) (LstP (its.map fun it => RtV X.K it.R it.O)) := fun H s Q qq => by
  refine he_callCellsV (R := LstP (its.map fun it => RtV X.K it.R it.O)) (lstP_rb fun P hP => ?_) xs hxs hk D hr (ha_of (pa_cons (te := bE X (.Name y p2)) (t := tNil) peb pa_nil he) (he_of (pe_var (i := i) hi hvis hd hcd) ⟨.ref l, hv, ?_⟩)) hg hdb he hpl
  · obtain ⟨it, _, rfl⟩ := List.mem_map.mp hP
    exact rtv_rb it.rb
  refine ⟨S, s, fun ok L C hn Q' q' => ?_, fun v S2 H2 g pv => qq v S2 H2 g pv⟩
  obtain ⟨is, e, h2⟩ := asksV_mk ok C (Same.refl S) (fun p hp => s.free (hn p hp)) its al
  refine ⟨Y.shownL S L, is, .ref l, shownL_mono s, rfl, ⟨l, vs, rfl, shownL_sub (fun p hp => s.free (hn p hp)) _ _ hl, h2⟩, ?_, fun u S1 H1 g h3 => q' u S1 H1 g (by rw [← e]; exact h3)⟩
  have := congrArg List.length e
  rw [List.length_map, List.length_map] at this
  rw [this]; exact hz
end
end Y
namespace Y
open PySem PySem.Spec PyProof.Rows L2 L2H Z LamX NdefX
/-! ## pairs of things of any kind -/
class Mn2 (P : V → V → Hp → Prop) : Prop where
  up : ∀ {v u : V} {H H' : Hp}, Same H H' → P v u H → P v u H'
/-- a pair whose parts are as P says -/
def PrP (P : V → V → Hp → Prop) (v : V) (S : Hp) : Prop := ∃ l a b, v = .ref l ∧ S l = some (.tup [a, b]) ∧ P a b S
instance {P : V → V → Hp → Prop} [m : Mn2 P] : Mn (PrP P) := ⟨fun s ⟨l, a, b, h1, h2, h3⟩ => ⟨l, a, b, h1, s _ _ h2, m.up s h3⟩⟩
/-- the xs and the ys are as the Rs say, one by one -/
inductive Al2 : List (V → V → Hp → Prop) → List V → List V → Hp → Prop
  | nil {H : Hp} : Al2 [] [] [] H
  | cons {P : V → V → Hp → Prop} {Ps : List (V → V → Hp → Prop)} {v u : V} {vs us : List V} {H : Hp} : P v u H → Al2 Ps vs us H → Al2 (P :: Ps) (v :: vs) (u :: us) H
theorem al2_len {Ps : List (V → V → Hp → Prop)} {xs ys : List V} {H : Hp} (h : Al2 Ps xs ys H) : xs.length = Ps.length ∧ ys.length = Ps.length := by
  induction h with
  | nil => exact ⟨rfl, rfl⟩
  | cons _ _ ih => exact ⟨by rw [List.length_cons, List.length_cons, ih.1], by rw [List.length_cons, List.length_cons, ih.2]⟩
theorem al2_get {Ps : List (V → V → Hp → Prop)} {xs ys : List V} {H : Hp} (h : Al2 Ps xs ys H) : ∀ {i : Nat} {x y : V}, xs[i]? = some x → ys[i]? = some y → ∃ P, Ps[i]? = some P ∧ P x y H := by
  induction h with
  | nil => intro i x y e; cases e
  | cons p _ ih =>
    intro i x y e1 e2
    cases i with
    | zero => cases e1; cases e2; exact ⟨_, rfl, p⟩
    | succ i => exact ih e1 e2
theorem al2_up {Ps : List (V → V → Hp → Prop)} (hP : ∀ P ∈ Ps, Mn2 P) {xs ys : List V} {H H' : Hp} (s : Same H H') (h : Al2 Ps xs ys H) : Al2 Ps xs ys H' := by
  induction h with
  | nil => exact .nil
  | cons p _ ih => exact .cons ((hP _ List.mem_cons_self).up s p) (ih (fun P h => hP P (List.mem_cons_of_mem _ h)) s)
section
variable {X : Cx} {σ : L2.St} {S : Hp} {a b e : Expr} {p pos : Pos} {Rs : List (V → V → Hp → Prop)} {l m : Addr} {xs ys : List V}
theorem ei_zipLP {elts : List Expr} {kk : Nat} {tpos : Pos} (hM : ∀ P ∈ Rs, Mn2 P) (hm : X.mg "zip" = none) (hl : S l = some (.lst xs)) (hk : S m = some (.lst ys)) (al : Al2 Rs xs ys S) (ha : EE X σ S a (fun w _ => w = .ref l)) (hb : EE X σ S b (fun w _ => w = .ref m)) (hg : Gl X "zip" := by rfl)
    (hs : starEach [a, b] X.env = (false, eval a X.env) :: starEach [b] X.env := by rfl) (hs2 : starEach [b] X.env = (false, eval b X.env) :: starEach [] X.env := by rfl) (hpl : (backTo pos (starEach [b] X.env)).any (·.1) = false := by rfl) :
    EI X σ S (.Tuple elts kk tpos) (.Call (.Name "zip" p) [a, b] [] pos) (Rs.map PrP) := fun H s R q => by
  haveI : ∀ c : Addr, Mn (fun (w : V) (_ : Hp) => w = .ref c) := fun _ => ⟨fun _ h => h⟩
  refine hi_of (RZ.pi_zipA hg hm pab hs hpl) ((ea_2 ha hb hs hs2).2 H s _ fun vs S1 H1 g1 al' => ?_)
  obtain ⟨v, w, rfl, rfl, rfl⟩ := al'.two
  obtain ⟨z1, z2⟩ := al2_len al
  have hlen : (Rs.map PrP).length = min xs.length ys.length := by rw [List.length_map, z1, z2]; omega
  have hl1 := g1.st _ _ hl
  have hk1 := g1.st _ _ hk
  refine ⟨l, m, xs, ys, rfl, .inl ⟨sql_of (g1.sub _ _ hl1), sql_of (g1.sub _ _ hk1), q _ S1 H1 g1 ⟨fun i H hi hs => ?_, fun H hs => ?_, fun i H x H' hi hs y T st th => ?_⟩⟩⟩
  · rw [hlen] at hi
    exact ⟨xs, ys, xs[i]'(by omega), ys[i]'(by omega), sql_of (hs _ _ hl1), sql_of (hs _ _ hk1), by simp [show i < xs.length by omega], by simp [show i < ys.length by omega]⟩
  · rw [hlen]
    exact ⟨xs, ys, sql_of (hs _ _ hl1), sql_of (hs _ _ hk1), by omega⟩
  · rw [hlen] at hi
    obtain ⟨t, x1, y1, rfl, ht, rfl, k1, k2⟩ := y
    obtain ⟨P, e1, e2⟩ := al2_get al (k1 xs (sql_of (hs _ _ hl1))) (k2 ys (sql_of (hs _ _ hk1)))
    haveI := hM P (List.mem_of_getElem? e1)
    refine ⟨_, Gr.new th ht, PrP P, by rw [List.getElem?_map, e1]; rfl, t, x1, y1, rfl, upd_same, Mn2.up ((g1.st.trans st).trans (Same.new (th.free ht))) e2⟩
theorem ei_zipTP {elts : List Expr} {kk : Nat} {tpos : Pos} (hM : ∀ P ∈ Rs, Mn2 P) (hm : X.mg "zip" = none) (hl : S l = some (.tup xs)) (hk : S m = some (.tup ys)) (al : Al2 Rs xs ys S) (ha : EE X σ S a (fun w _ => w = .ref l)) (hb : EE X σ S b (fun w _ => w = .ref m)) (hg : Gl X "zip" := by rfl)
    (hs : starEach [a, b] X.env = (false, eval a X.env) :: starEach [b] X.env := by rfl) (hs2 : starEach [b] X.env = (false, eval b X.env) :: starEach [] X.env := by rfl) (hpl : (backTo pos (starEach [b] X.env)).any (·.1) = false := by rfl) :
    EI X σ S (.Tuple elts kk tpos) (.Call (.Name "zip" p) [a, b] [] pos) (Rs.map PrP) := fun H s R q => by
  haveI : ∀ c : Addr, Mn (fun (w : V) (_ : Hp) => w = .ref c) := fun _ => ⟨fun _ h => h⟩
  refine hi_of (RZ.pi_zipA hg hm pab hs hpl) ((ea_2 ha hb hs hs2).2 H s _ fun vs S1 H1 g1 al' => ?_)
  obtain ⟨v, w, rfl, rfl, rfl⟩ := al'.two
  obtain ⟨z1, z2⟩ := al2_len al
  have hlen : (Rs.map PrP).length = min xs.length ys.length := by rw [List.length_map, z1, z2]; omega
  have hl1 := g1.st _ _ hl
  have hk1 := g1.st _ _ hk
  refine ⟨l, m, xs, ys, rfl, .inr ⟨sqt_of (g1.sub _ _ hl1), sqt_of (g1.sub _ _ hk1), q _ S1 H1 g1 ⟨fun i H hi hs => ?_, fun H hs => ?_, fun i H x H' hi hs y T st th => ?_⟩⟩⟩
  · rw [hlen] at hi
    exact ⟨xs, ys, xs[i]'(by omega), ys[i]'(by omega), sqt_of (hs _ _ hl1), sqt_of (hs _ _ hk1), by simp [show i < xs.length by omega], by simp [show i < ys.length by omega]⟩
  · rw [hlen]
    exact ⟨xs, ys, sqt_of (hs _ _ hl1), sqt_of (hs _ _ hk1), by omega⟩
  · rw [hlen] at hi
    obtain ⟨t, x1, y1, rfl, ht, rfl, k1, k2⟩ := y
    obtain ⟨P, e1, e2⟩ := al2_get al (k1 xs (sqt_of (hs _ _ hl1))) (k2 ys (sqt_of (hs _ _ hk1)))
    haveI := hM P (List.mem_of_getElem? e1)
    refine ⟨_, Gr.new th ht, PrP P, by rw [List.getElem?_map, e1]; rfl, t, x1, y1, rfl, upd_same, Mn2.up ((g1.st.trans st).trans (Same.new (th.free ht))) e2⟩
/-- two names from a pair -/
theorem eg_pairP {v1 v2 : V} {i j : Nat} {x y : Str} {px py pos : Pos} {kk : Nat} (hc : X.calm = true) (hN : X.N.Nodup) (hi : X.N[i]? = some x) (hj : X.N[j]? = some y) (hx : Loc X.env.scope x) (hy : Loc X.env.scope y) (hl : S l = some (.tup [v1, v2]))
    (hfx : X.fn x = true ∨ X.env.scope.names.lookup x = some .local := by first | exact .inl rfl | exact .inr rfl) (hfy : X.fn y = true ∨ X.env.scope.names.lookup y = some .local := by first | exact .inl rfl | exact .inr rfl)
    (hn : (assignEach [.Name x px, .Name y py] X.env).length = 2 := by rfl) (hst : (assignEach [.Name x px, .Name y py] X.env).findIdx? (·.1) = none := by rfl)
    (h1 : (assignEach [.Name x px, .Name y py] X.env).map (·.2) = assign (.Name x px) X.env :: (assignEach [.Name y py] X.env).map (·.2) := by rfl) (h2 : (assignEach [.Name y py] X.env).map (·.2) = assign (.Name y py) X.env :: (assignEach [] X.env).map (·.2) := by rfl) :
    EG X S (.Tuple [.Name x px, .Name y py] kk pos) (.ref l) σ ((σ.set i (some v1)).set j (some v2)) := fun H s Q q =>
  hg_of (pg_tup hc (pgs_cons (pg_name hN hi hx hfx) (pgs_cons (pg_name hN hj hy hfy) pgs_nil h2) h1) hn hst) ⟨l, _, rfl, sqt_up s (sqt_of hl), rfl, _, _, rfl, _, _, rfl, rfl, q⟩
/-! ## displays of things of any kind -/
def TupP (Ps : List (V → Hp → Prop)) (v : V) (S : Hp) : Prop := ∃ l xs, v = .ref l ∧ S l = some (.tup xs) ∧ Al Ps xs S
theorem ee_tupP {es : List Expr} {x1} {Ps : List (V → Hp → Prop)} (h : EA X σ S es Ps) (hz : Ps.length ≤ sizeLine := by show _ ≤ 16777216; exact Nat.le_of_ble_eq_true rfl) : EE X σ S (.Tuple es x1 pos) (TupP Ps) :=
  ee_tupA (vsP := Al Ps) h.2 (fun vs S' al => by rw [al_len al]; exact hz) fun vs S' p _ hp al => ⟨p, vs, rfl, upd_same, al.up h.1 (Same.new hp)⟩
theorem ee_lstP {es : List Expr} {Ps : List (V → Hp → Prop)} (h : EA X σ S es Ps) (hz : Ps.length ≤ sizeLine := by show _ ≤ 16777216; exact Nat.le_of_ble_eq_true rfl) : EE X σ S (.List es pos) (LstP Ps) :=
  ee_lstA (vsP := Al Ps) h.2 (fun vs S' al => by rw [al_len al]; exact hz) fun vs S' p _ hp al => ⟨p, vs, rfl, upd_same, al.up h.1 (Same.new hp)⟩
/-- isinstance(e, T) of any thing whose type is told -/
theorem ee_isiB {cn : Str} {T : String} {k : Bool} {Pa : V → Hp → Prop} [Mn Pa] (hm : X.mg "isinstance" = none) (hmT : X.mg cn = none) (hv : bootBuiltins cn = some (.type T)) (ha : EE X σ S a Pa) (ht : ∀ v S1 H1, Same S1 H1 → Pa v S1 → ∃ t, TyX X.K H1 v t ∧ PySem.W.kitOne X.K t (.type T) = some k) {p2 : Pos} (hg : Gl X "isinstance" := by rfl) (hgT : Gl X cn := by rfl) (hn : cn ≠ "__name__" := by decide) (hdb : (cn == ("__debug__" : Str)) = false := by decide)
    (hs : starEach [a, .Name cn p2] X.env = (false, eval a X.env) :: starEach [.Name cn p2] X.env := by rfl) : EE X σ S (.Call (.Name "isinstance" p) [a, .Name cn p2] [] pos) (Dt X.K (.bool k)) := by
  haveI : Mn (fun (w : V) (_ : Hp) => w = .ty T) := ⟨fun _ h => h⟩
  refine ee_callB call_isi hm boot_isinstance (ea_2 ha (ee_bltn (P := fun w _ => w = .ty T) (v := .ty T) (u := .type T) hmT hv rfl rfl hgT hn hdb) hs rfl) (fun vs S1 H1 _ s al Q q => ?_) hg (he := hs) (hpl := by rfl)
  obtain ⟨v, w, rfl, pv, pw⟩ := al.two
  subst pw
  obtain ⟨t, h1, h2⟩ := ht v S1 H1 s pv
  exact ⟨v, .ty T, t, .type T, k, rfl, .ty T, h1, h2, q _ S1 H1 (Gr.refl s) (.bl k)⟩
/-- len of a list or a tuple of any things -/
theorem ee_lenLP {n : Nat} {Pa : V → Hp → Prop} [Mn Pa] (hm : X.mg "len" = none) (ha : EE X σ S a Pa) (hl : ∀ v S1, Pa v S1 → ∃ l xs, v = .ref l ∧ (S1 l = some (.lst xs) ∨ S1 l = some (.tup xs)) ∧ xs.length = n) (hg : Gl X "len" := by rfl)
    (hs : starEach [a] X.env = (false, eval a X.env) :: starEach [] X.env := by rfl) : EE X σ S (.Call (.Name "len" p) [a] [] pos) (Dt X.K (.int n)) :=
  ee_callB call_len hm boot_len (ea_1 ha hs) (fun vs S1 H1 _ s al Q q => by
    obtain ⟨v, rfl, pv⟩ := al.one
    obtain ⟨l, xs, rfl, h | h, rfl⟩ := hl _ _ pv
    · exact ⟨_, xs.length, rfl, .inl ⟨_, sql_of (s _ _ h), rfl⟩, q _ S1 H1 (Gr.refl s) (.int _)⟩
    · exact ⟨_, xs.length, rfl, .inr ⟨_, sqt_of (s _ _ h), rfl⟩, q _ S1 H1 (Gr.refl s) (.int _)⟩) hg (he := hs) (hpl := by rfl)
/-- [elt for x, y in iter] over pairs of things of any kind; every element is r -/
theorem ee_lc2P {r : PyData} {elt iter : Expr} {scope : Scope} {i j : Nat} {x y : Str} {px py tp : Pos} {kk : Nat} (hc : X.calm = true) (hN : X.N.Nodup) (ok : BlkOk X.N X.env.scope scope [(x, i), (y, j)]) (hi : EI X σ S (.Tuple [.Name x px, .Name y py] kk tp) iter (Rs.map PrP)) (hz : Rs.length ≤ sizeLine)
    (hel : ∀ P ∈ Rs, ∀ v w S', Same S S' → P v w S' → ∀ (s : Shared) (H0 : Hp) (C : Addr) (cl : List (Str × Addr)) (fp : List Addr), EE (X.blk s H0 scope (compEnvC scope cl C X.env) fp) (((wipe σ [i, j]).set i (some v)).set j (some w)) S' elt (Dt X.K r))
    (hij : i ≠ j := by decide) (hix : X.N[i]? = some x := by rfl) (hjy : X.N[j]? = some y := by rfl) (hx : ∀ (s : Shared) (H0 : Hp) (C : Addr) (cl : List (Str × Addr)) (fp : List Addr), (Loc (X.blk s H0 scope (compEnvC scope cl C X.env) fp).env.scope x ∧ ((X.blk s H0 scope (compEnvC scope cl C X.env) fp).fn x = true ∨ (X.blk s H0 scope (compEnvC scope cl C X.env) fp).env.scope.names.lookup x = some .local)) ∧
      (Loc (X.blk s H0 scope (compEnvC scope cl C X.env) fp).env.scope y ∧ ((X.blk s H0 scope (compEnvC scope cl C X.env) fp).fn y = true ∨ (X.blk s H0 scope (compEnvC scope cl C X.env) fp).env.scope.names.lookup y = some .local)) := by
      intros; exact ⟨⟨by first | exact Or.inl rfl | exact Or.inr rfl, by first | exact .inl rfl | exact .inr rfl⟩, ⟨by first | exact Or.inl rfl | exact Or.inr rfl, by first | exact .inl rfl | exact .inr rfl⟩⟩)
    (ha : ∀ (s : Shared) (H0 : Hp) (C : Addr) (cl : List (Str × Addr)) (fp : List Addr), (assignEach [.Name x px, .Name y py] (X.blk s H0 scope (compEnvC scope cl C X.env) fp).env).length = 2 ∧ (assignEach [.Name x px, .Name y py] (X.blk s H0 scope (compEnvC scope cl C X.env) fp).env).findIdx? (·.1) = none ∧
      (assignEach [.Name x px, .Name y py] (X.blk s H0 scope (compEnvC scope cl C X.env) fp).env).map (·.2) = assign (.Name x px) (X.blk s H0 scope (compEnvC scope cl C X.env) fp).env :: (assignEach [.Name y py] (X.blk s H0 scope (compEnvC scope cl C X.env) fp).env).map (·.2) ∧ (assignEach [.Name y py] (X.blk s H0 scope (compEnvC scope cl C X.env) fp).env).map (·.2) = assign (.Name y py) (X.blk s H0 scope (compEnvC scope cl C X.env) fp).env :: (assignEach [] (X.blk s H0 scope (compEnvC scope cl C X.env) fp).env).map (·.2) := by intros; exact ⟨rfl, rfl, rfl, rfl⟩)
    (hs : ∀ x, foldedSetIterable iter X.env x = pure x := by intro _; rfl) :
    EE X σ S (.ListComp elt [⟨.Tuple [.Name x px, .Name y py] kk tp, iter, [], 0⟩] scope pos) (Dt X.K (.list (Rs.map fun _ => r))) := by
  refine (ee_lcA (R := PrP) (ds := Rs) (own := [(x, i), (y, j)]) (p := fun _ => true) (G := fun _ z => z = r) hc hN ok hi hz (fun P hP v S' s hv => ?_) hs).imp fun v S' h => ?_
  · obtain ⟨l, v1, v2, rfl, hl, hp⟩ := hv
    refine ⟨((wipe σ [i, j]).set i (some v1)).set j (some v2), wipe2 hij, fun sh H0 C cl fp => ?_⟩
    have h2 := hel P hP v1 v2 S' s hp sh H0 C cl fp
    obtain ⟨⟨k1, k2⟩, ⟨k3, k4⟩⟩ := hx sh H0 C cl fp
    obtain ⟨a1, a2, a3, a4⟩ := ha sh H0 C cl fp
    refine ⟨fun H s2 Q qq => ?_, ets_nil, fun _ => h2.imp fun w S2 hw => ⟨_, rfl, hw⟩⟩
    exact hg_of (pg_tup hc (pgs_cons (pg_name hN hix k1 k2) (pgs_cons (pg_name hN hjy k3 k4) pgs_nil a4) a3) a1 a2) ⟨l, _, rfl, sqt_up s2 (sqt_of hl), rfl, _, _, rfl, _, _, rfl, rfl, qq⟩
  · obtain ⟨rs, h1, h2⟩ := h
    rw [filter_true] at h1
    rw [paired_map (f := fun _ => r) h1] at h2
    exact h2
end
end Y
namespace Y
open PySem PySem.Spec PyProof.Rows L2 L2H Z LamX NdefX
theorem al_mn {Ps : List (V → Hp → Prop)} (h : ∀ P ∈ Ps, Mn P) {xs : List V} {S S' : Hp} (s : Same S S') (a : Al Ps xs S) : Al Ps xs S' := by
  induction a with
  | nil => exact .nil
  | cons p _ ih => exact .cons ((h _ List.mem_cons_self).up s p) (ih (fun P hP => h P (List.mem_cons_of_mem _ hP)) s)
theorem lstP_mn {Ps : List (V → Hp → Prop)} (h : ∀ P ∈ Ps, Mn P) : Mn (LstP Ps) := ⟨fun s ⟨l, xs, a, b, c⟩ => ⟨l, xs, a, s _ _ b, al_mn h s c⟩⟩
theorem al_dt {K : PySem.W.Frag} {Ps : List (V → Hp → Prop)} {ds : List PyData} {xs : List V} {S : Hp} (h : Paired (fun (P : V → Hp → Prop) d => ∀ x S, P x S → Dt K d x S) Ps ds) (a : Al Ps xs S) : Dts K ds xs S := by
  induction h generalizing xs with
  | nil => cases a; exact .nil
  | cons p _ ih => cases a with
    | cons q t => exact Dts.cons (p _ _ q) (ih t)
/-- a list of things that are data -/
theorem lst_dt {K : PySem.W.Frag} {Ps : List (V → Hp → Prop)} {ds : List PyData} {v : V} {S : Hp} (h : Paired (fun (P : V → Hp → Prop) d => ∀ x S, P x S → Dt K d x S) Ps ds) (hz : ds.length ≤ sizeLine) (p : LstP Ps v S) : Dt K (.list ds) v S := by
  obtain ⟨l, xs, rfl, hl, al⟩ := p
  have a := al_dt h al
  exact Dt.lst_mk hl a (by rw [a.1]; exact hz)
theorem rtv_err {K : PySem.W.Frag} {k : EK} {g : PyData} {v : V} {S : Hp} (h : RtV K NoV (O1 k g) v S) : Dt K (.tuple [.str k.code, g]) v S := by
  rcases h with ⟨l, u, _, _, z⟩ | ⟨k', g', ⟨rfl, rfl⟩, e⟩
  · exact z.elim
  · exact e
def NoE : EK → PyData → Prop := fun _ _ => False
theorem rtv_dat {K : PySem.W.Frag} {d : PyData} {v : V} {S : Hp} (h : RtV K (Dt K d) NoE v S) : Dt K (.tuple [.str "", d]) v S := by
  rcases h with ⟨l, u, rfl, h1, h2⟩ | ⟨k', g', z, _⟩
  · exact Dt.tup_mk (tus_of h1) (al_dts (ds := [.str "", d]) (.cons (.str _) (.cons h2 .nil))) (by show 2 ≤ 16777216; omega)
  · exact z.elim
section
variable {X : Cx} {σ : L2.St} {S H : Hp} {a b e tg : Expr} {p pos : Pos} {D : Ends} {rest : List Stmt}
/-- range(i, j) -/
theorem ei_range2 {i : Int} {n : Nat} (hm : X.mg "range" = none) (hi : 0 ≤ i ∧ i < 2 ^ 60) (hn : n < 2 ^ 60) (ha : EE X σ S a (Dt X.K (.int i))) (hb : EE X σ S b (Dt X.K (.int (i + n)))) (hg : Gl X "range" := by rfl) (hs : starEach [a, b] X.env = [(false, eval a X.env), (false, eval b X.env)] := by rfl) (hs2 : starEach [b] X.env = [(false, eval b X.env)] := by rfl) :
    EI X σ S tg (.Call (.Name "range" p) [a, b] [] pos) (Ds X.K ((List.range n).map fun k : Nat => .int (i + k))) := fun H s R q =>
  hi_of (pi_range2 hg hm pab hs hs2) ((ea_2 ha hb (by rw [hs, hs2]) (by rw [hs2]; rfl)).2 H s _ fun vs S1 H1 g1 al => by
    obtain ⟨v, w, rfl, pv, pw⟩ := al.two
    cases pv
    cases pw
    have hl : (Ds X.K ((List.range n).map fun k : Nat => .int (i + k))).length = n := by rw [ds_len, List.length_map, List.length_range]
    refine ⟨i, i + (n : Int), rfl, ⟨by omega, by omega, by omega, by omega⟩, q _ S1 H1 g1 ⟨fun k H hi hs => ?_, fun H hs => ?_, fun k H x H' hi hs y T st th => ?_⟩⟩
    · rw [hl] at hi
      show k < (i + (n : Int) - i).toNat
      omega
    · rw [hl]
      show (i + (n : Int) - i).toNat ≤ n
      omega
    · rw [hl] at hi
      obtain ⟨rfl, rfl⟩ : H' = H ∧ x = .int (i + (k : Int)) := y
      refine ⟨T, Gr.refl th, Dt X.K (.int (i + (k : Int))), ds_get ?_, .int _⟩
      rw [List.getElem?_map, List.getElem?_range hi]; rfl)
/-- ls[i] of a list of things of any kind -/
theorem ee_ixLP {Ps : List (V → Hp → Prop)} {P : V → Hp → Prop} {i : Nat} (hM : ∀ P ∈ Ps, Mn P) (he : Ps[i]? = some P) (ha : EE X σ S a (LstP Ps)) (hb : EE X σ S b (Dt X.K (.int (i : Nat)))) (hs : PlainIx b := by exact fun _ _ => rfl) : EE X σ S (.Subscript a b pos) P := by
  haveI := lstP_mn hM
  exact ee_2 (pe_ix ix_list peb peb hs) ha hb fun x y S1 H1 _ s px py Q q => by
    cases py
    obtain ⟨l, xs, rfl, hl, al⟩ := px
    have hlen := al_len al
    have hi : i < Ps.length := by
      rcases Nat.lt_or_ge i Ps.length with h | h
      · exact h
      · rw [List.getElem?_eq_none h] at he; cases he
    have hx : i < xs.length := by omega
    obtain ⟨P', e1, e2⟩ := al_get al (List.getElem?_eq_getElem hx)
    rw [he] at e1
    obtain rfl := Option.some.inj e1
    exact ⟨l, xs, i, xs[i], rfl, rfl, sql_of (s _ _ hl), L2.atI_nat (List.getElem?_eq_getElem hx), q _ S1 H1 (Gr.refl s) e2⟩
/-- x, y = e, e a pair of things of any kind -/
theorem hs_unpackP {P1 P2 : V → Hp → Prop} {e : Expr} {i j : Nat} {x y : Str} {px py pt pos : Pos} {kt : Nat} (hc : X.calm = true) (hN : X.N.Nodup) (ha : EE X σ S e (TupP [P1, P2])) (s : Same S H)
    (q : ∀ v w S' H', Gr S H S' H' → P1 v S' → P2 w S' → HS X D rest ((σ.set i (some v)).set j (some w)) H')
    (hi : X.N[i]? = some x := by rfl) (hj : X.N[j]? = some y := by rfl) (hx : Loc X.env.scope x := by first | exact Or.inl rfl | exact Or.inr rfl) (hy : Loc X.env.scope y := by first | exact Or.inl rfl | exact Or.inr rfl)
    (hfx : X.fn x = true ∨ X.env.scope.names.lookup x = some .local := by first | exact .inl rfl | exact .inr rfl) (hfy : X.fn y = true ∨ X.env.scope.names.lookup y = some .local := by first | exact .inl rfl | exact .inr rfl)
    (hn : (assignEach [.Name x px, .Name y py] X.env).length = 2 := by rfl) (hst : (assignEach [.Name x px, .Name y py] X.env).findIdx? (·.1) = none := by rfl)
    (h1 : (assignEach [.Name x px, .Name y py] X.env).map (·.2) = assign (.Name x px) X.env :: (assignEach [.Name y py] X.env).map (·.2) := by rfl) (h2 : (assignEach [.Name y py] X.env).map (·.2) = assign (.Name y py) X.env :: (assignEach [] X.env).map (·.2) := by rfl)
    (hss : swapsWithSole [.Tuple [.Name x px, .Name y py] kt pt] e pos.line X.env = pure false := by rfl) (hw : swappedStores [.Tuple [.Name x px, .Name y py] kt pt] e X.env = pure none := by rfl)
    (h3 : (assignEach [.Tuple [.Name x px, .Name y py] kt pt] X.env).map (·.2) = [assign (.Tuple [.Name x px, .Name y py] kt pt) X.env] := by rfl) : HS X D (.Assign [.Tuple [.Name x px, .Name y py] kt pt] e pos :: rest) σ H :=
  hs_cons (ps_asg peb pgb hss hw h3) (ha H s _ fun v S' H' g pv => by
    obtain ⟨l, xs, rfl, hl, al⟩ := pv
    obtain ⟨v1, v2, rfl, p1, p2⟩ := al.two
    exact eg_pairP (σ := σ) (px := px) (py := py) (pos := pt) (kk := kt) hc hN hi hj hx hy hl hfx hfy hn hst h1 h2 H' g.sub _ (q v1 v2 S' H' g p1 p2))
end
end Y
namespace Y
open PySem PySem.Spec PyProof.Rows L2 L2H Z LamX NdefX
/-! ## lambdas where several code tables are told -/
section
variable {X : Cx} {σ : L2.St} {H : Hp} {c Pt : Addr} {q : Str} {D : Ends} {rest : List Stmt} {Ts : List NTab}
theorem he_lamET {e : Expr} {b : Bool} (U : TabU X c Pt q) (hm : (Pt, fun _ _ => q) ∈ Ts) (hu : ∀ p ∈ Ts, p.1 = Pt → p.2 = fun _ _ => q) (hT : TabsN Ts H) (ok : LamOk X e b) {Q : VK} (h : ∀ v H1, ExtN H H1 → TabsN Ts H1 → AskE X.env.cells q e b v H1 → Q v H1) : HE X e σ H Q := by
  obtain ⟨params, body, scope, pos, rfl, hf, h0, h1⟩ := ok.ex
  cases b with
  | false =>
    refine he_lam0 U.tab U.code hm U.qual.symm hu hT hf (h0 rfl) fun f c' H1 M => h _ _ M.ext M.tabs ⟨f, c', none, rfl, fun _ => rfl, (fun z => by cases z), ?_⟩
    have e1 := M.lam
    have e2 := M.code
    rw [U.qual] at e1 e2
    exact ⟨e1, e2, ldef0 rfl⟩
  | true =>
    obtain ⟨p0, k0, hd⟩ := h1 rfl
    refine he_lam1 U.tab U.code hm U.qual.symm hu hf hd (he_of pe_int ⟨hT, fun T hT2 f c' H1 M => h _ _ (extN_trans (extN_new hT2) M.ext) M.tabs ⟨f, c', some T, rfl, (fun z => by cases z), fun _ => ⟨T, rfl⟩, ?_⟩⟩)
    have e1 := M.lam
    have e2 := M.code
    rw [U.qual] at e1 e2
    exact ⟨e1, e2, ldef1 rfl (M.ext _ _ upd_same (fun _ z => nomatch z))⟩
theorem ha_lamsT (U : TabU X c Pt q) (hm : (Pt, fun _ _ => q) ∈ Ts) (hu : ∀ p ∈ Ts, p.1 = Pt → p.2 = fun _ _ => q) : ∀ {es : List (Expr × Bool)} {H : Hp}, TabsN Ts H → (∀ p ∈ es, LamOk X p.1 p.2) → ∀ {Q : List V → Hp → Prop}, (∀ vs H1, ExtN H H1 → TabsN Ts H1 → Al (AskEs X.env.cells q es) vs H1 → Q vs H1) → HA X (es.map (·.1)) σ H Q
  | [], H, hT, _, Q, h => ha_of pa_nil (h [] H extN_refl hT .nil)
  | p :: es, H, hT, ok, Q, h => by
    have hs : starEach ((p :: es).map (·.1)) X.env = (false, eval p.1 X.env) :: starEach (es.map (·.1)) X.env := by
      obtain ⟨params, body, scope, pos, e, _⟩ := (ok p List.mem_cons_self).ex
      obtain ⟨p1, p2⟩ := p
      cases e
      rfl
    refine ha_of (pa_cons (te := bE X p.1) (t := bA X (es.map (·.1))) peb pab hs) (he_lamET U hm hu hT (ok p List.mem_cons_self) fun v H1 x1 hT1 a => ?_)
    exact ha_lamsT U hm hu hT1 (fun p' hp => ok p' (List.mem_cons_of_mem _ hp)) fun vs H2 x2 hT2 al => h (v :: vs) H2 (extN_trans x1 x2) hT2 (.cons (a.ext x2) al)
theorem hs_asksT {es : List (Expr × Bool)} {i : Nat} {x : Str} {pos' pos pl : Pos} (U : TabU X c Pt q) (hm : (Pt, fun _ _ => q) ∈ Ts) (hu : ∀ p ∈ Ts, p.1 = Pt → p.2 = fun _ _ => q) (hN : X.N.Nodup) (hT : TabsN Ts H) (ok : ∀ p ∈ es, LamOk X p.1 p.2) (hz : es.length ≤ 1000)
    (nx : ∀ l vs Hf, ExtN H Hf → TabsN Ts Hf → Al (AskEs X.env.cells q es) vs (Y.noTab Hf) → Y.noTab Hf l = some (.lst vs) → HS X D rest (σ.set i (some (.ref l))) Hf) (hi : X.N[i]? = some x := by rfl) (hx : Loc X.env.scope x := by first | exact Or.inl rfl | exact Or.inr rfl)
    (hs : swapsWith (.List (es.map (·.1)) pl) (some (.Name x pos')) pos.line X.env = pure false := by rfl) (hf : X.fn x = true ∨ X.env.scope.names.lookup x = some .local := by first | exact .inl rfl | exact .inr rfl | assumption) : HS X D (.Assign [.Name x pos'] (.List (es.map (·.1)) pl) pos :: rest) σ H := by
  refine hs_cons (ps_set hN hi hx (pe_lst pab) hs hf) (ha_lamsT U hm hu hT ok fun vs H1 x1 hT1 al => ⟨?_, fun l hl => ?_⟩)
  · rw [al_len al, List.length_map]; show _ ≤ 16777216; omega
  · have x2 : ExtN H1 (upd H1 l (.lst vs)) := extN_new hl
    exact nx l vs _ (extN_trans x1 x2) (hT1.ext fun b o e => (upd_ne (ne_of_none e hl)).trans e) (askEs_noTab (askEs_ext x2 al)) (noTab_at upd_same (fun _ z => nomatch z))
theorem hs_asksMoreT {es es0 : List (Expr × Bool)} {i l0 : Nat} {vs0 : List V} {x : Str} {pos' pos pl p1 p2 : Pos} (U : TabU X c Pt q) (hm : (Pt, fun _ _ => q) ∈ Ts) (hu : ∀ p ∈ Ts, p.1 = Pt → p.2 = fun _ _ => q) (hN : X.N.Nodup) (hT : TabsN Ts H) (ok : ∀ p ∈ es, LamOk X p.1 p.2) (hz : es0.length + es.length ≤ 1000) (h0 : Al (AskEs X.env.cells q es0) vs0 H) (hl0 : H l0 = some (.lst vs0)) (hv : σ[i]? = some (some (.ref l0)))
    (nx : ∀ l vs Hf, ExtN H Hf → TabsN Ts Hf → Al (AskEs X.env.cells q (es0 ++ es)) vs (Y.noTab Hf) → Y.noTab Hf l = some (.lst vs) → HS X D rest (σ.set i (some (.ref l))) Hf) (hi : X.N[i]? = some x := by rfl) (hx : Loc X.env.scope x := by first | exact Or.inl rfl | exact Or.inr rfl) (hvis : Vis X.env.scope x := by first | exact Or.inl rfl | exact Or.inr (Or.inl rfl))
    (hd : (x == ("__debug__" : Str)) = false := by decide) (hcd : (x == ("__classdict__" : Str)) = false := by decide)
    (hs : swapsWith (.BinOp (.Name x p1) .Add (.List (es.map (·.1)) pl) p2) (some (.Name x pos')) pos.line X.env = pure false := by rfl) (hf : X.fn x = true ∨ X.env.scope.names.lookup x = some .local := by first | exact .inl rfl | exact .inr rfl | assumption) : HS X D (.Assign [.Name x pos'] (.BinOp (.Name x p1) .Add (.List (es.map (·.1)) pl) p2) pos :: rest) σ H := by
  refine hs_cons (ps_set hN hi hx (pe_op op_cat (pe_var (i := i) hi hvis hd hcd) (pe_lst pab)) hs hf) ⟨.ref l0, hv, ha_lamsT U hm hu hT ok fun vs H1 x1 hT1 al => ⟨?_, fun l hl => ?_⟩⟩
  · rw [al_len al, List.length_map]; show _ ≤ 16777216; omega
  · have x2 : ExtN H1 (upd H1 l (.lst vs)) := extN_new hl
    have hb : l ≠ l0 := fun e => by
      subst e
      have := x1 _ _ hl0 (fun _ z => nomatch z)
      rw [hl] at this; cases this
    have e0 : upd H1 l (.lst vs) l0 = some (.lst vs0) := (upd_ne hb.symm).trans (x1 _ _ hl0 (fun _ z => nomatch z))
    refine ⟨l0, l, vs0, vs, rfl, rfl, e0, upd_same, ?_, fun l2 hl2 => ?_⟩
    · rw [al_len h0, al_len al, List.length_map, List.length_map]; show _ ≤ 16777216; omega
    · have x3 : ExtN (upd H1 l (.lst vs)) (upd (upd H1 l (.lst vs)) l2 (.lst (vs0 ++ vs))) := extN_new hl2
      have x13 := extN_trans x1 (extN_trans x2 x3)
      refine nx l2 (vs0 ++ vs) _ x13 ((hT1.ext fun b o e => (upd_ne (ne_of_none e hl)).trans e).ext fun b o e => (upd_ne (ne_of_none e hl2)).trans e) ?_ (noTab_at upd_same (fun _ z => nomatch z))
      refine askEs_noTab ?_
      show Al ((es0 ++ es).map _) _ _
      rw [List.map_append]
      exact al_app (askEs_ext x13 h0) (askEs_ext (extN_trans x2 x3) al)
end
end Y
namespace Y
open PySem PySem.Spec PyProof.Rows L2 L2H Z
section
variable {X : Cx} {σ : L2.St} {S : Hp} {a : Expr} {pos : Pos}
/-- z[lo:hi] of a text -/
theorem ee_slS {z : Str} {lo hi : Option Expr} {l u : Option Int} {p2 : Pos} (hz : z.length ≤ sizeLine) (ha : EE X σ S a (Dt X.K (.str z))) (hl : EO X σ S lo l) (hu : EO X σ S hi u) : EE X σ S (.Subscript a (.Slice lo hi none p2) pos) (Dt X.K (.str (cutS z l u))) := fun H s Q q =>
  he_of (pe_slice sl_str peb pob pob) (ha H s _ fun v S1 H1 g1 pv => (hl.up g1.st) H1 g1.sub _ fun S2 H2 g2 => (hu.up (g1.st.trans g2.st)) H2 g2.sub _ fun S3 H3 g3 => by
    cases pv
    exact ⟨z, rfl, hz, q _ _ _ ((g1.trans g2).trans g3) (.str _)⟩)
end
end Y
namespace Y
open PySem PySem.Spec PyProof.Rows L2 L2H Z LamX NdefX PySem.W
section
variable {X : Cx} {σ : L2.St} {S : Hp} {a b : Expr} {Pa Pb R : V → Hp → Prop} {pos : Pos} {k : Nat} {sp : Sp} {C : Addr} {i : Int} {O : EK → PyData → Prop} {E : XK}
/-- own ** with an int, which raises -/
theorem er_powO [Mn Pa] (tk : Takes X (fun cls d _ H => E cls d H)) (D1 : KMX X.prog X.w X.K X.mg X.base C "__pow__" k sp) (pc : PowC X.K C) (hr : Room k X.A) (ha : EE X σ S a Pa) (hb : EE X σ S b (Dt X.K (.int i))) (hA : ∀ w S1, Pa w S1 → ∃ r dx fs, w = .ref r ∧ S1 r = some (.ins C dx fs)) (hsp : SpO X.K sp S [Pa, Dt X.K (.int i)] NoP O) : ER X E σ S (.BinOp a .Pow b pos) R O := fun H s hx Q q => by
  have ho : OpR X (binaryOp .Pow) (fun x y H Q => ∃ r dx fs j, x = .ref r ∧ H r = some (.ins C dx fs) ∧ y = .int j ∧ sp [x, y] H (fun _ _ => False) E) := by
    intro pins s σ H x y v u Q I rx ry hq
    obtain ⟨r, dx, fs, j, rfl, hx, rfl, q⟩ := hq
    cases rx
    obtain ⟨t, rfl⟩ := ry
    obtain ⟨f, fd, ps, F, hm, hf, hk, hb⟩ := D1.ex
    obtain ⟨ox, od, J⟩ := insAt I hx
    obtain ⟨mm, hF⟩ := I.fr
    refine pow_KI hF I.ok.mod.kin J pc.first hm pc.rpow pc.int hf (wpAny_mono (run_fnA (vs := [.ref r, .int j]) F hr rfl hb (passes_call tk fun _ _ _ _ h => h) I (.cons rfl (.cons ⟨t, rfl⟩ .nil)) q) (fun rv s' hq' => ?_) fun _ _ z => z)
    obtain ⟨w, H', I', rw', q'⟩ := hq'
    exact q'.elim
  refine he_of (pe_op ho peb peb) (ha H s _ fun v S1 H1 g1 pv => (hb.up g1.st) H1 g1.sub _ fun w S2 H2 g2 pw => ?_)
  obtain ⟨r, dx, fs, rfl, h1⟩ := hA v S1 pv
  have e2 := pw.int_inv
  subst e2
  exact ⟨r, dx, fs, i, rfl, g2.sub _ _ (g2.st _ _ h1), rfl, hsp _ S2 H2 (g1.st.trans g2.st) g2.sub (.cons (Mn.up g2.st pv) (.cons pw .nil)) _ E (fun _ _ _ _ z => z.elim) fun k g o => (hx k g o).up (g1.trans g2)⟩
end
end Y
namespace K17
open PySem PySem.Spec PyProof.Rows L2 Z Y
abbrev FnT (K : PySem.W.Frag) (x : Str) (st : Stmt) (f : Addr) (fd : FuncData) : Prop := FunD K x x (defArgs st) (defBody st) (defScope st) [] [] f fd
/-! ## data in short -/
def tI (l : List Int) : PyData := .tuple (l.map .int)
def lI (l : List Int) : PyData := .list (l.map .int)
def tP (a b : List Int) : PyData := .tuple [tI a, tI b]
def isNum (d : PyData) (l : Int) : Bool := match d with
  | .int i => decide (l ≤ i)
  | _ => false
def leNum (d : PyData) (m : Int) : Bool := match d with
  | .int i => decide (i ≤ m)
  | _ => false
def isExp (d : PyData) (w : Int) : Bool := match d with
  | .tuple ds => decide ((ds.length : Int) = w) && ds.all fun x => isNum x 0 && leNum x 6
  | _ => false
def isDir (d : PyData) (w : Int) : Bool := match d with
  | .tuple ds => decide ((ds.length : Int) = w) && ds.all fun x => isNum x 0
  | _ => false
def monoI : List Int → List Int → Int
  | e :: es, n :: ns => n ^ e.toNat * monoI es ns
  | _, _ => 1
theorem map_all {α : Type} (f : α → Bool) (l : List α) : (l.map f).all (fun b => b) = l.all f := by
  induction l with
  | nil => rfl
  | cons a l ih => simp [List.map_cons, List.all_cons, ih]
theorem tI_zip (a b : List Int) : (a.map PyData.int).zip (b.map PyData.int) = (a.zip b).map fun p => (PyData.int p.1, PyData.int p.2) := by
  rw [List.zip_map]; rfl
theorem zip_int (a b : List Int) : zipD (a.map PyData.int) (b.map PyData.int) = ((a.zip b).map fun p => (PyData.int p.1, PyData.int p.2)).map tupP := by
  rw [zipD_eq, tI_zip]
/-- the facts as data; what a row must keep -/
def ruleD (p : List Int × List Int) : PyData := tP p.1 p.2
def keepsI (ps : List (List Int × List Int)) (r : List Int) : Bool := ps.all fun p => decide (monoI p.1 r ≤ monoI p.2 r)
/-- n to the power e, of a bounded size -/
def PowOk (n e : Int) : Prop := 0 ≤ e ∧ (max 1 n.natAbs) ^ e.toNat < 2 ^ 2000000
theorem natAbs_pow' (n : Int) : ∀ e : Nat, (n ^ e).natAbs = n.natAbs ^ e
  | 0 => by simp
  | e + 1 => by rw [Int.pow_succ, Nat.pow_succ, Int.natAbs_mul, natAbs_pow' n e]
theorem pow_bd {n : Int} {e a : Nat} (h : (max 1 n.natAbs) ^ e < 2 ^ 2000000) (ha : a ≤ e) : (n ^ a).natAbs < 2 ^ 2000000 := by
  rw [natAbs_pow']
  refine Nat.lt_of_le_of_lt ?_ h
  refine Nat.le_trans (Nat.pow_le_pow_left (Nat.le_max_right 1 _) a) (Nat.pow_le_pow_right (by omega) ha)
theorem pow_mulx {n : Int} {e a b : Nat} (h : (max 1 n.natAbs) ^ e < 2 ^ 2000000) (ha : a ≤ e) (hb : b ≤ e) : CMulX (n ^ a) (n ^ b) := mulx_ok (pow_bd h ha) (pow_bd h hb) (by decide)
theorem monoI_snoc : ∀ (es ns : List Int) (e n : Int), es.length = ns.length → monoI (es ++ [e]) (ns ++ [n]) = monoI es ns * n ^ e.toNat
  | [], [], e, n, _ => by show n ^ e.toNat * 1 = 1 * n ^ e.toNat; rw [Int.mul_one, Int.one_mul]
  | [], _ :: _, _, _, h => by simp at h
  | _ :: _, [], _, _, h => by simp at h
  | a :: es, b :: ns, e, n, h => by
    show b ^ a.toNat * monoI (es ++ [e]) (ns ++ [n]) = b ^ a.toNat * monoI es ns * n ^ e.toNat
    rw [monoI_snoc es ns e n (by simpa using h), Int.mul_assoc]
/-- the monomials are of a bounded size -/
def MonoOk (es ns : List Int) : Prop := es.length = ns.length ∧ es.length ≤ 60 ∧ ∀ p ∈ es.zip ns, PowOk p.2 p.1
theorem powOk_bd {n e : Int} (h : PowOk n e) : (n ^ e.toNat).natAbs < 2 ^ 2000000 := pow_bd h.2 (Nat.le_refl _)
theorem monoI_bd : ∀ {es ns : List Int}, es.length = ns.length → (∀ p ∈ es.zip ns, PowOk p.2 p.1) → (monoI es ns).natAbs < 2 ^ (2000000 * es.length + 1)
  | [], [], _, _ => by show 1 < 2 ^ (0 + 1); decide
  | [], _ :: _, h, _ => by simp at h
  | _ :: _, [], h, _ => by simp at h
  | a :: es, b :: ns, h, hp => by
    show (b ^ a.toNat * monoI es ns).natAbs < 2 ^ (2000000 * (es.length + 1) + 1)
    have h1 := powOk_bd (hp (a, b) (by simp))
    have h2 := monoI_bd (es := es) (ns := ns) (by simpa using h) fun p hq => hp p (by simp [hq])
    have e : 2000000 * (es.length + 1) + 1 = 2000000 + (2000000 * es.length + 1) := by omega
    rw [Int.natAbs_mul, e, Nat.pow_add]
    exact Nat.mul_lt_mul'' h1 h2
theorem zip_take' : ∀ (es ns : List Int) (i : Nat), (es.take i).zip (ns.take i) = (es.zip ns).take i
  | _, _, 0 => by simp
  | [], _, i + 1 => by simp
  | _ :: _, [], i + 1 => by simp
  | a :: es, b :: ns, i + 1 => by simp [zip_take' es ns i]
theorem monoOk_take {es ns : List Int} (h : MonoOk es ns) (i : Nat) : (es.take i).length = (ns.take i).length ∧ ∀ p ∈ (es.take i).zip (ns.take i), PowOk p.2 p.1 := by
  refine ⟨by rw [List.length_take, List.length_take, h.1], fun p hp => h.2.2 p ?_⟩
  rw [zip_take'] at hp
  exact List.mem_of_mem_take hp
theorem mono_mulx {es ns : List Int} (h : MonoOk es ns) {i : Nat} {e n : Int} (hi : i < 60) (hn : PowOk n e) : CMulX (monoI (es.take i) (ns.take i)) (n ^ e.toNat) := by
  have h2 := monoI_bd (monoOk_take h i).1 (monoOk_take h i).2
  have hl : (es.take i).length ≤ i := by rw [List.length_take]; omega
  exact mulx_ok (a := 2000000 * 60 + 1) (Nat.lt_of_lt_of_le h2 (Nat.pow_le_pow_right (by decide) (by omega))) (powOk_bd hn) (by decide)
def kindN : PyData → Nat
  | .none => 0
  | .bool _ => 1
  | .int _ => 2
  | .str _ => 3
  | .list _ => 4
  | .tuple _ => 5
  | .dict _ => 6
def marksL (d : PyData) : List Bool := [decide (kindN d = 0), isD d "bool", isD d "int", isD d "str"] ++ [isD d "list", isD d "tuple", true]
theorem marks_at (d : PyData) : (marksL d)[kindN d]? = some true := by cases d <;> rfl
theorem marks_no (d : PyData) : ∀ m, m < kindN d → (marksL d)[m]? = some false := by
  cases d with
  | none => exact fun m h => absurd h (Nat.not_lt_zero _)
  | bool b => exact fun
    | 0, _ => rfl
    | m + 1, h => absurd (show m + 1 < 1 from h) (by omega)
  | int b => exact fun
    | 0, _ => rfl
    | 1, _ => rfl
    | m + 2, h => absurd (show m + 2 < 2 from h) (by omega)
  | str b => exact fun
    | 0, _ => rfl
    | 1, _ => rfl
    | 2, _ => rfl
    | m + 3, h => absurd (show m + 3 < 3 from h) (by omega)
  | list b => exact fun
    | 0, _ => rfl
    | 1, _ => rfl
    | 2, _ => rfl
    | 3, _ => rfl
    | m + 4, h => absurd (show m + 4 < 4 from h) (by omega)
  | tuple b => exact fun
    | 0, _ => rfl
    | 1, _ => rfl
    | 2, _ => rfl
    | 3, _ => rfl
    | 4, _ => rfl
    | m + 5, h => absurd (show m + 5 < 5 from h) (by omega)
  | dict b => exact fun
    | 0, _ => rfl
    | 1, _ => rfl
    | 2, _ => rfl
    | 3, _ => rfl
    | 4, _ => rfl
    | 5, _ => rfl
    | m + 6, h => absurd (show m + 6 < 6 from h) (by omega)
theorem dt_non {K : PySem.W.Frag} {d : PyData} {v : V} {S : Hp} (h : Dt K d v S) : decide (v = .non) = decide (kindN d = 0) := by
  cases h <;> rfl
/-- data without dicts, at most n deep -/
def Bd : Nat → PyData → Prop
  | _, .none => True
  | _, .bool _ => True
  | _, .int _ => True
  | _, .str _ => True
  | 0, .list _ => False
  | 0, .tuple _ => False
  | n + 1, .list xs => ∀ x ∈ xs, Bd n x
  | n + 1, .tuple xs => ∀ x ∈ xs, Bd n x
  | _, .dict _ => False
theorem zip_self (xs : List PyData) : xs.zip xs = xs.map fun x => (x, x) := by
  induction xs with
  | nil => rfl
  | cons a l ih => simp [ih]
section
variable {P : Program} {w : World} {K : PySem.W.Frag} {mg : Str → Option Value} {base : Heap} {f : Addr} {fd : FuncData}
def FisNumber : List PyData → PyData → Prop := fun ds r => ∃ d l, ds = [d, .int l] ∧ r = .bool (isNum d l)
theorem sc_is_number : FnScope ["value", "least"] ["value", "least"] (defScope sis_number) := ⟨rfl, rfl, rfl, by decide +kernel, rfl, by decide +kernel, by decide +kernel⟩
theorem ok_is_number (F : FnT K "is_number" sis_number f fd) (g1 : mg "isinstance" = none) (g2 : mg "int" = none) (g3 : mg "bool" = none) : FnOk P w K mg base CX0 1 f fd ["value", "least"] (spD K FisNumber) := by
  refine fn_hs F sc_is_number (fun vs H Q E h => ?_) (fun cdv A outer sh H vs Q E hr h => ?_)
  · obtain ⟨S, ds, d, _, hd, ⟨_, _, rfl, _⟩, _⟩ := h
    exact hd.1
  · obtain ⟨S, ds, r, s, hd, ⟨d, l, rfl, rfl⟩, q⟩ := h
    obtain ⟨v1, v2, rfl, p1, p2⟩ := hd.two
    refine hs_ret ((ee_and (ee_isi (isD_ok d (T := "int") (by simp)) g1 g2 boot_int (ee_var 0 rfl p1)) fun h1 =>
      ee_and (ee_not (ee_isi (isD_ok d (T := "bool") (by simp)) g1 g3 boot_bool (ee_var 0 rfl p1))) fun h2 => ee_one (P := Dt K (.bool (isNum d l))) ?_).isd ?_) s q
    · cases d <;> first | (exact ee_ge (ee_var 0 rfl p1) (ee_var 1 rfl p2)) | (exfalso; simp [isDi, isDb] at h1 h2; done)
    · cases d <;> rfl
def Fpower_of : List PyData → PyData → Prop := fun ds r => ∃ n e, ds = [.int n, .int e] ∧ r = .int (n ^ e.toNat) ∧ PowOk n e
theorem sc_power_of : FnScope ["number", "exponent", "found", "square", "rest"] ["number", "exponent"] (defScope spower_of) := ⟨rfl, rfl, rfl, by decide +kernel, rfl, by decide +kernel, by decide +kernel⟩
theorem ok_power_of (F : FnT K "power_of" spower_of f fd) : FnOk P w K mg base CX0 1 f fd ["number", "exponent"] (spD K Fpower_of) := by
  refine fn_hs F sc_power_of (fun vs H Q E h => ?_) (fun cdv A outer sh H vs Q E hr h => ?_)
  · obtain ⟨S, ds, d, _, hd, ⟨_, _, rfl, _⟩, _⟩ := h
    exact hd.1
  · obtain ⟨S, ds, r, s, hd, ⟨n, e, rfl, rfl, h0, hb⟩, q⟩ := h
    obtain ⟨v1, v2, rfl, p1, p2⟩ := hd.two
    obtain ⟨en, rfl⟩ : ∃ en : Nat, e = (en : Int) := ⟨e.toNat, by omega⟩
    rw [Int.toNat_natCast] at hb q
    refine hs_par3 (i := 2) (j := 3) (l := 4) rfl sc_power_of.nd ee_int (ee_var 0 rfl p1) (ee_var 1 rfl p2) s rfl fun w1 w2 w3 S1 H1 g1 q1 q2 q3 => ?_
    refine hs_while (fun m σ S2 => ∃ a b : Nat, a + b * m = en ∧ ∃ x y z, σ = [some v1, some v2, some x, some y, some z] ∧ Dt K (.int (n ^ a)) x S2 ∧ Dt K (.int (n ^ b)) y S2 ∧ Dt K (.int (m : Nat)) z S2) en PassesOwn.never g1.sub ⟨0, 1, by omega, w1, w2, w3, rfl, by rw [Int.pow_zero]; exact q1, by rw [Int.pow_succ, Int.pow_zero, Int.one_mul]; exact q2, q3⟩ ?_
    rintro m σ S2 H2 g2 ⟨a, b, hab, x, y, z, rfl, px, py, pz⟩
    refine ⟨decide ((0 : Int) < (m : Nat)), et_gt (ee_var 4 rfl pz) ee_int, fun hm S3 H3 g3 => ?_, fun hm S3 H3 g3 => ?_⟩
    · have hm : 0 < m := by simpa using hm
      have hbe : b ≤ b * m := Nat.le_mul_of_pos_right b hm
      have px := px.up g3.st
      have py := py.up g3.st
      have pz := pz.up g3.st
      have hmod : m = 2 * (m / 2) + m % 2 := (Nat.div_add_mod m 2).symm
      refine hs_ifJ (fun σ' S4 => ∃ (a' : Nat) (x' : V), a' + (b + b) * (m / 2) = en ∧ Dt K (.int (n ^ a')) x' S4 ∧ σ' = [some v1, some v2, some x', some y, some z]) (et_tru (d := .int ((m % 2 : Nat) : Int)) (ee_op op_odd (ee_var 4 rfl pz) ee_int fun x y S4 H4 _ s4 pa pb Q qq => by
        cases pa; cases pb; exact ⟨m, rfl, rfl, qq _ S4 H4 (Gr.refl s4) (.int _)⟩) (fun _ h => nomatch h)) g3.sub (fun ho S4 H4 g4 => ?_) (fun ho S4 H4 g4 => ?_) ?_
      · have ho : m % 2 = 1 := by simp [truD] at ho; omega
        refine hs_set (i := 2) (ee_mul (pow_mulx hb (by omega) (by omega)) (ee_var 2 rfl (px.up g4.st)) (ee_var 3 rfl (py.up g4.st))) g4.sub sc_power_of.nd fun x' S5 H5 g5 px' => hs_nil ?_
        rw [← Int.pow_add] at px'
        refine ⟨S5, g5, a + b, x', ?_, px', rfl⟩
        rw [← hab]
        conv => rhs; rw [hmod, ho]
        rw [Nat.mul_add, Nat.add_mul, ← Nat.mul_assoc, Nat.mul_comm b 2, Nat.mul_assoc]
        omega
      · have ho : m % 2 = 0 := by simp [truD] at ho; omega
        refine hs_nil ⟨S4, Gr.refl g4.sub, a, x, ?_, px.up g4.st, rfl⟩
        rw [← hab]
        conv => rhs; rw [hmod, ho]
        rw [Nat.add_zero, Nat.add_mul, ← Nat.mul_assoc, Nat.mul_comm b 2, Nat.mul_assoc]
        omega
      rintro σ' S4 H4 g4 ⟨a', x', ha', px', rfl⟩
      refine hs_set (i := 4) (P := Dt K (.int ((m / 2 : Nat) : Int))) (ee_op op_halfN (ee_var 4 rfl (pz.up g4.st)) ee_int fun x y S5 H5 _ s5 pa pb Q qq => by
        cases pa; cases pb; exact ⟨m, rfl, rfl, qq _ S5 H5 (Gr.refl s5) (.int _)⟩) g4.sub sc_power_of.nd fun z' S5 H5 g5 pz' => ?_
      by_cases hm2 : 0 < m / 2
      · have hb2 : b + b ≤ (b + b) * (m / 2) := Nat.le_mul_of_pos_right _ hm2
        refine hs_ifT ((et_gt (ee_var 4 rfl pz') ee_int).is (decide_eq_true (by omega))) g5.sub fun S6 H6 g6 => ?_
        refine hs_set (i := 3) (ee_mul (pow_mulx hb (by omega) (by omega)) (ee_var 3 rfl (((py.up g4.st).up g5.st).up g6.st)) (ee_var 3 rfl (((py.up g4.st).up g5.st).up g6.st))) g6.sub sc_power_of.nd fun y' S7 H7 g7 py' => hs_nil (hs_nil ?_)
        rw [← Int.pow_add] at py'
        exact ⟨S7, g4.trans (g5.trans (g6.trans g7)), m / 2, by omega, a', b + b, ha', x', y', z', rfl, ((px'.up g5.st).up g6.st).up g7.st, py', (pz'.up g6.st).up g7.st⟩
      · have hm0 : m / 2 = 0 := by omega
        refine hs_ifN ((et_gt (ee_var 4 rfl pz') ee_int).is (decide_eq_false (by omega))) g5.sub fun S6 H6 g6 => hs_nil ?_
        rw [hm0, Nat.mul_zero] at ha'
        exact ⟨S6, g4.trans (g5.trans g6), m / 2, by omega, a', b, by rw [hm0]; omega, x', y, z', rfl, (px'.up g5.st).up g6.st, ((py.up g4.st).up g5.st).up g6.st, pz'.up g6.st⟩
    · have hm : m = 0 := by simpa using hm
      subst hm
      refine hs_ret (ee_var 2 rfl (px.up g3.st)) g3.sub fun v S4 H4 g4 pv => q v S4 H4 (g1.trans (g2.trans (g3.trans g4))) ?_
      have e1 : a = en := by omega
      rw [e1] at pv
      exact pv
def FisExp : List PyData → PyData → Prop := fun ds r => ∃ d w, ds = [d, .int w] ∧ r = .bool (isExp d w)
theorem sc_is_exponent : FnScope ["value", "width", "item"] ["value", "width"] (defScope sis_exponent) := ⟨rfl, rfl, rfl, by decide +kernel, rfl, by decide +kernel, by decide +kernel⟩
theorem ok_is_exponent (F : FnT K "is_exponent" sis_exponent f fd) (D1 : KD P w K mg base "is_number" 1 (spD K FisNumber)) (g1 : mg "isinstance" = none) (g2 : mg "tuple" = none) (g3 : mg "len" = none) (g4 : mg "all" = none) (g5 : ∃ t, mg "MOST_EXPONENT" = some (.int 6 t)) : FnOk P w K mg base CX0 2 f fd ["value", "width"] (spD K FisExp) := by
  refine fn_hs F sc_is_exponent (fun vs H Q E h => ?_) (fun cdv A outer sh H vs Q E hr h => ?_)
  · obtain ⟨S, ds, d, _, hd, ⟨_, _, rfl, _⟩, _⟩ := h
    exact hd.1
  · obtain ⟨S, ds, r, s, hd, ⟨d, w', rfl, rfl⟩, q⟩ := h
    obtain ⟨v1, v2, rfl, p1, p2⟩ := hd.two
    obtain ⟨t, g5⟩ := g5
    by_cases hd' : ∃ es, d = .tuple es
    · obtain ⟨es, rfl⟩ := hd'
      refine hs_if (et_w (ew_or (et_not (et_val (ee_isi (isD_ok (.tuple es) (T := "tuple") (by simp)) g1 g2 boot_tuple (ee_var 0 rfl p1)))) fun _ => ew_or1 (et_neI (ee_len g3 rfl (ee_var 0 rfl p1)) (ee_var 1 rfl p2)))) s (fun h1 S1 H1 g => ?_) (fun h1 S1 H1 g => hs_nil ?_)
      · have hl : ¬ ((es.length : Int) = w') := by simpa [isDt] using h1
        refine hs_ret ee_bl g.sub fun v S2 H2 g2 pv => q v S2 H2 (g.trans g2) ?_
        have e : isExp (.tuple es) w' = false := by unfold isExp; simp [hl]
        rw [e]; exact pv
      · have hl : (es.length : Int) = w' := by simpa [isDt] using h1
        have hz : es.length ≤ sizeLine := by obtain ⟨l, xs, _, _, hx, z⟩ := p1.tup_inv; rw [← hx.1]; exact z
        refine hs_ret ((ee_all (bs := es.map fun x => isNum x 0 && leNum x 6) rfl g4 (ee_lc (i := 2) (enc := .bool) (f := fun x => isNum x 0 && leNum x 6) rfl sc_is_exponent.nd (blkOk_by (N := ["value", "width", "item"]) (sc := defScope sis_exponent) (by decide +kernel)) (ei_tup (ee_var 0 rfl (p1.up g.st))) hz ?_)).isd ?_) g.sub fun v S2 H2 g2 pv => q v S2 H2 (g.trans g2) pv
        · intro x hx v S2 s2 pv sh' H0 C cl fp
          refine ee_and (k1 := isNum x 0) (k2 := leNum x 6) (ee_callD D1 hr ⟨x, 0, rfl, rfl⟩ (ea_2 (ee_var 2 rfl pv) ee_int)) fun h2 => ee_one (P := Dt K (.bool (leNum x 6))) ?_
          cases x with
          | int i => exact ee_le (ee_var 2 rfl pv) (ee_globI g5)
          | _ => exfalso; simp [isNum] at h2; done
        · rw [map_all]
          unfold isExp
          simp [hl]
    · refine hs_ifT ((et_w (ew_or (k2 := true) (et_not (et_val (ee_isi (isD_ok d (T := "tuple") (by simp)) g1 g2 boot_tuple (ee_var 0 rfl p1)))) fun h1 => ?_)).is ?_) s fun S1 H1 g => hs_ret ee_bl g.sub fun v S2 H2 g2 pv => q v S2 H2 (g.trans g2) ?_
      · exfalso; cases d <;> first | (simp [isDt] at h1; done) | exact hd' ⟨_, rfl⟩
      · simp
      · have e : isExp d w' = false := by cases d <;> first | rfl | exact absurd ⟨_, rfl⟩ hd'
        rw [e]; exact pv
def FisDir : List PyData → PyData → Prop := fun ds r => ∃ d w, ds = [d, .int w] ∧ r = .bool (isDir d w)
theorem sc_is_direction : FnScope ["value", "width", "item"] ["value", "width"] (defScope sis_direction) := ⟨rfl, rfl, rfl, by decide +kernel, rfl, by decide +kernel, by decide +kernel⟩
theorem ok_is_direction (F : FnT K "is_direction" sis_direction f fd) (D1 : KD P w K mg base "is_number" 1 (spD K FisNumber)) (g1 : mg "isinstance" = none) (g2 : mg "tuple" = none) (g3 : mg "len" = none) (g4 : mg "all" = none) : FnOk P w K mg base CX0 2 f fd ["value", "width"] (spD K FisDir) := by
  refine fn_hs F sc_is_direction (fun vs H Q E h => ?_) (fun cdv A outer sh H vs Q E hr h => ?_)
  · obtain ⟨S, ds, d, _, hd, ⟨_, _, rfl, _⟩, _⟩ := h
    exact hd.1
  · obtain ⟨S, ds, r, s, hd, ⟨d, w', rfl, rfl⟩, q⟩ := h
    obtain ⟨v1, v2, rfl, p1, p2⟩ := hd.two
    by_cases hd' : ∃ es, d = .tuple es
    · obtain ⟨es, rfl⟩ := hd'
      have hz : es.length ≤ sizeLine := by obtain ⟨l, xs, _, _, hx, z⟩ := p1.tup_inv; rw [← hx.1]; exact z
      refine hs_ret ((ee_and (ee_isi (isD_ok (.tuple es) (T := "tuple") (by simp)) g1 g2 boot_tuple (ee_var 0 rfl p1)) fun _ => ee_and (ee_eqI (ee_len g3 rfl (ee_var 0 rfl p1)) (ee_var 1 rfl p2)) fun _ => ee_one
        (ee_all (bs := es.map fun x => isNum x 0) rfl g4 (ee_lc (i := 2) (enc := .bool) (f := fun x => isNum x 0) rfl sc_is_direction.nd (blkOk_by (N := ["value", "width", "item"]) (sc := defScope sis_direction) (by decide +kernel)) (ei_tup (ee_var 0 rfl p1)) hz ?_))).isd ?_) s q
      · intro x hx v S2 s2 pv sh' H0 C cl fp
        exact ee_callD D1 hr ⟨x, 0, rfl, rfl⟩ (ea_2 (ee_var 2 rfl pv) ee_int)
      · rw [map_all]
        unfold isDir
        simp [isDt]
    · have e0 : isD d "tuple" = false := by cases d <;> first | rfl | exact absurd ⟨_, rfl⟩ hd'
      refine hs_ret ((ee_and (k2 := false) (ee_isi (isD_ok d (T := "tuple") (by simp)) g1 g2 boot_tuple (ee_var 0 rfl p1)) fun h1 => ?_).isd ?_) s q
      · rw [e0] at h1; cases h1
      · have e : isDir d w' = false := by cases d <;> first | rfl | exact absurd ⟨_, rfl⟩ hd'
        rw [e]; simp
def spOpen0 (K : PySem.W.Frag) : Sp := fun vs H Q _ => ∃ (a : Addr) (ns : List Int), vs = [.ref a] ∧ SqL K H a (ns.map V.int) ∧ ns.length ≤ 63 ∧ ∀ (b c : Addr) (ms : List Int) (k : Int) (H' : Hp), H b = none → H c = none → b ≠ c → Same H H' → ms.length ≤ 63 → 0 ≤ k → k < 100000 →
  H' c = some (.lst (ms.map V.int)) → H' b = some (.lst [.ref c, .int 0, .int 0, .int k, .int 0]) → Q (.ref b) H'
def spOpen (K : PySem.W.Frag) : Sp := fun vs H Q _ => ∃ (a : Addr) (ns : List Int), vs = [.ref a] ∧ SqL K H a (ns.map V.int) ∧ ns.length ≤ 63 ∧ ∀ v H', Same H H' → BX v H' → Q v H'
theorem scL_open : FnScope ["_law_script"] ["_law_script"] (defScope sL_open) := ⟨rfl, rfl, rfl, by decide +kernel, rfl, by decide +kernel, by decide +kernel⟩
theorem cut_ints (ns : List Int) (k : Nat) : cutV (ns.map V.int) none (some (k : Int)) = (ns.take k).map V.int := by
  unfold cutV
  rw [HT.sIx_none, HT.sIx_nat, List.drop_zero, List.map_take, Nat.sub_zero]
  by_cases h : k ≤ (ns.map V.int).length
  · rw [Nat.min_eq_left h]
  · rw [Nat.min_eq_right (by omega), List.take_of_length_le (Nat.le_refl _), List.take_of_length_le (by omega)]
theorem ok_L_open0 (F : FnT K "_law_open" sL_open f fd) (g1 : mg "list" = none) (g2 : mg "len" = none) : FnOk P w K mg base CX0 1 f fd ["_law_script"] (spOpen0 K) := by
  refine fn_hs F scL_open (fun vs H Q E h => ?_) (fun cdv A outer sh H vs Q E hr h => ?_)
  · obtain ⟨a, ns, rfl, _⟩ := h
    rfl
  · obtain ⟨a, ns, rfl, hS, hl, q⟩ := h
    refine hs_cons (ps_ret (pe_lst (pa_cons (pe_callTy call_list_of (by rfl) g1 boot_list (pa_cons (pe_slice sl_list (pv 0) po_none (po_some pe_int)) pa_nil)) (pa_cons pe_int (pa_cons pe_int (pa_cons (pe_op op_add pe_int (pe_op op_mul pe_int (pe_callB call_len_seq (by rfl) g2 PySem.boot_len (pa_cons (pv 0) pa_nil)))) (pa_cons pe_int pa_nil))))))) ?_
    refine ⟨_, rfl, _, rfl, a, _, rfl, hS, fun p hp => ⟨p, _, rfl, .inl (sql_of upd_same), fun c hc => ?_⟩⟩
    have s1 : Same H (upd H p (.lst (cutV (ns.map V.int) none (some 63)))) := Same.new hp
    have hcp : p ≠ c := ne_of_none upd_same hc
    have hc0 : H c = none := s1.free hc
    have s2 := s1.trans (Same.new (o := .lst (cutV (ns.map V.int) none (some 63))) hc)
    refine ⟨_, rfl, a, _, rfl, .inl (sql_up s2 hS), 7, ((ns.map V.int).length : Int), rfl, rfl, .inl (by decide), 12016, 7 * ((ns.map V.int).length : Int), rfl, rfl, (by show 5 ≤ 16777216; decide), fun b hb => ?_⟩
    have hbc : b ≠ c := (ne_of_none upd_same hb).symm
    rw [List.length_map]
    refine q b c (ns.take 63) _ _ (s2.free hb) hc0 hbc (s2.trans (Same.new hb)) (by rw [List.length_take]; omega) (by omega) (by omega) ?_ upd_same
    rw [upd_ne hbc.symm, upd_same]
    exact congrArg (fun l => some (HO.lst l)) (cut_ints ns 63)
theorem ok_L_open (F : FnT K "_law_open" sL_open f fd) (g1 : mg "list" = none) (g2 : mg "len" = none) : FnOk P w K mg base CX0 1 f fd ["_law_script"] (spOpen K) := by
  refine FnOk.close (ok_L_open0 F g1 g2) (fun vs H Q E h => by obtain ⟨a, ns, rfl, _⟩ := h; rfl) fun vs H Q E h => ?_
  obtain ⟨a, ns, rfl, hS, hl, q⟩ := h
  refine ⟨a, ns, rfl, hS, hl, fun b c ms k H' nb nc nbc sm hm k0 k1 hc hb => ⟨b, _, boxPhi b c, nb, hb, sm, fun h' o => box_of ⟨0, 0, k, 0, rfl, by omega, by omega, k0, by omega, by omega⟩ o, box_stab, ?_⟩⟩
  refine q _ _ (fun x o e => by rw [upd_ne (ne_of_none e nb)]; exact sm _ _ e) ⟨b, c, ms, rfl, nbc, upd_same, by rw [upd_ne nbc.symm]; exact hc, hm⟩
def spTake0 : Sp := fun vs H Q _ => ∃ (b c : Addr) (ns : List Int) (sz : Int) (xs : List V), vs = [.ref b, .int sz] ∧ b ≠ c ∧ H b = some (.lst xs) ∧ BoxV c xs ∧ H c = some (.lst (ns.map V.int)) ∧ ns.length ≤ 63 ∧ 0 < sz ∧ sz < 1073741824 ∧
  ∀ (n : Int) (H' : Hp) (ys : List V), 0 ≤ n → n < sz → (∀ a o, H a = some o → a ≠ b → H' a = some o) → H' b = some (.lst ys) → BoxV c ys → Q (.int n) H'
def Ftake : List PyData → (PyData → Prop) → Prop := fun ds G => ∃ sz, ds = [.int sz] ∧ 0 < sz ∧ sz < 1073741824 ∧ G = fun d => ∃ n, d = .int n ∧ 0 ≤ n ∧ n < sz
theorem scL_take : FnScope ["_law_box", "_law_size", "_law_cell", "_law_digit", "_law_seed"] ["_law_box", "_law_size"] (defScope sL_take) := ⟨rfl, rfl, rfl, by decide +kernel, rfl, by decide +kernel, by decide +kernel⟩
theorem bound_mod {x y : Int} (h : 0 < y) : 0 ≤ x % y ∧ x % y < y := ⟨Int.emod_nonneg x (by omega), Int.emod_lt_of_pos x h⟩
/-- the box at b in H', all else as in H -/
structure TkI (H : Hp) (b c : Addr) (H' : Hp) (i g m k : Int) : Prop where
  hb : H' b = some (.lst [.ref c, .int i, .int g, .int m, .int k])
  ot : ∀ a o, H a = some o → a ≠ b → H' a = some o
  i0 : 0 ≤ i
  g0 : 0 ≤ g
  m0 : 0 ≤ m
  m1 : m < 2147483648
  k0 : 0 ≤ k
theorem TkI.up {H : Hp} {b c : Addr} {H1 H2 : Hp} {i g m k : Int} (t : TkI H b c H1 i g m k) (s : Same H1 H2) : TkI H b c H2 i g m k := ⟨s _ _ t.hb, fun a o h n => s _ _ (t.ot a o h n), t.i0, t.g0, t.m0, t.m1, t.k0⟩
theorem TkI.put {H : Hp} {b c : Addr} {H1 : Hp} {i g m k i' g' m' k' : Int} (t : TkI H b c H1 i g m k) (xs : List V) (e : xs = [.ref c, .int i', .int g', .int m', .int k']) (a0 : 0 ≤ i') (a1 : 0 ≤ g') (a2 : 0 ≤ m') (a3 : m' < 2147483648) (a4 : 0 ≤ k') : TkI H b c (upd H1 b (.lst xs)) i' g' m' k' := by
  subst e
  exact ⟨upd_same, fun a o h n => by rw [upd_ne n]; exact t.ot a o h n, a0, a1, a2, a3, a4⟩
theorem small64' {z : Int} (h0 : 0 ≤ z) (h : z < 2147483648) : -(2 ^ 64) < z ∧ z < 2 ^ 64 := by
  have e : (2 : Int) ^ 64 = 18446744073709551616 := by decide
  omega
theorem ok_L_take0 (F : FnT K "_law_take" sL_take f fd) (g1 : mg "len" = none) (g2 : mg "int" = none) : FnOk P w K mg base CX0 1 f fd ["_law_box", "_law_size"] spTake0 := by
  refine fn_hs F scL_take (fun vs H Q E h => ?_) (fun cdv A outer sh H vs Q E hr h => ?_)
  · obtain ⟨b, c, ns, sz, xs, rfl, _⟩ := h
    rfl
  · obtain ⟨b, c, ns, sz, xs, rfl, hbc, hb, hx, hc, hl, z0, z1, q⟩ := h
    obtain ⟨i, g, m, k, rfl, i0, g0, m0, m1, k0⟩ := hx.ex
    have T0 : TkI H b c H i g m k := ⟨hb, fun a o h _ => h, i0, g0, m0, m1, k0⟩
    have eb : ∀ {σ : L2.St} {S : Hp} {pos : Pos}, σ[0]? = some (some (V.ref b)) → EE (cxOf CX0 P w K mg base ["_law_box", "_law_size", "_law_cell", "_law_digit", "_law_seed"] "_law_take" (defScope sL_take) f cdv A outer sh H E).nox σ S (.Name "_law_box" pos) (fun w _ => w = .ref b) := fun h => ee_var 0 h rfl
    have hnz : ns.length ≤ sizeLine := Nat.le_trans hl (by decide)
    have ec : ∀ {S : Hp} {i g m k : Int} {σ : L2.St} {p1 p2 p3 : Pos} {n : Nat}, TkI H b c S i g m k → σ[0]? = some (some (V.ref b)) → EE (cxOf CX0 P w K mg base ["_law_box", "_law_size", "_law_cell", "_law_digit", "_law_seed"] "_law_take" (defScope sL_take) f cdv A outer sh H E).nox σ S (.Subscript (.Name "_law_box" p1) (.Constant (.int 0) n p2) p3) (Dt K (lI ns)) := fun {S i g m k} _ _ _ _ _ T h =>
      ee_ixB T.hb (eb h) ee_int (v := .ref c) rfl fun S' s => Dt.lst_mk (s _ _ (T.ot _ _ hc hbc.symm)) (int_dts ns S') (by rw [List.length_map]; exact hnz)
    refine hs_ifR (S := H) (fun σ' H' => ∃ (v : Option V) (i g m k : Int), σ' = [some (.ref b), some (.int sz), v, none, none] ∧ TkI H b c H' i g m k)
      (et_w (ew_and (et_eqI (ee_ixB hb (eb rfl) ee_int (v := .int g) rfl fun _ _ => .int g) ee_int) fun _ => ew_and1 (et_lt (ee_ixB hb (eb rfl) ee_int (v := .int i) rfl fun _ _ => .int i) (ee_len g1 (n := ns.length) (by simp [lI, lenD]) (ec T0 rfl))))) (Same.refl H) (fun hk S1 H1 g1' => ?_) (fun hk S1 H1 g1' => hs_nil ⟨none, i, g, m, k, rfl, T0.up g1'.hh⟩) ?_
    · -- a cell is taken
      have hi : i < (ns.length : Int) := by
        have h2 := (Bool.and_eq_true_iff.mp hk).2
        exact of_decide_eq_true h2
      have T1 := T0.up g1'.hh
      have hget : atI (ns.map PyData.int) i = some (.int (ns[i.toNat]'(by omega))) := by
        unfold atI ixN
        rw [if_pos i0, List.length_map, if_pos hi]
        show (ns.map PyData.int)[i.toNat]? = _
        rw [List.getElem?_map, List.getElem?_eq_getElem (by omega)]
        rfl
      refine hs_set (S := H1) (i := 2) (ee_ixL hget (ec T1 rfl) (ee_ixB T1.hb (eb rfl) ee_int (v := .int i) rfl fun _ _ => .int i)) (Same.refl _) scL_take.nd fun v S2 H2 g2' pv => ?_
      cases pv
      have T2 := T1.up g2'.hh
      refine hs_setL (ee_add (ee_ixB T2.hb (eb rfl) ee_int (v := .int i) rfl fun _ _ => .int i) ee_int) (eb rfl) ee_int T2.hb (j := 1) rfl fun v H3 s3 pv => ?_
      cases pv
      have T3 := (T2.up s3).put ([.ref c, .int i, .int g, .int m, .int k].set 1 (.int (i + 1))) rfl (by omega) g0 m0 m1 k0
      refine hs_if (S := _) (et_ge (ee_var 2 rfl (Dt.int (K := K) _)) (ee_pow (by exact ⟨by decide, by decide, by decide⟩) ee_int ee_int)) (Same.refl _) (fun hk4 S4 H4 g4 => ?_) (fun hk4 S4 H4 g4 => ?_)
      · have T4 := T3.up g4.hh
        have hge := of_decide_eq_true hk4
        refine hs_setL (ee_var 2 rfl (Dt.int (K := K) _)) (eb rfl) ee_int T4.hb (j := 2) rfl fun v H5 s5 pv => hs_nil (hs_nil ?_)
        cases pv
        have e18 : (0 : Int) ≤ 10 ^ (18 : Int).toNat := by decide
        exact ⟨_, i + 1, _, m, k, rfl, (T4.up s5).put _ rfl (by omega) (by omega) m0 m1 k0⟩
      · have T4 := T3.up g4.hh
        have b1 := @bound_mod (ns[i.toNat]'(by omega)) 2147483497 (by decide)
        refine hs_setL (ee_mod (by decide) (ee_intOf g2 (ee_add (ee_add (ee_mulS (.inr (by decide)) (ee_ixB T4.hb (eb rfl) ee_int (v := .int m) rfl fun _ _ => .int m) ee_int) (ee_mulS (.inr (by decide)) (ee_mod (by decide) (ee_intOf g2 (ee_var 2 rfl (Dt.int (K := K) _))) ee_int) ee_int)) ee_int)) ee_int) (eb rfl) ee_int T4.hb (j := 3) rfl fun v H5 s5 pv => hs_nil (hs_nil ?_)
        cases pv
        have b2 := @bound_mod (m * 39119 + ns[i.toNat]'(by omega) % 2147483497 * 6143 + 53) 2147483563 (by decide)
        exact ⟨_, i + 1, g, _, k, rfl, (T4.up s5).put _ rfl (by omega) g0 b2.1 (by omega) k0⟩
    · rintro σ' H2 ⟨v, i, g, m, k, rfl, T2⟩
      have g0 := T2.g0
      have m0 := T2.m0
      refine hs_if (S := H2) (et_gt (ee_ixB T2.hb (eb rfl) ee_int (v := .int g) rfl fun _ _ => .int g) ee_int) (Same.refl _) (fun hk S3 H3 g3 => ?_) (fun hk S3 H3 g3 => hs_nil ?_)
      · have T3 := T2.up g3.hh
        refine hs_set (S := H3) (i := 3) (ee_mod z0 (ee_intOf g2 (ee_ixB T3.hb (eb rfl) ee_int (v := .int g) rfl fun _ _ => .int g)) (ee_var 1 rfl (Dt.int (K := K) sz))) (Same.refl _) scL_take.nd fun v S4 H4 g4 pv => ?_
        cases pv
        have T4 := T3.up g4.hh
        have b3 := @bound_mod g sz z0
        refine hs_setL (ee_fdiv (wide_div (b := 31) z0 (by omega) (by decide) (by decide)) (ee_ixB T4.hb (eb rfl) ee_int (v := .int g) rfl fun _ _ => .int g) (ee_var 1 rfl (Dt.int (K := K) sz))) (eb rfl) ee_int T4.hb (j := 2) rfl fun v H5 s5 pv => ?_
        cases pv
        have T5 := (T4.up s5).put ([.ref c, .int i, .int g, .int m, .int k].set 2 (.int (g / sz))) rfl T2.i0 (Int.ediv_nonneg g0 (by omega)) T2.m0 T2.m1 T2.k0
        refine hs_ret (S := _) (ee_var 3 rfl (Dt.int (K := K) _)) (Same.refl _) fun v S6 H6 g6 pv => ?_
        cases pv
        have T6 := T5.up g6.hh
        exact q _ H6 _ b3.1 b3.2 T6.ot T6.hb ⟨i, g / sz, m, k, rfl, T6.i0, T6.g0, T6.m0, T6.m1, T6.k0⟩
      · have T3 := T2.up g3.hh
        refine hs_setL (ee_add (ee_ixB T3.hb (eb rfl) ee_int (v := .int k) rfl fun _ _ => .int k) ee_int) (eb rfl) ee_int T3.hb (j := 4) rfl fun v H4 s4 pv => ?_
        cases pv
        have k0 := T3.k0
        have T4 := (T3.up s4).put ([.ref c, .int i, .int g, .int m, .int k].set 4 (.int (k + 1))) rfl T3.i0 T3.g0 T3.m0 T3.m1 (by omega)
        refine hs_set (S := _) (i := 4) (ee_ixB (P := Dt K (.int m)) T4.hb (eb rfl) ee_int (v := .int m) rfl fun _ _ => .int m) (Same.refl _) scL_take.nd fun v S5 H5 g5 pv => ?_
        cases pv
        have T5 := T4.up g5.hh
        refine hs_setL (ee_mod (by decide) (ee_intOf g2 (ee_add (ee_add (ee_add (ee_mulS (.inl (small64' m0 T2.m1)) (ee_var 4 rfl (Dt.int (K := K) m)) (ee_var 4 rfl (Dt.int (K := K) m))) (ee_mulS (.inr (by decide)) (ee_var 4 rfl (Dt.int (K := K) m)) ee_int)) (ee_mulS (.inr (by decide)) (ee_ixB T5.hb (eb rfl) ee_int (v := .int (k + 1)) rfl fun _ _ => .int (k + 1)) ee_int)) ee_int)) ee_int) (eb rfl) ee_int T5.hb (j := 3) rfl fun v H6 s6 pv => ?_
        cases pv
        have b2 := @bound_mod (m * m + m * 28411 + (k + 1) * 1500007 + 90001) 2147483587 (by decide)
        have T6 := (T5.up s6).put ([.ref c, .int i, .int g, .int m, .int (k + 1)].set 3 (.int ((m * m + m * 28411 + (k + 1) * 1500007 + 90001) % 2147483587))) rfl T5.i0 T5.g0 b2.1 (by omega) (by omega)
        refine hs_ret (S := _) (ee_mod z0 (ee_intOf g2 (ee_add (ee_fdiv (wide_div (b := 31) (by decide) (by decide) (by decide) (by decide)) (ee_ixB T6.hb (eb rfl) ee_int (P := Dt K (.int ((m * m + m * 28411 + (k + 1) * 1500007 + 90001) % 2147483587))) (v := .int ((m * m + m * 28411 + (k + 1) * 1500007 + 90001) % 2147483587)) rfl fun _ _ => .int _) ee_int) (ee_mulS (.inr (by decide)) (ee_mod (by decide) (ee_intOf g2 (ee_ixB T6.hb (eb rfl) ee_int (P := Dt K (.int ((m * m + m * 28411 + (k + 1) * 1500007 + 90001) % 2147483587))) (v := .int ((m * m + m * 28411 + (k + 1) * 1500007 + 90001) % 2147483587)) rfl fun _ _ => .int _)) ee_int) ee_int))) (ee_var 1 rfl (Dt.int (K := K) sz))) (Same.refl _) fun v S7 H7 g7 pv => ?_
        cases pv
        have T7 := T6.up g7.hh
        exact q _ H7 _ (bound_mod z0).1 (bound_mod z0).2 T7.ot T7.hb ⟨_, _, _, _, rfl, T7.i0, T7.g0, T7.m0, T7.m1, T7.k0⟩
theorem ok_L_take (F : FnT K "_law_take" sL_take f fd) (g1 : mg "len" = none) (g2 : mg "int" = none) : FnOk P w K mg base CX0 1 f fd ["_law_box", "_law_size"] (spB K Ftake) := by
  refine FnOk.box (ok_L_take0 F g1 g2) (fun vs H Q E h => ?_) fun vs H Q E h => ?_
  · obtain ⟨S, v, ws, ds, G, rfl, _, _, hd, ⟨sz, rfl, _⟩, _⟩ := h
    have := hd.1
    simp at this
    simp [this]
  · obtain ⟨S, v, ws, ds, G, rfl, s, ⟨b, c, ns, rfl, hbc, hb, hc, hl⟩, hd, ⟨sz, rfl, z0, z1, rfl⟩, q⟩ := h
    obtain ⟨u, rfl, pu⟩ := hd.one
    cases pu
    refine ⟨b, boxPhi b c, s _ _ hb, fun h p => ?_⟩
    obtain ⟨xs, hx, ox⟩ := of_box (P := P) (w := w) (H := H) p
    refine ⟨xs, ox, b, c, ns, sz, xs, rfl, hbc, upd_same, hx, by rw [upd_ne hbc.symm]; exact s _ _ hc, hl, z0, z1, fun n H' ys n0 n1 ot hy hys => ⟨ys, hy, fun h' o => box_of hys o, fun a o e ne => ot a o (by rw [upd_ne ne]; exact e) ne, ?_⟩⟩
    have sm : Same H (upd H' b (.ext (boxPhi b c))) := fun a o e => by
      by_cases ha : a = b
      · subst ha; rw [upd_same]; rw [s _ _ hb] at e; exact e
      · rw [upd_ne ha]; exact ot a o (by rw [upd_ne ha]; exact e) ha
    exact q (.int n) ⟨n, rfl, n0, n1⟩ _ S _ ⟨Same.refl S, s.trans sm, sm, fun _ _ _ _ => rfl⟩ (Dt.int n)
def Fone : List PyData → (PyData → Prop) → Prop := fun ds G => ∃ xs, ds = [.list xs] ∧ 0 < xs.length ∧ xs.length < 1073741824 ∧ G = fun d => d ∈ xs
theorem scL_one : FnScope ["_law_box", "_law_some"] ["_law_box", "_law_some"] (defScope sL_one) := ⟨rfl, rfl, rfl, by decide +kernel, rfl, by decide +kernel, by decide +kernel⟩
theorem ok_L_one (F : FnT K "_law_one" sL_one f fd) (D1 : KD P w K mg base "_law_take" 1 (spB K Ftake)) (g1 : mg "len" = none) : FnOk P w K mg base CX0 2 f fd ["_law_box", "_law_some"] (spB K Fone) := by
  refine fn_hs F scL_one (fun vs H Q E h => ?_) (fun cdv A outer sh H vs Q E hr h => ?_)
  · obtain ⟨S, v, ws, ds, G, rfl, _, _, hd, ⟨xs, rfl, _⟩, _⟩ := h
    have := hd.1
    simp at this
    simp [this]
  · obtain ⟨S, v, ws, ds, G, rfl, s, hb, hd, ⟨xs, rfl, z0, z1, rfl⟩, q⟩ := h
    obtain ⟨u, rfl, pu⟩ := hd.one
    refine hs_ret (ee_ixE (ee_var 1 rfl pu) ((ee_callBx D1 hr ⟨xs.length, rfl, by omega, by omega, rfl⟩ (ea_2 (ee_var 0 rfl hb) (ee_len g1 rfl (ee_var 1 rfl pu)))).exi fun d ⟨n, e, n0, n1⟩ => ⟨n, e, n0, n1⟩)) s ?_
    rintro v S' H' g ⟨d, hd, pd⟩
    exact q d hd v S' H' g pd
def oddL : List PyData := [.none, .bool true, .bool false, .str "", .str "Q7", .int (-1), .tuple [.int 1, .str "a"], .list [.int 1], .tuple [], .list [.str "a"], .tuple [.bool true]]
def Fodd : List PyData → (PyData → Prop) → Prop := fun ds G => ∃ xs, ds = [.list xs] ∧ xs.length ≤ 1000 ∧ G = fun d => d ∈ oddL ++ xs
theorem scL_odd : FnScope ["_law_box", "_law_more"] ["_law_box", "_law_more"] (defScope sL_odd) := ⟨rfl, rfl, rfl, by decide +kernel, rfl, by decide +kernel, by decide +kernel⟩
theorem ok_L_odd (F : FnT K "_law_odd" sL_odd f fd) (D1 : KD P w K mg base "_law_one" 2 (spB K Fone)) : FnOk P w K mg base CX0 3 f fd ["_law_box", "_law_more"] (spB K Fodd) := by
  refine fn_hs F scL_odd (fun vs H Q E h => ?_) (fun cdv A outer sh H vs Q E hr h => ?_)
  · obtain ⟨S, v, ws, ds, G, rfl, _, _, hd, ⟨xs, rfl, _⟩, _⟩ := h
    have := hd.1
    simp at this
    simp [this]
  · obtain ⟨S, v, ws, ds, G, rfl, s, hb, hd, ⟨xs, rfl, z1, rfl⟩, q⟩ := h
    obtain ⟨u, rfl, pu⟩ := hd.one
    have l11 : oddL.length = 11 := rfl
    refine hs_ret (ee_callBx D1 hr ⟨oddL ++ xs, rfl, by rw [List.length_append, l11]; omega, by rw [List.length_append, l11]; omega, rfl⟩ (ea_2 (ee_var 0 rfl hb) (ee_catL (by rw [l11]; show _ ≤ 16777216; omega)
      (ee_lst (ds := oddL) (ea_cons ee_non (ea_cons ee_bl (ea_cons ee_bl (ea_cons ee_str (ea_cons ee_str (ea_cons (ee_neg ee_int) (ea_cons (ee_tup (ds := [.int 1, .str "a"]) (ea_2 ee_int ee_str)) (ea_cons (ee_lst (ds := [.int 1]) (ea_1 ee_int)) (ea_cons (ee_tup (ds := []) ea_nil) (ea_cons (ee_lst (ds := [.str "a"]) (ea_1 ee_str)) (ea_cons (ee_tup (ds := [.bool true]) (ea_1 ee_bl)) ea_nil)))))))))))) (ee_var 1 rfl pu)))) s ?_
    rintro v S' H' g ⟨d, hd, pd⟩
    exact q d hd v S' H' g pd
def Fexp : List PyData → (PyData → Prop) → Prop := fun ds G => ∃ (n : Nat) (m : Int), ds = [.int n, .int m] ∧ n ≤ 1000 ∧ 0 ≤ m ∧ m < 1000000 ∧ G = fun d => ∃ l : List Int, d = tI l ∧ l.length = n ∧ ∀ x ∈ l, 0 ≤ x ∧ x ≤ m
theorem scL_exp : FnScope ["_law_box", "_law_many", "_law_most", "_law_at"] ["_law_box", "_law_many", "_law_most"] (defScope sL_exp) := ⟨rfl, rfl, rfl, by decide +kernel, rfl, by decide +kernel, by decide +kernel⟩
theorem paired_ints {ds rs : List PyData} {G : Int → Prop} (h : Paired (fun _ d => ∃ i, d = .int i ∧ G i) ds rs) : ∃ l : List Int, rs = l.map .int ∧ l.length = ds.length ∧ ∀ x ∈ l, G x := by
  induction h with
  | nil => exact ⟨[], rfl, rfl, fun _ h => nomatch h⟩
  | cons g _ ih =>
    obtain ⟨i, rfl, gi⟩ := g
    obtain ⟨l, rfl, h2, h3⟩ := ih
    exact ⟨i :: l, rfl, by simp [h2], fun x hx => by
      rcases List.mem_cons.mp hx with rfl | hx
      · exact gi
      · exact h3 x hx⟩
theorem ok_L_exp (F : FnT K "_law_exp" sL_exp f fd) (D1 : KD P w K mg base "_law_take" 1 (spB K Ftake)) (g1 : mg "tuple" = none) (g2 : mg "range" = none) : FnOk P w K mg base CX0 2 f fd ["_law_box", "_law_many", "_law_most"] (spB K Fexp) := by
  refine fn_hs F scL_exp (fun vs H Q E h => ?_) (fun cdv A outer sh H vs Q E hr h => ?_)
  · obtain ⟨S, v, ws, ds, G, rfl, _, _, hd, ⟨n, m, rfl, _⟩, _⟩ := h
    have := hd.1
    simp at this
    simp [this]
  · obtain ⟨S, v, ws, ds, G, rfl, s, hb, hd, ⟨n, m, rfl, hn, m0, m1, rfl⟩, q⟩ := h
    obtain ⟨v1, v2, rfl, p1, p2⟩ := hd.two
    refine hs_ret ((ee_tupleE g1 (ee_lcN (i := 3) rfl scL_exp.nd (blkOk_by (N := ["_law_box", "_law_many", "_law_most", "_law_at"]) (sc := defScope sL_exp) (by decide +kernel)) (ei_range g2 (by omega) (ee_var 1 rfl p1)) (by rw [upto_len]; show _ ≤ 16777216; omega)
      (F := fun _ d => ∃ i, d = .int i ∧ 0 ≤ i ∧ i ≤ m) fun x hx v S2 s2 pv sh' H0 C cl fp => ?_)).exi (G := fun d => ∃ l : List Int, d = tI l ∧ l.length = n ∧ ∀ x ∈ l, 0 ≤ x ∧ x ≤ m) fun d ⟨rs, e, hp⟩ => ?_) s ?_
    · exact (ee_callBx D1 hr ⟨m + 1, rfl, by omega, by omega, rfl⟩ (ea_2 (ee_var 0 rfl (Mn.up s2 hb)) (ee_add (ee_var 2 rfl (p2.up s2)) ee_int))).exi fun d ⟨i, e, i0, i1⟩ => ⟨i, e, i0, by omega⟩
    · obtain ⟨l, rfl, h2, h3⟩ := paired_ints hp
      exact ⟨l, e, by rw [h2, upto_len], h3⟩
    · rintro v S' H' g ⟨d, hd, pd⟩
      exact q d hd v S' H' g pd
def Fkind : List PyData → PyData → Prop := fun ds r => ∃ d, ds = [d] ∧ r = .int (kindN d : Nat)
theorem scL_kind : FnScope ["_law_thing", "_law_marks"] ["_law_thing"] (defScope sL_kind) := ⟨rfl, rfl, rfl, by decide +kernel, rfl, by decide +kernel, by decide +kernel⟩
theorem ok_L_kind (F : FnT K "_law_kind" sL_kind f fd) (g1 : mg "isinstance" = none) (g2 : mg "bool" = none) (g3 : mg "int" = none) (g4 : mg "str" = none) (g5 : mg "list" = none) (g6 : mg "tuple" = none) : FnOk P w K mg base CX0 1 f fd ["_law_thing"] (spD K Fkind) := by
  refine fn_hs F scL_kind (fun vs H Q E h => ?_) (fun cdv A outer sh H vs Q E hr h => ?_)
  · obtain ⟨S, ds, d, _, hd, ⟨_, rfl, _⟩, _⟩ := h
    exact hd.1
  · obtain ⟨S, ds, r, s, hd, ⟨d, rfl, rfl⟩, q⟩ := h
    obtain ⟨v, rfl, p⟩ := hd.one
    refine hs_set (i := 1) (ee_lst (ds := [.bool (decide (kindN d = 0)), .bool (isD d "bool"), .bool (isD d "int"), .bool (isD d "str")]) (ea_cons (by rw [← dt_non p]; exact ee_isN (ee_var 0 rfl rfl)) (ea_cons (ee_isi (isD_ok d (T := "bool") (by simp)) g1 g2 boot_bool (ee_var 0 rfl p)) (ea_cons (ee_isi (isD_ok d (T := "int") (by simp)) g1 g3 boot_int (ee_var 0 rfl p)) (ea_cons (ee_isi (isD_ok d (T := "str") (by simp)) g1 g4 boot_str (ee_var 0 rfl p)) ea_nil))))) s scL_kind.nd fun m1 S1 H1 gr1 pm1 => ?_
    have p1 := p.up gr1.st
    refine hs_set (i := 1) (ee_catL (by show _ ≤ 16777216; exact Nat.le_of_ble_eq_true rfl) (ee_var 1 rfl pm1) (ee_lst (ds := [.bool (isD d "list"), .bool (isD d "tuple"), .bool true]) (ea_cons (ee_isi (isD_ok d (T := "list") (by simp)) g1 g5 boot_list (ee_var 0 rfl p1)) (ea_cons (ee_isi (isD_ok d (T := "tuple") (by simp)) g1 g6 boot_tuple (ee_var 0 rfl p1)) (ea_cons ee_bl ea_nil))))) gr1.sub scL_kind.nd fun m2 S2 H2 gr2 pm2 => ?_
    exact hs_ret (ee_indexT (bs := marksL d) (marks_at d) (marks_no d) (ee_var 1 rfl pm2) ee_bl) gr2.sub fun v S3 H3 gr3 pv => q v S3 H3 (gr1.trans (gr2.trans gr3)) pv
def Fsame (n : Nat) : List PyData → PyData → Prop := fun ds r => ∃ d, ds = [d, d] ∧ Bd n d ∧ r = .bool true
theorem scL_same : FnScope ["_law_found", "_law_due", "_law_a", "_law_b"] ["_law_found", "_law_due"] (defScope sL_same) := ⟨rfl, rfl, rfl, by decide +kernel, rfl, by decide +kernel, by decide +kernel⟩
theorem okL_same_all (xs : List PyData) : ((xs.zip xs).map fun _ => true).all (fun b => b) = true := by
  rw [List.all_eq_true]
  intro b hb
  obtain ⟨_, _, rfl⟩ := List.mem_map.mp hb
  rfl
theorem ok_L_same (F : FnT K "_law_same" sL_same f fd) (hm : mg "_law_same" = some (.ref f)) (hb : Binds K fd ["_law_found", "_law_due"] []) (D1 : KD P w K mg base "_law_kind" 1 (spD K Fkind)) (g1 : mg "len" = none) (g2 : mg "all" = none) (g3 : mg "zip" = none) : ∀ n : Nat, FnOk P w K mg base CX0 (n + 2) f fd ["_law_found", "_law_due"] (spD K (Fsame n)) := by
  have step : ∀ n : Nat, (∀ m, n = m + 1 → FnOk P w K mg base CX0 (m + 2) f fd ["_law_found", "_law_due"] (spD K (Fsame m))) → FnOk P w K mg base CX0 (n + 2) f fd ["_law_found", "_law_due"] (spD K (Fsame n)) := fun n ih => by
    refine fn_hs F scL_same (fun vs H Q E h => ?_) (fun cdv A outer sh H vs Q E hr h => ?_)
    · obtain ⟨S, ds, d, _, hd, ⟨_, rfl, _⟩, _⟩ := h
      exact hd.1
    · obtain ⟨S, ds, r, s, hd, ⟨d, rfl, hbd, rfl⟩, q⟩ := h
      obtain ⟨v1, v2, rfl, p1, p2⟩ := hd.two
      refine hs_ifN ((et_neI (ee_callD D1 (hr.mono (by omega)) ⟨d, rfl, rfl⟩ (ea_1 (ee_var 0 rfl p1))) (ee_callD D1 (hr.mono (by omega)) ⟨d, rfl, rfl⟩ (ea_1 (ee_var 1 rfl p2)))).is (by simp)) s fun S1 H1 g4 => ?_
      have p1 := p1.up g4.st
      have p2 := p2.up g4.st
      refine hs_if (et_inT (ns := [4, 5]) (ee_callD D1 (hr.mono (by omega)) ⟨d, rfl, rfl⟩ (ea_1 (ee_var 1 rfl p2))) (ee_tup (ds := [.int 4, .int 5]) (ea_2 ee_int ee_int))) g4.sub (fun hk S2 H2 g5 => ?_) (fun hk S2 H2 g5 => hs_nil ?_)
      · have p1 := p1.up g5.st
        have p2 := p2.up g5.st
        obtain ⟨m, rfl⟩ : ∃ m, n = m + 1 := by
          cases n with
          | zero => exfalso; cases d <;> first | (simp [kindN] at hk; done) | exact hbd
          | succ m => exact ⟨m, rfl⟩
        have D2 : KD P w K mg base "_law_same" (m + 2) (spD K (Fsame m)) := ⟨f, fd, _, ih m rfl, hm, F.kp, hb⟩
        cases d with
        | list xs =>
          have hz : xs.length ≤ sizeLine := by obtain ⟨l, ys, _, _, hx, z⟩ := p1.lst_inv; rw [← hx.1]; exact z
          refine hs_ret ((ee_and (ee_eqI (ee_len g1 rfl (ee_var 0 rfl p1)) (ee_len g1 rfl (ee_var 1 rfl p2))) fun _ => ee_one (ee_all (bs := (xs.zip xs).map fun _ => true) rfl g2
            (ee_lc2 (i := 2) (j := 3) (enc := .bool) (f := fun _ => true) rfl scL_same.nd (blkOk_by (N := ["_law_found", "_law_due", "_law_a", "_law_b"]) (sc := defScope sL_same) (by decide +kernel)) (by rw [← zipD_eq]; exact ei_zipL g3 (ee_var 0 rfl p1) (ee_var 1 rfl p2)) (by rw [zip_self, List.length_map]; exact hz) ?_))).isd ?_) g5.sub fun v S3 H3 g6 pv => q v S3 H3 (g4.trans (g5.trans g6)) pv
          · intro p hp v u S2 s2 pv pu sh' H0 C cl fp
            rw [zip_self] at hp
            obtain ⟨x, hx, rfl⟩ := List.mem_map.mp hp
            exact ee_callD D2 (hr.mono (by omega)) ⟨x, rfl, hbd x hx, rfl⟩ (ea_2 (ee_var 2 rfl pv) (ee_var 3 rfl pu))
          · rw [okL_same_all]; simp
        | tuple xs =>
          have hz : xs.length ≤ sizeLine := by obtain ⟨l, ys, _, _, hx, z⟩ := p1.tup_inv; rw [← hx.1]; exact z
          refine hs_ret ((ee_and (ee_eqI (ee_len g1 rfl (ee_var 0 rfl p1)) (ee_len g1 rfl (ee_var 1 rfl p2))) fun _ => ee_one (ee_all (bs := (xs.zip xs).map fun _ => true) rfl g2
            (ee_lc2 (i := 2) (j := 3) (enc := .bool) (f := fun _ => true) rfl scL_same.nd (blkOk_by (N := ["_law_found", "_law_due", "_law_a", "_law_b"]) (sc := defScope sL_same) (by decide +kernel)) (by rw [← zipD_eq]; exact ei_zipT g3 (ee_var 0 rfl p1) (ee_var 1 rfl p2)) (by rw [zip_self, List.length_map]; exact hz) ?_))).isd ?_) g5.sub fun v S3 H3 g6 pv => q v S3 H3 (g4.trans (g5.trans g6)) pv
          · intro p hp v u S2 s2 pv pu sh' H0 C cl fp
            rw [zip_self] at hp
            obtain ⟨x, hx, rfl⟩ := List.mem_map.mp hp
            exact ee_callD D2 (hr.mono (by omega)) ⟨x, rfl, hbd x hx, rfl⟩ (ea_2 (ee_var 2 rfl pv) (ee_var 3 rfl pu))
          · rw [okL_same_all]; simp
        | _ => exfalso; simp [kindN] at hk; done
      · have p1 := p1.up g5.st
        have p2 := p2.up g5.st
        have fin : ∀ b : Bool, b = true → ∀ v S3 H3, Gr S2 H2 S3 H3 → Dt K (.bool b) v S3 → Q v H3 := fun b hb v S3 H3 g6 pv => q v S3 H3 (g4.trans (g5.trans g6)) (hb ▸ pv)
        cases d with
        | none => exact hs_ret (ee_eq hr (by decide +kernel) (by decide +kernel) (ee_var 0 rfl p1) (ee_var 1 rfl p2)) g5.sub (fin _ rfl)
        | bool b => exact hs_ret (ee_eq hr (by cases b <;> decide +kernel) (by cases b <;> decide +kernel) (ee_var 0 rfl p1) (ee_var 1 rfl p2)) g5.sub (fin _ (by cases b <;> rfl))
        | int i => exact hs_ret (ee_eqI (ee_var 0 rfl p1) (ee_var 1 rfl p2)) g5.sub (fin _ (by simp))
        | str x => exact hs_ret (ee_eqS (ee_var 0 rfl p1) (ee_var 1 rfl p2)) g5.sub (fin _ (by simp))
        | list xs => exfalso; simp [kindN] at hk; done
        | tuple xs => exfalso; simp [kindN] at hk; done
        | dict xs => exfalso; cases n <;> exact hbd
  intro n
  induction n with
  | zero => exact step 0 fun m h => nomatch h
  | succ n ih => exact step (n + 1) fun m h => by cases h; exact ih
theorem scL_pow : FnScope ["_law_size", "_law_power", "_law_found", "_law_late", "_law_rest"] ["_law_size", "_law_power"] (defScope sL_pow) := ⟨rfl, rfl, rfl, by decide +kernel, rfl, by decide +kernel, by decide +kernel⟩
def FL_pow : List PyData → PyData → Prop := fun ds r => ∃ n e, ds = [.int n, .int e] ∧ r = .int (n ^ e.toNat) ∧ PowOk n e
theorem ok_L_pow (F : FnT K "_law_pow" sL_pow f fd) (gi : mg "int" = none) : FnOk P w K mg base CX0 1 f fd ["_law_size", "_law_power"] (spD K FL_pow) := by
  refine fn_hs F scL_pow (fun vs H Q E h => ?_) (fun cdv A outer sh H vs Q E hr h => ?_)
  · obtain ⟨S, ds, d, _, hd, ⟨_, _, rfl, _⟩, _⟩ := h
    exact hd.1
  · obtain ⟨S, ds, r, s, hd, ⟨n, e, rfl, rfl, h0, hb⟩, q⟩ := h
    obtain ⟨v1, v2, rfl, p1, p2⟩ := hd.two
    obtain ⟨en, rfl⟩ : ∃ en : Nat, e = (en : Int) := ⟨e.toNat, by omega⟩
    rw [Int.toNat_natCast] at hb q
    refine hs_par3 (i := 2) (j := 3) (l := 4) rfl scL_pow.nd ee_int (ee_var 0 rfl p1) (ee_var 1 rfl p2) s rfl fun w1 w2 w3 S1 H1 g1 q1 q2 q3 => ?_
    refine hs_while (fun m σ S2 => ∃ a b : Nat, a + b * m = en ∧ ∃ x y z, σ = [some v1, some v2, some x, some y, some z] ∧ Dt K (.int (n ^ a)) x S2 ∧ Dt K (.int (n ^ b)) y S2 ∧ Dt K (.int (m : Nat)) z S2) en PassesOwn.never g1.sub ⟨0, 1, by omega, w1, w2, w3, rfl, by rw [Int.pow_zero]; exact q1, by rw [Int.pow_succ, Int.pow_zero, Int.one_mul]; exact q2, q3⟩ ?_
    rintro m σ S2 H2 g2 ⟨a, b, hab, x, y, z, rfl, px, py, pz⟩
    refine ⟨decide ((0 : Int) < (m : Nat)), et_gt (ee_var 4 rfl pz) ee_int, fun hm S3 H3 g3 => ?_, fun hm S3 H3 g3 => ?_⟩
    · have hm : 0 < m := by simpa using hm
      have hbe : b ≤ b * m := Nat.le_mul_of_pos_right b hm
      have px := px.up g3.st
      have py := py.up g3.st
      have pz := pz.up g3.st
      have hmod : m = 2 * (m / 2) + m % 2 := (Nat.div_add_mod m 2).symm
      refine hs_ifJ (fun σ' S4 => ∃ (a' : Nat) (x' : V), a' + (b + b) * (m / 2) = en ∧ Dt K (.int (n ^ a')) x' S4 ∧ σ' = [some v1, some v2, some x', some y, some z]) (et_eqI (ee_mod (by decide) (ee_intOf gi (ee_var 4 rfl pz)) ee_int) ee_int) g3.sub (fun ho S4 H4 g4 => ?_) (fun ho S4 H4 g4 => ?_) ?_
      · have ho : m % 2 = 1 := by have := of_decide_eq_true ho; omega
        refine hs_set (i := 2) (ee_mul (pow_mulx hb (by omega) (by omega)) (ee_var 2 rfl (px.up g4.st)) (ee_var 3 rfl (py.up g4.st))) g4.sub scL_pow.nd fun x' S5 H5 g5 px' => hs_nil ?_
        rw [← Int.pow_add] at px'
        refine ⟨S5, g5, a + b, x', ?_, px', rfl⟩
        rw [← hab]
        conv => rhs; rw [hmod, ho]
        rw [Nat.mul_add, Nat.add_mul, ← Nat.mul_assoc, Nat.mul_comm b 2, Nat.mul_assoc]
        omega
      · have ho : m % 2 = 0 := by have := of_decide_eq_false ho; omega
        refine hs_nil ⟨S4, Gr.refl g4.sub, a, x, ?_, px.up g4.st, rfl⟩
        rw [← hab]
        conv => rhs; rw [hmod, ho]
        rw [Nat.add_zero, Nat.add_mul, ← Nat.mul_assoc, Nat.mul_comm b 2, Nat.mul_assoc]
        omega
      rintro σ' S4 H4 g4 ⟨a', x', ha', px', rfl⟩
      refine hs_set (i := 4) (P := Dt K (.int ((m / 2 : Nat) : Int))) ((ee_fdiv (wide_div (b := 31) (by decide) (by decide) (by decide) (by decide)) (ee_var 4 rfl (pz.up g4.st)) ee_int).isd (by rw [Int.natCast_ediv]; rfl)) g4.sub scL_pow.nd fun z' S5 H5 g5 pz' => ?_
      by_cases hm2 : 0 < m / 2
      · have hb2 : b + b ≤ (b + b) * (m / 2) := Nat.le_mul_of_pos_right _ hm2
        refine hs_set (i := 3) (P := Dt K (.int (n ^ b * n ^ b))) (ee_if ((et_gt (ee_var 4 rfl pz') ee_int).is (decide_eq_true (by omega))) (fun _ => ee_mul (pow_mulx hb (by omega) (by omega)) (ee_var 3 rfl ((py.up g4.st).up g5.st)) (ee_var 3 rfl ((py.up g4.st).up g5.st))) (fun h => nomatch h)) g5.sub scL_pow.nd fun y' S7 H7 g7 py' => hs_nil ?_
        rw [← Int.pow_add] at py'
        exact ⟨S7, g4.trans (g5.trans g7), m / 2, by omega, a', b + b, ha', x', y', z', rfl, (px'.up g5.st).up g7.st, py', pz'.up g7.st⟩
      · have hm0 : m / 2 = 0 := by omega
        refine hs_set (i := 3) (P := Dt K (.int (n ^ b))) (ee_if ((et_gt (ee_var 4 rfl pz') ee_int).is (decide_eq_false (by omega))) (fun h => nomatch h) (fun _ => ee_var 3 rfl ((py.up g4.st).up g5.st))) g5.sub scL_pow.nd fun y' S7 H7 g7 py' => hs_nil ?_
        rw [hm0, Nat.mul_zero] at ha'
        exact ⟨S7, g4.trans (g5.trans g7), m / 2, by omega, a', b, by rw [hm0]; omega, x', y', z', rfl, (px'.up g5.st).up g7.st, py', pz'.up g7.st⟩
    · have hm : m = 0 := by simpa using hm
      subst hm
      refine hs_ret (ee_var 2 rfl (px.up g3.st)) g3.sub fun v S4 H4 g4 pv => q v S4 H4 (g1.trans (g2.trans (g3.trans g4))) ?_
      have e1 : a = en := by omega
      rw [e1] at pv
      exact pv
def FL_mono : List PyData → PyData → Prop := fun ds r => ∃ es ns, ds = [tI es, tI ns] ∧ r = .int (monoI es ns) ∧ MonoOk es ns
theorem scL_mono : FnScope ["_law_exp_z", "_law_row_here", "_law_found", "_law_power", "_law_number_z"] ["_law_exp_z", "_law_row_here"] (defScope sL_mono) := ⟨rfl, rfl, rfl, by decide +kernel, rfl, by decide +kernel, by decide +kernel⟩
theorem ok_L_mono (F : FnT K "_law_mono" sL_mono f fd) (D1 : KD P w K mg base "_law_pow" 1 (spD K FL_pow)) (g1 : mg "zip" = none) : FnOk P w K mg base CX0 2 f fd ["_law_exp_z", "_law_row_here"] (spD K FL_mono) := by
  refine fn_hs F scL_mono (fun vs H Q E h => ?_) (fun cdv A outer sh H vs Q E hr h => ?_)
  · obtain ⟨S, ds, d, _, hd, ⟨_, _, rfl, _⟩, _⟩ := h
    exact hd.1
  · obtain ⟨S, ds, r, s, hd, ⟨es, ns, rfl, rfl, hm⟩, q⟩ := h
    obtain ⟨v1, v2, rfl, p1, p2⟩ := hd.two
    refine hs_set (i := 2) ee_int s scL_mono.nd fun w1 S1 H1 g2 q1 => ?_
    have hlen : ∀ K, (Ds K (zipD (es.map PyData.int) (ns.map PyData.int))).length = es.length := fun K => by rw [ds_len, zipD_eq, List.length_map, List.length_zip, List.length_map, List.length_map, ← hm.1]; omega
    refine hs_for (fun i σ S2 => ∃ x a b, σ = [some v1, some v2, some x, a, b] ∧ Dt K (.int (monoI (es.take i) (ns.take i))) x S2) PassesOwn.never rfl (ei_zipT g1 (ee_var 0 rfl (p1.up g2.st)) (ee_var 1 rfl (p2.up g2.st))) g2.sub (fun S2 H2 g3 => ⟨w1, none, none, rfl, q1.up g3.st⟩) ?_ ?_
    · rintro i Pi σ1 S2 H2 x S3 H3 hP g3 ⟨y, a, b, rfl, py⟩ g4 px
      have hi : i < es.length := by
        have := (List.getElem?_eq_some_iff.mp hP).1
        rw [hlen] at this; exact this
      have hi2 : i < ns.length := by rw [← hm.1]; exact hi
      have hz : (zipD (es.map PyData.int) (ns.map PyData.int))[i]? = some (.tuple [.int es[i], .int ns[i]]) := zipD_get (by rw [List.getElem?_map, List.getElem?_eq_getElem hi]; rfl) (by rw [List.getElem?_map, List.getElem?_eq_getElem hi2]; rfl)
      rw [ds_get hz] at hP
      obtain rfl := Option.some.inj hP
      obtain ⟨u1, u2, k1, k2, hg⟩ := eg_pair (σ := [some v1, some v2, some y, a, b]) (i := 3) (j := 4) (x := "_law_power") (y := "_law_number_z") (kk := _) (px := _) (py := _) (pos := _) (X := (cxOf CX0 P w K mg base ["_law_exp_z", "_law_row_here", "_law_found", "_law_power", "_law_number_z"] "_law_mono" (defScope sL_mono) f cdv A outer sh H E).nox) rfl scL_mono.nd rfl rfl (Or.inl rfl) (Or.inl rfl) px
      refine hg H3 g4.sub _ ?_
      have hpo : PowOk ns[i] es[i] := hm.2.2 (es[i], ns[i]) (List.mem_of_getElem? (i := i) (by rw [List.getElem?_zip_eq_some]; exact ⟨List.getElem?_eq_getElem hi, List.getElem?_eq_getElem hi2⟩))
      refine hs_set (i := 2) (ee_mul (mono_mulx hm (by have := hm.2.1; omega) hpo) (ee_var 2 rfl (py.up g4.st)) (ee_callD D1 hr ⟨ns[i], es[i], rfl, rfl, hpo⟩ (ea_2 (ee_var 4 rfl k2) (ee_var 3 rfl k1)))) g4.sub scL_mono.nd fun z S4 H4 g5 pz => hs_nil ?_
      refine ⟨S4, g5, z, some u1, some u2, rfl, ?_⟩
      rw [take_snoc (List.getElem?_eq_getElem hi), take_snoc (List.getElem?_eq_getElem hi2), monoI_snoc _ _ _ _ (monoOk_take hm i).1]
      exact pz
    · rintro σ1 S2 H2 g3 ⟨y, a, b, rfl, py⟩
      rw [hlen, List.take_length, hm.1, List.take_length] at py
      exact hs_ret (ee_var 2 rfl py) g3.sub fun v S3 H3 g4 pv => q v S3 H3 (g2.trans (g3.trans g4)) pv
def FL_fit : List PyData → PyData → Prop := fun ds r => ∃ (ps : List (List Int × List Int)) (ro : List Int), ds = [.list (ps.map ruleD), tI ro] ∧ ps.length ≤ 1000 ∧ (∀ p ∈ ps, MonoOk p.1 ro ∧ MonoOk p.2 ro) ∧ r = .bool (keepsI ps ro)
theorem scL_fit_row : FnScope ["_law_rules", "_law_row_here", "_law_pair"] ["_law_rules", "_law_row_here"] (defScope sL_fit_row) := ⟨rfl, rfl, rfl, by decide +kernel, rfl, by decide +kernel, by decide +kernel⟩
theorem ok_L_fit_row (F : FnT K "_law_fit_row" sL_fit_row f fd) (D1 : KD P w K mg base "_law_mono" 2 (spD K FL_mono)) (g1 : mg "all" = none) : FnOk P w K mg base CX0 3 f fd ["_law_rules", "_law_row_here"] (spD K FL_fit) := by
  refine fn_hs F scL_fit_row (fun vs H Q E h => ?_) (fun cdv A outer sh H vs Q E hr h => ?_)
  · obtain ⟨S, ds, d, _, hd, ⟨_, _, rfl, _⟩, _⟩ := h
    exact hd.1
  · obtain ⟨S, ds, r, s, hd, ⟨ps, ro, rfl, hl, hm, rfl⟩, q⟩ := h
    obtain ⟨v1, v2, rfl, p1, p2⟩ := hd.two
    let un : PyData → Bool := fun d => match d with
      | .tuple [.tuple a, .tuple b] => decide (monoI (a.map fun x => match x with | .int i => i | _ => 0) ro ≤ monoI (b.map fun x => match x with | .int i => i | _ => 0) ro)
      | _ => false
    have un_int : ∀ l : List Int, ((l.map PyData.int).map fun x => match x with | .int i => i | _ => (0 : Int)) = l := fun l => by
      rw [List.map_map]
      exact (List.map_congr_left (fun _ _ => rfl)).trans (List.map_id l)
    have un_t : ∀ p : List Int × List Int, un (ruleD p) = decide (monoI p.1 ro ≤ monoI p.2 ro) := fun p => by
      show decide (monoI ((p.1.map PyData.int).map _) ro ≤ monoI ((p.2.map PyData.int).map _) ro) = _
      rw [un_int, un_int]
    refine hs_ret ((ee_all (bs := (ps.map ruleD).map un) rfl g1 (ee_lc (i := 2) (enc := .bool) (f := un) rfl scL_fit_row.nd (blkOk_by (N := ["_law_rules", "_law_row_here", "_law_pair"]) (sc := defScope sL_fit_row) (by decide +kernel)) (ei_list (ee_var 0 rfl p1)) (by rw [List.length_map]; show _ ≤ 16777216; omega) ?_)).isd ?_) s q
    · intro d hd v S2 s2 pv sh' H0 C cl fp
      obtain ⟨p, hp, rfl⟩ := List.mem_map.mp hd
      rw [un_t]
      exact ee_le (ee_callD D1 hr ⟨p.1, ro, rfl, rfl, (hm p hp).1⟩ (ea_2 (ee_ixT (ds := [tI p.1, tI p.2]) rfl (ee_var 2 rfl pv) ee_int) (ee_var 1 rfl (p2.up s2)))) (ee_callD D1 hr ⟨p.2, ro, rfl, rfl, (hm p hp).2⟩ (ea_2 (ee_ixT (ds := [tI p.1, tI p.2]) rfl (ee_var 2 rfl pv) ee_int) (ee_var 1 rfl (p2.up s2))))
    · rw [map_all]
      congr 1
      unfold keepsI
      rw [List.all_map]
      congr 1
      funext p
      exact un_t p
end
end K17
namespace K17
open PySem PySem.Spec PyProof.Rows L2 Z Y
abbrev FnM (K : PySem.W.Frag) (x q : Str) (st : Stmt) (f : Addr) (fd : FuncData) : Prop := FunD K x q (defArgs st) (defBody st) (defScope st) [] [] f fd
/-! ## schemas -/
def ColOk (z : Str) : Prop := z.cps.all (· < 128) = true ∧ z.cps.toList.Nodup ∧ 1 ≤ z.cps.size ∧ z.cps.size ≤ 3 ∧ ∀ c ∈ z.cps.toList, 97 ≤ c ∧ c ≤ 122
def RuleOk (n : Nat) (p : List Int × List Int) : Prop := (p.1.length = n ∧ ∀ x ∈ p.1, 0 ≤ x ∧ x ≤ 6) ∧ (p.2.length = n ∧ ∀ x ∈ p.2, 0 ≤ x ∧ x ≤ 6)
abbrev Rules := List (List Int × List Int)
def SchOk (z : Str) (ps : Rules) : Prop := ColOk z ∧ ps.length ≤ 4 ∧ ∀ p ∈ ps, RuleOk z.cps.size p
def schF (z : Str) (l : Addr) : List (Str × V) := [("columns", .str z), ("width", .int z.cps.size), ("_facts", .ref l)]
def SchL (K : PySem.W.Frag) (C : Addr) (z : Str) (ps : Rules) (l : Addr) : V → Hp → Prop := fun v S => ∃ a dx xs, v = .ref a ∧ S a = some (.ins C dx (schF z l)) ∧ S l = some (.lst xs) ∧ Dts K (ps.map ruleD) xs S ∧ xs.length ≤ sizeLine
def SchP (K : PySem.W.Frag) (C : Addr) (z : Str) (ps : Rules) : V → Hp → Prop := fun v S => ∃ l, SchL K C z ps l v S
instance {K : PySem.W.Frag} {C : Addr} {z : Str} {ps : Rules} {l : Addr} : Mn (SchL K C z ps l) := ⟨fun s ⟨a, dx, xs, e, h1, h2, h3, h4⟩ => ⟨a, dx, xs, e, s _ _ h1, s _ _ h2, h3.up s, h4⟩⟩
instance {K : PySem.W.Frag} {C : Addr} {z : Str} {ps : Rules} : Mn (SchP K C z ps) := ⟨fun s ⟨l, h⟩ => ⟨l, Mn.up s h⟩⟩
/-- the width is told -/
def WidP (C : Addr) (w : Int) (P0 : V → Hp → Prop) : Prop := ∀ v S, P0 v S → ∃ a dx fs, v = .ref a ∧ S a = some (.ins C dx fs) ∧ fs.lookup ("width" : Str) = some (.int w)
theorem SchP.ins {K : PySem.W.Frag} {C : Addr} {z : Str} {ps : Rules} : ∀ v S, SchP K C z ps v S → ∃ a dx fs, v = .ref a ∧ S a = some (.ins C dx fs) := fun v S ⟨l, a, dx, xs, e, h, _⟩ => ⟨a, dx, _, e, h⟩
/-- a method that tells data -/
def spO (K : PySem.W.Frag) (F : (V → Hp → Prop) → List PyData → PyData → Prop) : Sp := fun vs H Q _ => ∃ S P0 v ws ds d, vs = v :: ws ∧ Same S H ∧ Mn P0 ∧ P0 v S ∧ Dts K ds ws S ∧ F P0 ds d ∧ ∀ u S' H', Gr S H S' H' → Dt K d u S' → Q u H'
theorem spO_E {K : PySem.W.Frag} {S : Hp} {ds : List PyData} {d : PyData} {P0 : V → Hp → Prop} {F : (V → Hp → Prop) → List PyData → PyData → Prop} [m : Mn P0] (hF : F P0 ds d) : SpE (spO K F) S (P0 :: Ds K ds) (Dt K d) := fun vs S1 H1 _ s al Q q => by
  cases al with
  | cons p r => exact ⟨S1, P0, _, _, ds, d, rfl, s, m, p, al_dts r, hF, q⟩
section
variable {P : Program} {w : World} {K : PySem.W.Frag} {mg : Str → Option Value} {base : Heap} {f : Addr} {fd : FuncData}
def unI (d : PyData) : List Int := match d with
  | .tuple ds => ds.map fun x => match x with | .int i => i | _ => 0
  | _ => []
theorem unI_tI (l : List Int) : unI (tI l) = l := by
  show (l.map PyData.int).map _ = l
  rw [List.map_map]
  exact (List.map_congr_left (fun _ _ => rfl)).trans (List.map_id l)
theorem bits_small {i : Int} (h : i.natAbs ≤ 1000000) : Builtin.Int.intBits i ≤ 100 := by
  unfold Builtin.Int.intBits
  split
  · omega
  · have h1 : i.natAbs.log2 ≤ 20 := by
      by_cases h0 : i.natAbs = 0
      · rw [h0]; decide
      · have := (Nat.log2_lt h0 (k := 21)).mpr (by omega)
        omega
    omega
theorem mulx_small {i j : Int} (hi : i.natAbs ≤ 1000000) (hj : j.natAbs ≤ 1000000) : CMulX i j := by
  unfold CMulX
  have := bits_small hi
  have := bits_small hj
  omega
def compScope (e : Expr) : Scope := match e with
  | .ListComp _ _ sc _ => sc
  | _ => defScope (.Pass ⟨0, 0, 0, 0⟩)
def FchkC : List PyData → PyData → Prop := fun ds r => ∃ z, ds = [.str z] ∧ r = .none ∧ ColOk z
theorem sc_check_columns : FnScope ["columns", "letter"] ["columns"] (defScope scheck_columns) := ⟨rfl, rfl, rfl, by decide +kernel, rfl, by decide +kernel, by decide +kernel⟩
theorem abc_mem {c : Nat} (h : 97 ≤ c ∧ c ≤ 122) : c ∈ ("abcdefghijklmnopqrstuvwxyz" : Str).cps.toList := by
  have key : ∀ k, k < 26 → 97 + k ∈ ("abcdefghijklmnopqrstuvwxyz" : Str).cps.toList := by decide +kernel
  have := key (c - 97) (by omega)
  rwa [show 97 + (c - 97) = c by omega] at this
theorem ok_check_columns (F : FnT K "check_columns" scheck_columns f fd) (g1 : mg "isinstance" = none) (g2 : mg "str" = none) (g3 : mg "len" = none) (g4 : mg "set" = none) : FnOk P w K mg base CX0 1 f fd ["columns"] (spD K FchkC) := by
  refine fn_hs F sc_check_columns (fun vs H Q E h => ?_) (fun cdv A outer sh H vs Q E hr h => ?_)
  · obtain ⟨S, ds, d, _, hd, ⟨_, rfl, _⟩, _⟩ := h
    exact hd.1
  · obtain ⟨S, ds, r, s, hd, ⟨z, rfl, rfl, ha, hnd, h1, h3, hc⟩, q⟩ := h
    obtain ⟨v1, rfl, p1⟩ := hd.one
    have hz : z.length ≤ sizeLine := Nat.le_trans h3 (by show 3 ≤ 16777216; decide)
    refine hs_ifN ((et_w (ew_or (et_not (et_val (ee_isi (isD_ok (.str z) (T := "str") (by simp)) g1 g2 boot_str (ee_var 0 rfl p1)))) fun _ => ew_or (et_not (et_chainLE ee_int (ee_len g3 rfl (ee_var 0 rfl p1) (fun x hx => by cases hx; exact hz)) ee_int)) fun _ =>
      ew_or1 (et_neI (ee_lenSetS g3 g4 (ee_var 0 rfl p1) ha hnd (by omega) rfl) (ee_len g3 rfl (ee_var 0 rfl p1) (fun x hx => by cases hx; exact hz))))).is ?_) s fun S1 H1 g => ?_
    · have e1 : ((1 : Int) ≤ (z.length : Int)) := by have : z.length = z.cps.size := rfl; omega
      have e2 : ((z.length : Int) ≤ 3) := by have : z.length = z.cps.size := rfl; omega
      have e3 : ((z.cps.size : Nat) : Int) = (z.length : Int) := rfl
      simp [isDs, e1, e2, e3]
    · refine hs_for (fun i σ S2 => ∃ a, σ = [some (.str z), a]) PassesOwn.never rfl (ei_str (ee_var 0 rfl (p1.up g.st))) g.sub (fun S2 H2 g3 => ⟨none, by cases p1; rfl⟩) ?_ ?_
      · rintro i Pi σ1 S2 H2 x S3 H3 hP g3 ⟨a, rfl⟩ g4 px
        have hi : i < z.cps.toList.length := by
          have := (List.getElem?_eq_some_iff.mp hP).1
          rw [ds_len] at this; unfold strD at this; simpa using this
        have hzi : (strD z)[i]? = some (.str ⟨#[z.cps.toList[i]]⟩) := by unfold strD; rw [List.getElem?_map, List.getElem?_eq_getElem hi]; rfl
        rw [ds_get hzi] at hP
        obtain rfl := Option.some.inj hP
        refine (eg_name (i := 1) sc_check_columns.nd rfl (Or.inl rfl)) H3 g4.sub _ ?_
        have hm := abc_mem (hc _ (List.getElem_mem hi))
        refine hs_ifN ((et_notInC (ee_var 1 rfl px) ee_str).is ?_) g4.sub fun S4 H4 g5 => hs_nil ?_
        · rw [decide_eq_true hm]; rfl
        · exact ⟨S4, g5, _, rfl⟩
      · rintro σ1 S2 H2 g3 ⟨a, rfl⟩
        exact hs_nil (q _ _ _ (g.trans g3) .non)
def Fsch_isExp (C : Addr) : (V → Hp → Prop) → List PyData → PyData → Prop := fun P0 ds d => ∃ x w, WidP C w P0 ∧ ds = [x] ∧ d = .bool (isExp x w)
theorem sc_Sis_exponent : FnScope ["self", "value"] ["self", "value"] (defScope sSchema__is_exponent) := ⟨rfl, rfl, rfl, by decide +kernel, rfl, by decide +kernel, by decide +kernel⟩
theorem ok_Sis_exponent {C : Addr} (F : FnM K "is_exponent" "Schema.is_exponent" sSchema__is_exponent f fd) (D1 : KD P w K mg base "is_exponent_schemas" 2 (spD K FisExp)) (c : Cls K C) (n1 : NoAttr K C "width") : FnOk P w K mg base CX0 3 f fd ["self", "value"] (spO K (Fsch_isExp C)) := by
  refine fn_hs F sc_Sis_exponent (fun vs H Q E h => ?_) (fun cdv A outer sh H vs Q E hr h => ?_)
  · obtain ⟨S, P0, v, ws, ds, d, rfl, _, _, _, hd, ⟨_, _, _, rfl, _⟩, _⟩ := h
    have := hd.1
    simp at this
    simp [this]
  · obtain ⟨S, P0, v, ws, ds, d, rfl, s, m, pv, hd, ⟨x, w', hw, rfl, rfl⟩, q⟩ := h
    obtain ⟨u, rfl, pu⟩ := hd.one
    haveI := m
    exact hs_ret (ee_callD D1 hr ⟨x, w', rfl, rfl⟩ (ea_2 (ee_var 1 rfl pu) (ee_fld (P := Dt K (.int w')) (ee_var 0 rfl pv) (fun v S1 h => by
      obtain ⟨a, dx, fs, e, h1, h2⟩ := hw v S1 h
      exact ⟨a, dx, fs, .int w', e, h1, h2, .int w'⟩) c n1))) s q
theorem SchP.wfld {K : PySem.W.Frag} {C : Addr} {z : Str} {ps : Rules} : ∀ v S1, SchP K C z ps v S1 → ∃ a dx fs u, v = .ref a ∧ S1 a = some (.ins C dx fs) ∧ fs.lookup ("width" : Str) = some u ∧ Dt K (.int z.cps.size) u S1 := fun v S ⟨l, a, dx, xs, e, h, _⟩ => ⟨a, dx, _, _, e, h, rfl, .int _⟩
theorem can_ints : ∀ l : List Int, PyData.canLayAll0 (l.map .int) = true
  | [] => by simp [PyData.canLayAll0]
  | a :: l => by simp [PyData.canLayAll0, PyData.canLay0, can_ints l]
theorem dep_ints : ∀ l : List Int, PyData.depthAll (l.map .int) ≤ 1
  | [] => by simp [PyData.depthAll]
  | a :: l => by have := dep_ints l; simp [PyData.depthAll, PyData.depth]; omega
structure IsiC (K : PySem.W.Frag) (C : Addr) : Prop where
  cls : PySem.W.findIn K (.ref C) "__class__" = some (some (.builtin "object.__class__"))
  str : PySem.W.kitOne K (.type "str") (.ref C) = some false
  sp : PySem.W.specialIn K (.builtin "object.__class__") "__get__" = some (some (.builtin "getset_descriptor.__get__"))
  tk : PySem.W.takesIn K (.builtin "object.__class__") = some true
  ob : PySem.W.mroIn K C (.type "object") = some true
theorem ee_isiO {X : Cx} {σ : L2.St} {S : Hp} {a : Expr} {p p2 pos : Pos} {cn : Str} {C : Addr} {Pa : V → Hp → Prop} {k : Bool} [Mn Pa] (hm : X.mg "isinstance" = none) (hmC : X.mg cn = some (.ref C)) (ha : EE X σ S a Pa) (ht : ∀ v S1 H1, Same S1 H1 → Pa v S1 → ∃ t, TyX X.K H1 v t ∧ PySem.W.kitOne X.K t (.ref C) = some k)
    (hg : Gl X "isinstance" := by rfl) (hgT : Gl X cn := by rfl) (hn : cn ≠ "__name__" := by decide) (hdb : (cn == ("__debug__" : Str)) = false := by decide)
    (hs : starEach [a, .Name cn p2] X.env = (false, eval a X.env) :: starEach [.Name cn p2] X.env := by rfl) : EE X σ S (.Call (.Name "isinstance" p) [a, .Name cn p2] [] pos) (Dt X.K (.bool k)) := by
  haveI : Mn (fun (w : V) (_ : Hp) => w = .ref C) := ⟨fun _ h => h⟩
  refine ee_callB call_isi hm boot_isinstance (ea_2 ha (ee_glob (P := fun w _ => w = .ref C) (v := .ref C) (u := .ref C) hmC rfl rfl hgT hdb) hs rfl) (fun vs S1 H1 _ s al Q q => ?_) hg (he := hs) (hpl := by rfl)
  obtain ⟨v, w, rfl, pv, rfl⟩ := al.two
  obtain ⟨t, h1, h2⟩ := ht v S1 H1 s pv
  exact ⟨v, .ref C, t, .ref C, k, rfl, .own C, h1, h2, q _ S1 H1 (Gr.refl s) (.bl k)⟩
inductive TD : PyData → Prop
  | int (i : Int) : TD (.int i)
  | tup {ds : List PyData} : (∀ d ∈ ds, TD d) → TD (.tuple ds)
theorem td_ints (l : List Int) : TD (.tuple (l.map .int)) := .tup fun d hd => by
  obtain ⟨i, _, rfl⟩ := List.mem_map.mp hd
  exact .int i
theorem td_rule (p : List Int × List Int) : TD (ruleD p) := .tup (ds := [tI p.1, tI p.2]) fun d hd => by
  rcases List.mem_cons.mp hd with rfl | hd
  · exact td_ints _
  · obtain rfl := List.mem_singleton.mp hd
    exact td_ints _
/-- data of tuples and ints stand where the tuples stand -/
theorem td_keep {K : PySem.W.Frag} {S S' : Hp} (k : ∀ b ys, TuS K S b ys → TuS K S' b ys) {d : PyData} (t : TD d) : ∀ {v : V}, Dt K d v S → Dt K d v S' := by
  induction t with
  | int i => intro v h; obtain rfl := h.int_inv; exact .int i
  | tup _ ih =>
    intro v h
    obtain ⟨a, xs, rfl, ht, hx, z⟩ := h.tup_invS
    exact Dt.tup_mk (k _ _ ht) ⟨hx.1, fun i x d hi hd => ih d (List.mem_of_getElem? hd) (hx.2 i x d hi hd)⟩ z
theorem tds_keep {K : PySem.W.Frag} {S S' : Hp} (k : ∀ b ys, TuS K S b ys → TuS K S' b ys) {ds : List PyData} (t : ∀ d ∈ ds, TD d) {xs : List V} (h : Dts K ds xs S) : Dts K ds xs S' :=
  ⟨h.1, fun i x d hi hd => td_keep k (t d (List.mem_of_getElem? hd)) (h.2 i x d hi hd)⟩
theorem rules_keep {K : PySem.W.Frag} {S S' : Hp} {ps : Rules} {xs : List V} (k : ∀ b ys, TuS K S b ys → TuS K S' b ys) (h : Dts K (ps.map ruleD) xs S) : Dts K (ps.map ruleD) xs S' :=
  tds_keep k (fun d hd => by obtain ⟨p, _, rfl⟩ := List.mem_map.mp hd; exact td_rule p) h
theorem sqt_put0 {K : PySem.W.Frag} {S : Hp} {a : Addr} {o u : HO} (h : S a = some o) (n1 : ∀ xs, o ≠ .tup xs) (n2 : ∀ x y, o ≠ .frz x y) : ∀ b ys, SqT K S b ys → SqT K (upd S a u) b ys := fun b ys q => by
  rcases q with (q | ⟨w, q⟩) | q
  · exact .inl (.inl (by rw [upd_ne (fun z => by subst z; rw [h] at q; cases q; exact n1 _ rfl)]; exact q))
  · exact .inl (.inr ⟨w, by rw [upd_ne (fun z => by subst z; rw [h] at q; cases q; exact n2 _ _ rfl)]; exact q⟩)
  · exact .inr q
theorem sqt_put {K : PySem.W.Frag} {S : Hp} {a : Addr} {o u : HO} (h : S a = some o) (n1 : ∀ xs, o ≠ .tup xs) (n2 : ∀ x y, o ≠ .frz x y) : ∀ b ys, TuS K S b ys → TuS K (upd S a u) b ys := fun b ys q => by
  rcases q with q | ⟨e, q⟩
  · exact .inl (by rw [upd_ne (fun z => by subst z; rw [h] at q; cases q; exact n1 _ rfl)]; exact q)
  · exact .inr ⟨e, sqt_put0 h n1 n2 _ _ q⟩
def Finit (K : PySem.W.Frag) (C : Addr) : List PyData → (Addr → V → Hp → Prop) → Prop := fun ds R => ∃ z d ps, ds = [.str z, d] ∧ (d = .list (ps.map ruleD) ∨ d = .tuple (ps.map ruleD)) ∧ SchOk z ps ∧ R = SchL K C z ps
theorem sc_Sinit : FnScope ["self", "columns", "facts", "at", "fact"] ["self", "columns", "facts"] (defScope sSchema____init__) := ⟨rfl, rfl, rfl, by decide +kernel, rfl, by decide +kernel, by decide +kernel⟩
theorem exp_rule {n : Nat} {l : List Int} (h1 : l.length = n) (h2 : ∀ x ∈ l, 0 ≤ x ∧ x ≤ 6) : isExp (tI l) n = true := by
  show (decide (((l.map PyData.int).length : Int) = n) && (l.map PyData.int).all fun x => isNum x 0 && leNum x 6) = true
  rw [List.length_map, h1, List.all_map, Bool.and_eq_true]
  refine ⟨by simp, ?_⟩
  rw [List.all_eq_true]
  intro x hx
  show (decide (0 ≤ x) && decide (x ≤ 6)) = true
  rw [Bool.and_eq_true, decide_eq_true_eq, decide_eq_true_eq]
  exact h2 x hx
/-- C.f, a constant of the class -/
theorem ee_cval {X : Cx} {σ : L2.St} {S : Hp} {x f : Str} {p pos : Pos} {C : Addr} {mc : Value} {v : V} {u : Value} {P : V → Hp → Prop} (hm : X.mg x = some (.ref C)) (r : ClX.CRead X.K C mc) (k : ClX.CVal X.K C mc f v u) (h : ∀ S1, P v S1) (hg : Gl X x := by rfl) (hd : (x == ("__debug__" : Str)) = false := by decide) (hb : attributeBase (.Name x p) f X.env (eval (.Name x p) X.env) = eval (.Name x p) X.env := by rfl) : EE X σ S (.Attribute (.Name x p) f pos) P := fun H s Q q =>
  he_of (ClX.pe_cval (pe_glob hg hm (v := .ref C) rfl hd) hb) ⟨C, mc, v, u, rfl, r, k, q v S H (Gr.refl s) (h S)⟩
theorem enum_get {ds : List PyData} {i : Nat} {d : PyData} (h : ds[i]? = some d) : (enumD ds)[i]? = some (.tuple [.int i, d]) := by
  unfold enumD
  have hi := (List.getElem?_eq_some_iff.mp h).1
  exact zipD_get (upto_get hi) h
theorem enum_len {K : PySem.W.Frag} {ds : List PyData} : (Ds K (enumD ds)).length = ds.length := by
  rw [ds_len]; unfold enumD zipD; rw [List.length_zipWith, upto_len]; omega
theorem ok_Sinit {C : Addr} {mc : Value} {dvs : List V} {t : Tok} (F : FunD K "__init__" "Schema.__init__" (defArgs sSchema____init__) (defBody sSchema____init__) (defScope sSchema____init__) dvs [] f fd) (D1 : KD P w K mg base "check_columns" 1 (spD K FchkC)) (D2 : KM P w K mg base C "is_exponent" 3 (spO K (Fsch_isExp C))) (c : Cls K C)
    (n1 : NoAttr K C "columns") (n2 : NoAttr K C "width") (n3 : NoAttr K C "_facts") (gS : mg "Schema" = some (.ref C)) (cr : ClX.CRead K C mc) (cv : ClX.CVal K C mc "MOST" (.int 4) (.int 4 t)) (g1 : mg "len" = none) (g2 : mg "isinstance" = none) (g3 : mg "list" = none) (g4 : mg "tuple" = none) (g5 : mg "enumerate" = none) :
    FnOk P w K mg base CX0 4 f fd ["self", "columns", "facts"] (spI C K (Finit K C)) := by
  refine fn_hs F sc_Sinit (fun vs H Q E h => ?_) (fun cdv A outer sh H vs Q E hr h => ?_)
  · obtain ⟨S, a, dx, ws, ds, R, rfl, _, _, _, hd, ⟨_, _, _, rfl, _⟩, _⟩ := h
    have := hd.1
    simp at this
    simp [this]
  · obtain ⟨S, a, dx, ws, ds, R, rfl, s, hSa, hHa, hd, ⟨z, d, ps, rfl, hdd, ho, rfl⟩, q⟩ := h
    obtain ⟨vc, vf, rfl, p1, p2⟩ := hd.two
    obtain rfl := p1.str_inv
    have h3 := ho.1.2.2.2.1
    have i0 := GrI.start (o := .ins C dx []) s hSa hHa
    refine hs_expr (ee_callD D1 (hr.mono (by decide)) ⟨z, rfl, rfl, ho.1⟩ (ea_1 (ee_var 1 rfl (.str z)))) i0.sub fun _ S1 H1 g6 _ => ?_
    have i1 := i0.step g6
    have a1 : S1 a = some (.ins C dx []) := g6.st _ _ upd_same
    refine hs_fld (P := Dt K (.str z)) (r := a) (C := C) (dx := dx) (fs := []) (ee_var 1 rfl (.str z)) i1.sub (fun S2 _ => ee_var 0 rfl rfl) (i1.sub _ _ a1) c n1 (by decide) fun v S2 H2 g7 pv e2 => ?_
    obtain rfl := pv.str_inv
    have i2 := (i1.step g7).put (o := .ins C dx [("columns", .str z)]) hSa
    refine hs_fld (P := Dt K (.int (z.length : Nat))) (r := a) (C := C) (dx := dx) (fs := [("columns", .str z)]) (ee_len g1 rfl (ee_var 1 rfl (.str z)) (fun x hx => by cases hx; exact Nat.le_trans h3 (by show 3 ≤ 16777216; decide))) i2.sub (fun S3 _ => ee_var 0 rfl rfl) upd_same c n2 (show 1 < 1000 by decide) fun v S3 H3 g8 pv e3 => ?_
    obtain rfl := pv.int_inv
    have i3 := (i2.step g8).put (o := .ins C dx [("columns", .str z), ("width", .int (z.length : Nat))]) hSa
    have eH3 : upd H3 a (.ins C dx (putF "width" (.int (z.length : Nat)) [("columns", .str z)])) = upd H3 a (.ins C dx [("columns", .str z), ("width", .int (z.length : Nat))]) := rfl
    rw [eH3]
    have p23 : Dt K d vf (upd S3 a (.ins C dx [("columns", .str z), ("width", .int (z.length : Nat))])) := p2.up i3.st
    generalize hS4 : upd S3 a (.ins C dx [("columns", .str z), ("width", .int (z.length : Nat))]) = S4 at i3 p23
    have a4 : S4 a = some (.ins C dx [("columns", .str z), ("width", .int (z.length : Nat))]) := by rw [← hS4]; exact upd_same
    generalize upd H3 a (.ins C dx [("columns", .str z), ("width", .int (z.length : Nat))]) = H4 at i3
    have hlt : (isD d "list" || isD d "tuple") = true := by rcases hdd with rfl | rfl <;> rfl
    refine hs_ifN ((et_not (et_val (ee_isiLT rfl g2 g3 g4 (ee_var 2 rfl p23)))).is (by rw [hlt]; rfl)) i3.sub fun S5 H5 g9 => ?_
    have i5 := i3.step g9
    have a5 := g9.st _ _ a4
    have p25 := p23.up g9.st
    have hps : ps.length ≤ sizeLine := Nat.le_trans ho.2.1 (by show 4 ≤ 16777216; decide)
    let SP : V → Hp → Prop := fun v S => v = .ref a ∧ S a = some (.ins C dx [("columns", .str z), ("width", .int (z.length : Nat))])
    haveI mSP : Mn SP := ⟨fun s ⟨e, h⟩ => ⟨e, s _ _ h⟩⟩
    have hSPw : WidP C (z.length : Nat) SP := fun v S ⟨e, h⟩ => ⟨a, dx, _, e, h, rfl⟩
    have hSPi : InsP C "is_exponent" SP := fun v S ⟨e, h⟩ => ⟨a, dx, _, e, h, rfl⟩
    refine hs_for (Ps := Ds K (enumD (ps.map ruleD))) (fun i σ S2 => ∃ x y, σ = [some (.ref a), some (.str z), some vf, x, y]) PassesOwn.never rfl (by
      rcases hdd with rfl | rfl
      · exact ei_enumL g5 (ee_var 2 rfl p25)
      · exact ei_enumT g5 (ee_var 2 rfl p25)) i5.sub (fun S2 H2 g3 => ⟨none, none, rfl⟩) ?_ ?_
    · rintro i Pi σ1 S6 H6 x S7 H7 hP g10 ⟨y, y', rfl⟩ g11 px
      have hi : i < ps.length := by
        have := (List.getElem?_eq_some_iff.mp hP).1
        rw [enum_len, List.length_map] at this; exact this
      have hz : (ps.map ruleD)[i]? = some (ruleD ps[i]) := by rw [List.getElem?_map, List.getElem?_eq_getElem hi]; rfl
      rw [ds_get (enum_get hz)] at hP
      obtain rfl := Option.some.inj hP
      have hro := ho.2.2 ps[i] (List.getElem_mem hi)
      obtain ⟨u1, u2, k1, k2, hg⟩ := eg_pair (σ := [some (.ref a), some (.str z), some vf, y, y']) (i := 3) (j := 4) (x := "at") (y := "fact") (kk := _) (px := _) (py := _) (pos := _) (X := (cxOf CX0 P w K mg base ["self", "columns", "facts", "at", "fact"] "Schema.__init__" (defScope sSchema____init__) f cdv A outer sh H E).nox) rfl sc_Sinit.nd rfl rfl (Or.inl rfl) (Or.inl rfl) px
      refine hg H7 g11.sub _ ?_
      have a7 := g11.st _ _ (g10.st _ _ a5)
      refine hs_ifN ((et_w (ew_or (et_not (et_val (ee_isi (isD_ok (ruleD ps[i]) (T := "tuple") (by simp)) g2 g4 boot_tuple (ee_var 4 rfl k2)))) fun _ => ew_or1 (et_neI (ee_len g1 (d := ruleD ps[i]) (n := 2) rfl (ee_var 4 rfl k2)) ee_int))).is (by rfl)) g11.sub fun S8 H8 g12 => ?_
      have k8 := k2.up g12.st
      have a8 : SP (.ref a) S8 := ⟨rfl, g12.st _ _ a7⟩
      refine hs_ifN ((et_w (ew_or (et_not (et_val ((ee_meth D2 c (hr.mono (by decide)) (ee_var (P := SP) 0 rfl a8) hSPi (ea_1 (ee_ixT (ds := [tI ps[i].1, tI ps[i].2]) (d := tI ps[i].1) rfl (ee_var 4 rfl k8) ee_int)) (spO_E (F := Fsch_isExp C) (P0 := SP) (ds := [tI ps[i].1]) (d := .bool (isExp (tI ps[i].1) (z.length : Nat))) ⟨_, _, hSPw, rfl, rfl⟩))))) fun _ =>
        ew_or1 (et_not (et_val ((ee_meth D2 c (hr.mono (by decide)) (ee_var (P := SP) 0 rfl a8) hSPi (ea_1 (ee_ixT (ds := [tI ps[i].1, tI ps[i].2]) (d := tI ps[i].2) rfl (ee_var 4 rfl k8) ee_int)) (spO_E (F := Fsch_isExp C) (P0 := SP) (ds := [tI ps[i].2]) (d := .bool (isExp (tI ps[i].2) (z.length : Nat))) ⟨_, _, hSPw, rfl, rfl⟩))))))).is ?_) g12.sub fun S9 H9 g13 => hs_nil ?_
      · rw [exp_rule (n := z.length) hro.1.1 hro.1.2, exp_rule (n := z.length) hro.2.1 hro.2.2]; rfl
      · exact ⟨S9, g12.trans g13, _, _, rfl⟩
    · rintro σ1 S6 H6 g10 ⟨y, y', rfl⟩
      have i6 := i5.step g10
      have a6 := g10.st _ _ a5
      have p26 := p25.up g10.st
      have hlen : lenD d = some ps.length := by rcases hdd with rfl | rfl <;> (show some (ps.map ruleD).length = _; rw [List.length_map])
      refine hs_ifN ((et_gt (ee_len g1 hlen (ee_var 2 rfl p26) (fun x hx => by rcases hdd with rfl | rfl <;> cases hx)) (ee_cval (P := Dt K (.int 4)) gS cr cv (fun _ => .int 4))).is (by have := ho.2.1; rw [decide_eq_false (by omega)])) i6.sub fun S7 H7 g11 => ?_
      have i7 := i6.step g11
      have a7 := g11.st _ _ a6
      refine hs_fld (r := a) (C := C) (dx := dx) (fs := [("columns", .str z), ("width", .int (z.length : Nat))]) (ee_listN g3 hdd (ee_var 2 rfl (p26.up g11.st))) i7.sub (fun S3 _ => ee_var 0 rfl rfl) (i7.sub _ _ a7) c n3 (show 2 < 1000 by decide) fun v S8 H8 g12 pv e8 => hs_nil ?_
      obtain ⟨l, xs, rfl, h0, hl1, hx, hz⟩ := pv
      have a8 := g12.st _ _ a7
      have i8 := (i7.step g12).put (o := .ins C dx (schF z l)) hSa
      have lne : l ≠ a := fun e => by subst e; rw [a7] at h0; cases h0
      refine q l _ _ i8 (i7.st.free h0) ⟨a, dx, xs, rfl, upd_same, by rw [upd_ne lne]; exact hl1, rules_keep (sqt_put a8 (fun _ z => nomatch z) (fun _ _ z => nomatch z)) hx, hz⟩
/-- Schema is made: by two values, by one, by names -/
structure MkS (P : Program) (w : World) (K : PySem.W.Frag) (mg : Str → Option Value) (base : Heap) (C : Addr) : Prop where
  ex : ∃ fi fdi ps dv, Mk K C fi ∧ FnOk P w K mg base CX0 4 fi fdi ps (spI C K (Finit K C)) ∧ Binds K fdi ps [] ∧ (∃ us, Vals [dv] us ∧ Binds K fdi ps us) ∧ (∀ S, Dt K (.tuple []) dv S) ∧ ∃ g gV, KBn K fdi ps 1 ["facts", "columns"] g gV ∧ ∀ s v w, gV [s] [v, w] = [s, w, v]
section
variable {X : Cx} {σ : L2.St} {S : Hp} {C : Addr} {a b : Expr} {p pos q1 q2 : Pos} {z : Str} {d : PyData} {ps : Rules}
theorem ee_mk1 (M : MkS X.prog X.w X.K X.mg X.base C) (hr : Room 5 X.A) (gS : X.mg "Schema" = some (.ref C)) (ho : ColOk z) (ha : EE X σ S a (Dt X.K (.str z))) (hg : Gl X "Schema" := by rfl)
    (he : starEach [a] X.env = (false, eval a X.env) :: starEach [] X.env := by rfl) (hpl : (backTo pos (starEach [] X.env)).any (·.1) = false := by rfl) : EE X σ S (.Call (.Name "Schema" p) [a] [] pos) (NewR (SchL X.K C z []) S) := by
  obtain ⟨fi, fdi, ps', dv, m, G, _, ⟨us, hu, b2⟩, hdv, _⟩ := M.ex
  exact ee_make (ds := [.str z]) (dd := [.tuple []]) m G hr gS b2 hu (fun S => Dts.cons (hdv S) .nil) (ea_1 ha he) ⟨z, .tuple [], [], rfl, .inr rfl, ⟨ho, by simp, fun p hp => nomatch hp⟩, rfl⟩ hg (by decide) he hpl
end
theorem newR_sch {K : PySem.W.Frag} {C : Addr} {z : Str} {ps : Rules} {S S' : Hp} {v : V} (h : NewR (SchL K C z ps) S v S') : SchP K C z ps v S' := let ⟨l, _, h⟩ := h; ⟨l, h⟩
end
end K17
namespace K17
open PySem PySem.Spec PyProof.Rows L2 Z Y
/-! ## tables, plainly -/
abbrev Grp := Int × List Int
def totG (gs : List Grp) (r : List Int) : Int := (gs.map fun g => if g.2 = r then g.1 else 0).sum
def accF (m : MapI) (gs : List Grp) : MapI := gs.foldl (fun m g => putM m g.2 ((getM m g.2).getD 0 + g.1)) m
def accM (gs : List Grp) : MapI := accF [] gs
def rowsS (gs : List Grp) : List (List Int) := srt tI' (keysM (accM gs))
def norm (gs : List Grp) : List Grp := (rowsS gs).map fun r => (totG gs r, r)
theorem getM_put (m : MapI) (k j : List Int) (n : Int) : getM (putM m k n) j = if j = k then some n else getM m j := by
  unfold putM
  split
  · rename_i h
    induction m with
    | nil => simp at h
    | cons q m ih =>
      unfold getM at ih ⊢
      rw [List.map_cons, List.find?_cons, List.find?_cons]
      by_cases hq : q.1 = k
      · rw [if_pos hq]
        by_cases hj : j = k
        · subst hj; simp [hq]
        · simp only [hq, if_neg hj]
          have hkj : ¬ k = j := fun e => hj e.symm
          simp only [hkj, decide_false]
          clear ih h
          induction m with
          | nil => rfl
          | cons p m ih2 =>
            rw [List.map_cons, List.find?_cons, List.find?_cons]
            by_cases hp : p.1 = k
            · rw [if_pos hp]; simp only [hp, hkj, decide_false]; exact ih2
            · rw [if_neg hp]
              cases e : decide (p.1 = j) with
              | true => rfl
              | false => exact ih2
      · rw [if_neg hq]
        have h2 : (m.any fun q => decide (q.1 = k)) = true := by simpa [hq] using h
        cases e : decide (q.1 = j) with
        | true =>
          have e2 := of_decide_eq_true e
          have : ¬ j = k := fun z => hq (e2.trans z)
          rw [if_neg this]
        | false => exact ih h2
  · rename_i h
    have h : ∀ q ∈ m, ¬ q.1 = k := fun q hq e => h (List.any_eq_true.mpr ⟨q, hq, decide_eq_true e⟩)
    unfold getM
    rw [List.find?_append]
    by_cases hj : j = k
    · subst hj
      have : m.find? (fun q => decide (q.1 = j)) = none := List.find?_eq_none.mpr fun q hq => by simp [h q hq]
      rw [this]; simp
    · rw [if_neg hj]
      have hkj : ¬ k = j := fun e => hj e.symm
      cases m.find? (fun q => decide (q.1 = j)) with
      | some _ => rfl
      | none => simp [hkj]
theorem keys_put (m : MapI) (k : List Int) (n : Int) : keysM (putM m k n) = if k ∈ keysM m then keysM m else keysM m ++ [k] := by
  have e : (m.any fun q => decide (q.1 = k)) = true ↔ k ∈ keysM m := by
    unfold keysM; simp [List.mem_map]
  unfold putM
  by_cases h : k ∈ keysM m
  · rw [if_pos (e.mpr h), if_pos h]
    unfold keysM
    rw [List.map_map]
    exact List.map_congr_left fun q _ => by
      show (if q.1 = k then (q.1, n) else q).1 = q.1
      split <;> rfl
  · rw [if_neg (fun z => h (e.mp z)), if_neg h]
    unfold keysM
    rw [List.map_append]; rfl
theorem getM_some {m : MapI} {k : List Int} (h : k ∈ keysM m) : ∃ n, getM m k = some n := by
  unfold keysM at h
  obtain ⟨q, hq, rfl⟩ := List.mem_map.mp h
  unfold getM
  cases e : m.find? (fun p => decide (p.1 = q.1)) with
  | some p => exact ⟨p.2, rfl⟩
  | none => exact absurd (List.find?_eq_none.mp e q hq) (by simp)
theorem accF_get : ∀ (gs : List Grp) (m : MapI) (r : List Int), (getM (accF m gs) r).getD 0 = (getM m r).getD 0 + totG gs r
  | [], m, r => by unfold accF totG; simp
  | g :: gs, m, r => by
    show (getM (accF (putM m g.2 ((getM m g.2).getD 0 + g.1)) gs) r).getD 0 = _
    rw [accF_get gs, getM_put]
    unfold totG
    rw [List.map_cons, List.sum_cons]
    by_cases h : r = g.2
    · subst h; rw [if_pos rfl, if_pos rfl]; simp [Int.add_assoc]
    · have h2 : ¬ g.2 = r := fun e => h e.symm
      rw [if_neg h, if_neg h2]; omega
theorem accF_keys : ∀ (gs : List Grp) (m : MapI) (r : List Int), r ∈ keysM (accF m gs) ↔ r ∈ keysM m ∨ r ∈ gs.map (·.2)
  | [], m, r => by simp [accF]
  | g :: gs, m, r => by
    show r ∈ keysM (accF (putM m g.2 ((getM m g.2).getD 0 + g.1)) gs) ↔ _
    rw [accF_keys gs, keys_put, List.map_cons, List.mem_cons]
    split
    · rename_i h
      constructor
      · rintro (a | a)
        · exact .inl a
        · exact .inr (.inr a)
      · rintro (a | rfl | a)
        · exact .inl a
        · exact .inl h
        · exact .inr a
    · rw [List.mem_append, List.mem_singleton, or_assoc]
theorem accF_nodup : ∀ (gs : List Grp) (m : MapI), (keysM m).Nodup → (keysM (accF m gs)).Nodup
  | [], m, h => h
  | g :: gs, m, h => by
    show (keysM (accF (putM m g.2 ((getM m g.2).getD 0 + g.1)) gs)).Nodup
    refine accF_nodup gs _ ?_
    rw [keys_put]
    split
    · exact h
    · rename_i hk
      refine List.nodup_append.mpr ⟨h, by simp, fun a ha b hb => ?_⟩
      rw [List.mem_singleton] at hb
      subst hb
      exact fun e => hk (e ▸ ha)
theorem accF_len : ∀ (gs : List Grp) (m : MapI), (accF m gs).length ≤ m.length + gs.length
  | [], m => Nat.le_refl _
  | g :: gs, m => by
    have := accF_len gs (putM m g.2 ((getM m g.2).getD 0 + g.1))
    have := putM_len m g.2 ((getM m g.2).getD 0 + g.1)
    show (accF (putM m g.2 ((getM m g.2).getD 0 + g.1)) gs).length ≤ _
    rw [List.length_cons]; omega
theorem mem_rowsS {gs : List Grp} {r : List Int} : r ∈ rowsS gs ↔ r ∈ gs.map (·.2) := by
  unfold rowsS accM
  rw [mem_srt, accF_keys]
  simp [keysM]
theorem leR : PySem.W.dataLe false tI' = fun p q => decide (p ≤ q) := PySem.W.dataLe_rows (fun p : List Int => p)
theorem perm_nodup {α : Type} [DecidableEq α] : ∀ {l m : List α}, l.Nodup → m.Nodup → (∀ a, a ∈ l ↔ a ∈ m) → l.Perm m := fun h1 h2 h =>
  List.perm_iff_count.mpr fun a => by
    rw [List.Nodup.count h1, List.Nodup.count h2]
    simp only [h a]
theorem sorted_eq {α : Type} {le : α → α → Bool} (anti : ∀ a b, le a b = true → le b a = true → a = b) : ∀ {l m : List α}, l.Pairwise (fun a b => le a b = true) → m.Pairwise (fun a b => le a b = true) → l.Perm m → l = m
  | [], m, _, _, p => (List.nil_perm.mp p).symm
  | a :: l, [], _, _, p => absurd (List.perm_nil.mp p) (by simp)
  | a :: l, b :: m, h1, h2, p => by
    have e : a = b := by
      have h1' := List.pairwise_cons.mp h1
      have h2' := List.pairwise_cons.mp h2
      rcases List.mem_cons.mp (p.mem_iff.mp (List.mem_cons_self ..)) with e | ha
      · exact e
      · rcases List.mem_cons.mp (p.mem_iff.mpr (List.mem_cons_self ..)) with e | hb
        · exact e.symm
        · exact anti a b (h1'.1 b hb) (h2'.1 a ha)
    subst e
    rw [sorted_eq anti (List.pairwise_cons.mp h1).2 (List.pairwise_cons.mp h2).2 (List.Perm.cons_inv p)]
theorem srt_pw {β : Type} (enc : β → PyData) (l : List β) : (srt enc l).Pairwise fun a b => PySem.W.dataLe false enc a b = true :=
  List.pairwise_mergeSort (le := PySem.W.dataLe false enc) (fun a b c => (PySem.W.sortLe_total (listOrd itemOrd) false fun b => PySem.W.keyToks (enc b)).trans a b c) (fun a b => by
    have := (PySem.W.sortLe_total (listOrd itemOrd) false fun b => PySem.W.keyToks (enc b)).total a b
    unfold PySem.W.dataLe
    rcases this with h | h <;> simp [h]) l
theorem srt_perm {β : Type} {enc : β → PyData} (inj : ∀ a b, PySem.W.keyToks (enc a) = PySem.W.keyToks (enc b) → a = b) {l m : List β} (p : l.Perm m) : srt enc l = srt enc m :=
  sorted_eq (le := PySem.W.dataLe false enc) (fun a b h1 h2 => inj a b ((listOrd itemOrd).total _ _ (by
    have h2 : (!(listOrd itemOrd).blt (PySem.W.keyToks (enc a)) (PySem.W.keyToks (enc b))) = true := h2
    simpa using h2) (by
    have h1 : (!(listOrd itemOrd).blt (PySem.W.keyToks (enc b)) (PySem.W.keyToks (enc a))) = true := h1
    simpa using h1))) (srt_pw enc l) (srt_pw enc m) ((List.mergeSort_perm ..).trans (p.trans (List.mergeSort_perm ..).symm))
theorem kt_ints : ∀ a : List Int, PySem.W.keyToksAll (a.map PyData.int) = (a.flatMap fun x => [Sum.inl 1, Sum.inl x]) ++ [Sum.inl 0]
  | [] => by unfold PySem.W.keyToksAll; rfl
  | x :: a => by
    rw [List.map_cons]
    unfold PySem.W.keyToksAll
    rw [kt_ints a]
    unfold PySem.W.keyToks
    rfl
theorem kt_inj : ∀ {a b : List Int} {t u : List (Int ⊕ List Nat)}, PySem.W.keyToksAll (a.map PyData.int) ++ t = PySem.W.keyToksAll (b.map PyData.int) ++ u → a = b ∧ t = u := by
  intro a
  induction a with
  | nil =>
    intro b t u h
    rw [kt_ints, kt_ints] at h
    cases b with
    | nil => simp at h; exact ⟨rfl, h⟩
    | cons y b => simp at h
  | cons x a ih =>
    intro b t u h
    cases b with
    | nil => rw [kt_ints, kt_ints] at h; simp at h
    | cons y b =>
      rw [kt_ints, kt_ints] at h
      simp only [List.flatMap_cons, List.cons_append, List.nil_append, List.cons.injEq, Sum.inl.injEq, true_and] at h
      have := ih (b := b) (t := t) (u := u) (by rw [kt_ints, kt_ints]; exact h.2)
      exact ⟨by rw [h.1, this.1], this.2⟩
theorem inj_tI (a b : List Int) (h : PySem.W.keyToks (tI' a) = PySem.W.keyToks (tI' b)) : a = b := by
  have h' : PySem.W.keyToksAll (a.map PyData.int) = PySem.W.keyToksAll (b.map PyData.int) := h
  exact (kt_inj (t := []) (u := []) (by rw [List.append_nil, List.append_nil]; exact h')).1
theorem nodup_rowsS (gs : List Grp) : (rowsS gs).Nodup := (List.mergeSort_perm ..).nodup_iff.mpr (accF_nodup gs [] List.nodup_nil)
theorem rowsS_uniq {gs : List Grp} {L : List (List Int)} (h1 : L.Pairwise fun a b => PySem.W.dataLe false tI' a b = true) (h2 : L.Nodup) (h3 : ∀ r, r ∈ L ↔ r ∈ gs.map (·.2)) : rowsS gs = L := by
  have e : srt tI' L = L := List.mergeSort_of_pairwise h1
  rw [← e]
  exact srt_perm inj_tI (perm_nodup (accF_nodup gs [] List.nodup_nil) h2 fun a => by
    rw [h3]
    show a ∈ keysM (accF [] gs) ↔ _
    rw [accF_keys]; simp [keysM])
theorem rowsS_congr {gs hs : List Grp} (h : ∀ r, r ∈ gs.map (·.2) ↔ r ∈ hs.map (·.2)) : rowsS gs = rowsS hs :=
  rowsS_uniq (srt_pw ..) (nodup_rowsS hs) fun r => by rw [mem_rowsS, h]
theorem norm_congr {gs hs : List Grp} (h : ∀ r, r ∈ gs.map (·.2) ↔ r ∈ hs.map (·.2)) (ht : ∀ r, totG gs r = totG hs r) : norm gs = norm hs := by
  unfold norm
  rw [rowsS_congr h]
  exact List.map_congr_left fun r _ => by rw [ht]
theorem norm_rows (gs : List Grp) : (norm gs).map (·.2) = rowsS gs := by
  unfold norm
  rw [List.map_map]
  exact (List.map_congr_left fun _ _ => rfl).trans (List.map_id _)
theorem mem_norm_rows {gs : List Grp} {r : List Int} : r ∈ (norm gs).map (·.2) ↔ r ∈ gs.map (·.2) := by rw [norm_rows, mem_rowsS]
theorem sum_ite (c : Int) (r : List Int) (f : List Int → Int) : ∀ {R : List (List Int)}, R.Nodup → r ∈ R → (R.map fun x => (if r = x then c else 0) * f x).sum = c * f r
  | [], _, h => by cases h
  | x :: R, hn, h => by
    rw [List.map_cons, List.sum_cons]
    have hn' := List.nodup_cons.mp hn
    by_cases e : r = x
    · subst e
      rw [if_pos rfl]
      have : (R.map fun y => (if r = y then c else 0) * f y).sum = 0 := by
        have : ∀ {Q : List (List Int)}, r ∉ Q → (Q.map fun y => (if r = y then c else 0) * f y).sum = 0 := by
          intro Q
          induction Q with
          | nil => intro _; rfl
          | cons y Q ih =>
            intro hq
            rw [List.map_cons, List.sum_cons, ih (fun z => hq (List.mem_cons_of_mem _ z)), if_neg (fun z : r = y => hq (by rw [z]; exact List.mem_cons_self ..))]; simp
        exact this hn'.1
      rw [this]; omega
    · rw [if_neg e, sum_ite c r f hn'.2 ((List.mem_cons.mp h).resolve_left e)]; simp
theorem sum_norm_gen (f : List Int → Int) : ∀ (gs : List Grp) {R : List (List Int)}, R.Nodup → (∀ g ∈ gs, g.2 ∈ R) → (R.map fun r => totG gs r * f r).sum = (gs.map fun g => g.1 * f g.2).sum
  | [], R, _, _ => by
    have : ∀ Q : List (List Int), (Q.map fun r => totG [] r * f r).sum = 0 := fun Q => by
      induction Q with
      | nil => rfl
      | cons q Q ih => rw [List.map_cons, List.sum_cons, ih]; simp [totG]
    rw [this]; rfl
  | g :: gs, R, hn, h => by
    have ih := sum_norm_gen f gs hn fun x hx => h x (List.mem_cons_of_mem _ hx)
    rw [List.map_cons, List.sum_cons, ← ih, ← sum_ite g.1 g.2 f hn (h g (List.mem_cons_self ..))]
    have : ∀ Q : List (List Int), (Q.map fun r => totG (g :: gs) r * f r).sum = (Q.map fun x => (if g.2 = x then g.1 else 0) * f x).sum + (Q.map fun r => totG gs r * f r).sum := fun Q => by
      induction Q with
      | nil => rfl
      | cons q Q ih2 =>
        rw [List.map_cons, List.sum_cons, List.map_cons, List.sum_cons, List.map_cons, List.sum_cons, ih2]
        have : totG (g :: gs) q = (if g.2 = q then g.1 else 0) + totG gs q := by unfold totG; rw [List.map_cons, List.sum_cons]
        rw [this, Int.add_mul]; omega
    exact this R
theorem sum_norm (f : List Int → Int) (gs : List Grp) : ((norm gs).map fun g => g.1 * f g.2).sum = (gs.map fun g => g.1 * f g.2).sum := by
  rw [← sum_norm_gen f gs (nodup_rowsS gs) fun g hg => mem_rowsS.mpr (List.mem_map_of_mem hg)]
  unfold norm
  rw [List.map_map]
  rfl
theorem tot_mul (gs : List Grp) (r : List Int) : totG gs r = (gs.map fun g => g.1 * (if g.2 = r then 1 else 0)).sum := by
  unfold totG
  congr 1
  exact List.map_congr_left fun g _ => by split <;> simp
theorem tot_map (gs : List Grp) (φ : List Int → List Int) (r : List Int) : totG (gs.map fun g => (g.1, φ g.2)) r = (gs.map fun g => g.1 * (if φ g.2 = r then 1 else 0)).sum := by
  rw [tot_mul, List.map_map]; rfl
/-- a table of the groups of a table, the rows changed -/
theorem norm_map (gs : List Grp) (φ : List Int → List Int) : norm ((norm gs).map fun g => (g.1, φ g.2)) = norm (gs.map fun g => (g.1, φ g.2)) := by
  refine norm_congr (fun r => ?_) fun r => ?_
  · rw [List.map_map, List.map_map]
    constructor
    · intro h
      obtain ⟨g, hg, rfl⟩ := List.mem_map.mp h
      obtain ⟨g2, h2, e2⟩ := List.mem_map.mp (mem_norm_rows.mp (List.mem_map_of_mem (f := (·.2)) hg))
      exact List.mem_map.mpr ⟨g2, h2, congrArg φ e2⟩
    · intro h
      obtain ⟨g, hg, rfl⟩ := List.mem_map.mp h
      obtain ⟨g2, h2, e2⟩ := List.mem_map.mp (mem_norm_rows.mpr (List.mem_map_of_mem (f := (·.2)) hg))
      exact List.mem_map.mpr ⟨g2, h2, congrArg φ e2⟩
  · rw [tot_map, tot_map]
    exact sum_norm (fun x => if φ x = r then 1 else 0) gs
theorem norm_norm (gs : List Grp) : norm (norm gs) = norm gs := by
  have h := norm_map gs id
  have e : ∀ l : List Grp, l.map (fun g => (g.1, id g.2)) = l := fun l => (List.map_congr_left fun _ _ => rfl).trans (List.map_id l)
  rw [e, e] at h
  exact h
theorem norm_len (gs : List Grp) : (norm gs).length ≤ gs.length := by
  unfold norm rowsS srt
  rw [List.length_map, List.length_mergeSort]
  unfold keysM accM
  rw [List.length_map]
  have := accF_len gs []
  simpa using this
section
variable {P : Program} {w : World} {K : PySem.W.Frag} {mg : Str → Option Value} {base : Heap} {f : Addr} {fd : FuncData}
def grpD (g : Grp) : PyData := .tuple [.int g.1, tI g.2]
def TabOk (n : Nat) (gs : List Grp) : Prop := 1 ≤ n ∧ n ≤ 3 ∧ gs ≠ [] ∧ gs.length ≤ 10000 ∧ (norm gs).length ≤ 100 ∧ ∀ g ∈ gs, 1 ≤ g.1 ∧ g.2.length = n ∧ ∀ x ∈ g.2, (1 : Int) ≤ x
def tabF (n : Nat) (l : Addr) : List (Str × V) := [("width", .int n), ("_groups", .ref l)]
def TabL (K : PySem.W.Frag) (C : Addr) (n : Nat) (gs : List Grp) (l : Addr) : V → Hp → Prop := fun v S => ∃ a dx xs, v = .ref a ∧ S a = some (.ins C dx (tabF n l)) ∧ S l = some (.lst xs) ∧ Dts K (gs.map grpD) xs S ∧ xs.length ≤ sizeLine
def TabP (K : PySem.W.Frag) (C : Addr) (n : Nat) (gs : List Grp) : V → Hp → Prop := fun v S => ∃ l, TabL K C n gs l v S
instance {K : PySem.W.Frag} {C : Addr} {n : Nat} {gs : List Grp} {l : Addr} : Mn (TabL K C n gs l) := ⟨fun s ⟨a, dx, xs, e, h1, h2, h3, h4⟩ => ⟨a, dx, xs, e, s _ _ h1, s _ _ h2, h3.up s, h4⟩⟩
instance {K : PySem.W.Frag} {C : Addr} {n : Nat} {gs : List Grp} : Mn (TabP K C n gs) := ⟨fun s ⟨l, h⟩ => ⟨l, Mn.up s h⟩⟩
theorem newR_tab {K : PySem.W.Frag} {C : Addr} {n : Nat} {gs : List Grp} {S S' : Hp} {v : V} (h : NewR (TabL K C n gs) S v S') : TabP K C n gs v S' := let ⟨l, _, h⟩ := h; ⟨l, h⟩
theorem td_grp (g : Grp) : TD (grpD g) := .tup (ds := [.int g.1, tI g.2]) fun d hd => by
  rcases List.mem_cons.mp hd with rfl | hd
  · exact .int _
  · obtain rfl := List.mem_singleton.mp hd
    exact td_ints _
theorem grps_keep {K : PySem.W.Frag} {S S' : Hp} {gs : List Grp} {xs : List V} (k : ∀ b ys, TuS K S b ys → TuS K S' b ys) (h : Dts K (gs.map grpD) xs S) : Dts K (gs.map grpD) xs S' :=
  tds_keep k (fun d hd => by obtain ⟨p, _, rfl⟩ := List.mem_map.mp hd; exact td_grp p) h
/-! ### check_width, check_power -/
def FchkW : List PyData → PyData → Prop := fun ds r => ∃ i : Int, ds = [.int i] ∧ r = .none ∧ 1 ≤ i ∧ i ≤ 3
theorem sc_chkW : FnScope ["width"] ["width"] (defScope scheck_width) := ⟨rfl, rfl, rfl, by decide +kernel, rfl, by decide +kernel, by decide +kernel⟩
theorem isNum_t {n l : Int} (h : l ≤ n) : isNum (.int n) l = true := decide_eq_true h
theorem ok_chkW (F : FnT K "check_width" scheck_width f fd) (D1 : KD P w K mg base "is_number" 1 (spD K FisNumber)) : FnOk P w K mg base CX0 2 f fd ["width"] (spD K FchkW) := by
  refine fn_hs F sc_chkW (fun vs H Q E h => ?_) (fun cdv A outer sh H vs Q E hr h => ?_)
  · obtain ⟨S, ds, d, _, hd, ⟨_, rfl, _⟩, _⟩ := h
    exact hd.1
  · obtain ⟨S, ds, r, s, hd, ⟨i, rfl, rfl, i1, i3⟩, q⟩ := h
    obtain ⟨v, rfl, p⟩ := hd.one
    refine hs_ifN ((et_w (ew_or (et_not (et_val (ee_callD D1 hr ⟨.int i, 1, rfl, rfl⟩ (ea_2 (ee_var 0 rfl p) ee_int)))) fun _ => ew_or1 (et_gt (ee_var 0 rfl p) ee_int))).is (by rw [isNum_t i1, decide_eq_false (by omega)]; rfl)) s fun S1 H1 g => hs_nil (q _ S1 H1 g .non)
def FchkP : List PyData → PyData → Prop := fun ds r => ∃ i : Int, ds = [.int i] ∧ r = .none ∧ 0 ≤ i ∧ i ≤ 60
theorem sc_chkP : FnScope ["number"] ["number"] (defScope scheck_power) := ⟨rfl, rfl, rfl, by decide +kernel, rfl, by decide +kernel, by decide +kernel⟩
theorem ok_chkP (F : FnT K "check_power" scheck_power f fd) (D1 : KD P w K mg base "is_number" 1 (spD K FisNumber)) (g5 : ∃ t, mg "MOST_POWER" = some (.int 60 t)) : FnOk P w K mg base CX0 2 f fd ["number"] (spD K FchkP) := by
  refine fn_hs F sc_chkP (fun vs H Q E h => ?_) (fun cdv A outer sh H vs Q E hr h => ?_)
  · obtain ⟨S, ds, d, _, hd, ⟨_, rfl, _⟩, _⟩ := h
    exact hd.1
  · obtain ⟨S, ds, r, s, hd, ⟨i, rfl, rfl, i1, i3⟩, q⟩ := h
    obtain ⟨v, rfl, p⟩ := hd.one
    obtain ⟨t, g5⟩ := g5
    refine hs_ifN ((et_w (ew_or (et_not (et_val (ee_callD D1 hr ⟨.int i, 0, rfl, rfl⟩ (ea_2 (ee_var 0 rfl p) ee_int)))) fun _ => ew_or1 (et_gt (ee_var 0 rfl p) (ee_globI g5)))).is (by rw [isNum_t i1, decide_eq_false (by omega)]; rfl)) s fun S1 H1 g => hs_nil (q _ S1 H1 g .non)
/-! ### Table.__init__ -/
def Ftab (K : PySem.W.Frag) (C : Addr) : List PyData → (Addr → V → Hp → Prop) → Prop := fun ds R => ∃ n d gs, ds = [.int (n : Nat), d] ∧ (d = .list (gs.map grpD) ∨ d = .tuple (gs.map grpD)) ∧ TabOk n gs ∧ R = TabL K C n (norm gs)
theorem sc_Tinit : FnScope ["self", "width", "groups", "counts", "at", "group", "count", "row", "item"] ["self", "width", "groups"] (defScope sTable____init__) := ⟨rfl, rfl, rfl, by decide +kernel, rfl, by decide +kernel, by decide +kernel⟩
theorem dir_row {n : Nat} {l : List Int} (h1 : l.length = n) (h2 : ∀ x ∈ l, (1 : Int) ≤ x) : isDir (tI l) n = true := by
  show (decide (((l.map PyData.int).length : Int) = n) && (l.map PyData.int).all fun x => isNum x 0) = true
  rw [Bool.and_eq_true]
  refine ⟨by rw [List.length_map, h1]; simp, ?_⟩
  rw [List.all_map, List.all_eq_true]
  intro x hx
  exact isNum_t (by have := h2 x hx; omega)
def posD : PyData → Bool := fun d => match d with
  | .int i => decide (0 < i)
  | _ => false
theorem alike_ints : ∀ a b : List Int, PySem.W.alikeAll (a.map PyData.int) (b.map PyData.int) = true
  | [], b => by simp [PySem.W.alikeAll]
  | _ :: _, [] => by simp [PySem.W.alikeAll]
  | x :: a, y :: b => by simp [PySem.W.alikeAll, PySem.W.alike, alike_ints a b]
theorem sortOk_rows {ks : List (List Int)} {u : Nat} (h : ∀ k ∈ ks, k ≠ []) (hu : u + 8 < cLine) : SortOk tI' ks u := by
  refine ⟨fun d hd d' hd' => ?_, .inl fun d hd => ?_, fun b hb => ?_⟩
  · obtain ⟨k, _, rfl⟩ := List.mem_map.mp hd
    obtain ⟨k', _, rfl⟩ := List.mem_map.mp hd'
    simp only [PySem.W.alike]
    exact alike_ints k k'
  · obtain ⟨k, hk, rfl⟩ := List.mem_map.mp hd
    cases k with
    | nil => exact absurd rfl (h _ hk)
    | cons x k => exact ⟨.int x, k.map .int, rfl⟩
  · have := dep_ints b
    show u + 2 + PyData.depth (.tuple (b.map .int)) < cLine
    simp [PyData.depth]
    omega
theorem room_u1 {k : Nat} {A : Around} (h : Room k A) : A.units + 1 < cLine := by have := h.un; omega
theorem room_u8 {k : Nat} {A : Around} (h : Room k A) : A.units + 8 < cLine := by have := h.un; omega
theorem accF_snoc (m : MapI) (gs : List Grp) (g : Grp) : accF m (gs ++ [g]) = putM (accF m gs) g.2 ((getM (accF m gs) g.2).getD 0 + g.1) := by
  unfold accF
  rw [List.foldl_append]; rfl
theorem take_snocG {α : Type} {l : List α} {i : Nat} (h : i < l.length) : l.take (i + 1) = l.take i ++ [l[i]] := by
  rw [List.take_succ, List.getElem?_eq_getElem h]; rfl
/-- b is new behind H2; then S3 H3; then T -/
theorem GrI.after {b : Addr} {S2 H2 S3 H3 T H' : Hp} {o : HO} (e : Gr S2 (upd H2 b o) S3 H3) (j : GrI b S3 H3 T H') (hb : H2 b = none) (hS : S2 b = none) : GrI b S2 (upd H2 b o) T H' :=
  ⟨e.st.trans j.st, j.sub, fun z u n h => j.hh z u n (e.hh _ _ h), fun z u n h m => (j.old z u n (e.hh _ _ h) m).trans (e.old z u h m)⟩
theorem norm_lenE {gs : List Grp} : (norm gs).length = (accF [] gs).length := by
  unfold norm rowsS srt accM
  rw [List.length_map, List.length_mergeSort]
  unfold keysM
  rw [List.length_map]
theorem ok_Tinit {C : Addr} {mc : Value} {t : Tok} (F : FunD K "__init__" "Table.__init__" (defArgs sTable____init__) (defBody sTable____init__) (defScope sTable____init__) [] [] f fd) (D1 : KD P w K mg base "check_width" 2 (spD K FchkW)) (D2 : KD P w K mg base "is_number" 1 (spD K FisNumber)) (D3 : KD P w K mg base "is_direction" 2 (spD K FisDir)) (c : Cls K C)
    (n1 : NoAttr K C "width") (n2 : NoAttr K C "_groups") (gS : mg "Table" = some (.ref C)) (cr : ClX.CRead K C mc) (cv : ClX.CVal K C mc "MOST" (.int 100) (.int 100 t)) (g1 : mg "len" = none) (g2 : mg "isinstance" = none) (g3 : mg "list" = none) (g4 : mg "tuple" = none) (g5 : mg "enumerate" = none) (g6 : mg "all" = none) (g7 : mg "sorted" = none) :
    FnOk P w K mg base CX0 3 f fd ["self", "width", "groups"] (spI C K (Ftab K C)) := by
  refine fn_hs F sc_Tinit (fun vs H Q E h => ?_) (fun cdv A outer sh H vs Q E hr h => ?_)
  · obtain ⟨S, a, dx, ws, ds, R, rfl, _, _, _, hd, ⟨_, _, _, rfl, _⟩, _⟩ := h
    have := hd.1
    simp at this
    simp [this]
  · obtain ⟨S, a, dx, ws, ds, R, rfl, s, hSa, hHa, hd, ⟨n, d, gs, rfl, hdd, ho, rfl⟩, q⟩ := h
    obtain ⟨vn, vg, rfl, p1, p2⟩ := hd.two
    obtain ⟨o1, o3, one, o1000, o100, oall⟩ := ho
    have i0 := GrI.start (o := .ins C dx []) s hSa hHa
    refine hs_expr (ee_callD D1 hr ⟨(n : Int), rfl, rfl, by omega, by omega⟩ (ea_1 (ee_var 1 rfl (p1.up i0.st)))) i0.sub fun _ S1 H1 e1 _ => ?_
    have i1 := i0.step e1
    have a1 : S1 a = some (.ins C dx []) := e1.st _ _ upd_same
    have hlt : (isD d "list" || isD d "tuple") = true := by rcases hdd with rfl | rfl <;> rfl
    have htr : truD d = true := by
      have : gs.isEmpty = false := by cases gs <;> simp_all
      rcases hdd with rfl | rfl <;> (show (!(gs.map grpD).isEmpty) = true; simp [this])
    refine hs_ifN ((et_w (ew_or (et_not (et_val (ee_isiLT rfl g2 g3 g4 (ee_var 2 rfl (p2.up i1.st))))) fun _ => ew_or1 (et_not (et_tru (ee_var 2 rfl (p2.up i1.st)) (fun x hx => by rcases hdd with rfl | rfl <;> cases hx))))).is (by rw [hlt, htr]; rfl)) i1.sub fun S2 H2 e2 => ?_
    have i2 := i1.step e2
    have a2 := e2.st _ _ a1
    have p12 := p1.up i2.st
    have p22 := p2.up i2.st
    refine hs_dnew (j := 3) sc_Tinit.nd fun b hb => ?_
    refine hs_forH (Ps := Ds K (enumD (gs.map grpD))) PassesOwn.never rfl (by
      rcases hdd with rfl | rfl
      · exact ei_enumL g5 (ee_var 2 rfl p22)
      · exact ei_enumT g5 (ee_var 2 rfl p22)) (sub_new i2.sub hb) fun S3 H3 e3 => ?_
    have hS2b : S2 b = none := i2.sub.free hb
    have hS3b : S3 b = none := (e3.old b _ upd_same (by intro xs z; cases z)).trans hS2b
    have hH3b : H3 b = some (.dT (kvM [])) := e3.hh _ _ upd_same
    have p13 := p12.up e3.st
    have p23 := p22.up e3.st
    refine ⟨fun i σ' H' => ∃ T x4 x5 x6 x7, σ' = [some (.ref a), some vn, some vg, some (.ref b), x4, x5, x6, x7, none] ∧ GrI b S3 H3 T H' ∧ T b = some (.dT (kvM (accF [] (gs.take i)))), ⟨_, none, none, none, none, rfl, GrI.start e3.sub hS3b hH3b, upd_same⟩, fun i σ' H' ⟨T, _, _, _, _, _, j, _⟩ => j.st.trans j.sub, ?_, ?_⟩
    · rintro i Pi σ1 H4 x H5 hP ⟨T, x4, x5, x6, x7, rfl, j, hT⟩ y
      obtain ⟨T5, e5, px⟩ := y T j.st j.sub
      have hi : i < gs.length := by
        have := (List.getElem?_eq_some_iff.mp hP).1
        rw [enum_len, List.length_map] at this; exact this
      have hz : (gs.map grpD)[i]? = some (grpD gs[i]) := by rw [List.getElem?_map, List.getElem?_eq_getElem hi]; rfl
      rw [ds_get (enum_get hz)] at hP
      obtain rfl := Option.some.inj hP
      obtain ⟨c1, clen, cpos⟩ := oall gs[i] (List.getElem_mem hi)
      have hne : gs[i].2 ≠ [] := fun e => by rw [e] at clen; simp at clen; omega
      obtain ⟨u1, u2, k1, k2, hg⟩ := eg_pair (σ := [some (.ref a), some vn, some vg, some (.ref b), x4, x5, x6, x7, none]) (i := 4) (j := 5) (x := "at") (y := "group") (kk := _) (px := _) (py := _) (pos := _) (X := (cxOf CX0 P w K mg base ["self", "width", "groups", "counts", "at", "group", "count", "row", "item"] "Table.__init__" (defScope sTable____init__) f cdv A outer sh H E).nox) rfl sc_Tinit.nd rfl rfl (Or.inl rfl) (Or.inl rfl) px
      refine hg H5 e5.sub _ ?_
      have j5 := j.step e5
      refine hs_ifN ((et_w (ew_or (et_not (et_val (ee_isi (isD_ok (grpD gs[i]) (T := "tuple") (by simp)) g2 g4 boot_tuple (ee_var 5 rfl k2)))) fun _ => ew_or (et_neI (ee_len g1 (d := grpD gs[i]) (n := 2) rfl (ee_var 5 rfl k2)) ee_int) fun _ => ew_or1 (et_not (et_val (ee_callD D2 (hr.mono (by decide)) ⟨.int gs[i].1, 1, rfl, rfl⟩ (ea_2 (ee_ixT (ds := [.int gs[i].1, tI gs[i].2]) (d := .int gs[i].1) rfl (ee_var 5 rfl k2) ee_int) ee_int)))))).is (by rw [isNum_t c1]; rfl)) j5.sub fun S6 H6 e6 => ?_
      have j6 := j5.step e6
      refine hs_unpack (i := 6) (j := 7) (d1 := .int gs[i].1) (d2 := tI gs[i].2) rfl sc_Tinit.nd (ee_var 5 rfl (k2.up e6.st)) j6.sub fun v w S7 H7 e7 pv pw => ?_
      have j7 := j6.step e7
      refine hs_if (et_w (ew_or (et_not (et_val (ee_callD D3 hr ⟨tI gs[i].2, (n : Int), rfl, rfl⟩ (ea_2 (ee_var 7 rfl pw) (ee_var 1 rfl (p13.up j7.st)))))) fun _ => ew_or1 (et_not (et_val ((ee_all (bs := (gs[i].2.map PyData.int).map posD) rfl g6 (ee_lc (i := 8) (enc := .bool) (f := posD) rfl sc_Tinit.nd (blkOk_by (N := ["self", "width", "groups", "counts", "at", "group", "count", "row", "item"]) (sc := defScope sTable____init__) (by decide +kernel)) (ei_tup (ee_var 7 rfl pw)) (by rw [List.length_map]; show _ ≤ 16777216; omega) ?_)).isd (d' := .bool true) ?_))))) j7.sub (fun hk S8 H8 e8 => ?_) (fun _ S8 H8 e8 => hs_nil ?_)
      · intro x hx v S2 s2 pv sh' H0 C' cl fp
        obtain ⟨z, _, rfl⟩ := List.mem_map.mp hx
        exact ee_gt (ee_var 8 rfl pv) ee_int
      · have : (((gs[i].2.map PyData.int).map posD).all fun b => b) = true := by
          rw [List.all_map, List.all_map, List.all_eq_true]
          intro x hx
          exact decide_eq_true (by have := cpos x hx; omega)
        rw [this]
      · exfalso
        rw [dir_row clen cpos] at hk
        cases hk
      have j8 := j7.step e8
      have hT8 : S8 b = some (.dT (kvM (accF [] (gs.take i)))) := e8.st _ _ (e7.st _ _ (e6.st _ _ (e5.st _ _ hT)))
      have hml : (accF [] (gs.take i)).length < 16777216 := by
        have h1 := accF_len (gs.take i) []
        have h2 : (gs.take i).length ≤ gs.length := by rw [List.length_take]; omega
        simp only [List.length_nil] at h1
        omega
      refine hs_dputS (r := b) (n := (getM (accF [] (gs.take i)) gs[i].2).getD 0 + gs[i].1) (k := gs[i].2) (m := accF [] (gs.take i)) (room_u1 hr) (ee_add (ee_dget2 (room_u1 hr) hT8 (ee_var 3 rfl rfl) (EE.ky (ee_var 7 rfl (pw.up e8.st)) hne) ee_int) (ee_var 6 rfl (pv.up e8.st))) (ee_var 3 rfl rfl) (EE.ky (ee_var 7 rfl (pw.up e8.st)) hne) j8.sub hT8 hml fun S9 H9 e9 => hs_nil ?_
      refine ⟨_, _, _, _, _, rfl, (j8.step e9).put hS3b, ?_⟩
      rw [take_snocG hi, accF_snoc]
      exact upd_same
    · rintro σ1 H4 ⟨T, x4, x5, x6, x7, rfl, j, hT⟩
      have hlen : (Ds K (enumD (gs.map grpD))).length = gs.length := by rw [enum_len, List.length_map]
      rw [hlen, List.take_length] at hT
      have i4 := i2.under hb (GrI.after e3 j hb hS2b)
      have a4 : T a = some (.ins C dx []) := j.st _ _ (e3.st _ _ a2)
      have hmem : ∀ r ∈ keysM (accF [] gs), r.length = n := fun r hr' => by
        rcases (accF_keys gs [] r).mp hr' with h | h
        · cases h
        · obtain ⟨g, hg, rfl⟩ := List.mem_map.mp h
          exact (oall g hg).2.1
      have hkl : (accF [] gs).length ≤ 100 := by rw [← norm_lenE]; exact o100
      refine hs_ifN ((et_gt (ee_dlen g1 hT (ee_var 3 rfl rfl)) (ee_cval (P := Dt K (.int 100)) gS cr cv (fun _ => .int 100))).is (by rw [decide_eq_false (by omega)])) i4.sub fun S5 H5 e5 => ?_
      have i5 := i4.step e5
      have a5 := e5.st _ _ a4
      have hT5 := e5.st _ _ hT
      refine hs_fld (P := Dt K (.int (n : Nat))) (r := a) (C := C) (dx := dx) (fs := []) (ee_var 1 rfl (p1.up i5.st)) i5.sub (fun S6 _ => ee_var 0 rfl rfl) (i5.sub _ _ a5) c n1 (by decide) fun v S6 H6 e6 pv e0 => ?_
      obtain rfl := pv.int_inv
      have a6 := e6.st _ _ a5
      have i6 := (i5.step e6).put (o := .ins C dx [("width", .int (n : Nat))]) hSa
      have hne : b ≠ a := fun e => by subst e; rw [a2] at hS2b; cases hS2b
      have hT6 : upd S6 a (.ins C dx [("width", .int (n : Nat))]) b = some (.dT (kvM (accF [] gs))) := by rw [upd_ne hne]; exact e6.st _ _ hT5
      refine hs_fld (P := NewL K (upd S6 a (.ins C dx [("width", .int (n : Nat))])) ((norm gs).map grpD)) (r := a) (C := C) (dx := dx) (fs := [("width", .int (n : Nat))]) ?_ i6.sub (fun S7 _ => ee_var 0 rfl rfl) upd_same c n2 (show 1 < 1000 by decide) fun v S7 H7 e7 pv e0 => hs_nil ?_
      · refine (ee_lcNw (i := 7) (enc := id) (f := fun d => grpD (totG gs (unI d), unI d)) rfl sc_Tinit.nd (blkOk_by (N := ["self", "width", "groups", "counts", "at", "group", "count", "row", "item"]) (sc := defScope sTable____init__) (by decide +kernel)) (ei_list (ee_sortDT rfl g7 (sortOk_rows (fun k hk e => by have := hmem k hk; rw [e] at this; simp at this; omega) (room_u8 hr)) (fun k hk => by rw [hmem k hk]; show _ ≤ 16777216; omega) hT6 (ee_var 3 rfl rfl))) (by rw [List.length_map]; unfold srt; rw [List.length_mergeSort]; unfold keysM; rw [List.length_map]; exact Nat.le_trans hkl (by show 100 ≤ 16777216; decide)) ?_).imp fun _ _ h => h.is ?_
        · intro d hd v S8 s8 pv sh' H0 C' cl fp
          obtain ⟨r, hr', rfl⟩ := List.mem_map.mp hd
          have hr2 := mem_srt.mp hr'
          have hne : r ≠ [] := fun e => by have := hmem r hr2; rw [e] at this; simp at this; omega
          obtain ⟨z, hz⟩ := getM_some hr2
          have hzt : z = totG gs r := by
            have := accF_get gs [] r
            rw [hz] at this
            simpa [getM] using this
          have pv' : Dt K (tI r) v S8 := pv
          refine (ee_tup (ds := [.int z, tI r]) (ea_2 (ee_dix (room_u1 hr) (s8 _ _ hT6) hz (ee_var 3 rfl rfl) (EE.ky (ee_var 7 rfl pv') hne)) (ee_var 7 rfl pv'))).isd ?_
          show grpD (z, r) = grpD (totG gs (unI (tI r)), unI (tI r))
          rw [unI_tI, hzt]
        · rw [List.map_id, List.map_map, norm, List.map_map]
          show (srt tI' (keysM (accF [] gs))).map ((fun d => grpD (totG gs (unI d), unI d)) ∘ tI') = (srt tI' (keysM (accF [] gs))).map (grpD ∘ fun r => (totG gs r, r))
          exact List.map_congr_left fun r _ => by
            show grpD (totG gs (unI (tI r)), unI (tI r)) = grpD (totG gs r, r)
            rw [unI_tI]
      · obtain ⟨l, xs, rfl, h0, hl1, hx, hz⟩ := pv
        have a7 := e7.st _ _ (upd_same (H := S6) (a := a) (o := .ins C dx [("width", .int (n : Nat))]))
        have i8 := (i6.step e7).put (o := .ins C dx (tabF n l)) hSa
        have lne : l ≠ a := fun e => by subst e; rw [upd_same] at h0; cases h0
        refine q l _ _ i8 (i6.st.free h0) ⟨a, dx, xs, rfl, upd_same, by rw [upd_ne lne]; exact hl1, grps_keep (sqt_put a7 (fun _ z => nomatch z) (fun _ _ z => nomatch z)) hx, hz⟩
/-! ## check_width refused -/
def isW (d : PyData) : Bool := isNum d 1 && leNum d 3
def GchkW (k0 : EK) (K : PySem.W.Frag) : List V → Hp → EK → PyData → Prop := fun vs S k g => ∃ d, Dts K [d] vs S ∧ isW d = false ∧ k = k0 ∧ g = d
theorem ok_chkWX {k0 : EK} (F : FnT K "check_width" scheck_width f fd) (R : Err P w K mg base "InvalidNumber" k0.C "given" k0.code) (hf : k0.fn = some "given") (D1 : KD P w K mg base "is_number" 1 (spD K FisNumber)) : FnOk P w K mg base (L2.CX P w) 3 f fd ["width"] (spX K (GchkW k0 K)) := by
  refine fn_hsX F sc_chkW (fun vs H Q E h => ?_) (fun cdv A outer sh H vs Q E hr h tk => ?_)
  · obtain ⟨S, k, g, _, ⟨d, hd, _⟩, _⟩ := h
    exact hd.1
  · obtain ⟨S, k, g, s, ⟨d, hd, hw, rfl, rfl⟩, hx⟩ := h
    obtain ⟨v, rfl, p⟩ := hd.one
    by_cases h1 : isNum g 1 = true
    · have h3 : leNum g 3 = false := by unfold isW at hw; rw [h1] at hw; simpa using hw
      cases g with
      | int i =>
        refine hs_ifT ((et_w (ew_or (k2 := true) (et_not (et_val (ee_callD D1 (hr.mono (by decide)) ⟨.int i, 1, rfl, rfl⟩ (ea_2 (ee_var 0 rfl p) ee_int)))) fun _ => ew_or1 ((et_gt (ee_var 0 rfl p) ee_int).is ?_))).is (by simp)) s fun S1 H1 g1 => ?_
        · have : ¬ (i ≤ 3) := of_decide_eq_false h3
          exact decide_eq_true (by omega)
        · exact hs_raise1 rfl tk R hf (by decide) hr (ee_var 0 rfl (p.up g1.st)) g1.sub (hx.up g1)
      | _ => exact absurd h1 (by simp [isNum])
    · have h1' : isNum g 1 = false := by simpa using h1
      refine hs_ifT ((et_w (ew_or (k2 := true) (et_not (et_val (ee_callD D1 (hr.mono (by decide)) ⟨g, 1, rfl, rfl⟩ (ea_2 (ee_var 0 rfl p) ee_int)))) fun h => ?_)).is (by simp)) s fun S1 H1 g1 => ?_
      · rw [h1'] at h; cases h
      · exact hs_raise1 rfl tk R hf (by decide) hr (ee_var 0 rfl (p.up g1.st)) g1.sub (hx.up g1)
/-! ## tables refused -/
def LT (d : PyData) (ds : List PyData) : Prop := d = .list ds ∨ d = .tuple ds
def posR (d : PyData) : Bool := match d with
  | .tuple l => l.all posD
  | _ => false
def isGrp (n : Nat) (d : PyData) : Bool := match d with
  | .tuple [c, r] => isNum c 1 && (isDir r (n : Nat) && posR r)
  | _ => false
def GrpsOk (n : Nat) (gs : List Grp) : Prop := ∀ g ∈ gs, 1 ≤ g.1 ∧ g.2.length = n ∧ ∀ x ∈ g.2, (1 : Int) ≤ x
/-- no list and no tuple, or an empty one -/
def noLT (d : PyData) : Prop := (isD d "list" || isD d "tuple") = false ∨ d = .list [] ∨ d = .tuple []
/-- what Table(d1, d2) raises -/
def BadT (kN kG kT : EK) (d1 d2 : PyData) (k : EK) (g : PyData) : Prop := (isW d1 = false ∧ k = kN ∧ g = d1) ∨ ∃ n : Nat, d1 = .int n ∧ 1 ≤ n ∧ n ≤ 3 ∧
  ((noLT d2 ∧ k = kG ∧ g = .int (-1)) ∨ (∃ gs bad rest, LT d2 (gs.map grpD ++ bad :: rest) ∧ gs.length ≤ 1000 ∧ GrpsOk n gs ∧ isGrp n bad = false ∧ k = kG ∧ g = .int (gs.length : Nat)) ∨ ∃ gs, LT d2 (gs.map grpD) ∧ gs ≠ [] ∧ gs.length ≤ 10000 ∧ GrpsOk n gs ∧ 100 < (norm gs).length ∧ k = kT ∧ g = .int 100)
def GT (kN kG kT : EK) (K : PySem.W.Frag) : List V → Hp → EK → PyData → Prop := fun ws S k g => ∃ d1 d2, Dts K [d1, d2] ws S ∧ BadT kN kG kT d1 d2 k g
theorem take_mapT {gs : List Grp} {bad : PyData} {rest : List PyData} {i : Nat} (h : i < gs.length) : (gs.map grpD ++ bad :: rest)[i]? = some (grpD gs[i]) := by
  rw [List.getElem?_append_left (by rw [List.length_map]; exact h), List.getElem?_map, List.getElem?_eq_getElem h]; rfl
theorem at_badT {gs : List Grp} {bad : PyData} {rest : List PyData} : (gs.map grpD ++ bad :: rest)[gs.length]? = some bad := by
  rw [List.getElem?_append_right (by rw [List.length_map]; exact Nat.le_refl _), List.length_map, Nat.sub_self]; rfl
def unNT (d : PyData) : Int := match d with
  | .int i => i
  | _ => 0
theorem dir_inv {r : PyData} {n : Int} (h : isDir r n = true) : ∃ l : List Int, r = tI l := by
  cases r with
  | tuple ds =>
    have h : (decide ((ds.length : Int) = n) && ds.all fun x => isNum x 0) = true := h
    rw [Bool.and_eq_true] at h
    refine ⟨ds.map unNT, ?_⟩
    show PyData.tuple ds = .tuple ((ds.map unNT).map .int)
    rw [List.map_map]
    congr 1
    conv => lhs; rw [← List.map_id ds]
    exact List.map_congr_left fun d hd => by
      have := List.all_eq_true.mp h.2 d hd
      cases d <;> first | rfl | cases this
  | _ => cases h
theorem ok_TinitX {C : Addr} {mc : Value} {t : Tok} {kN kG kT : EK} (F : FunD K "__init__" "Table.__init__" (defArgs sTable____init__) (defBody sTable____init__) (defScope sTable____init__) [] [] f fd) (D0 : KD P w K mg base "check_width" 2 (spD K FchkW)) (D1 : KDX P w K mg base "check_width" 3 (spX K (GchkW kN K))) (D2 : KD P w K mg base "is_number" 1 (spD K FisNumber)) (D3 : KD P w K mg base "is_direction" 2 (spD K FisDir))
    (RG : Err P w K mg base "InvalidGroup" kG.C "at" kG.code) (hG : kG.fn = some "at") (RT : Err P w K mg base "TooMany" kT.C "most" kT.code) (hT0 : kT.fn = some "most")
    (gS : mg "Table" = some (.ref C)) (cr : ClX.CRead K C mc) (cv : ClX.CVal K C mc "MOST" (.int 100) (.int 100 t)) (g1 : mg "len" = none) (g2 : mg "isinstance" = none) (g3 : mg "list" = none) (g4 : mg "tuple" = none) (g5 : mg "enumerate" = none) (g6 : mg "all" = none) :
    FnOk P w K mg base (L2.CX P w) 4 f fd ["self", "width", "groups"] (spXI' C K (GT kN kG kT K)) := by
  refine fn_hsX F sc_Tinit (fun vs H Q E h => ?_) (fun cdv A outer sh H vs Q E hr h tk => ?_)
  · obtain ⟨S, a, dx, ws, k, g, rfl, _, _, _, ⟨_, _, hd, _⟩, _⟩ := h
    have := hd.1
    simp at this
    simp [this]
  · obtain ⟨S, a, dx, ws, k, g, rfl, s, hSa, hHa, ⟨d1, d, hd, hb⟩, hx⟩ := h
    obtain ⟨vn, vg, rfl, p1, p2⟩ := hd.two
    rcases hb with ⟨hw, rfl, rfl⟩ | ⟨n, rfl, n1, n3, hb⟩
    · refine hs_exprX (er_call (P := NoP) (O := O1 k g) tk D1 hr (ea_1 (ee_var 1 rfl p1)) (spX_O fun vs S1 s1 al => ?_)) s (fun k' g' h => by obtain ⟨rfl, rfl⟩ := h; exact hx) fun _ _ _ _ z => z.elim
      exact ⟨k, g, ⟨g, al_dts (ds := [g]) al, hw, rfl, rfl⟩, rfl, rfl⟩
    refine hs_expr (ee_callD D0 (hr.mono (by decide)) ⟨(n : Int), rfl, rfl, by omega, by omega⟩ (ea_1 (ee_var 1 rfl p1))) s fun _ S1 H1 e1 _ => ?_
    have hx1 := hx.up e1
    have p21 := p2.up e1.st
    rcases hb with ⟨hlt, rfl, rfl⟩ | hb
    · refine hs_ifT ((et_w (ew_or (et_not (et_val (ee_isiLT rfl g2 g3 g4 (ee_var 2 rfl p21)))) fun h => ew_or1 (et_not (et_tru (ee_var 2 rfl p21) (fun x hx => by rcases hlt with h0 | rfl | rfl <;> first | (cases hx; done) | (rw [h0] at h; cases h)))))).is ?_) e1.sub fun S2 H2 e2 => ?_
      · rcases hlt with h0 | rfl | rfl
        · rw [h0]; rfl
        · rfl
        · rfl
      · exact hs_raise1 rfl tk RG hG (by decide) (hr.mono (by decide)) (ee_neg ee_int) e2.sub (hx1.up e2)
    obtain ⟨ds, hLT, hds, hne0⟩ : ∃ ds, LT d ds ∧ ((∃ gs bad rest, ds = gs.map grpD ++ bad :: rest ∧ gs.length ≤ 1000 ∧ GrpsOk n gs ∧ isGrp n bad = false ∧ k = kG ∧ g = .int (gs.length : Nat)) ∨ ∃ gs, ds = gs.map grpD ∧ gs.length ≤ 10000 ∧ GrpsOk n gs ∧ 100 < (norm gs).length ∧ k = kT ∧ g = .int 100) ∧ ds ≠ [] := by
      rcases hb with ⟨gs, bad, rest, h1, h2⟩ | ⟨gs, h1, h0, h2⟩
      · exact ⟨_, h1, .inl ⟨gs, bad, rest, rfl, h2⟩, by simp⟩
      · exact ⟨_, h1, .inr ⟨gs, rfl, h2⟩, by simpa using h0⟩
    have hlt : (isD d "list" || isD d "tuple") = true := by rcases hLT with rfl | rfl <;> rfl
    have htr : truD d = true := by
      have : ds.isEmpty = false := by cases ds <;> simp_all
      rcases hLT with rfl | rfl <;> (show (!ds.isEmpty) = true; simp [this])
    refine hs_ifN ((et_w (ew_or (et_not (et_val (ee_isiLT rfl g2 g3 g4 (ee_var 2 rfl p21)))) fun _ => ew_or1 (et_not (et_tru (ee_var 2 rfl p21) (fun x hx => by rcases hLT with rfl | rfl <;> cases hx))))).is (by rw [hlt, htr]; rfl)) e1.sub fun S2 H2 e2 => ?_
    have hx2 := hx1.up e2
    have e12 := e1.trans e2
    have p12 := p1.up e12.st
    have p22 := p2.up e12.st
    obtain ⟨gs, hgl, hgo, hpre, hend⟩ : ∃ gs : List Grp, gs.length ≤ 10000 ∧ GrpsOk n gs ∧ (∀ i (h : i < gs.length), ds[i]? = some (grpD gs[i])) ∧ ((∃ bad, ds[gs.length]? = some bad ∧ isGrp n bad = false ∧ k = kG ∧ g = .int (gs.length : Nat)) ∨ (ds.length = gs.length ∧ 100 < (norm gs).length ∧ k = kT ∧ g = .int 100)) := by
      rcases hds with ⟨gs, bad, rest, rfl, h1, h2, h3, h4, h5⟩ | ⟨gs, rfl, h1, h2, h3, h4, h5⟩
      · exact ⟨gs, by omega, h2, fun i h => take_mapT h, .inl ⟨bad, at_badT, h3, h4, h5⟩⟩
      · exact ⟨gs, h1, h2, fun i h => by rw [List.getElem?_map, List.getElem?_eq_getElem h]; rfl, .inr ⟨List.length_map _, h3, h4, h5⟩⟩
    refine hs_dnew (j := 3) sc_Tinit.nd fun b hb => ?_
    refine hs_forH (Ps := Ds K (enumD ds)) (passes_of rfl) rfl (by
      rcases hLT with rfl | rfl
      · exact ei_enumL g5 (ee_var 2 rfl p22)
      · exact ei_enumT g5 (ee_var 2 rfl p22)) (sub_new e2.sub hb) fun S3 H3 e3 => ?_
    have hS2b : S2 b = none := e2.sub.free hb
    have hS3b : S3 b = none := (e3.old b _ upd_same (by intro xs z; cases z)).trans hS2b
    have hH3b : H3 b = some (.dT (kvM [])) := e3.hh _ _ upd_same
    have p13 := p12.up e3.st
    have hxT : ∀ T H', GrI b S3 H3 T H' → XErr K k g T H' E := fun T H' j dd fs S4 H4 g4 hdd hxd hc hn hf => by
      have gb : Gr S2 H2 T H' := by
        have i := GrI.after e3 j hb hS2b
        have ne : ∀ z u, H2 z = some u → z ≠ b := fun z u e q => by subst q; rw [hb] at e; cases e
        exact ⟨i.st, i.sub, fun z u e => i.hh z u (ne z u e) ((upd_ne (ne z u e)).trans e), fun z u e m => i.old z u (ne z u e) ((upd_ne (ne z u e)).trans e) m⟩
      exact (hx2.up gb) dd fs S4 H4 g4 hdd hxd hc hn hf
    refine ⟨fun i σ' H' => i ≤ gs.length ∧ ∃ T x4 x5 x6 x7, σ' = [some (.ref a), some vn, some vg, some (.ref b), x4, x5, x6, x7, none] ∧ GrI b S3 H3 T H' ∧ T b = some (.dT (kvM (accF [] (gs.take i)))), ⟨Nat.zero_le _, _, none, none, none, none, rfl, GrI.start e3.sub hS3b hH3b, upd_same⟩, fun i σ' H' ⟨_, T, _, _, _, _, _, j, _⟩ => j.st.trans j.sub, ?_, ?_⟩
    · rintro i Pi σ1 H4 x H5 hP ⟨hig, T, x4, x5, x6, x7, rfl, j, hT⟩ y
      obtain ⟨T5, e5, px⟩ := y T j.st j.sub
      have j5 := j.step e5
      rcases Nat.lt_or_ge i gs.length with hi | hi
      · rw [ds_get (enum_get (hpre i hi))] at hP
        obtain rfl := Option.some.inj hP
        obtain ⟨c1, clen, cpos⟩ := hgo gs[i] (List.getElem_mem hi)
        have hne : gs[i].2 ≠ [] := fun e => by rw [e] at clen; simp at clen; omega
        obtain ⟨u1, u2, k1, k2, hg⟩ := eg_pair (σ := [some (.ref a), some vn, some vg, some (.ref b), x4, x5, x6, x7, none]) (i := 4) (j := 5) (x := "at") (y := "group") (kk := _) (px := _) (py := _) (pos := _) (X := cxOf (L2.CX P w) P w K mg base ["self", "width", "groups", "counts", "at", "group", "count", "row", "item"] "Table.__init__" (defScope sTable____init__) f cdv A outer sh H E) rfl sc_Tinit.nd rfl rfl (Or.inl rfl) (Or.inl rfl) px
        refine hg H5 e5.sub _ ?_
        refine hs_ifN ((et_w (ew_or (et_not (et_val (ee_isi (isD_ok (grpD gs[i]) (T := "tuple") (by simp)) g2 g4 boot_tuple (ee_var 5 rfl k2)))) fun _ => ew_or (et_neI (ee_len g1 (d := grpD gs[i]) (n := 2) rfl (ee_var 5 rfl k2)) ee_int) fun _ => ew_or1 (et_not (et_val (ee_callD D2 (hr.mono (by decide)) ⟨.int gs[i].1, 1, rfl, rfl⟩ (ea_2 (ee_ixT (ds := [.int gs[i].1, tI gs[i].2]) (d := .int gs[i].1) rfl (ee_var 5 rfl k2) ee_int) ee_int)))))).is (by rw [isNum_t c1]; rfl)) j5.sub fun S6 H6 e6 => ?_
        have j6 := j5.step e6
        refine hs_unpack (i := 6) (j := 7) (d1 := .int gs[i].1) (d2 := tI gs[i].2) rfl sc_Tinit.nd (ee_var 5 rfl (k2.up e6.st)) j6.sub fun v w S7 H7 e7 pv pw => ?_
        have j7 := j6.step e7
        refine hs_if (et_w (ew_or (et_not (et_val (ee_callD D3 (hr.mono (by decide)) ⟨tI gs[i].2, (n : Int), rfl, rfl⟩ (ea_2 (ee_var 7 rfl pw) (ee_var 1 rfl (p13.up j7.st)))))) fun _ => ew_or1 (et_not (et_val ((ee_all (bs := (gs[i].2.map PyData.int).map posD) rfl g6 (ee_lc (i := 8) (enc := .bool) (f := posD) rfl sc_Tinit.nd (blkOk_by (N := ["self", "width", "groups", "counts", "at", "group", "count", "row", "item"]) (sc := defScope sTable____init__) (by decide +kernel)) (ei_tup (ee_var 7 rfl pw)) (by rw [List.length_map]; show _ ≤ 16777216; omega) ?_)).isd (d' := .bool true) ?_))))) j7.sub (fun hk S8 H8 e8 => ?_) (fun _ S8 H8 e8 => hs_nil ?_)
        · intro x hx v S2 s2 pv sh' H0 C' cl fp
          obtain ⟨z, _, rfl⟩ := List.mem_map.mp hx
          exact ee_gt (ee_var 8 rfl pv) ee_int
        · have : (((gs[i].2.map PyData.int).map posD).all fun b => b) = true := by
            rw [List.all_map, List.all_map, List.all_eq_true]
            intro x hx
            exact decide_eq_true (by have := cpos x hx; omega)
          rw [this]
        · exfalso
          rw [dir_row clen cpos] at hk
          cases hk
        have j8 := j7.step e8
        have hT8 : S8 b = some (.dT (kvM (accF [] (gs.take i)))) := e8.st _ _ (e7.st _ _ (e6.st _ _ (e5.st _ _ hT)))
        have hml : (accF [] (gs.take i)).length < 16777216 := by
          have h1 := accF_len (gs.take i) []
          have h2 : (gs.take i).length ≤ gs.length := by rw [List.length_take]; omega
          simp only [List.length_nil] at h1
          omega
        refine hs_dputS (r := b) (n := (getM (accF [] (gs.take i)) gs[i].2).getD 0 + gs[i].1) (k := gs[i].2) (m := accF [] (gs.take i)) (room_u1 hr) (ee_add (ee_dget2 (room_u1 hr) hT8 (ee_var 3 rfl rfl) (EE.ky (ee_var 7 rfl (pw.up e8.st)) hne) ee_int) (ee_var 6 rfl (pv.up e8.st))) (ee_var 3 rfl rfl) (EE.ky (ee_var 7 rfl (pw.up e8.st)) hne) j8.sub hT8 hml fun S9 H9 e9 => hs_nil ?_
        refine ⟨hi, _, _, _, _, _, rfl, (j8.step e9).put hS3b, ?_⟩
        rw [take_snocG hi, accF_snoc]
        exact upd_same
      · -- the bad one
        obtain rfl : i = gs.length := by omega
        rcases hend with ⟨bad, hbad, hfac, rfl, rfl⟩ | ⟨hl, _⟩
        · rw [ds_get (enum_get hbad)] at hP
          obtain rfl := Option.some.inj hP
          obtain ⟨u1, u2, k1, k2, hg⟩ := eg_pair (σ := [some (.ref a), some vn, some vg, some (.ref b), x4, x5, x6, x7, none]) (i := 4) (j := 5) (x := "at") (y := "group") (kk := _) (px := _) (py := _) (pos := _) (X := cxOf (L2.CX P w) P w K mg base ["self", "width", "groups", "counts", "at", "group", "count", "row", "item"] "Table.__init__" (defScope sTable____init__) f cdv A outer sh H E) rfl sc_Tinit.nd rfl rfl (Or.inl rfl) (Or.inl rfl) px
          refine hg H5 e5.sub _ ?_
          by_cases htup : ∃ xs, bad = .tuple xs
          · obtain ⟨xs, rfl⟩ := htup
            by_cases h2 : xs.length = 2
            · obtain ⟨e0, p0, rfl⟩ : ∃ e0 p0, xs = [e0, p0] := by
                match xs, h2 with
                | [e0, p0], _ => exact ⟨e0, p0, rfl⟩
              have hfac : (isNum e0 1 && (isDir p0 (n : Nat) && posR p0)) = false := hfac
              by_cases h1 : isNum e0 1 = true
              · refine hs_ifN ((et_w (ew_or (et_not (et_val (ee_isi (isD_ok (.tuple [e0, p0]) (T := "tuple") (by simp)) g2 g4 boot_tuple (ee_var 5 rfl k2)))) fun _ => ew_or (et_neI (ee_len g1 (d := .tuple [e0, p0]) (n := 2) rfl (ee_var 5 rfl k2)) ee_int) fun _ => ew_or1 (et_not (et_val (ee_callD D2 (hr.mono (by decide)) ⟨e0, 1, rfl, rfl⟩ (ea_2 (ee_ixT (ds := [e0, p0]) (d := e0) rfl (ee_var 5 rfl k2) ee_int) ee_int)))))).is (by rw [h1]; rfl)) j5.sub fun S6 H6 e6 => ?_
                have j6 := j5.step e6
                refine hs_unpack (i := 6) (j := 7) (d1 := e0) (d2 := p0) rfl sc_Tinit.nd (ee_var 5 rfl (k2.up e6.st)) j6.sub fun v w S7 H7 e7 pv pw => ?_
                have j7 := j6.step e7
                rw [h1, Bool.true_and] at hfac
                by_cases h3 : isDir p0 (n : Nat) = true
                · obtain ⟨l, rfl⟩ := dir_inv h3
                  have hpos : ((l.map PyData.int).all posD) = false := by
                    rw [h3, Bool.true_and] at hfac
                    exact hfac
                  have hz : (l.map PyData.int).length ≤ sizeLine := by obtain ⟨l', xs', _, _, hx', z⟩ := pw.tup_inv; rw [← hx'.1]; exact z
                  refine hs_if (et_w (ew_or (et_not (et_val (ee_callD D3 (hr.mono (by decide)) ⟨tI l, (n : Int), rfl, rfl⟩ (ea_2 (ee_var 7 rfl pw) (ee_var 1 rfl (p13.up j7.st)))))) fun _ => ew_or1 (et_not (et_val ((ee_all (bs := (l.map PyData.int).map posD) rfl g6 (ee_lc (i := 8) (enc := .bool) (f := posD) rfl sc_Tinit.nd (blkOk_by (N := ["self", "width", "groups", "counts", "at", "group", "count", "row", "item"]) (sc := defScope sTable____init__) (by decide +kernel)) (ei_tup (ee_var 7 rfl pw)) hz ?_)).isd (d' := .bool false) ?_))))) j7.sub (fun _ S8 H8 e8 => ?_) (fun hk S8 H8 e8 => ?_)
                  · intro x hx v S2 s2 pv sh' H0 C' cl fp
                    obtain ⟨z, _, rfl⟩ := List.mem_map.mp hx
                    exact ee_gt (ee_var 8 rfl pv) ee_int
                  · rw [List.all_map]
                    show PyData.bool ((l.map PyData.int).all posD) = _
                    rw [hpos]
                  · exact hs_raise1 rfl tk RG hG (by decide) (hr.mono (by decide)) (ee_var 4 rfl (k1.up (e6.st.trans (e7.st.trans e8.st)))) e8.sub (hxT _ _ (j7.step e8))
                  · exfalso
                    rw [h3] at hk
                    cases hk
                · have h3 : isDir p0 (n : Nat) = false := by simpa using h3
                  refine hs_ifT ((et_w (ew_or (k2 := true) (et_not (et_val (ee_callD D3 (hr.mono (by decide)) ⟨p0, (n : Int), rfl, rfl⟩ (ea_2 (ee_var 7 rfl pw) (ee_var 1 rfl (p13.up j7.st)))))) fun h => ?_)).is (by simp)) j7.sub fun S8 H8 e8 => ?_
                  · rw [h3] at h; cases h
                  · exact hs_raise1 rfl tk RG hG (by decide) (hr.mono (by decide)) (ee_var 4 rfl (k1.up (e6.st.trans (e7.st.trans e8.st)))) e8.sub (hxT _ _ (j7.step e8))
              · have h1 : isNum e0 1 = false := by simpa using h1
                refine hs_ifT ((et_w (ew_or (et_not (et_val (ee_isi (isD_ok (.tuple [e0, p0]) (T := "tuple") (by simp)) g2 g4 boot_tuple (ee_var 5 rfl k2)))) fun _ => ew_or (et_neI (ee_len g1 (d := .tuple [e0, p0]) (n := 2) rfl (ee_var 5 rfl k2)) ee_int) fun _ => ew_or1 (et_not (et_val (ee_callD D2 (hr.mono (by decide)) ⟨e0, 1, rfl, rfl⟩ (ea_2 (ee_ixT (ds := [e0, p0]) (d := e0) rfl (ee_var 5 rfl k2) ee_int) ee_int)))))).is (by rw [h1]; rfl)) j5.sub fun S6 H6 e6 => ?_
                exact hs_raise1 rfl tk RG hG (by decide) (hr.mono (by decide)) (ee_var 4 rfl (k1.up e6.st)) e6.sub (hxT _ _ (j5.step e6))
            · refine hs_ifT ((et_w (ew_or (et_not (et_val (ee_isi (isD_ok (.tuple xs) (T := "tuple") (by simp)) g2 g4 boot_tuple (ee_var 5 rfl k2)))) fun _ => ew_or (k2 := true) (et_neI (ee_len g1 (d := .tuple xs) (n := xs.length) rfl (ee_var 5 rfl k2)) ee_int) fun h => ?_)).is (by simp)) j5.sub fun S6 H6 e6 => ?_
              · exfalso
                simp only [decide_eq_true_eq, Bool.not_eq_true', decide_eq_false_iff_not, Bool.not_eq_false'] at h
                omega
              · exact hs_raise1 rfl tk RG hG (by decide) (hr.mono (by decide)) (ee_var 4 rfl (k1.up e6.st)) e6.sub (hxT _ _ (j5.step e6))
          · refine hs_ifT ((et_w (ew_or (k2 := true) (et_not (et_val (ee_isi (isD_ok bad (T := "tuple") (by simp)) g2 g4 boot_tuple (ee_var 5 rfl k2)))) fun h => ?_)).is (by simp)) j5.sub fun S6 H6 e6 => ?_
            · exfalso; cases bad <;> first | (simp [isDt] at h; done) | exact htup ⟨_, rfl⟩
            · exact hs_raise1 rfl tk RG hG (by decide) (hr.mono (by decide)) (ee_var 4 rfl (k1.up e6.st)) e6.sub (hxT _ _ (j5.step e6))
        · exfalso
          have := (List.getElem?_eq_some_iff.mp hP).1
          rw [enum_len] at this
          omega
    · rintro σ1 H4 ⟨hle, T, x4, x5, x6, x7, rfl, j, hT⟩
      have hlen : (Ds K (enumD ds)).length = ds.length := enum_len
      rcases hend with ⟨bad, hbad, _⟩ | ⟨hl, h12, rfl, rfl⟩
      · exfalso
        have := (List.getElem?_eq_some_iff.mp hbad).1
        omega
      · rw [hlen, hl, List.take_length] at hT
        have hkl : 100 < (accF [] gs).length := by rw [← norm_lenE]; exact h12
        refine hs_ifT ((et_gt (ee_dlen g1 hT (ee_var 3 rfl rfl)) (ee_cval (P := Dt K (.int 100)) gS cr cv (fun _ => .int 100))).is (by rw [decide_eq_true (by omega)])) j.sub fun S5 H5 e5 => ?_
        exact hs_raise1 rfl tk RT hT0 (by decide) (hr.mono (by decide)) (ee_cval (P := Dt K (.int 100)) gS cr cv (fun _ => .int 100)) e5.sub (hxT _ _ (j.step e5))
end
end K17
namespace K17
open PySem PySem.Spec PyProof.Rows L2 Z Y
section
variable {P : Program} {w : World} {K : PySem.W.Frag} {mg : Str → Option Value} {base : Heap} {f : Addr} {fd : FuncData}
/-! ## the methods of Table -/
def grpQ (g : Grp) : PyData × PyData := (.int g.1, tI g.2)
def unG (q : PyData × PyData) : Grp := ((match q.1 with | .int i => i | _ => 0), unI q.2)
theorem unG_q (g : Grp) : unG (grpQ g) = g := by
  show (g.1, unI (tI g.2)) = g
  rw [unI_tI]
theorem grpQ_t (gs : List Grp) : (gs.map grpQ).map tupP = gs.map grpD := by rw [List.map_map]; rfl
section
variable {X : Cx} {σ : L2.St} {S : Hp} {elt iter : Expr} {scope : Scope} {pos px py tp : Pos} {i j kk : Nat} {x y : Str} {gs : List Grp}
/-- [elt for x, y in groups] -/
theorem ee_lcGrp {f : Grp → PyData} (hc : X.calm = true) (hN : X.N.Nodup) (ok : BlkOk X.N X.env.scope scope [(x, i), (y, j)]) (hi : EI X σ S (.Tuple [.Name x px, .Name y py] kk tp) iter (Ds X.K (gs.map grpD))) (hz : gs.length ≤ sizeLine)
    (hel : ∀ g ∈ gs, ∀ v w S', Same S S' → Dt X.K (.int g.1) v S' → Dt X.K (tI g.2) w S' → ∀ (s : Shared) (H0 : Hp) (C : Addr) (cl : List (Str × Addr)) (fp : List Addr), EE (X.blk s H0 scope (compEnvC scope cl C X.env) fp) (((wipe σ [i, j]).set i (some v)).set j (some w)) S' elt (Dt X.K (f g)))
    (hij : i ≠ j := by decide) (hix : X.N[i]? = some x := by rfl) (hjy : X.N[j]? = some y := by rfl) (hx : ∀ (s : Shared) (H0 : Hp) (C : Addr) (cl : List (Str × Addr)) (fp : List Addr), (Loc (X.blk s H0 scope (compEnvC scope cl C X.env) fp).env.scope x ∧ ((X.blk s H0 scope (compEnvC scope cl C X.env) fp).fn x = true ∨ (X.blk s H0 scope (compEnvC scope cl C X.env) fp).env.scope.names.lookup x = some .local)) ∧
      (Loc (X.blk s H0 scope (compEnvC scope cl C X.env) fp).env.scope y ∧ ((X.blk s H0 scope (compEnvC scope cl C X.env) fp).fn y = true ∨ (X.blk s H0 scope (compEnvC scope cl C X.env) fp).env.scope.names.lookup y = some .local)) := by
      intros; exact ⟨⟨by first | exact Or.inl rfl | exact Or.inr rfl, by first | exact .inl rfl | exact .inr rfl⟩, ⟨by first | exact Or.inl rfl | exact Or.inr rfl, by first | exact .inl rfl | exact .inr rfl⟩⟩)
    (ha : ∀ (s : Shared) (H0 : Hp) (C : Addr) (cl : List (Str × Addr)) (fp : List Addr), (assignEach [.Name x px, .Name y py] (X.blk s H0 scope (compEnvC scope cl C X.env) fp).env).length = 2 ∧ (assignEach [.Name x px, .Name y py] (X.blk s H0 scope (compEnvC scope cl C X.env) fp).env).findIdx? (·.1) = none ∧
      (assignEach [.Name x px, .Name y py] (X.blk s H0 scope (compEnvC scope cl C X.env) fp).env).map (·.2) = assign (.Name x px) (X.blk s H0 scope (compEnvC scope cl C X.env) fp).env :: (assignEach [.Name y py] (X.blk s H0 scope (compEnvC scope cl C X.env) fp).env).map (·.2) ∧ (assignEach [.Name y py] (X.blk s H0 scope (compEnvC scope cl C X.env) fp).env).map (·.2) = assign (.Name y py) (X.blk s H0 scope (compEnvC scope cl C X.env) fp).env :: (assignEach [] (X.blk s H0 scope (compEnvC scope cl C X.env) fp).env).map (·.2) := by intros; exact ⟨rfl, rfl, rfl, rfl⟩)
    (hs : ∀ x, foldedSetIterable iter X.env x = pure x := by intro _; rfl) :
    EE X σ S (.ListComp elt [⟨.Tuple [.Name x px, .Name y py] kk tp, iter, [], 0⟩] scope pos) (Dt X.K (.list (gs.map f))) :=
  (ee_lc2 (enc := id) (f := fun q => f (unG q)) (ps := gs.map grpQ) hc hN ok (by rw [grpQ_t]; exact hi) (by rw [List.length_map]; exact hz) (fun q hq v w S' s hv hw sh H0 C cl fp => by
    obtain ⟨g, hg, rfl⟩ := List.mem_map.mp hq
    show EE _ _ _ _ (Dt X.K (f (unG (grpQ g))))
    rw [unG_q]
    exact hel g hg v w S' s hv hw sh H0 C cl fp) hij hix hjy hx ha hs).isd (by
    rw [List.map_id, List.map_map]
    exact congrArg PyData.list (List.map_congr_left fun g _ => by show f (unG (grpQ g)) = f g; rw [unG_q]))
/-- o.f, f a property -/
theorem ee_prop {o : Expr} {P0 R : V → Hp → Prop} {C p g : Addr} {f : Str} {fd : FuncData} {ps : List Str} {sp : Sp} {k : Nat} [Mn P0] (c : Cls X.K C) (hp : PropOf X.K C f p g) (F : FnOk X.prog X.w X.K X.mg X.base CX0 k g fd ps sp) (hr : Room (k + 1) X.A) (hb : L2.Binds X.K fd ps []) (ho : EE X σ S o P0) (hP : ∀ w S1, P0 w S1 → ∃ a dx fs, w = .ref a ∧ S1 a = some (.ins C dx fs)) (hsp : SpE sp S [P0] R) (hab : attributeBase o f X.env (eval o X.env) = eval o X.env := by rfl) : EE X σ S (.Attribute o f pos) R := fun H s Q q =>
  he_of (pe_prop (E := E0) peb c hp F hr hb .nil pass0 hab) (ho H s _ fun w S1 H1 g1 pw => by
    obtain ⟨a, dx, fs, rfl, h⟩ := hP w S1 pw
    exact ⟨a, dx, fs, rfl, g1.sub _ _ h, hsp _ S1 H1 g1.st g1.sub (.cons pw .nil) Q fun v S3 H3 g3 rv => q v S3 H3 (g1.trans g3) rv⟩)
end
section
variable {C : Addr} {n : Nat} {gs : List Grp}
theorem TabP.ins : ∀ v S, TabP K C n gs v S → ∃ a dx fs, v = .ref a ∧ S a = some (.ins C dx fs) := fun v S ⟨l, a, dx, xs, e, h, _⟩ => ⟨a, dx, _, e, h⟩
theorem TabP.wid : ∀ v S1, TabP K C n gs v S1 → ∃ a dx fs u, v = .ref a ∧ S1 a = some (.ins C dx fs) ∧ fs.lookup ("width" : Str) = some u ∧ Dt K (.int (n : Nat)) u S1 := fun v S ⟨l, a, dx, xs, e, h, _⟩ => ⟨a, dx, _, _, e, h, rfl, .int _⟩
theorem TabP.grp : ∀ v S1, TabP K C n gs v S1 → ∃ a dx fs u, v = .ref a ∧ S1 a = some (.ins C dx fs) ∧ fs.lookup ("_groups" : Str) = some u ∧ Dt K (.list (gs.map grpD)) u S1 := fun v S ⟨l, a, dx, xs, e, h, h2, h3, h4⟩ => ⟨a, dx, _, _, e, h, rfl, Dt.lst_mk h2 h3 h4⟩
theorem TabP.insP {m : Str} (h : ∀ l, (tabF n l).lookup m = none := by intro _; rfl) : InsP C m (TabP K C n gs) := fun v S ⟨l, a, dx, xs, e, q, _⟩ => ⟨a, dx, _, e, q, h l⟩
end
/-- Table is made -/
structure MkT (P : Program) (w : World) (K : PySem.W.Frag) (mg : Str → Option Value) (base : Heap) (C : Addr) : Prop where
  ex : ∃ fi fdi ps, Mk K C fi ∧ FnOk P w K mg base CX0 3 fi fdi ps (spI C K (Ftab K C)) ∧ Binds K fdi ps [] ∧ ∃ g gV, KBn K fdi ps 1 ["groups", "width"] g gV ∧ ∀ s v w, gV [s] [v, w] = [s, w, v]
section
variable {X : Cx} {σ : L2.St} {S : Hp} {C : Addr} {a b : Expr} {p pos q1 q2 : Pos} {n : Nat} {d : PyData} {gs : List Grp}
theorem ee_mkT (M : MkT X.prog X.w X.K X.mg X.base C) (hr : Room 4 X.A) (gS : X.mg "Table" = some (.ref C)) (ho : TabOk n gs) (hd : d = .list (gs.map grpD) ∨ d = .tuple (gs.map grpD)) (ha : EE X σ S a (Dt X.K (.int (n : Nat)))) (hb : EE X σ S b (Dt X.K d)) (hg : Gl X "Table" := by rfl)
    (he : starEach [a, b] X.env = (false, eval a X.env) :: starEach [b] X.env := by rfl) (he2 : starEach [b] X.env = (false, eval b X.env) :: starEach [] X.env := by rfl) (hpl : (backTo pos (starEach [b] X.env)).any (·.1) = false := by rfl) : EE X σ S (.Call (.Name "Table" p) [a, b] [] pos) (NewR (TabL X.K C n (norm gs)) S) := by
  obtain ⟨fi, fdi, ps', m, G, b2, _⟩ := M.ex
  exact ee_make (ds := [.int (n : Nat), d]) (dd := []) m G hr gS b2 .nil (fun _ => .nil) (ea_2 ha hb he he2) ⟨n, d, gs, rfl, hd, ho, rfl⟩ hg (by decide) he hpl
end
/-! ### size, groups, sum_of -/
def FTsize (C : Addr) (K : PySem.W.Frag) : (V → Hp → Prop) → List PyData → PyData → Prop := fun P0 ds d => ∃ n gs, P0 = TabP K C n gs ∧ gs.length ≤ 1000 ∧ ds = [] ∧ d = .int ((gs.map fun g : Grp => g.1).sum)
theorem sc_Tsize : FnScope ["self", "count", "_"] ["self"] (defScope sTable__size) := ⟨rfl, rfl, rfl, by decide +kernel, rfl, by decide +kernel, by decide +kernel⟩
theorem ok_Tsize {C : Addr} (F : FnM K "size" "Table.size" sTable__size f fd) (g1 : mg "sum" = none) (c : Cls K C) (n2 : NoAttr K C "_groups") : FnOk P w K mg base CX0 1 f fd ["self"] (spO K (FTsize C K)) := by
  refine fn_hs F sc_Tsize (fun vs H Q E h => ?_) (fun cdv A outer sh H vs Q E hr h => ?_)
  · obtain ⟨S, P0, v, ws, ds, d, rfl, _, _, _, hd, ⟨_, _, _, _, rfl, _⟩, _⟩ := h
    have := hd.1
    simp at this
    simp [this]
  · obtain ⟨S, P0, v, ws, ds, d, rfl, s, m, pv, hd, ⟨n, gs, rfl, hl, rfl, rfl⟩, q⟩ := h
    obtain rfl : ws = [] := List.eq_nil_of_length_eq_zero hd.1
    refine hs_ret (ee_sum (ns := gs.map fun g : Grp => g.1) rfl g1 ((ee_lcGrp (i := 1) (j := 2) (f := fun g : Grp => .int g.1) rfl sc_Tsize.nd (blkOk_by (N := ["self", "count", "_"]) (sc := defScope sTable__size) (by decide +kernel)) (ei_list (ee_fld (ee_var 0 rfl pv) TabP.grp c n2)) (Nat.le_trans hl (by show 1000 ≤ 16777216; decide)) ?_).isd ?_)) s q
    · intro g hg v1 v2 S2 s2 p1 p2 sh' H0 C' cl fp
      exact ee_var 1 rfl p1
    · rw [List.map_map]; rfl
theorem sc_Tsum : FnScope ["self", "exponent", "count", "row"] ["self", "exponent"] (defScope sTable__sum_of) := ⟨rfl, rfl, rfl, by decide +kernel, rfl, by decide +kernel, by decide +kernel⟩
end
end K17
namespace K17
open PySem PySem.Spec PyProof.Rows L2 Z Y
section
variable {P : Program} {w : World} {K : PySem.W.Frag} {mg : Str → Option Value} {base : Heap} {f : Addr} {fd : FuncData}
/-- Table is refused -/
structure MkTX (P : Program) (w : World) (K : PySem.W.Frag) (mg : Str → Option Value) (base : Heap) (C : Addr) (kN kG kT : EK) : Prop where
  ex : ∃ fi fdi ps, Mk K C fi ∧ FnOk P w K mg base (L2.CX P w) 4 fi fdi ps (spXI' C K (GT kN kG kT K)) ∧ Binds K fdi ps []
section
variable {X : Cx} {σ : L2.St} {S : Hp} {C : Addr} {a b : Expr} {p pos : Pos} {kN kG kT : EK} {E : XK} {O : EK → PyData → Prop} {P1 P2 R : V → Hp → Prop}
theorem er_mkT (tk : Takes X (fun cls d _ H => E cls d H)) (M : MkTX X.prog X.w X.K X.mg X.base C kN kG kT) (hr : Room 5 X.A) (gS : X.mg "Table" = some (.ref C)) [Mn P1] [Mn P2] (ha : EE X σ S a P1) (hb : EE X σ S b P2) (hG : ∀ v w S1, Same S S1 → P1 v S1 → P2 w S1 → ∃ k g, (∃ d1 d2, Dts X.K [d1, d2] [v, w] S1 ∧ BadT kN kG kT d1 d2 k g) ∧ O k g) (hg : Gl X "Table" := by rfl)
    (he : starEach [a, b] X.env = (false, eval a X.env) :: starEach [b] X.env := by rfl) (he2 : starEach [b] X.env = (false, eval b X.env) :: starEach [] X.env := by rfl) (hpl : (backTo pos (starEach [b] X.env)).any (·.1) = false := by rfl) : ER X E σ S (.Call (.Name "Table" p) [a, b] [] pos) R O := by
  obtain ⟨fi, fdi, ps', m, G, b2⟩ := M.ex
  exact er_make (Pd := []) tk m G hr gS b2 .nil (ea_2 ha hb he he2) (fun ws S1 s1 al => by
    obtain ⟨v, w, rfl, pv, pw⟩ := al.two
    rw [List.append_nil]
    exact hG v w S1 s1 pv pw) hg (by decide) he hpl
/-- both told as data -/
theorem er_mkT2 {d1 d2 : PyData} (tk : Takes X (fun cls d _ H => E cls d H)) (M : MkTX X.prog X.w X.K X.mg X.base C kN kG kT) (hr : Room 5 X.A) (gS : X.mg "Table" = some (.ref C)) (ha : EE X σ S a (Dt X.K d1)) (hb : EE X σ S b (Dt X.K d2)) {k : EK} {g : PyData} (hG : BadT kN kG kT d1 d2 k g) (hg : Gl X "Table" := by rfl)
    (he : starEach [a, b] X.env = (false, eval a X.env) :: starEach [b] X.env := by rfl) (he2 : starEach [b] X.env = (false, eval b X.env) :: starEach [] X.env := by rfl) (hpl : (backTo pos (starEach [b] X.env)).any (·.1) = false := by rfl) : ER X E σ S (.Call (.Name "Table" p) [a, b] [] pos) R (O1 k g) :=
  er_mkT tk M hr gS ha hb (fun v w S1 _ pv pw => ⟨k, g, ⟨d1, d2, Dts.cons pv (Dts.cons pw .nil), hG⟩, rfl, rfl⟩) hg he he2 hpl
end
/-! ### check_power refused -/
def isP (d : PyData) : Bool := isNum d 0 && leNum d 60
def GchkP (k0 : EK) (K : PySem.W.Frag) : List V → Hp → EK → PyData → Prop := fun vs S k g => ∃ d, Dts K [d] vs S ∧ isP d = false ∧ k = k0 ∧ g = d
theorem ok_chkPX {k0 : EK} (F : FnT K "check_power" scheck_power f fd) (R : Err P w K mg base "InvalidNumber" k0.C "given" k0.code) (hf : k0.fn = some "given") (D1 : KD P w K mg base "is_number" 1 (spD K FisNumber)) (g5 : ∃ t, mg "MOST_POWER" = some (.int 60 t)) : FnOk P w K mg base (L2.CX P w) 3 f fd ["number"] (spX K (GchkP k0 K)) := by
  refine fn_hsX F sc_chkP (fun vs H Q E h => ?_) (fun cdv A outer sh H vs Q E hr h tk => ?_)
  · obtain ⟨S, k, g, _, ⟨d, hd, _⟩, _⟩ := h
    exact hd.1
  · obtain ⟨S, k, g, s, ⟨d, hd, hw, rfl, rfl⟩, hx⟩ := h
    obtain ⟨v, rfl, p⟩ := hd.one
    obtain ⟨t, g5⟩ := g5
    by_cases h1 : isNum g 0 = true
    · have h3 : leNum g 60 = false := by unfold isP at hw; rw [h1] at hw; simpa using hw
      cases g with
      | int i =>
        refine hs_ifT ((et_w (ew_or (k2 := true) (et_not (et_val (ee_callD D1 (hr.mono (by decide)) ⟨.int i, 0, rfl, rfl⟩ (ea_2 (ee_var 0 rfl p) ee_int)))) fun _ => ew_or1 ((et_gt (ee_var 0 rfl p) (ee_globI g5)).is ?_))).is (by simp)) s fun S1 H1 g1 => ?_
        · have : ¬ (i ≤ 60) := of_decide_eq_false h3
          exact decide_eq_true (by omega)
        · exact hs_raise1 rfl tk R hf (by decide) hr (ee_var 0 rfl (p.up g1.st)) g1.sub (hx.up g1)
      | _ => exact absurd h1 (by simp [isNum])
    · have h1' : isNum g 0 = false := by simpa using h1
      refine hs_ifT ((et_w (ew_or (k2 := true) (et_not (et_val (ee_callD D1 (hr.mono (by decide)) ⟨g, 0, rfl, rfl⟩ (ea_2 (ee_var 0 rfl p) ee_int)))) fun h => ?_)).is (by simp)) s fun S1 H1 g1 => ?_
      · rw [h1'] at h; cases h
      · exact hs_raise1 rfl tk R hf (by decide) hr (ee_var 0 rfl (p.up g1.st)) g1.sub (hx.up g1)
/-! ### sum_of, raised, keeps, +, * refused -/
/-- what o.sum_of(d) raises -/
def GTs (C : Addr) (K : PySem.W.Frag) (kE : EK) : List V → Hp → EK → PyData → Prop := fun vs S k g => ∃ n gs d v u, vs = [v, u] ∧ TabP K C n gs v S ∧ Dt K d u S ∧ isExp d (n : Nat) = false ∧ k = kE ∧ g = d
theorem ok_TsumX {C : Addr} {kE : EK} (F : FnM K "sum_of" "Table.sum_of" sTable__sum_of f fd) (RE : Err P w K mg base "InvalidExponent" kE.C "given" kE.code) (hE : kE.fn = some "given") (D1 : KD P w K mg base "is_exponent_schemas" 2 (spD K FisExp)) (c : Cls K C) (n1 : NoAttr K C "width") : FnOk P w K mg base (L2.CX P w) 3 f fd ["self", "exponent"] (spX K (GTs C K kE)) := by
  refine fn_hsX F sc_Tsum (fun vs H Q E h => ?_) (fun cdv A outer sh H vs Q E hr h tk => ?_)
  · obtain ⟨S, k, g, _, ⟨n, gs, d, v, u, rfl, _⟩, _⟩ := h
    rfl
  · obtain ⟨S, k, g, s, ⟨n, gs, d, v, u, rfl, pv, pu, hd, rfl, rfl⟩, hx⟩ := h
    refine hs_ifT ((et_not (et_val (ee_callD D1 (hr.mono (by decide)) ⟨g, (n : Nat), rfl, rfl⟩ (ea_2 (ee_var 1 rfl pu) (ee_fld (ee_var 0 rfl pv) TabP.wid c n1))))).is (by rw [hd]; rfl)) s fun S1 H1 e1 => ?_
    exact hs_raise1 rfl tk RE hE (by decide) (hr.mono (by decide)) (ee_var 1 rfl (pu.up e1.st)) e1.sub (hx.up e1)
/-- what o.raised(d) and o.to_the(d) raise for a wrong number -/
def GTn (C : Addr) (K : PySem.W.Frag) (kN : EK) : List V → Hp → EK → PyData → Prop := fun vs S k g => ∃ n gs d v u, vs = [v, u] ∧ TabP K C n gs v S ∧ Dt K d u S ∧ isP d = false ∧ k = kN ∧ g = d
theorem sc_TraX : FnScope ["self", "number", "groups", "item", "count", "row"] ["self", "number"] (defScope sTable__raised) := ⟨rfl, rfl, rfl, by decide +kernel, rfl, by decide +kernel, by decide +kernel⟩
theorem ok_TraX {C : Addr} {kN : EK} (F : FnM K "raised" "Table.raised" sTable__raised f fd) (D1 : KDX P w K mg base "check_power" 3 (spX K (GchkP kN K))) : FnOk P w K mg base (L2.CX P w) 4 f fd ["self", "number"] (spX K (GTn C K kN)) := by
  refine fn_hsX F sc_TraX (fun vs H Q E h => ?_) (fun cdv A outer sh H vs Q E hr h tk => ?_)
  · obtain ⟨S, k, g, _, ⟨n, gs, d, v, u, rfl, _⟩, _⟩ := h
    rfl
  · obtain ⟨S, k, g, s, ⟨n, gs, d, v, u, rfl, pv, pu, hd, rfl, rfl⟩, hx⟩ := h
    refine hs_exprX (er_call (P := NoP) (O := O1 k g) tk D1 hr (ea_1 (ee_var 1 rfl pu)) (spX_O fun vs S1 s1 al => ?_)) s (fun k' g' h => by obtain ⟨rfl, rfl⟩ := h; exact hx) fun _ _ _ _ z => z.elim
    exact ⟨k, g, ⟨g, al_dts (ds := [g]) al, hd, rfl, rfl⟩, rfl, rfl⟩
/-- what o.keeps(s) raises -/
def GTk (C CS : Addr) (K : PySem.W.Frag) (kW : EK) : List V → Hp → EK → PyData → Prop := fun vs S k g => ∃ n gs z ps v u, vs = [v, u] ∧ TabP K C n gs v S ∧ SchP K CS z ps u S ∧ ¬ ((z.cps.size : Int) = (n : Nat)) ∧ k = kW ∧ g = .int z.cps.size
theorem sc_TkeX : FnScope ["self", "schema", "_", "row"] ["self", "schema"] (defScope sTable__keeps) := ⟨rfl, rfl, rfl, by decide +kernel, rfl, by decide +kernel, by decide +kernel⟩
theorem ok_TkeepsX {C CS : Addr} {kW : EK} (F : FnM K "keeps" "Table.keeps" sTable__keeps f fd) (RW : Err P w K mg base "WrongWidth" kW.C "width" kW.code) (hW : kW.fn = some "width") (c : Cls K C) (cS : Cls K CS) (n1 : NoAttr K C "width") (nS : NoAttr K CS "width") : FnOk P w K mg base (L2.CX P w) 3 f fd ["self", "schema"] (spX K (GTk C CS K kW)) := by
  refine fn_hsX F sc_TkeX (fun vs H Q E h => ?_) (fun cdv A outer sh H vs Q E hr h tk => ?_)
  · obtain ⟨S, k, g, _, ⟨n, gs, z, ps, v, u, rfl, _⟩, _⟩ := h
    rfl
  · obtain ⟨S, k, g, s, ⟨n, gs, z, ps, v, u, rfl, pv, pu, hne, rfl, rfl⟩, hx⟩ := h
    refine hs_ifT ((et_neI (ee_fld (ee_var 1 rfl pu) SchP.wfld cS nS) (ee_fld (ee_var 0 rfl pv) TabP.wid c n1)).is (by rw [decide_eq_false hne]; rfl)) s fun S1 H1 e1 => ?_
    exact hs_raise1 rfl tk RW hW (by decide) (hr.mono (by decide)) (ee_fld (ee_var (P := SchP K CS z ps) 1 rfl (Mn.up e1.st pu)) SchP.wfld cS nS) e1.sub (hx.up e1)
end
end K17
namespace K17
open PySem PySem.Spec PyProof.Rows L2 Z Y
section
variable {P : Program} {w : World} {K : PySem.W.Frag} {mg : Str → Option Value} {base : Heap} {f : Addr} {fd : FuncData}
theorem paired_any {α : Type} {enc : α → PyData} {ds rs : List PyData} {G : α → Prop} (h : Paired (fun _ d => ∃ i, d = enc i ∧ G i) ds rs) : ∃ l : List α, rs = l.map enc ∧ l.length = ds.length ∧ ∀ x ∈ l, G x := by
  induction h with
  | nil => exact ⟨[], rfl, rfl, fun _ h => nomatch h⟩
  | cons g _ ih =>
    obtain ⟨i, rfl, gi⟩ := g
    obtain ⟨l, rfl, h2, h3⟩ := ih
    exact ⟨i :: l, rfl, by simp [h2], fun x hx => by
      rcases List.mem_cons.mp hx with rfl | hx
      · exact gi
      · exact h3 x hx⟩
/-! ### scopes with cells -/
def setE (b : List Stmt) (i : Nat) : Expr := match b.getD i (.Pass ⟨0, 0, 0, 0⟩) with
  | .Assign _ e _ => e
  | _ => .Constant .none 0 ⟨0, 0, 0, 0⟩
/-- the names that are cells outside are cells in the comprehension's block -/
def cellsSc (xs : List Str) (sc : Scope) : Scope := { sc with names := sc.names.map fun p => if xs.contains p.1 then (p.1, .cell) else p }
theorem eqvAll_ints : ∀ a b : List Int, PyData.eqvAll (a.map .int) (b.map .int) = decide (a = b)
  | [], [] => by simp [PyData.eqvAll]
  | [], _ :: _ => by simp [PyData.eqvAll]
  | _ :: _, [] => by simp [PyData.eqvAll]
  | x :: a, y :: b => by
    rw [List.map_cons, List.map_cons]
    unfold PyData.eqvAll
    rw [eqvAll_ints a b]
    simp [PyData.eqv, Bool.decide_and]
    rfl
theorem eqv_tI (a b : List Int) : PyData.eqv (tI a) (tI b) = decide (a = b) := by
  show PyData.eqv (.tuple (a.map .int)) (.tuple (b.map .int)) = _
  rw [PyData.eqv]
  exact eqvAll_ints a b
theorem eqv_grp (g h : Grp) : PyData.eqv (grpD g) (grpD h) = decide (g = h) := by
  show PyData.eqv (.tuple [.int g.1, tI g.2]) (.tuple [.int h.1, tI h.2]) = _
  rw [PyData.eqv]
  unfold PyData.eqvAll
  unfold PyData.eqvAll
  rw [eqv_tI]
  unfold PyData.eqvAll
  obtain ⟨a, b⟩ := g
  obtain ⟨c, d⟩ := h
  simp [PyData.eqv, Bool.decide_and]
  rfl
theorem eqvAll_grps : ∀ a b : List Grp, PyData.eqvAll (a.map grpD) (b.map grpD) = decide (a = b)
  | [], [] => by simp [PyData.eqvAll]
  | [], _ :: _ => by simp [PyData.eqvAll]
  | _ :: _, [] => by simp [PyData.eqvAll]
  | x :: a, y :: b => by
    rw [List.map_cons, List.map_cons]
    unfold PyData.eqvAll
    rw [eqvAll_grps a b, eqv_grp]
    simp [Bool.decide_and]
theorem eqv_grps (a b : List Grp) : PyData.eqv (.list (a.map grpD)) (.list (b.map grpD)) = decide (a = b) := by
  rw [PyData.eqv]
  exact eqvAll_grps a b
theorem can_grp (g : Grp) : PyData.canLay0 (grpD g) = true := by
  show PyData.canLay0 (.tuple [.int g.1, .tuple (g.2.map .int)]) = true
  simp [PyData.canLay0, PyData.canLayAll0, can_ints]
theorem dep_grp (g : Grp) : PyData.depth (grpD g) ≤ 3 := by
  show PyData.depth (.tuple [.int g.1, .tuple (g.2.map .int)]) ≤ 3
  have := dep_ints g.2
  simp [PyData.depth, PyData.depthAll]; omega
theorem can_grps : ∀ ps : List Grp, PyData.canLayAll0 (ps.map grpD) = true
  | [] => by simp [PyData.canLayAll0]
  | p :: ps => by simp [PyData.canLayAll0, can_grp, can_grps ps]
theorem dep_grps : ∀ ps : List Grp, PyData.depthAll (ps.map grpD) ≤ 4
  | [] => by simp [PyData.depthAll]
  | p :: ps => by have := dep_grps ps; have := dep_grp p; simp [PyData.depthAll]; omega
theorem shaped_grps (ps : List Grp) : SeqAt.shaped (.list (ps.map grpD)) = true := by
  unfold SeqAt.shaped
  rw [Bool.and_eq_true, decide_eq_true_eq]
  have := dep_grps ps
  refine ⟨by simp [PyData.canLay0, can_grps], by simp [PyData.depth]; omega⟩
/-! ### ==, repr -/
def EqT (K : PySem.W.Frag) (C : Addr) (S : Hp) (v w : V) (b : Bool) : Prop := ∃ n1 gs1, TabP K C n1 gs1 v S ∧ ((∃ n2 gs2, TabP K C n2 gs2 w S ∧ b = (decide (n1 = n2) && decide (gs1 = gs2))) ∨ (∃ ds, Dt K (.list ds) w S ∧ b = false))
def spEqT (K : PySem.W.Frag) (C : Addr) : Sp := fun vs H Q _ => ∃ S v w b, vs = [v, w] ∧ Same S H ∧ EqT K C S v w b ∧ ∀ S' H', Gr S H S' H' → Q (.bl b) H'
theorem sc_Teq : FnScope ["self", "other"] ["self", "other"] (defScope sTable____eq__) := ⟨rfl, rfl, rfl, by decide +kernel, rfl, by decide +kernel, by decide +kernel⟩
theorem ok_Teq {C : Addr} (F : FnM K "__eq__" "Table.__eq__" sTable____eq__ f fd) (g1 : mg "isinstance" = none) (gS : mg "Table" = some (.ref C)) (c : Cls K C) (J : IsiC K C) (kl : PySem.W.kitOne K (.type "list") (.ref C) = some false) (n1 : NoAttr K C "width") (n2 : NoAttr K C "_groups") : FnOk P w K mg base CX0 1 f fd ["self", "other"] (spEqT K C) := by
  refine fn_hs F sc_Teq (fun vs H Q E h => ?_) (fun cdv A outer sh H vs Q E hr h => ?_)
  · obtain ⟨S, v, w, b, rfl, _⟩ := h
    rfl
  · obtain ⟨S, v, w', b, rfl, s, ⟨m1, gs1, pv, h⟩, q⟩ := h
    rcases h with ⟨m2, gs2, pw, rfl⟩ | ⟨ds, pw, rfl⟩
    · refine hs_ret ((ee_and (k1 := true) (k2 := decide (m1 = m2) && decide (gs1 = gs2)) (ee_isiO g1 gS (ee_var 1 rfl pw) (fun v S1 H1 s1 p => ?_)) fun _ => ee_and (k1 := decide (m1 = m2)) ((ee_eqI (ee_fld (ee_var 0 rfl pv) TabP.wid c n1) (ee_fld (ee_var 1 rfl pw) TabP.wid c n1)).isd ?_) fun _ => ee_one ((ee_eq hr (shaped_grps gs1) (shaped_grps gs2) (ee_fld (ee_var 0 rfl pv) TabP.grp c n2) (ee_fld (ee_var 1 rfl pw) TabP.grp c n2)).isd (by rw [eqv_grps])))) s fun v S' H' g p => ?_
      · obtain ⟨a, dx, fs, rfl, e⟩ := TabP.ins _ _ p
        exact ⟨.ref C, .base (.ins (s1 _ _ e) c J.cls J.sp J.tk J.ob), by unfold PySem.W.kitOne; simp⟩
      · congr 1
        exact decide_eq_decide.mpr ⟨fun h => by omega, fun h => by omega⟩
      · cases p
        exact q S' H' g
    · refine hs_ret (ee_and (k1 := false) (k2 := true) (ee_isiO (Pa := Dt K (.list ds)) g1 gS (ee_var 1 rfl pw) (fun v S1 H1 s1 p => ?_)) fun h => nomatch h) s fun v S' H' g p => ?_
      · obtain ⟨l, xs, rfl, hl, _⟩ := p.lst_inv
        exact ⟨.type "list", .base (.lst (s1 _ _ hl)), kl⟩
      · cases p
        exact q S' H' g
def FTrepr (C : Addr) (K : PySem.W.Frag) : (V → Hp → Prop) → List PyData → PyData → Prop := fun P0 ds d => ∃ n gs, P0 = TabP K C n gs ∧ gs.length ≤ 100 ∧ ds = [] ∧ d = .str ((["Table(", ((toString (gs.length : Int) : String) : Str), " groups)"] : List Str).foldl (· ++ ·) Str.empty)
theorem sc_Trepr : FnScope ["self"] ["self"] (defScope sTable____repr__) := ⟨rfl, rfl, rfl, by decide +kernel, rfl, by decide +kernel, by decide +kernel⟩
theorem ok_Trepr {C : Addr} (F : FnM K "__repr__" "Table.__repr__" sTable____repr__ f fd) (g1 : mg "len" = none) (c : Cls K C) (n2 : NoAttr K C "_groups") : FnOk P w K mg base CX0 1 f fd ["self"] (spO K (FTrepr C K)) := by
  refine fn_hs F sc_Trepr (fun vs H Q E h => ?_) (fun cdv A outer sh H vs Q E hr h => ?_)
  · obtain ⟨S, P0, v, ws, ds, d, rfl, _, _, _, hd, ⟨_, _, _, _, rfl, _⟩, _⟩ := h
    have := hd.1
    simp at this
    simp [this]
  · obtain ⟨S, P0, v, ws, ds, d, rfl, s, m, pv, hd, ⟨n, gs, rfl, hl, rfl, rfl⟩, q⟩ := h
    obtain rfl : ws = [] := List.eq_nil_of_length_eq_zero hd.1
    have hi : ((gs.length : Nat) : Int).natAbs.log2 < 1920 := by
      have : ((gs.length : Nat) : Int).natAbs = gs.length := by omega
      rw [this]
      refine Nat.lt_of_le_of_lt (Nat.log2_le_self _) (by omega)
    have hs5 : ∀ k : Nat, k ≤ 100 → Str.length ((toString (k : Int) : String) : Str) ≤ 3 := by decide +kernel
    refine hs_ret (ee_joined (.cons ee_str (.cons (ee_fmtI hi ((ee_len g1 rfl (ee_fld (ee_var 0 rfl pv) TabP.grp c n2)).isd (d' := .int (gs.length : Nat)) (by rw [List.length_map]))) (.cons ee_str .nil))) ?_) s q
    simp only [List.map_cons, List.map_nil, List.sum_cons, List.sum_nil]
    have := hs5 _ hl
    show 6 + (Str.length ((toString (gs.length : Int) : String) : Str) + (8 + 0)) ≤ 16777216
    omega
/-! ## the law's defs over tables -/
theorem ee_catLE {X : Cx} {σ : L2.St} {S : Hp} {a b : Expr} {pos : Pos} {ds1 : List PyData} {F : List PyData → Prop} (hz : ∀ ds2, F ds2 → ds1.length + ds2.length ≤ sizeLine) (ha : EE X σ S a (Dt X.K (.list ds1))) (hb : EE X σ S b (Ex X.K fun d => ∃ ds2, d = .list ds2 ∧ F ds2)) : EE X σ S (.BinOp a .Add b pos) (Ex X.K fun d => ∃ ds2, d = .list (ds1 ++ ds2) ∧ F ds2) :=
  ee_op op_cat ha hb fun x y S1 H1 _ s px ⟨d, ⟨ds2, e, f2⟩, py⟩ Q q => by
    subst e
    obtain ⟨l, xs, rfl, hl, hx, _⟩ := px.lst_inv
    obtain ⟨m, ys, rfl, hm, hy, _⟩ := py.lst_inv
    have hz' : xs.length + ys.length ≤ sizeLine := by rw [hx.1, hy.1]; exact hz _ f2
    exact ⟨l, m, xs, ys, rfl, rfl, s _ _ hl, s _ _ hm, hz', fun t ht => q _ _ _ (Gr.new s ht) ⟨_, ⟨ds2, rfl, f2⟩, Dt.lst_mk upd_same ((hx.append hy).up (Same.new (s.free ht))) (by rw [List.length_append]; exact hz')⟩⟩
def Frow : List PyData → (PyData → Prop) → Prop := fun ds G => ∃ (n : Nat) (xs : List Int), ds = [.list [], .int n, .list (xs.map .int)] ∧ n ≤ 3 ∧ 0 < xs.length ∧ xs.length < 1000 ∧ G = fun d => ∃ r : List Int, d = tI r ∧ r.length = n ∧ ∀ x ∈ r, x ∈ xs
theorem scL_row : FnScope ["_law_box", "_law_rules", "_law_many", "_law_some", "_law_row_here", "_law_at"] ["_law_box", "_law_rules", "_law_many", "_law_some"] (defScope sL_row) := ⟨rfl, rfl, rfl, by decide +kernel, rfl, by decide +kernel, by decide +kernel⟩
theorem ok_L_row (F : FnT K "_law_row" sL_row f fd) (D1 : KD P w K mg base "_law_one" 2 (spB K Fone)) (D2 : KD P w K mg base "_law_fit_row" 3 (spD K FL_fit)) (g1 : mg "tuple" = none) (g2 : mg "range" = none) : FnOk P w K mg base CX0 4 f fd ["_law_box", "_law_rules", "_law_many", "_law_some"] (spB K Frow) := by
  refine fn_hs F scL_row (fun vs H Q E h => ?_) (fun cdv A outer sh H vs Q E hr h => ?_)
  · obtain ⟨S, v, ws, ds, G, rfl, _, _, hd, ⟨n, xs, rfl, _⟩, _⟩ := h
    have := hd.1
    simp at this
    simp [this]
  · obtain ⟨S, v, ws, ds, G, rfl, s, hb, hd, ⟨n, xs, rfl, hn, hx, hx2, rfl⟩, q⟩ := h
    obtain ⟨v1, v2, v3, rfl, p1, p2, p3⟩ := hd.three
    refine hs_set (i := 4) (P := Ex K fun d => ∃ r : List Int, d = tI r ∧ r.length = n ∧ ∀ x ∈ r, x ∈ xs) ((ee_tupleE g1 (ee_lcN (i := 5) rfl scL_row.nd (blkOk_by (N := ["_law_box", "_law_rules", "_law_many", "_law_some", "_law_row_here", "_law_at"]) (sc := defScope sL_row) (by decide +kernel)) (ei_range g2 (by omega) (ee_var 2 rfl p2)) (by rw [upto_len]; show _ ≤ 16777216; omega)
      (F := fun _ d => ∃ i, d = .int i ∧ i ∈ xs) fun x hx v S2 s2 pv sh' H0 C cl fp => ?_)).exi fun d ⟨rs, e, hp⟩ => ?_) s scL_row.nd fun v4 S1 H1 e1 p4 => ?_
    · exact (ee_callBx D1 (hr.mono (by decide)) ⟨xs.map .int, rfl, by rw [List.length_map]; omega, by rw [List.length_map]; omega, rfl⟩ (ea_2 (ee_var 0 rfl (Mn.up s2 hb)) (ee_var 3 rfl (p3.up s2)))).exi fun d hd => by
        obtain ⟨i, hi, rfl⟩ := List.mem_map.mp hd
        exact ⟨i, rfl, hi⟩
    · obtain ⟨l, rfl, h2, h3⟩ := paired_ints hp
      exact ⟨l, e, by rw [h2, upto_len], h3⟩
    · obtain ⟨_, ⟨r, rfl, hr1, hr2⟩, p4⟩ := p4
      refine hs_ret (P := Dt K (tI r)) (ee_if (k := true) (et_val ((ee_callD D2 hr ⟨[], r, rfl, by simp, (fun p hp => nomatch hp), rfl⟩ (ea_2 (ee_var 1 rfl (p1.up e1.st)) (ee_var 4 rfl p4))).isd (by rfl))) (fun _ => ee_var 4 rfl p4) (fun h => nomatch h)) e1.sub fun v S' H' g p => q _ ⟨r, rfl, hr1, hr2⟩ v S' H' (e1.trans g) p
def LotsOk (n : Nat) (gs : List Grp) : Prop := gs ≠ [] ∧ gs.length ≤ 5 ∧ ∀ g ∈ gs, (1 ≤ g.1 ∧ g.1 ≤ 40) ∧ g.2.length = n ∧ ∀ x ∈ g.2, (1 : Int) ≤ x ∧ x ≤ 16
def Flots : List PyData → (PyData → Prop) → Prop := fun ds G => ∃ (n : Nat) (z : Nat), ds = [.list [], .int n, .int z] ∧ n ≤ 3 ∧ z ≤ 4 ∧ G = fun d => ∃ gs : List Grp, d = .list (gs.map grpD) ∧ LotsOk n gs ∧ gs.length = z + 1
theorem scL_lots : FnScope ["_law_box", "_law_rules", "_law_many", "_law_size", "_law_found", "_law_at"] ["_law_box", "_law_rules", "_law_many", "_law_size"] (defScope sL_lots) := ⟨rfl, rfl, rfl, by decide +kernel, rfl, by decide +kernel, by decide +kernel⟩
theorem ok_L_lots (F : FnT K "_law_lots" sL_lots f fd) (D0 : KD P w K mg base "_law_take" 1 (spB K Ftake)) (D1 : KD P w K mg base "_law_one" 2 (spB K Fone)) (D2 : KD P w K mg base "_law_row" 4 (spB K Frow)) (g2 : mg "range" = none) : FnOk P w K mg base CX0 5 f fd ["_law_box", "_law_rules", "_law_many", "_law_size"] (spB K Flots) := by
  refine fn_hs F scL_lots (fun vs H Q E h => ?_) (fun cdv A outer sh H vs Q E hr h => ?_)
  · obtain ⟨S, v, ws, ds, G, rfl, _, _, hd, ⟨n, z, rfl, _⟩, _⟩ := h
    have := hd.1
    simp at this
    simp [this]
  · obtain ⟨S, v, ws, ds, G, rfl, s, hb, hd, ⟨n, z, rfl, hn, hz, rfl⟩, q⟩ := h
    obtain ⟨v1, v2, v3, rfl, p1, p2, p3⟩ := hd.three
    let GOk : Grp → Prop := fun g => (1 ≤ g.1 ∧ g.1 ≤ 40) ∧ g.2.length = n ∧ ∀ x ∈ g.2, (1 : Int) ≤ x ∧ x ≤ 16
    refine hs_setLcG (i := 4) (own := [("_law_at", 5)]) (p := fun _ => true) (G := fun _ d => ∃ g : Grp, d = grpD g ∧ GOk g) rfl scL_lots.nd rfl rfl rfl (blkOk_by (N := ["_law_box", "_law_rules", "_law_many", "_law_size", "_law_found", "_law_at"]) (sc := defScope sL_lots) (by decide +kernel)) (ei_range g2 (by omega) (ee_var 3 rfl p3)) (by rw [upto_len]; show _ ≤ 16777216; omega) ?el s fun v4 S1 H1 e1 p4 => ?_
    case el =>
      intro d hd v S3 s3 pv
      refine ⟨_, wipe1, fun sh' H0' C' cl fp => ⟨eg_name (i := 5) scL_lots.nd rfl (by first | exact Or.inl rfl | exact Or.inr rfl) (by first | exact .inl rfl | exact .inr rfl), ets_nil, fun _ => ?_⟩⟩
      have hb2 : BX _ S3 := Mn.up s3 hb
      refine (ee_pairE (ee_addE (F := fun i => i = 1) (G := fun i => 0 ≤ i ∧ i < 4) (ee_int.ex ⟨1, rfl, rfl⟩) (ee_callBx D0 (hr.mono (by decide)) ⟨4, rfl, by decide, by decide, rfl⟩ (ea_2 (ee_var 0 rfl hb2) ee_int)))
        (ee_callBx D2 hr ⟨n, [1, 2, 3, 5, 1, 2, 4, 9], rfl, hn, by decide, by decide, rfl⟩ (ea_cons (ee_var 0 rfl hb2) (ea_cons (ee_var 1 rfl (p1.up s3)) (ea_2 (ee_var 2 rfl (p2.up s3)) (ee_lst (ds := ([1, 2, 3, 5, 1, 2, 4, 9] : List Int).map .int) (ea_cons ee_int (ea_cons ee_int (ea_cons ee_int (ea_cons ee_int (ea_cons ee_int (ea_cons ee_int (ea_2 ee_int ee_int))))))))))))).exi ?_
      rintro d ⟨d1, d2, rfl, ⟨i, rfl, x, y, rfl, hy, rfl⟩, ⟨r, rfl, h2, h3⟩⟩
      refine ⟨(1 + y, r), rfl, by show (1 : Int) ≤ 1 + y ∧ 1 + y ≤ 40; omega, h2, fun x hx => ?_⟩
      have := h3 x hx
      have key : ∀ x ∈ ([1, 2, 3, 5, 1, 2, 4, 9] : List Int), (1 : Int) ≤ x ∧ x ≤ 16 := by decide
      exact key x this
    · obtain ⟨rs, h1, p4⟩ := p4
      rw [filter_true] at h1
      obtain ⟨gs, rfl, hl, hg⟩ := paired_any (enc := grpD) h1
      rw [upto_len] at hl
      refine hs_ret (P := Ex K fun d => ∃ gs : List Grp, d = .list (gs.map grpD) ∧ LotsOk n gs ∧ gs.length = z + 1) ((ee_catLE (F := fun ds2 => ∃ g : Grp, ds2 = [grpD g] ∧ GOk g) (fun ds2 ⟨g, e, _⟩ => by rw [e, List.length_map, hl]; show _ + 1 ≤ 16777216; omega) (ee_var 4 rfl p4) ((ee_lstE (Fs := [fun d => ∃ g : Grp, d = grpD g ∧ GOk g]) (ea_1 ((ee_pairE (F := fun d => ∃ i : Int, d = .int i ∧ 1 ≤ i ∧ i ≤ 40)
        ((ee_callBx D1 (hr.mono (by decide)) ⟨([1, 2, 7, 40] : List Int).map .int, rfl, by decide, by decide, rfl⟩ (ea_2 (ee_var 0 rfl (Mn.up e1.st hb)) (ee_lst (ds := ([1, 2, 7, 40] : List Int).map .int) (ea_cons ee_int (ea_cons ee_int (ea_2 ee_int ee_int)))))).exi fun d hd => ?x1)
        (ee_callBx D2 hr ⟨n, [1, 2, 3, 7, 16], rfl, hn, by decide, by decide, rfl⟩ (ea_cons (ee_var 0 rfl (Mn.up e1.st hb)) (ea_cons (ee_var 1 rfl (p1.up e1.st)) (ea_2 (ee_var 2 rfl (p2.up e1.st)) (ee_lst (ds := ([1, 2, 3, 7, 16] : List Int).map .int) (ea_cons ee_int (ea_cons ee_int (ea_cons ee_int (ea_2 ee_int ee_int)))))))))).exi ?x2))).exi ?x3)).exi ?x4) e1.sub fun v S' H' g ⟨d, hd, p⟩ => q d hd v S' H' (e1.trans g) p
      case x1 =>
        obtain ⟨i, hi, rfl⟩ := List.mem_map.mp hd
        have key : ∀ x ∈ ([1, 2, 7, 40] : List Int), (1 : Int) ≤ x ∧ x ≤ 40 := by decide
        exact ⟨i, rfl, key i hi⟩
      case x2 =>
        rintro d ⟨d1, d2, rfl, ⟨i, rfl, hi⟩, ⟨r, rfl, h2, h3⟩⟩
        have key : ∀ x ∈ ([1, 2, 3, 7, 16] : List Int), (1 : Int) ≤ x ∧ x ≤ 16 := by decide
        exact ⟨(i, r), rfl, hi, h2, fun x hx => key x (h3 x hx)⟩
      case x3 =>
        rintro d ⟨ds, rfl, h⟩
        obtain ⟨d1, rfl, g, rfl, hg⟩ := h.one
        exact ⟨_, rfl, g, rfl, hg⟩
      case x4 =>
        rintro d ⟨ds2, rfl, g, rfl, hg2⟩
        refine ⟨gs ++ [g], by rw [List.map_append]; rfl, ⟨by simp, by rw [List.length_append, hl]; show z + 1 ≤ 5; omega, fun g' hg' => ?_⟩, by rw [List.length_append, hl]; rfl⟩
        rcases List.mem_append.mp hg' with h | h
        · exact hg g' h
        · rw [List.mem_singleton.mp h]; exact hg2
end
/-! ## plain facts for the law -/
theorem totG_nn {gs : List Grp} (h : ∀ g ∈ gs, 0 ≤ g.1) (r : List Int) : 0 ≤ totG gs r := by
  induction gs with
  | nil => exact Int.le_refl 0
  | cons g gs ih =>
    have h1 := h g (List.mem_cons_self ..)
    have h2 := ih fun x hx => h x (List.mem_cons_of_mem _ hx)
    unfold totG at h2 ⊢
    rw [List.map_cons, List.sum_cons]
    split <;> omega
theorem totG_pos {gs : List Grp} (h : ∀ g ∈ gs, 1 ≤ g.1) {r : List Int} (hr : r ∈ gs.map (·.2)) : 1 ≤ totG gs r := by
  induction gs with
  | nil => cases hr
  | cons g gs ih =>
    have h1 := h g (List.mem_cons_self ..)
    have h2 := totG_nn (gs := gs) (fun x hx => by have := h x (List.mem_cons_of_mem _ hx); omega) r
    unfold totG at h2 ⊢
    rw [List.map_cons, List.sum_cons]
    rw [List.map_cons] at hr
    rcases List.mem_cons.mp hr with e | e
    · rw [if_pos e.symm]; omega
    · have h3 := ih (fun x hx => h x (List.mem_cons_of_mem _ hx)) e
      unfold totG at h3
      split <;> omega
theorem totG_le {gs : List Grp} {B : Nat} (h : ∀ g ∈ gs, 0 ≤ g.1 ∧ g.1 ≤ B) (r : List Int) : totG gs r ≤ (gs.length * B : Nat) := by
  induction gs with
  | nil => simp [totG]
  | cons g gs ih =>
    have h1 := h g (List.mem_cons_self ..)
    have h2 := ih fun x hx => h x (List.mem_cons_of_mem _ hx)
    unfold totG at h2 ⊢
    rw [List.map_cons, List.sum_cons, List.length_cons, Nat.succ_mul]
    split <;> omega
/-- groups of small counts and rows -/
def GsOk (n : Nat) (B : Nat) (gs : List Grp) : Prop := gs ≠ [] ∧ gs.length ≤ 6 ∧ ∀ g ∈ gs, (1 ≤ g.1 ∧ g.1 ≤ B) ∧ g.2.length = n ∧ ∀ x ∈ g.2, (1 : Int) ≤ x ∧ x ≤ 16
theorem LotsOk.gs {n : Nat} {gs : List Grp} (h : LotsOk n gs) : GsOk n 40 gs := ⟨h.1, by have := h.2.1; omega, h.2.2⟩
theorem GsOk.tab {n B : Nat} {gs : List Grp} (h : GsOk n B gs) (h1 : 1 ≤ n) (h3 : n ≤ 3) : TabOk n gs := ⟨h1, h3, h.1, by have := h.2.1; omega, by have := h.2.1; have := norm_len gs; omega, fun g hg => ⟨(h.2.2 g hg).1.1, (h.2.2 g hg).2.1, fun x hx => ((h.2.2 g hg).2.2 x hx).1⟩⟩
theorem norm_uniq {gs L : List Grp} (h1 : (L.map (·.2)).Pairwise fun a b => PySem.W.dataLe false tI' a b = true) (h2 : (L.map (·.2)).Nodup) (h3 : ∀ r, r ∈ L.map (·.2) ↔ r ∈ gs.map (·.2)) (h4 : ∀ g ∈ L, g.1 = totG gs g.2) : norm gs = L := by
  unfold norm
  rw [rowsS_uniq h1 h2 h3, List.map_map]
  exact (List.map_congr_left fun g hg => by show (totG gs g.2, g.2) = id g; rw [← h4 g hg]; rfl).trans (List.map_id L)
end K17
namespace K17
open PySem PySem.Spec PyProof.Rows L2 Z Y
section
variable {P : Program} {w : World} {K : PySem.W.Frag} {mg : Str → Option Value} {base : Heap} {f : Addr} {fd : FuncData}
/-! ## +, *, ** of tables -/
def mulG (gs hs : List Grp) : List Grp := gs.flatMap fun a => hs.map fun b => (a.1 * b.1, (a.2.zip b.2).map fun p => p.1 * p.2)
def MulOk (gs hs : List Grp) : Prop := ∀ a ∈ gs, ∀ b ∈ hs, CMulX a.1 b.1 ∧ ∀ p ∈ a.2.zip b.2, CMulX p.1 p.2
def spTop (K : PySem.W.Frag) (C : Addr) (op : List Grp → List Grp → List Grp) (W : List Grp → List Grp → Prop) : Sp := fun vs H Q _ => ∃ S n gs hs v u, vs = [v, u] ∧ Same S H ∧ TabP K C n gs v S ∧ TabP K C n hs u S ∧ TabOk n (op gs hs) ∧ W gs hs ∧ ∀ r S' H', Gr S H S' H' → NewR (TabL K C n (norm (op gs hs))) S r S' → Q r H'
theorem spTop_B {K : PySem.W.Frag} {C : Addr} {op : List Grp → List Grp → List Grp} {W : List Grp → List Grp → Prop} {S : Hp} {n : Nat} {gs hs : List Grp} (ho : TabOk n (op gs hs)) (hw : W gs hs) : BinP (spTop K C op W) S (TabP K C n gs) (TabP K C n hs) (TabP K C n (norm (op gs hs))) := fun v w S1 H1 st s pv pw Q q =>
  ⟨S1, n, gs, hs, v, w, rfl, s, pv, pw, ho, hw, fun r S' H' g nn => by
    obtain ⟨l, h0, a, dx, xs, rfl, h⟩ := nn
    exact q a S' H' g ⟨l, a, dx, xs, rfl, h⟩⟩
theorem sc_Tadd : FnScope ["self", "other"] ["self", "other"] (defScope sTable____add__) := ⟨rfl, rfl, rfl, by decide +kernel, rfl, by decide +kernel, by decide +kernel⟩
theorem isi_tab {C : Addr} (c : Cls K C) (J : IsiC K C) {n : Nat} {gs : List Grp} : ∀ v S1 H1, Same S1 H1 → TabP K C n gs v S1 → ∃ t, TyX K H1 v t ∧ PySem.W.kitOne K t (.ref C) = some true := fun v S1 H1 s1 p => by
  obtain ⟨a, dx, fs, rfl, e⟩ := TabP.ins _ _ p
  exact ⟨.ref C, .base (.ins (s1 _ _ e) c J.cls J.sp J.tk J.ob), by unfold PySem.W.kitOne; simp⟩
theorem ok_Tadd {C : Addr} (F : FnM K "__add__" "Table.__add__" sTable____add__ f fd) (M : MkT P w K mg base C) (g1 : mg "isinstance" = none) (gT : mg "Table" = some (.ref C)) (c : Cls K C) (J : IsiC K C) (n1 : NoAttr K C "width") (n2 : NoAttr K C "_groups") : FnOk P w K mg base CX0 5 f fd ["self", "other"] (spTop K C (fun a b => a ++ b) fun a b => a.length + b.length ≤ 1000) := by
  refine fn_hs F sc_Tadd (fun vs H Q E h => ?_) (fun cdv A outer sh H vs Q E hr h => ?_)
  · obtain ⟨S, n, gs, hs, v, u, rfl, _⟩ := h
    rfl
  · obtain ⟨S, n, gs, hs, v, u, rfl, s, pv, pu, ho, hw, q⟩ := h
    refine hs_ifN ((et_not (et_val (ee_isiO (Pa := TabP K C n hs) (k := true) g1 gT (ee_var 1 rfl pu) (isi_tab c J)))).is rfl) s fun S1 H1 e1 => ?_
    have pv1 : TabP K C n gs v S1 := Mn.up e1.st pv
    have pu1 : TabP K C n hs u S1 := Mn.up e1.st pu
    refine hs_ifN ((et_neI (ee_fld (ee_var 1 rfl pu1) TabP.wid c n1) (ee_fld (ee_var 0 rfl pv1) TabP.wid c n1)).is (by simp)) e1.sub fun S2 H2 e2 => ?_
    have pv2 : TabP K C n gs v S2 := Mn.up e2.st pv1
    have pu2 : TabP K C n hs u S2 := Mn.up e2.st pu1
    have G2 := e1.trans e2
    exact hs_ret (ee_mkT (gs := gs ++ hs) (d := .list (gs.map grpD ++ hs.map grpD)) M hr gT ho (.inl (by rw [List.map_append])) (ee_fld (ee_var 0 rfl pv2) TabP.wid c n1) (ee_lst2 (.inl rfl) (.inl rfl) (by rw [List.length_map, List.length_map]; exact Nat.le_trans hw (by show 1000 ≤ 16777216; decide)) (ee_fld (ee_var 0 rfl pv2) TabP.grp c n2) (ee_fld (ee_var 1 rfl pu2) TabP.grp c n2))) G2.sub fun r S' H' g nn => q r S' H' (G2.trans g) (nn.dn G2.st)
theorem prodD_mul (gs hs : List Grp) : prodD (fun a b => grpD ((unG (unT a)).1 * (unG (unT b)).1, ((unG (unT a)).2.zip (unG (unT b)).2).map fun p => p.1 * p.2)) (gs.map grpD) (hs.map grpD) = (mulG gs hs).map grpD := by
  have u : ∀ g : Grp, unG (unT (grpD g)) = g := unG_q
  unfold prodD mulG
  rw [List.map_flatMap, List.flatMap_map]
  congr 1
  funext a
  rw [List.map_map, List.map_map]
  exact List.map_congr_left fun b _ => by
    show grpD ((unG (unT (grpD a))).1 * (unG (unT (grpD b))).1, ((unG (unT (grpD a))).2.zip (unG (unT (grpD b))).2).map fun p => p.1 * p.2) = _
    rw [u, u]
    rfl
theorem eg_two {K : PySem.W.Frag} {d1 d2 : PyData} {v : V} {S : Hp} (h : Dt K (.tuple [d1, d2]) v S) : ∃ v1 v2, Dt K d1 v1 S ∧ Dt K d2 v2 S ∧ ∀ (X : Cx) (σ : L2.St) (i j : Nat) (x y : Str) (px py tp : Pos) (kk : Nat), X.K = K → X.calm = true → X.N.Nodup → X.N[i]? = some x → X.N[j]? = some y → Loc X.env.scope x → Loc X.env.scope y → (X.fn x = true ∨ X.env.scope.names.lookup x = some .local) → (X.fn y = true ∨ X.env.scope.names.lookup y = some .local) →
    (assignEach [.Name x px, .Name y py] X.env).length = 2 → (assignEach [.Name x px, .Name y py] X.env).findIdx? (·.1) = none → (assignEach [.Name x px, .Name y py] X.env).map (·.2) = assign (.Name x px) X.env :: (assignEach [.Name y py] X.env).map (·.2) → (assignEach [.Name y py] X.env).map (·.2) = assign (.Name y py) X.env :: (assignEach [] X.env).map (·.2) → EG X S (.Tuple [.Name x px, .Name y py] kk tp) v σ ((σ.set i (some v1)).set j (some v2)) := by
  obtain ⟨l, xs, rfl, hl, hx', _⟩ := Dt.tup_inv (ds := [d1, d2]) h
  obtain ⟨v1, e1, p1⟩ := hx'.get (i := 0) (d := d1) rfl
  obtain ⟨v2, e2, p2⟩ := hx'.get (i := 1) (d := d2) rfl
  have hxs : xs = [v1, v2] := by
    have hl2 := hx'.1
    match xs, hl2 with
    | [u, w], _ => simp at e1 e2; rw [e1, e2]
  subst hxs
  refine ⟨v1, v2, p1, p2, fun X σ i j x y px py tp kk hK hc hN hix hjy k1 k3 k2 k4 a1 a2 a3 a4 H s2 Q qq => ?_⟩
  subst hK
  exact hg_of (pg_tup hc (pgs_cons (pg_name hN hix k1 k2) (pgs_cons (pg_name hN hjy k3 k4) pgs_nil a4) a3) a1 a2) ⟨l, _, rfl, sqt_up s2 hl, rfl, _, _, rfl, _, _, rfl, rfl, qq⟩
def mulP (q : PyData × PyData) : Int := match q with
  | (.int a, .int b) => a * b
  | _ => 0
def retArg1 (b : List Stmt) (i : Nat) : Expr := match b.getD i (.Pass ⟨0, 0, 0, 0⟩) with
  | .Return (some (.Call _ [_, e] _ _)) _ => e
  | _ => .Constant .none 0 ⟨0, 0, 0, 0⟩
theorem sc_Tmul : FnScope ["self", "other", "left", "right", "count", "row", "many", "late"] ["self", "other"] (defScope sTable____mul__) := ⟨rfl, rfl, rfl, by decide +kernel, rfl, by decide +kernel, by decide +kernel⟩
theorem ok_Tmul {C : Addr} (F : FnM K "__mul__" "Table.__mul__" sTable____mul__ f fd) (M : MkT P w K mg base C) (g1 : mg "isinstance" = none) (g2 : mg "tuple" = none) (g3 : mg "zip" = none) (gT : mg "Table" = some (.ref C)) (c : Cls K C) (J : IsiC K C) (n1 : NoAttr K C "width") (n2 : NoAttr K C "_groups") : FnOk P w K mg base CX0 5 f fd ["self", "other"] (spTop K C mulG fun a b => a.length ≤ 100 ∧ b.length ≤ 100 ∧ (∀ g ∈ a, g.2.length ≤ 3) ∧ MulOk a b) := by
  refine fn_hs F sc_Tmul (fun vs H Q E h => ?_) (fun cdv A outer sh H vs Q E hr h => ?_)
  · obtain ⟨S, n, gs, hs, v, u, rfl, _⟩ := h
    rfl
  · obtain ⟨S, n, gs, hs, v, u, rfl, s, pv, pu, ho, ⟨ha, hb, hl3, hm⟩, q⟩ := h
    refine hs_ifN ((et_not (et_val (ee_isiO (Pa := TabP K C n hs) (k := true) g1 gT (ee_var 1 rfl pu) (isi_tab c J)))).is rfl) s fun S1 H1 e1 => ?_
    have pv1 : TabP K C n gs v S1 := Mn.up e1.st pv
    have pu1 : TabP K C n hs u S1 := Mn.up e1.st pu
    refine hs_ifN ((et_neI (ee_fld (ee_var 1 rfl pu1) TabP.wid c n1) (ee_fld (ee_var 0 rfl pv1) TabP.wid c n1)).is (by simp)) e1.sub fun S2 H2 e2 => ?_
    have pv2 : TabP K C n gs v S2 := Mn.up e2.st pv1
    have pu2 : TabP K C n hs u S2 := Mn.up e2.st pu1
    have G2 := e1.trans e2
    have u0 : ∀ g : Grp, unG (unT (grpD g)) = g := unG_q
    refine hs_ret (ee_mkT (gs := mulG gs hs) M hr gT ho (.inl rfl) (ee_fld (ee_var 0 rfl pv2) TabP.wid c n1) (EE.isd (d := .list (prodD (fun a b => grpD ((unG (unT a)).1 * (unG (unT b)).1, ((unG (unT a)).2.zip (unG (unT b)).2).map fun p => p.1 * p.2)) (gs.map grpD) (hs.map grpD))) ?lc (by rw [prodD_mul]))) G2.sub fun r S' H' g nn => q r S' H' (G2.trans g) (nn.dn G2.st)
    case lc =>
      refine ee_lc22 (own := [("count", 4), ("row", 5), ("many", 6), ("late", 7)]) (vs1 := [6, 7]) rfl sc_Tmul.nd (blkOk_by (N := ["self", "other", "left", "right", "count", "row", "many", "late"]) (sc := defScope sTable____mul__) (by decide +kernel)) (by decide) (ei_list (ee_fld (ee_var 0 rfl pv2) TabP.grp c n2)) ?sz ?el
      case sz =>
        rw [List.length_map, List.length_map]
        exact Nat.lt_of_le_of_lt (Nat.mul_le_mul ha hb) (by decide)
      case el =>
        intro d hd x S3 s3 px
        obtain ⟨a, hga, rfl⟩ := List.mem_map.mp hd
        obtain ⟨v4, v5, p4, p5, heg⟩ := eg_two (d1 := .int a.1) (d2 := tI a.2) px
        refine ⟨[some v, some u, none, none, some v4, some v5, none, none], rfl, fun sh' H0 C' cl fp => ⟨heg _ _ 4 5 "count" "row" _ _ _ _ (by rfl) (by rfl) (by exact sc_Tmul.nd) (by rfl) (by rfl) (by exact Or.inl rfl) (by exact Or.inl rfl) (by exact .inr rfl) (by exact .inr rfl) (by rfl) (by rfl) (by rfl) (by rfl), ei_list (ee_fld (ee_var (P := TabP K C n hs) 1 rfl (Mn.up s3 pu2)) TabP.grp c n2), fun e he y S4 s4 py => ?_⟩⟩
        obtain ⟨b, hgb, rfl⟩ := List.mem_map.mp he
        obtain ⟨v6, v7, p6, p7, heg2⟩ := eg_two (d1 := .int b.1) (d2 := tI b.2) py
        refine ⟨[some v, some u, none, none, some v4, some v5, some v6, some v7], rfl, fun sh2 H02 C2 cl2 fp2 => ⟨heg2 _ _ 6 7 "many" "late" _ _ _ _ (by rfl) (by rfl) (by exact sc_Tmul.nd) (by rfl) (by rfl) (by exact Or.inl rfl) (by exact Or.inl rfl) (by exact .inr rfl) (by exact .inr rfl) (by rfl) (by rfl) (by rfl) (by rfl), ?_⟩⟩
        show EE _ _ _ _ (Dt K (grpD ((unG (unT (grpD a))).1 * (unG (unT (grpD b))).1, ((unG (unT (grpD a))).2.zip (unG (unT (grpD b))).2).map fun p => p.1 * p.2)))
        rw [u0, u0]
        obtain ⟨hcm, hcz⟩ := hm a hga b hgb
        have p4 : Dt K (.int a.1) v4 S4 := p4.up s4
        have p5 : Dt K (tI a.2) v5 S4 := p5.up s4
        have p6 : Dt K (.int b.1) v6 S4 := p6
        have p7 : Dt K (tI b.2) v7 S4 := p7
        refine EE.isd (d := .tuple [.int (a.1 * b.1), tI ((a.2.zip b.2).map fun p => p.1 * p.2)]) ?_ rfl
        refine ee_tup (ea_2 ?_ ?_)
        · exact ee_mul hcm (ee_var 4 rfl p4) (ee_var 6 rfl p6)
        refine EE.isd (d := .tuple (((a.2.zip b.2).map fun p => p.1 * p.2).map .int)) ?_ rfl
        refine ee_tupleOf g2 ?_
        refine EE.isd (d := .list ((((a.2.zip b.2).map fun p => (PyData.int p.1, PyData.int p.2)).map mulP).map PyData.int)) ?_ ?_
        · refine ee_lc2 (i := 2) (j := 3) (enc := PyData.int) (f := mulP) ?c1 ?c2 ?c3 ?c4 ?c5 ?c6
          case c1 => rfl
          case c2 => exact sc_Tmul.nd
          case c3 => exact blkOk_by (N := ["self", "other", "left", "right", "count", "row", "many", "late"]) (sc := cellsSc ["other"] (compScope (retArg1 (defBody sTable____mul__) 2))) (by decide +kernel)
          case c4 =>
            rw [← zip_int]
            exact ei_zipT g3 (ee_var 5 rfl p5) (ee_var 7 rfl p7)
          case c5 =>
            rw [List.length_map, List.length_zip]
            have := hl3 a hga
            show min _ _ ≤ 16777216
            omega
          case c6 =>
            intro q0 hq0 z1 z2 S5 s5 q1 q2 sh3 H03 C3 cl3 fp3
            obtain ⟨⟨k, l⟩, hkl, rfl⟩ := List.mem_map.mp hq0
            exact ee_mul (hcz (k, l) hkl) (ee_var 2 rfl q1) (ee_var 3 rfl q2)
        · rw [List.map_map, List.map_map, List.map_map]
          rfl
theorem rep_ones (n : Nat) : (List.replicate n [PyData.int 1]).flatten = (List.replicate n (1 : Int)).map PyData.int := by
  induction n with
  | zero => rfl
  | succ n ih => rw [List.replicate_succ, List.flatten_cons, ih, List.replicate_succ]; rfl
def unitG (n : Nat) : List Grp := [(1, List.replicate n 1)]
theorem norm_unit (n : Nat) : norm (unitG n) = unitG n := norm_uniq (List.pairwise_singleton ..) (by simp [unitG]) (fun r => Iff.rfl) (fun g hg => by
  obtain rfl := List.mem_singleton.mp hg
  simp [totG, unitG])
theorem tab_unit {n : Nat} (n1 : 1 ≤ n) (n3 : n ≤ 3) : TabOk n (unitG n) := ⟨n1, n3, by simp [unitG], (show 1 ≤ 10000 by decide), (by rw [norm_unit]; exact (show 1 ≤ 100 by decide)), fun g hg => by
  obtain rfl := List.mem_singleton.mp hg
  refine ⟨Int.le_refl 1, by simp, fun x hx => ?_⟩
  rw [List.eq_of_mem_replicate hx]
  exact Int.le_refl 1⟩
def toG (n : Nat) (gs : List Grp) : Nat → List Grp
  | 0 => unitG n
  | k + 1 => norm (mulG (toG n gs k) gs)
def WMul (a b : List Grp) : Prop := a.length ≤ 100 ∧ b.length ≤ 100 ∧ (∀ g ∈ a, g.2.length ≤ 3) ∧ MulOk a b
def ToOk (n : Nat) (gs : List Grp) (k : Nat) : Prop := 1 ≤ n ∧ n ≤ 3 ∧ k ≤ 60 ∧ ∀ j, j < k → TabOk n (mulG (toG n gs j) gs) ∧ WMul (toG n gs j) gs
def spTto (K : PySem.W.Frag) (C : Addr) : Sp := fun vs H Q _ => ∃ S n gs, ∃ k : Nat, ∃ v u, vs = [v, u] ∧ Same S H ∧ TabP K C n gs v S ∧ Dt K (.int k) u S ∧ ToOk n gs k ∧ ∀ r S' H', Gr S H S' H' → TabP K C n (toG n gs k) r S' → Q r H'
theorem spTto_E {K : PySem.W.Frag} {C : Addr} {S : Hp} {n k : Nat} {gs : List Grp} (ho : ToOk n gs k) : SpE (spTto K C) S [TabP K C n gs, Dt K (.int k)] (TabP K C n (toG n gs k)) := fun vs S1 H1 st s al Q q => by
  obtain ⟨v, u, rfl, pv, pu⟩ := al.two
  exact ⟨S1, n, gs, k, v, u, rfl, s, pv, pu, ho, q⟩
theorem spTto_B {K : PySem.W.Frag} {C : Addr} {S : Hp} {n k : Nat} {gs : List Grp} (ho : ToOk n gs k) : BinP (spTto K C) S (TabP K C n gs) (Dt K (.int k)) (TabP K C n (toG n gs k)) := fun v w S1 H1 st s pv pw Q q =>
  ⟨S1, n, gs, k, v, w, rfl, s, pv, pw, ho, fun r S' H' g h => by
    obtain ⟨l, a, dx, xs, rfl, h⟩ := h
    exact q a S' H' g ⟨l, a, dx, xs, rfl, h⟩⟩
theorem sc_Tto : FnScope ["self", "number", "found", "_"] ["self", "number"] (defScope sTable__to_the) := ⟨rfl, rfl, rfl, by decide +kernel, rfl, by decide +kernel, by decide +kernel⟩
theorem ok_Tto {C : Addr} (F : FnM K "to_the" "Table.to_the" sTable__to_the f fd) (M : MkT P w K mg base C) (D1 : KD P w K mg base "check_power" 2 (spD K FchkP)) (D2 : KM P w K mg base C "__mul__" 5 (spTop K C mulG WMul)) (hsf : PySem.W.selfFirst K C = true) (g1 : mg "range" = none) (gT : mg "Table" = some (.ref C)) (c : Cls K C) (n1 : NoAttr K C "width") : FnOk P w K mg base CX0 6 f fd ["self", "number"] (spTto K C) := by
  refine fn_hs F sc_Tto (fun vs H Q E h => ?_) (fun cdv A outer sh H vs Q E hr h => ?_)
  · obtain ⟨S, n, gs, k, v, u, rfl, _⟩ := h
    rfl
  · obtain ⟨S, n, gs, k, v, u, rfl, s, pv, pu, ⟨h1, h3, hk, hj⟩, q⟩ := h
    refine hs_expr (ee_callD D1 (hr.mono (by decide)) ⟨(k : Int), rfl, rfl, by omega, by omega⟩ (ea_1 (ee_var 1 rfl pu))) s fun _ S1 H1 e1 _ => ?_
    have pv1 : TabP K C n gs v S1 := Mn.up e1.st pv
    refine hs_set (i := 2) (P := TabP K C n (unitG n)) ((ee_mkT (gs := unitG n) M (hr.mono (by decide)) gT (tab_unit h1 h3) (.inl rfl) (ee_fld (ee_var 0 rfl pv1) TabP.wid c n1) (ee_lst (ds := (unitG n).map grpD) (ea_1 (ee_tup (ds := [.int 1, tI (List.replicate n 1)]) (ea_2 ee_int ((ee_repT h1 (by omega) (by show 1 ≤ 1000; decide) (by simp) (ee_tup (ds := [.int 1]) (ea_1 ee_int)) (ee_fld (ee_var 0 rfl pv1) TabP.wid c n1)).isd (by rw [rep_ones]; rfl))))))).imp fun v S' h => by have := newR_tab h; rw [norm_unit] at this; exact this) e1.sub sc_Tto.nd fun v2 S2 H2 e2 p2 => ?_
    have G2 := e1.trans e2
    refine hs_for (Ps := Ds K (upto k)) (fun i σ S' => ∃ x z, σ = [some v, some u, some x, z] ∧ TabP K C n (toG n gs i) x S') PassesOwn.never rfl (ei_range (n := k) g1 (by omega) (ee_var 1 rfl (pu.up G2.st))) G2.sub (fun S' H' g => ⟨v2, none, rfl, Mn.up g.st p2⟩) ?_ ?_
    · rintro i Pi σ1 S3 H3 x S4 H4 hP g3 ⟨y, z, rfl, py⟩ g4 px
      have hi : i < k := by
        have := (List.getElem?_eq_some_iff.mp hP).1
        rw [ds_len, upto_len] at this; exact this
      obtain ⟨ho, hw⟩ := hj i hi
      refine (eg_name (i := 3) sc_Tto.nd rfl (by first | exact Or.inl rfl | exact Or.inr rfl)) H4 g4.sub _ ?_
      have pv4 : TabP K C n gs v S4 := Mn.up (G2.st.trans (g3.st.trans g4.st)) pv
      have py4 : TabP K C n (toG n gs i) y S4 := Mn.up g4.st py
      refine hs_set (i := 2) (ee_binO (m := "__mul__") rfl D2 hsf hr (ee_var 2 rfl py4) (ee_var 0 rfl pv4) TabP.ins TabP.ins (spTop_B ho hw)) g4.sub sc_Tto.nd fun v5 S5 H5 g5 p5 => hs_nil ?_
      exact ⟨S5, g5, v5, _, rfl, p5⟩
    · rintro σ1 S3 H3 g3 ⟨y, z, rfl, py⟩
      rw [ds_len, upto_len] at py
      exact hs_ret (ee_var 2 rfl py) g3.sub fun r S' H' g p => q r S' H' (G2.trans (g3.trans g)) p
theorem sc_Tpow : FnScope ["self", "number"] ["self", "number"] (defScope sTable____pow__) := ⟨rfl, rfl, rfl, by decide +kernel, rfl, by decide +kernel, by decide +kernel⟩
theorem ok_Tpow {C : Addr} (F : FnM K "__pow__" "Table.__pow__" sTable____pow__ f fd) (D : KM P w K mg base C "to_the" 6 (spTto K C)) (c : Cls K C) : FnOk P w K mg base CX0 7 f fd ["self", "number"] (spTto K C) := by
  refine fn_hs F sc_Tpow (fun vs H Q E h => ?_) (fun cdv A outer sh H vs Q E hr h => ?_)
  · obtain ⟨S, n, gs, k, v, u, rfl, _⟩ := h
    rfl
  · obtain ⟨S, n, gs, k, v, u, rfl, s, pv, pu, ho, q⟩ := h
    exact hs_ret (ee_meth D c hr (ee_var 0 rfl pv) TabP.insP (ea_1 (ee_var 1 rfl pu)) (spTto_E ho)) s q
end
end K17
namespace K17
open PySem PySem.Spec PyProof.Rows L2 Z Y
section
variable {P : Program} {w : World} {K : PySem.W.Frag} {mg : Str → Option Value} {base : Heap} {f : Addr} {fd : FuncData}
/-! ### +, *, **, to_the refused -/
theorem mulG_len (gs hs : List Grp) : (mulG gs hs).length = gs.length * hs.length := by
  induction gs with
  | nil => simp [mulG]
  | cons a gs ih =>
    have e : mulG (a :: gs) hs = (hs.map fun b => (a.1 * b.1, (a.2.zip b.2).map fun p => p.1 * p.2)) ++ mulG gs hs := rfl
    rw [e, List.length_append, List.length_map, ih, List.length_cons, Nat.succ_mul, Nat.add_comm]
/-- what a + b raises -/
def GTa (K : PySem.W.Frag) (C : Addr) (kW kT : EK) : List V → Hp → EK → PyData → Prop := fun vs S k g => ∃ n1 n2 gs hs v u, vs = [v, u] ∧ TabP K C n1 gs v S ∧ TabP K C n2 hs u S ∧ ((n1 ≠ n2 ∧ k = kW ∧ g = .int (n2 : Nat)) ∨ (n1 = n2 ∧ 1 ≤ n1 ∧ n1 ≤ 3 ∧ gs.length + hs.length ≤ 1000 ∧ gs ++ hs ≠ [] ∧ GrpsOk n1 (gs ++ hs) ∧ 100 < (norm (gs ++ hs)).length ∧ k = kT ∧ g = .int 100))
theorem ok_TaddX {C : Addr} {kN kG kT kW : EK} (F : FnM K "__add__" "Table.__add__" sTable____add__ f fd) (M : MkTX P w K mg base C kN kG kT) (RW : Err P w K mg base "WrongWidth" kW.C "width" kW.code) (hW : kW.fn = some "width") (g1 : mg "isinstance" = none) (gT : mg "Table" = some (.ref C)) (c : Cls K C) (J : IsiC K C) (n1 : NoAttr K C "width") (n2 : NoAttr K C "_groups") : FnOk P w K mg base (L2.CX P w) 6 f fd ["self", "other"] (spX K (GTa K C kW kT)) := by
  refine fn_hsX F sc_Tadd (fun vs H Q E h => ?_) (fun cdv A outer sh H vs Q E hr h tk => ?_)
  · obtain ⟨S, k, g, _, ⟨m1, m2, gs, hs, v, u, rfl, _⟩, _⟩ := h
    rfl
  · obtain ⟨S, k, g, s, ⟨m1, m2, gs, hs, v, u, rfl, pv, pu, hb⟩, hx⟩ := h
    refine hs_ifN ((et_not (et_val (ee_isiO (Pa := TabP K C m2 hs) (k := true) g1 gT (ee_var 1 rfl pu) (isi_tab c J)))).is rfl) s fun S1 H1 e1 => ?_
    have pv1 : TabP K C m1 gs v S1 := Mn.up e1.st pv
    have pu1 : TabP K C m2 hs u S1 := Mn.up e1.st pu
    rcases hb with ⟨hne, rfl, rfl⟩ | ⟨rfl, h1, h3, hl, hn0, hf, h12, rfl, rfl⟩
    · refine hs_ifT ((et_neI (ee_fld (ee_var 1 rfl pu1) TabP.wid c n1) (ee_fld (ee_var 0 rfl pv1) TabP.wid c n1)).is (by rw [decide_eq_false (by omega)]; rfl)) e1.sub fun S2 H2 e2 => ?_
      exact hs_raise1 rfl tk RW hW (by decide) (hr.mono (by decide)) (ee_fld (ee_var (P := TabP K C m2 hs) 1 rfl (Mn.up e2.st pu1)) TabP.wid c n1) e2.sub (hx.up (e1.trans e2))
    · refine hs_ifN ((et_neI (ee_fld (ee_var 1 rfl pu1) TabP.wid c n1) (ee_fld (ee_var 0 rfl pv1) TabP.wid c n1)).is (by simp)) e1.sub fun S2 H2 e2 => ?_
      have pv2 : TabP K C m1 gs v S2 := Mn.up e2.st pv1
      have pu2 : TabP K C m1 hs u S2 := Mn.up e2.st pu1
      refine hs_retX (P := NoP) (O := O1 k (.int 100)) (er_mkT2 (d1 := .int (m1 : Nat)) (d2 := .list (gs.map grpD ++ hs.map grpD)) tk M hr gT (ee_fld (ee_var 0 rfl pv2) TabP.wid c n1) (ee_lst2 (.inl rfl) (.inl rfl) (by rw [List.length_map, List.length_map]; exact Nat.le_trans hl (by show 1000 ≤ 16777216; decide)) (ee_fld (ee_var 0 rfl pv2) TabP.grp c n2) (ee_fld (ee_var 1 rfl pu2) TabP.grp c n2)) (.inr ⟨m1, rfl, h1, h3, .inr (.inr ⟨gs ++ hs, .inl (by rw [List.map_append]), hn0, by rw [List.length_append]; omega, hf, h12, rfl, rfl⟩)⟩)) e2.sub (fun k' g' h => by obtain ⟨rfl, rfl⟩ := h; exact hx.up (e1.trans e2)) fun _ _ _ _ z => z.elim
/-- what a * b raises -/
def BadM (kW kT : EK) (n1 n2 : Nat) (gs hs : List Grp) (k : EK) (g : PyData) : Prop := (n1 ≠ n2 ∧ k = kW ∧ g = .int (n2 : Nat)) ∨ (n1 = n2 ∧ 1 ≤ n1 ∧ n1 ≤ 3 ∧ WMul gs hs ∧ mulG gs hs ≠ [] ∧ GrpsOk n1 (mulG gs hs) ∧ 100 < (norm (mulG gs hs)).length ∧ k = kT ∧ g = .int 100)
def GTm (K : PySem.W.Frag) (C : Addr) (kW kT : EK) : List V → Hp → EK → PyData → Prop := fun vs S k g => ∃ n1 n2 gs hs v u, vs = [v, u] ∧ TabP K C n1 gs v S ∧ TabP K C n2 hs u S ∧ BadM kW kT n1 n2 gs hs k g
theorem ok_TmulX {C : Addr} {kN kG kT kW : EK} (F : FnM K "__mul__" "Table.__mul__" sTable____mul__ f fd) (M : MkTX P w K mg base C kN kG kT) (RW : Err P w K mg base "WrongWidth" kW.C "width" kW.code) (hW : kW.fn = some "width") (g1 : mg "isinstance" = none) (g2 : mg "tuple" = none) (g3 : mg "zip" = none) (gT : mg "Table" = some (.ref C)) (c : Cls K C) (J : IsiC K C) (n1 : NoAttr K C "width") (n2 : NoAttr K C "_groups") : FnOk P w K mg base (L2.CX P w) 6 f fd ["self", "other"] (spX K (GTm K C kW kT)) := by
  refine fn_hsX F sc_Tmul (fun vs H Q E h => ?_) (fun cdv A outer sh H vs Q E hr h tk => ?_)
  · obtain ⟨S, k, g, _, ⟨m1, m2, gs, hs, v, u, rfl, _⟩, _⟩ := h
    rfl
  · obtain ⟨S, k, g, s, ⟨n, m2, gs, hs, v, u, rfl, pv, pu, hbad⟩, hx⟩ := h
    refine hs_ifN ((et_not (et_val (ee_isiO (Pa := TabP K C m2 hs) (k := true) g1 gT (ee_var 1 rfl pu) (isi_tab c J)))).is rfl) s fun S1 H1 e1 => ?_
    have pv1 : TabP K C n gs v S1 := Mn.up e1.st pv
    have pu1 : TabP K C m2 hs u S1 := Mn.up e1.st pu
    rcases hbad with ⟨hne, rfl, rfl⟩ | ⟨rfl, h1, h3, ⟨ha, hb, hl3, hm⟩, hn0, hf, h12, rfl, rfl⟩
    · refine hs_ifT ((et_neI (ee_fld (ee_var 1 rfl pu1) TabP.wid c n1) (ee_fld (ee_var 0 rfl pv1) TabP.wid c n1)).is (by rw [decide_eq_false (by omega)]; rfl)) e1.sub fun S2 H2 e2 => ?_
      exact hs_raise1 rfl tk RW hW (by decide) (hr.mono (by decide)) (ee_fld (ee_var (P := TabP K C m2 hs) 1 rfl (Mn.up e2.st pu1)) TabP.wid c n1) e2.sub (hx.up (e1.trans e2))
    refine hs_ifN ((et_neI (ee_fld (ee_var 1 rfl pu1) TabP.wid c n1) (ee_fld (ee_var 0 rfl pv1) TabP.wid c n1)).is (by simp)) e1.sub fun S2 H2 e2 => ?_
    have pv2 : TabP K C n gs v S2 := Mn.up e2.st pv1
    have pu2 : TabP K C n hs u S2 := Mn.up e2.st pu1
    have G2 := e1.trans e2
    have u0 : ∀ g : Grp, unG (unT (grpD g)) = g := unG_q
    refine hs_retX (P := NoP) (O := O1 k (.int 100)) (er_mkT2 (d1 := .int (n : Nat)) (d2 := .list ((mulG gs hs).map grpD)) tk M hr gT (ee_fld (ee_var 0 rfl pv2) TabP.wid c n1) (EE.isd (d := .list (prodD (fun a b => grpD ((unG (unT a)).1 * (unG (unT b)).1, ((unG (unT a)).2.zip (unG (unT b)).2).map fun p => p.1 * p.2)) (gs.map grpD) (hs.map grpD))) ?lc (by rw [prodD_mul])) (.inr ⟨n, rfl, h1, h3, .inr (.inr ⟨mulG gs hs, .inl rfl, hn0, by rw [mulG_len]; exact Nat.mul_le_mul ha hb, hf, h12, rfl, rfl⟩)⟩)) e2.sub (fun k' g' h => by obtain ⟨rfl, rfl⟩ := h; exact hx.up (e1.trans e2)) fun _ _ _ _ z => z.elim
    case lc =>
      refine ee_lc22 (own := [("count", 4), ("row", 5), ("many", 6), ("late", 7)]) (vs1 := [6, 7]) rfl sc_Tmul.nd (blkOk_by (N := ["self", "other", "left", "right", "count", "row", "many", "late"]) (sc := defScope sTable____mul__) (by decide +kernel)) (by decide) (ei_list (ee_fld (ee_var 0 rfl pv2) TabP.grp c n2)) ?sz ?el
      case sz =>
        rw [List.length_map, List.length_map]
        exact Nat.lt_of_le_of_lt (Nat.mul_le_mul ha hb) (by decide)
      case el =>
        intro d hd x S3 s3 px
        obtain ⟨a, hga, rfl⟩ := List.mem_map.mp hd
        obtain ⟨v4, v5, p4, p5, heg⟩ := eg_two (d1 := .int a.1) (d2 := tI a.2) px
        refine ⟨[some v, some u, none, none, some v4, some v5, none, none], rfl, fun sh' H0 C' cl fp => ⟨heg _ _ 4 5 "count" "row" _ _ _ _ (by rfl) (by rfl) (by exact sc_Tmul.nd) (by rfl) (by rfl) (by exact Or.inl rfl) (by exact Or.inl rfl) (by exact .inr rfl) (by exact .inr rfl) (by rfl) (by rfl) (by rfl) (by rfl), ei_list (ee_fld (ee_var (P := TabP K C n hs) 1 rfl (Mn.up s3 pu2)) TabP.grp c n2), fun e he y S4 s4 py => ?_⟩⟩
        obtain ⟨b, hgb, rfl⟩ := List.mem_map.mp he
        obtain ⟨v6, v7, p6, p7, heg2⟩ := eg_two (d1 := .int b.1) (d2 := tI b.2) py
        refine ⟨[some v, some u, none, none, some v4, some v5, some v6, some v7], rfl, fun sh2 H02 C2 cl2 fp2 => ⟨heg2 _ _ 6 7 "many" "late" _ _ _ _ (by rfl) (by rfl) (by exact sc_Tmul.nd) (by rfl) (by rfl) (by exact Or.inl rfl) (by exact Or.inl rfl) (by exact .inr rfl) (by exact .inr rfl) (by rfl) (by rfl) (by rfl) (by rfl), ?_⟩⟩
        show EE _ _ _ _ (Dt K (grpD ((unG (unT (grpD a))).1 * (unG (unT (grpD b))).1, ((unG (unT (grpD a))).2.zip (unG (unT (grpD b))).2).map fun p => p.1 * p.2)))
        rw [u0, u0]
        obtain ⟨hcm, hcz⟩ := hm a hga b hgb
        have p4 : Dt K (.int a.1) v4 S4 := p4.up s4
        have p5 : Dt K (tI a.2) v5 S4 := p5.up s4
        have p6 : Dt K (.int b.1) v6 S4 := p6
        have p7 : Dt K (tI b.2) v7 S4 := p7
        refine EE.isd (d := .tuple [.int (a.1 * b.1), tI ((a.2.zip b.2).map fun p => p.1 * p.2)]) ?_ rfl
        refine ee_tup (ea_2 ?_ ?_)
        · exact ee_mul hcm (ee_var 4 rfl p4) (ee_var 6 rfl p6)
        refine EE.isd (d := .tuple (((a.2.zip b.2).map fun p => p.1 * p.2).map .int)) ?_ rfl
        refine ee_tupleOf g2 ?_
        refine EE.isd (d := .list ((((a.2.zip b.2).map fun p => (PyData.int p.1, PyData.int p.2)).map mulP).map PyData.int)) ?_ ?_
        · refine ee_lc2 (i := 2) (j := 3) (enc := PyData.int) (f := mulP) ?c1 ?c2 ?c3 ?c4 ?c5 ?c6
          case c1 => rfl
          case c2 => exact sc_Tmul.nd
          case c3 => exact blkOk_by (N := ["self", "other", "left", "right", "count", "row", "many", "late"]) (sc := cellsSc ["other"] (compScope (retArg1 (defBody sTable____mul__) 2))) (by decide +kernel)
          case c4 =>
            rw [← zip_int]
            exact ei_zipT g3 (ee_var 5 rfl p5) (ee_var 7 rfl p7)
          case c5 =>
            rw [List.length_map, List.length_zip]
            have := hl3 a hga
            show min _ _ ≤ 16777216
            omega
          case c6 =>
            intro q0 hq0 z1 z2 S5 s5 q1 q2 sh3 H03 C3 cl3 fp3
            obtain ⟨⟨k, l⟩, hkl, rfl⟩ := List.mem_map.mp hq0
            exact ee_mul (hcz (k, l) hkl) (ee_var 2 rfl q1) (ee_var 3 rfl q2)
        · rw [List.map_map, List.map_map, List.map_map]
          rfl
end
end K17
namespace K17
open PySem PySem.Spec PyProof.Rows L2 Z Y
section
variable {P : Program} {w : World} {K : PySem.W.Frag} {mg : Str → Option Value} {base : Heap} {f : Addr} {fd : FuncData}
/-! ### to_the, ** refused -/
/-- the number that o.to_the(d) refuses, or at which a product is refused -/
def BadN (K : PySem.W.Frag) (kN kW kT : EK) (n : Nat) (gs : List Grp) (k : EK) (g : PyData) : V → Hp → Prop := fun u S => (∃ d, Dt K d u S ∧ isP d = false ∧ k = kN ∧ g = d) ∨ ∃ l m : Nat, Dt K (.int l) u S ∧ 1 ≤ n ∧ n ≤ 3 ∧ m < l ∧ l ≤ 60 ∧ ToOk n gs m ∧ BadM kW kT n n (toG n gs m) gs k g
instance {K : PySem.W.Frag} {kN kW kT k : EK} {n : Nat} {gs : List Grp} {g : PyData} : Mn (BadN K kN kW kT n gs k g) := ⟨fun s h => by
  rcases h with ⟨d, p, r⟩ | ⟨l, m, p, r⟩
  · exact .inl ⟨d, p.up s, r⟩
  · exact .inr ⟨l, m, p.up s, r⟩⟩
def GTt (K : PySem.W.Frag) (C : Addr) (kN kW kT : EK) : List V → Hp → EK → PyData → Prop := fun vs S k g => ∃ n gs v u, vs = [v, u] ∧ TabP K C n gs v S ∧ BadN K kN kW kT n gs k g u S
theorem ok_TtoX {C : Addr} {kN kW kT : EK} (F : FnM K "to_the" "Table.to_the" sTable__to_the f fd) (M : MkT P w K mg base C) (D0 : KD P w K mg base "check_power" 2 (spD K FchkP)) (D1 : KDX P w K mg base "check_power" 3 (spX K (GchkP kN K))) (D2 : KM P w K mg base C "__mul__" 5 (spTop K C mulG WMul)) (D3 : KMX P w K mg base C "__mul__" 6 (spX K (GTm K C kW kT))) (hsf : PySem.W.selfFirst K C = true) (g1 : mg "range" = none) (gT : mg "Table" = some (.ref C)) (c : Cls K C) (n1 : NoAttr K C "width") : FnOk P w K mg base (L2.CX P w) 7 f fd ["self", "number"] (spX K (GTt K C kN kW kT)) := by
  refine fn_hsX F sc_Tto (fun vs H Q E h => ?_) (fun cdv A outer sh H vs Q E hr h tk => ?_)
  · obtain ⟨S, k, g, _, ⟨n, gs, v, u, rfl, _⟩, _⟩ := h
    rfl
  · obtain ⟨S, k, g, s, ⟨n, gs, v, u, rfl, pv, hb⟩, hx⟩ := h
    rcases hb with ⟨d, pu, hd, rfl, rfl⟩ | ⟨l, m, pu, h1, h3, hml, hl60, ⟨_, _, _, hj⟩, hbad⟩
    · refine hs_exprX (er_call (P := NoP) (O := O1 k g) tk D1 (hr.mono (by decide)) (ea_1 (ee_var 1 rfl pu)) (spX_O fun vs S1 s1 al => ?_)) s (fun k' g' h => by obtain ⟨rfl, rfl⟩ := h; exact hx) fun _ _ _ _ z => z.elim
      exact ⟨k, g, ⟨g, al_dts (ds := [g]) al, hd, rfl, rfl⟩, rfl, rfl⟩
    refine hs_expr (ee_callD D0 (hr.mono (by decide)) ⟨(l : Int), rfl, rfl, by omega, by omega⟩ (ea_1 (ee_var 1 rfl pu))) s fun _ S1 H1 e1 _ => ?_
    have pv1 : TabP K C n gs v S1 := Mn.up e1.st pv
    refine hs_set (i := 2) (P := TabP K C n (unitG n)) ((ee_mkT (gs := unitG n) M (hr.mono (by decide)) gT (tab_unit h1 h3) (.inl rfl) (ee_fld (ee_var 0 rfl pv1) TabP.wid c n1) (ee_lst (ds := (unitG n).map grpD) (ea_1 (ee_tup (ds := [.int 1, tI (List.replicate n 1)]) (ea_2 ee_int ((ee_repT h1 (by omega) (by show 1 ≤ 1000; decide) (by simp) (ee_tup (ds := [.int 1]) (ea_1 ee_int)) (ee_fld (ee_var 0 rfl pv1) TabP.wid c n1)).isd (by rw [rep_ones]; rfl))))))).imp fun v S' h => by have := newR_tab h; rw [norm_unit] at this; exact this) e1.sub sc_Tto.nd fun v2 S2 H2 e2 p2 => ?_
    have G2 := e1.trans e2
    refine hs_for (Ps := Ds K (upto l)) (fun i σ S' => i ≤ m ∧ ∃ x z, σ = [some v, some u, some x, z] ∧ TabP K C n (toG n gs i) x S') (passes_of rfl) rfl (ei_range (n := l) g1 (by omega) (ee_var 1 rfl (pu.up G2.st))) G2.sub (fun S' H' g => ⟨Nat.zero_le _, v2, none, rfl, Mn.up g.st p2⟩) ?_ ?_
    · rintro i Pi σ1 S3 H3 x S4 H4 hP g3 ⟨him, y, z, rfl, py⟩ g4 px
      refine (eg_name (i := 3) sc_Tto.nd rfl (by first | exact Or.inl rfl | exact Or.inr rfl)) H4 g4.sub _ ?_
      have pv4 : TabP K C n gs v S4 := Mn.up (G2.st.trans (g3.st.trans g4.st)) pv
      have py4 : TabP K C n (toG n gs i) y S4 := Mn.up g4.st py
      rcases Nat.lt_or_ge i m with hi | hi
      · obtain ⟨ho, hw⟩ := hj i hi
        refine hs_set (i := 2) (ee_binO (m := "__mul__") rfl D2 hsf (hr.mono (by decide)) (ee_var 2 rfl py4) (ee_var 0 rfl pv4) TabP.ins TabP.ins (spTop_B ho hw)) g4.sub sc_Tto.nd fun v5 S5 H5 g5 p5 => hs_nil ?_
        exact ⟨S5, g5, hi, v5, _, rfl, p5⟩
      · obtain rfl : i = m := by omega
        refine hs_setX (i := 2) (P := NoP) (O := O1 k g) (er_binO (m := "__mul__") tk rfl D3 hsf hr (ee_var 2 rfl py4) (ee_var 0 rfl pv4) TabP.ins TabP.ins (spX_O fun vs S5 s5 al => ?_)) g4.sub (fun k' g' h => by obtain ⟨rfl, rfl⟩ := h; exact hx.up (G2.trans (g3.trans g4))) sc_Tto.nd fun _ _ _ _ z => z.elim
        obtain ⟨a, b, rfl, pa, pb⟩ := al.two
        exact ⟨k, g, ⟨n, n, toG n gs i, gs, a, b, rfl, pa, pb, hbad⟩, rfl, rfl⟩
    · rintro σ1 S3 H3 g3 ⟨him, y, z, rfl, py⟩
      exfalso
      rw [ds_len, upto_len] at him
      omega
theorem ok_TpowX {C : Addr} {kN kW kT : EK} (F : FnM K "__pow__" "Table.__pow__" sTable____pow__ f fd) (D : KMX P w K mg base C "to_the" 7 (spX K (GTt K C kN kW kT))) (c : Cls K C) : FnOk P w K mg base (L2.CX P w) 8 f fd ["self", "number"] (spX K (GTt K C kN kW kT)) := by
  refine fn_hsX F sc_Tpow (fun vs H Q E h => ?_) (fun cdv A outer sh H vs Q E hr h tk => ?_)
  · obtain ⟨S, k, g, _, ⟨n, gs, v, u, rfl, _⟩, _⟩ := h
    rfl
  · obtain ⟨S, k, g, s, ⟨n, gs, v, u, rfl, pv, hb⟩, hx⟩ := h
    refine hs_retX (P := NoP) (O := O1 k g) (er_meth (Ps := [BadN K kN kW kT n gs k g]) tk D c hr (ee_var 0 rfl pv) TabP.insP (ea_1 (ee_var 1 rfl hb)) (spX_O fun vs S1 s1 al => ?_)) s (fun k' g' h => by obtain ⟨rfl, rfl⟩ := h; exact hx) fun _ _ _ _ z => z.elim
    obtain ⟨a, b, rfl, pa, pb⟩ := al.two
    exact ⟨k, g, ⟨n, gs, a, b, rfl, pa, pb⟩, rfl, rfl⟩
end
end K17
namespace K17
open PySem PySem.Spec PyProof.Rows L2 Z Y
section
variable {P : Program} {w : World} {K : PySem.W.Frag} {mg : Str → Option Value} {base : Heap} {f : Addr} {fd : FuncData}
/-! ## power groups -/
def isPg (d : PyData) (w : Int) : Bool := match d with
  | .tuple [c, r] => isNum c 0 && isDir r w
  | _ => false
def FisPg : List PyData → PyData → Prop := fun ds r => ∃ d w, ds = [d, .int w] ∧ r = .bool (isPg d w)
theorem sc_isPg : FnScope ["value", "width"] ["value", "width"] (defScope sis_power_group) := ⟨rfl, rfl, rfl, by decide +kernel, rfl, by decide +kernel, by decide +kernel⟩
theorem ok_isPg (F : FnT K "is_power_group" sis_power_group f fd) (D1 : KD P w K mg base "is_number" 1 (spD K FisNumber)) (D2 : KD P w K mg base "is_direction" 2 (spD K FisDir)) (g1 : mg "isinstance" = none) (g2 : mg "tuple" = none) (g3 : mg "len" = none) : FnOk P w K mg base CX0 3 f fd ["value", "width"] (spD K FisPg) := by
  refine fn_hs F sc_isPg (fun vs H Q E h => ?_) (fun cdv A outer sh H vs Q E hr h => ?_)
  · obtain ⟨S, ds, d, _, hd, ⟨_, _, rfl, _⟩, _⟩ := h
    exact hd.1
  · obtain ⟨S, ds, r, s, hd, ⟨d, w', rfl, rfl⟩, q⟩ := h
    obtain ⟨v1, v2, rfl, p1, p2⟩ := hd.two
    by_cases hd' : ∃ es, d = .tuple es
    · obtain ⟨es, rfl⟩ := hd'
      by_cases h2 : es.length = 2
      · obtain ⟨e0, p0, rfl⟩ : ∃ e0 p0, es = [e0, p0] := by
          match es, h2 with
          | [e0, p0], _ => exact ⟨e0, p0, rfl⟩
        refine hs_ret ((ee_and (ee_isi (isD_ok (.tuple [e0, p0]) (T := "tuple") (by simp)) g1 g2 boot_tuple (ee_var 0 rfl p1)) fun _ => ee_and (ee_eqI (ee_len g3 (d := .tuple [e0, p0]) (n := 2) rfl (ee_var 0 rfl p1)) ee_int) fun _ => ee_and (ee_callD D1 (hr.mono (by decide)) ⟨e0, 0, rfl, rfl⟩ (ea_2 (ee_ixT (ds := [e0, p0]) (d := e0) rfl (ee_var 0 rfl p1) ee_int) ee_int)) fun _ => ee_one
          (ee_callD D2 hr ⟨p0, w', rfl, rfl⟩ (ea_2 (ee_ixT (ds := [e0, p0]) (d := p0) rfl (ee_var 0 rfl p1) ee_int) (ee_var 1 rfl p2)))).isd ?_) s q
        show PyData.bool _ = .bool (isNum e0 0 && isDir p0 w')
        simp [isDt]
      · refine hs_ret ((ee_and (ee_isi (isD_ok (.tuple es) (T := "tuple") (by simp)) g1 g2 boot_tuple (ee_var 0 rfl p1)) fun _ => ee_and (k2 := false) (ee_eqI (ee_len g3 (d := .tuple es) (n := es.length) rfl (ee_var 0 rfl p1)) ee_int) fun h => ?_).isd ?_) s q
        · exfalso
          have := of_decide_eq_true h
          omega
        · have e : isPg (.tuple es) w' = false := by
            match es, h2 with
            | [], _ => rfl
            | [_], _ => rfl
            | _ :: _ :: _ :: _, _ => rfl
            | [_, _], h => exact absurd rfl h
          rw [e]; simp
    · have e0 : isD d "tuple" = false := by cases d <;> first | rfl | exact absurd ⟨_, rfl⟩ hd'
      refine hs_ret ((ee_and (k2 := false) (ee_isi (isD_ok d (T := "tuple") (by simp)) g1 g2 boot_tuple (ee_var 0 rfl p1)) fun h1 => ?_).isd ?_) s q
      · rw [e0] at h1; cases h1
      · have e : isPg d w' = false := by cases d <;> first | rfl | exact absurd ⟨_, rfl⟩ hd'
        rw [e]; simp
/-- the group of a power group -/
def pgG (b : Int) (g : Grp) : Grp := (b ^ g.1.toNat, g.2.map fun x => b ^ x.toNat)
def PgOk (b : Int) (g : Grp) : Prop := PowOk b g.1 ∧ (∀ x ∈ g.2, PowOk b x) ∧ g.2.length ≤ 3
def Fpg : List PyData → PyData → Prop := fun ds r => ∃ b g, ds = [.int b, grpD g] ∧ PgOk b g ∧ r = grpD (pgG b g)
theorem sc_pg : FnScope ["base", "group", "count", "direction", "part"] ["base", "group"] (defScope spower_group) := ⟨rfl, rfl, rfl, by decide +kernel, rfl, by decide +kernel, by decide +kernel⟩
def powE (b : Int) (d : PyData) : Int := match d with
  | .int x => b ^ x.toNat
  | _ => 0
theorem ok_pg (F : FnT K "power_group" spower_group f fd) (D2 : KD P w K mg base "power_of" 1 (spD K Fpower_of)) (g1 : mg "tuple" = none) : FnOk P w K mg base CX0 2 f fd ["base", "group"] (spD K Fpg) := by
  refine fn_hs F sc_pg (fun vs H Q E h => ?_) (fun cdv A outer sh H vs Q E hr h => ?_)
  · obtain ⟨S, ds, d, _, hd, ⟨_, _, rfl, _⟩, _⟩ := h
    exact hd.1
  · obtain ⟨S, ds, r, s, hd, ⟨b, g, rfl, ⟨h1, h2, h3⟩, rfl⟩, q⟩ := h
    obtain ⟨v1, v2, rfl, p1, p2⟩ := hd.two
    refine hs_unpack (i := 2) (j := 3) (d1 := .int g.1) (d2 := tI g.2) rfl sc_pg.nd (ee_var 1 rfl p2) s fun v w S7 H7 e7 pv pw => ?_
    refine hs_ret (P := Dt K (grpD (pgG b g))) ?ee e7.sub fun v S' H' g' p => q v S' H' (e7.trans g') p
    refine EE.isd (d := .tuple [.int (b ^ g.1.toNat), tI (g.2.map fun x => b ^ x.toNat)]) ?_ rfl
    refine ee_tup (ea_2 ?_ ?_)
    · exact ee_callD D2 (hr.mono (by decide)) ⟨b, g.1, rfl, rfl, h1⟩ (ea_2 (ee_var 0 rfl (p1.up e7.st)) (ee_var 2 rfl pv))
    refine EE.isd (d := .tuple ((g.2.map fun x => b ^ x.toNat).map .int)) ?_ rfl
    refine ee_tupleOf g1 ?_
    refine EE.isd (d := .list (((g.2.map PyData.int).map (powE b)).map PyData.int)) ?_ ?_
    · refine ee_lc (i := 4) (enc := .int) (f := powE b) rfl sc_pg.nd ?ok (ei_tup (ee_var 3 rfl pw)) (by rw [List.length_map]; show _ ≤ 16777216; omega) ?el
      case ok => exact blkOk_by (N := ["base", "group", "count", "direction", "part"]) (sc := defScope spower_group) (by decide +kernel)
      intro d hd v3 S3 s3 p3 sh2 H2 C2 cl2 fp2
      obtain ⟨x, hx, rfl⟩ := List.mem_map.mp hd
      exact ee_callD D2 (hr.mono (by decide)) ⟨b, x, rfl, rfl, h2 x hx⟩ (ea_2 (ee_var 0 rfl (p1.up (e7.st.trans s3))) (ee_var 4 rfl p3))
    · rw [List.map_map, List.map_map, List.map_map]
      rfl
end
end K17
namespace K17
open PySem PySem.Spec PyProof.Rows L2 Z Y
section
variable {P : Program} {w : World} {K : PySem.W.Frag} {mg : Str → Option Value} {base : Heap} {f : Addr} {fd : FuncData}
/-! ## Table.powers -/
theorem sc_Tpw : FnScope ["width", "base", "groups", "at", "group"] ["width", "base", "groups"] (defScope sTable__powers) := ⟨rfl, rfl, rfl, by decide +kernel, rfl, by decide +kernel, by decide +kernel⟩
def PgsOk (n : Nat) (gs : List Grp) : Prop := ∀ g ∈ gs, 0 ≤ g.1 ∧ g.2.length = n ∧ ∀ x ∈ g.2, (0 : Int) ≤ x
theorem isPg_t {n : Nat} {g : Grp} (h : 0 ≤ g.1 ∧ g.2.length = n ∧ ∀ x ∈ g.2, (0 : Int) ≤ x) : isPg (grpD g) (n : Nat) = true := by
  show (isNum (.int g.1) 0 && isDir (tI g.2) (n : Nat)) = true
  rw [isNum_t h.1, Bool.true_and]
  show (decide (((g.2.map PyData.int).length : Int) = n) && (g.2.map PyData.int).all fun x => isNum x 0) = true
  rw [Bool.and_eq_true]
  refine ⟨by rw [List.length_map, h.2.1]; simp, ?_⟩
  rw [List.all_map, List.all_eq_true]
  intro x hx
  exact isNum_t (h.2.2 x hx)
/-- what Table.powers(d1, d2, d3) raises -/
def BadW (kN kG : EK) (d1 d2 d3 : PyData) (k : EK) (g : PyData) : Prop := (isW d1 = false ∧ k = kN ∧ g = d1) ∨ ∃ n : Nat, d1 = .int n ∧ 1 ≤ n ∧ n ≤ 3 ∧
  ((isNum d2 1 = false ∧ k = kN ∧ g = d2) ∨ (isNum d2 1 = true ∧ ((noLT d3 ∧ k = kG ∧ g = .int (-1)) ∨ ∃ gs bad rest, LT d3 (gs.map grpD ++ bad :: rest) ∧ gs.length ≤ 1000 ∧ PgsOk n gs ∧ isPg bad (n : Nat) = false ∧ k = kG ∧ g = .int (gs.length : Nat))))
def GPw (kN kG : EK) (K : PySem.W.Frag) : List V → Hp → EK → PyData → Prop := fun ws S k g => ∃ d1 d2 d3, Dts K [d1, d2, d3] ws S ∧ BadW kN kG d1 d2 d3 k g
theorem ok_TpwX {kN kG : EK} (F : FunD K "powers" "Table.powers" (defArgs sTable__powers) (defBody sTable__powers) (defScope sTable__powers) [] [] f fd) (D0 : KD P w K mg base "check_width" 2 (spD K FchkW)) (D1 : KDX P w K mg base "check_width" 3 (spX K (GchkW kN K))) (D2 : KD P w K mg base "is_number" 1 (spD K FisNumber)) (D3 : KD P w K mg base "is_power_group" 3 (spD K FisPg))
    (RN : Err P w K mg base "InvalidNumber" kN.C "given" kN.code) (hN : kN.fn = some "given") (RG : Err P w K mg base "InvalidGroup" kG.C "at" kG.code) (hG : kG.fn = some "at") (g2 : mg "isinstance" = none) (g3 : mg "list" = none) (g4 : mg "tuple" = none) (g5 : mg "enumerate" = none) :
    FnOk P w K mg base (L2.CX P w) 4 f fd ["width", "base", "groups"] (spX K (GPw kN kG K)) := by
  refine fn_hsX F sc_Tpw (fun vs H Q E h => ?_) (fun cdv A outer sh H vs Q E hr h tk => ?_)
  · obtain ⟨S, k, g, _, ⟨_, _, _, hd, _⟩, _⟩ := h
    exact hd.1
  · obtain ⟨S, k, g, s, ⟨d1, d2, d, hd, hb⟩, hx⟩ := h
    obtain ⟨vn, vb, vg, rfl, p1, pb, p2⟩ := hd.three
    rcases hb with ⟨hw, rfl, rfl⟩ | ⟨n, rfl, n1, n3, hb⟩
    · refine hs_exprX (er_call (P := NoP) (O := O1 k g) tk D1 (hr.mono (by decide)) (ea_1 (ee_var 0 rfl p1)) (spX_O fun vs S1 s1 al => ?_)) s (fun k' g' h => by obtain ⟨rfl, rfl⟩ := h; exact hx) fun _ _ _ _ z => z.elim
      exact ⟨k, g, ⟨g, al_dts (ds := [g]) al, hw, rfl, rfl⟩, rfl, rfl⟩
    refine hs_expr (ee_callD D0 (hr.mono (by decide)) ⟨(n : Int), rfl, rfl, by omega, by omega⟩ (ea_1 (ee_var 0 rfl p1))) s fun _ S1 H1 e1 _ => ?_
    have hx1 := hx.up e1
    have pb1 := pb.up e1.st
    rcases hb with ⟨hd2, rfl, rfl⟩ | ⟨hd2, hb⟩
    · refine hs_ifT ((et_not (et_val (ee_callD D2 (hr.mono (by decide)) ⟨g, 1, rfl, rfl⟩ (ea_2 (ee_var 1 rfl pb1) ee_int)))).is (by rw [hd2]; rfl)) e1.sub fun S2 H2 e2 => ?_
      exact hs_raise1 rfl tk RN hN (by decide) (hr.mono (by decide)) (ee_var 1 rfl (pb1.up e2.st)) e2.sub (hx1.up e2)
    refine hs_ifN ((et_not (et_val (ee_callD D2 (hr.mono (by decide)) ⟨d2, 1, rfl, rfl⟩ (ea_2 (ee_var 1 rfl pb1) ee_int)))).is (by rw [hd2]; rfl)) e1.sub fun S2 H2 e2 => ?_
    have hx2 := hx1.up e2
    have e12 := e1.trans e2
    have p12 := p1.up e12.st
    have p22 := p2.up e12.st
    rcases hb with ⟨hlt, rfl, rfl⟩ | ⟨gs, bad, rest, hLT, hgl, hgo, hfac, rfl, rfl⟩
    · refine hs_ifT ((et_w (ew_or (et_not (et_val (ee_isiLT rfl g2 g3 g4 (ee_var 2 rfl p22)))) fun h => ew_or1 (et_not (et_tru (ee_var 2 rfl p22) (fun x hx => by rcases hlt with h0 | rfl | rfl <;> first | (cases hx; done) | (rw [h0] at h; cases h)))))).is ?_) e2.sub fun S3 H3 e3 => ?_
      · rcases hlt with h0 | rfl | rfl
        · rw [h0]; rfl
        · rfl
        · rfl
      · exact hs_raise1 rfl tk RG hG (by decide) (hr.mono (by decide)) (ee_neg ee_int) e3.sub (hx2.up e3)
    have hlt : (isD d "list" || isD d "tuple") = true := by rcases hLT with rfl | rfl <;> rfl
    have htr : truD d = true := by
      rcases hLT with rfl | rfl <;> (show (!(gs.map grpD ++ bad :: rest).isEmpty) = true; simp)
    refine hs_ifN ((et_w (ew_or (et_not (et_val (ee_isiLT rfl g2 g3 g4 (ee_var 2 rfl p22)))) fun _ => ew_or1 (et_not (et_tru (ee_var 2 rfl p22) (fun x hx => by rcases hLT with rfl | rfl <;> cases hx))))).is (by rw [hlt, htr]; rfl)) e2.sub fun S3 H3 e3 => ?_
    have hx3 := hx2.up e3
    have p13 := p12.up e3.st
    have p23 := p22.up e3.st
    refine hs_for (Ps := Ds K (enumD (gs.map grpD ++ bad :: rest))) (fun i σ S' => i ≤ gs.length ∧ ∃ x3 x4, σ = [some vn, some vb, some vg, x3, x4]) (passes_of rfl) rfl (by
      rcases hLT with rfl | rfl
      · exact ei_enumL g5 (ee_var 2 rfl p23)
      · exact ei_enumT g5 (ee_var 2 rfl p23)) e3.sub (fun S' H' g => ⟨Nat.zero_le _, none, none, rfl⟩) ?_ ?_
    · rintro i Pi σ1 S4 H4 x S5 H5 hP g4' ⟨hig, x3, x4, rfl⟩ g5' px
      have p15 := p13.up (g4'.st.trans g5'.st)
      rcases Nat.lt_or_ge i gs.length with hi | hi
      · rw [ds_get (enum_get (take_mapT hi))] at hP
        obtain rfl := Option.some.inj hP
        obtain ⟨u1, u2, k1, k2, hg⟩ := eg_pair (σ := [some vn, some vb, some vg, x3, x4]) (i := 3) (j := 4) (x := "at") (y := "group") (kk := _) (px := _) (py := _) (pos := _) (X := cxOf (L2.CX P w) P w K mg base ["width", "base", "groups", "at", "group"] "Table.powers" (defScope sTable__powers) f cdv A outer sh H E) rfl sc_Tpw.nd rfl rfl (Or.inl rfl) (Or.inl rfl) px
        refine hg H5 g5'.sub _ ?_
        refine hs_ifN ((et_not (et_val (ee_callD D3 (hr.mono (by decide)) ⟨grpD gs[i], (n : Int), rfl, rfl⟩ (ea_2 (ee_var 4 rfl k2) (ee_var 0 rfl p15))))).is (by rw [isPg_t (hgo gs[i] (List.getElem_mem hi))]; rfl)) g5'.sub fun S6 H6 e6 => hs_nil ?_
        exact ⟨S6, e6, hi, _, _, rfl⟩
      · obtain rfl : i = gs.length := by omega
        rw [ds_get (enum_get at_badT)] at hP
        obtain rfl := Option.some.inj hP
        obtain ⟨u1, u2, k1, k2, hg⟩ := eg_pair (σ := [some vn, some vb, some vg, x3, x4]) (i := 3) (j := 4) (x := "at") (y := "group") (kk := _) (px := _) (py := _) (pos := _) (X := cxOf (L2.CX P w) P w K mg base ["width", "base", "groups", "at", "group"] "Table.powers" (defScope sTable__powers) f cdv A outer sh H E) rfl sc_Tpw.nd rfl rfl (Or.inl rfl) (Or.inl rfl) px
        refine hg H5 g5'.sub _ ?_
        refine hs_ifT ((et_not (et_val (ee_callD D3 (hr.mono (by decide)) ⟨bad, (n : Int), rfl, rfl⟩ (ea_2 (ee_var 4 rfl k2) (ee_var 0 rfl p15))))).is (by rw [hfac]; rfl)) g5'.sub fun S6 H6 e6 => ?_
        exact hs_raise1 rfl tk RG hG (by decide) (hr.mono (by decide)) (ee_var 3 rfl (k1.up e6.st)) e6.sub (hx3.up (g4'.trans (g5'.trans e6)))
    · rintro σ1 S4 H4 g4' ⟨hle, _⟩
      exfalso
      rw [enum_len, List.length_append, List.length_map, List.length_cons] at hle
      omega
end
end K17
namespace K17
open PySem PySem.Spec PyProof.Rows L2 Z Y
section
variable {P : Program} {w : World} {K : PySem.W.Frag} {mg : Str → Option Value} {base : Heap} {f : Addr} {fd : FuncData}
/-- Table.powers gives a table -/
def spTpw (K : PySem.W.Frag) (C : Addr) : Sp := fun vs H Q _ => ∃ S n b gs v1 v2 v3, vs = [v1, v2, v3] ∧ Same S H ∧ Dt K (.int (n : Nat)) v1 S ∧ Dt K (.int b) v2 S ∧ Dt K (.list (gs.map grpD)) v3 S ∧ 1 ≤ b ∧ gs.length ≤ 1000 ∧ PgsOk n gs ∧ (∀ g ∈ gs, PgOk b g) ∧ TabOk n (gs.map (pgG b)) ∧ ∀ r S' H', Gr S H S' H' → NewR (TabL K C n (norm (gs.map (pgG b)))) S r S' → Q r H'
theorem spTpw_E {K : PySem.W.Frag} {C : Addr} {S : Hp} {n : Nat} {b : Int} {gs : List Grp} (h1 : 1 ≤ b) (hl : gs.length ≤ 1000) (h2 : PgsOk n gs) (h3 : ∀ g ∈ gs, PgOk b g) (ho : TabOk n (gs.map (pgG b))) : SpE (spTpw K C) S [Dt K (.int (n : Nat)), Dt K (.int b), Dt K (.list (gs.map grpD))] (TabP K C n (norm (gs.map (pgG b)))) := fun vs S1 H1 st s al Q q => by
  obtain ⟨v1, v2, v3, rfl, p1, p2, p3⟩ := (al_dts (ds := [.int (n : Nat), .int b, .list (gs.map grpD)]) al).three
  exact ⟨S1, n, b, gs, v1, v2, v3, rfl, s, p1, p2, p3, h1, hl, h2, h3, ho, fun r S' H' g nn => q r S' H' g (newR_tab nn)⟩
def pgD (b : Int) (d : PyData) : PyData := grpD (pgG b (unG (unT d)))
theorem ok_Tpw {C : Addr} (F : FunD K "powers" "Table.powers" (defArgs sTable__powers) (defBody sTable__powers) (defScope sTable__powers) [] [] f fd) (M : MkT P w K mg base C) (D0 : KD P w K mg base "check_width" 2 (spD K FchkW)) (D2 : KD P w K mg base "is_number" 1 (spD K FisNumber)) (D3 : KD P w K mg base "is_power_group" 3 (spD K FisPg)) (D4 : KD P w K mg base "power_group" 2 (spD K Fpg))
    (gT : mg "Table" = some (.ref C)) (g2 : mg "isinstance" = none) (g3 : mg "list" = none) (g4 : mg "tuple" = none) (g5 : mg "enumerate" = none) :
    FnOk P w K mg base CX0 5 f fd ["width", "base", "groups"] (spTpw K C) := by
  refine fn_hs F sc_Tpw (fun vs H Q E h => ?_) (fun cdv A outer sh H vs Q E hr h => ?_)
  · obtain ⟨S, n, b, gs, v1, v2, v3, rfl, _⟩ := h
    rfl
  · obtain ⟨S, n, b, gs, vn, vb, vg, rfl, s, p1, pb, p2, h1, hgl, hgo, hpo, ho, q⟩ := h
    obtain ⟨n1, n3, hne, _⟩ := id ho
    refine hs_expr (ee_callD D0 (hr.mono (by decide)) ⟨(n : Int), rfl, rfl, by omega, by omega⟩ (ea_1 (ee_var 0 rfl p1))) s fun _ S1 H1 e1 _ => ?_
    refine hs_ifN ((et_not (et_val (ee_callD D2 (hr.mono (by decide)) ⟨.int b, 1, rfl, rfl⟩ (ea_2 (ee_var 1 rfl (pb.up e1.st)) ee_int)))).is (by rw [isNum_t h1]; rfl)) e1.sub fun S2 H2 e2 => ?_
    have e12 := e1.trans e2
    have p22 := p2.up e12.st
    have htr : truD (.list (gs.map grpD)) = true := by
      have : gs.isEmpty = false := by cases gs <;> simp_all
      show (!(gs.map grpD).isEmpty) = true
      simp [this]
    refine hs_ifN ((et_w (ew_or (et_not (et_val (ee_isiLT rfl g2 g3 g4 (ee_var 2 rfl p22)))) fun _ => ew_or1 (et_not (et_tru (ee_var 2 rfl p22) (fun x hx => by cases hx))))).is (by rw [htr]; rfl)) e2.sub fun S3 H3 e3 => ?_
    have e13 := e12.trans e3
    have p13 := p1.up e13.st
    have pb3 := pb.up e13.st
    have p23 := p2.up e13.st
    refine hs_for (Ps := Ds K (enumD (gs.map grpD))) (fun i σ S' => ∃ x3 x4, σ = [some vn, some vb, some vg, x3, x4]) PassesOwn.never rfl (ei_enumL g5 (ee_var 2 rfl p23)) e3.sub (fun S' H' g => ⟨none, none, rfl⟩) ?_ ?_
    · rintro i Pi σ1 S4 H4 x S5 H5 hP g4' ⟨x3, x4, rfl⟩ g5' px
      have p15 := p13.up (g4'.st.trans g5'.st)
      have hi : i < gs.length := by
        have := (List.getElem?_eq_some_iff.mp hP).1
        rw [enum_len, List.length_map] at this; exact this
      have hz : (gs.map grpD)[i]? = some (grpD gs[i]) := by rw [List.getElem?_map, List.getElem?_eq_getElem hi]; rfl
      rw [ds_get (enum_get hz)] at hP
      obtain rfl := Option.some.inj hP
      obtain ⟨u1, u2, k1, k2, hg⟩ := eg_pair (σ := [some vn, some vb, some vg, x3, x4]) (i := 3) (j := 4) (x := "at") (y := "group") (kk := _) (px := _) (py := _) (pos := _) (X := (cxOf CX0 P w K mg base ["width", "base", "groups", "at", "group"] "Table.powers" (defScope sTable__powers) f cdv A outer sh H E).nox) rfl sc_Tpw.nd rfl rfl (Or.inl rfl) (Or.inl rfl) px
      refine hg H5 g5'.sub _ ?_
      refine hs_ifN ((et_not (et_val (ee_callD D3 (hr.mono (by decide)) ⟨grpD gs[i], (n : Int), rfl, rfl⟩ (ea_2 (ee_var 4 rfl k2) (ee_var 0 rfl p15))))).is (by rw [isPg_t (hgo gs[i] (List.getElem_mem hi))]; rfl)) g5'.sub fun S6 H6 e6 => hs_nil ?_
      exact ⟨S6, e6, _, _, rfl⟩
    · rintro σ1 S4 H4 g4' ⟨x3, x4, rfl⟩
      have p14 := p13.up g4'.st
      have pb4 := pb3.up g4'.st
      have p24 := p23.up g4'.st
      refine hs_ret (ee_mkT (gs := gs.map (pgG b)) M (hr.mono (by decide)) gT ho (.inl rfl) (ee_var 0 rfl p14) (EE.isd (d := .list (((gs.map grpD).map (pgD b)).map id)) (ee_lc (i := 4) (enc := id) (f := pgD b) rfl sc_Tpw.nd (blkOk_by (N := ["width", "base", "groups", "at", "group"]) (sc := defScope sTable__powers) (by decide +kernel)) (ei_list (ee_var 2 rfl p24)) (by rw [List.length_map]; exact Nat.le_trans hgl (by show 1000 ≤ 16777216; decide)) ?_) ?_)) g4'.sub fun r S' H' g nn => q r S' H' (e13.trans (g4'.trans g)) (nn.dn (e13.st.trans g4'.st))
      · intro d hd v S2 s2 pv sh' H0 C' cl fp
        obtain ⟨g, hgm, rfl⟩ := List.mem_map.mp hd
        show EE _ _ _ _ (Dt K (grpD (pgG b (unG (unT (grpD g))))))
        rw [show unG (unT (grpD g)) = g from unG_q g]
        exact ee_callD D4 (hr.mono (by decide)) ⟨b, g, rfl, hpo g hgm, rfl⟩ (ea_2 (ee_var 1 rfl (pb4.up s2)) (ee_var 4 rfl pv))
      · rw [List.map_id, List.map_map, List.map_map]
        exact congrArg PyData.list (List.map_congr_left fun g _ => by
          show grpD (pgG b (unG (unT (grpD g)))) = grpD (pgG b g)
          rw [show unG (unT (grpD g)) = g from unG_q g])
end
end K17
namespace K17
open PySem PySem.Spec PyProof.Rows L2 Z Y
section
variable {P : Program} {w : World} {K : PySem.W.Frag} {mg : Str → Option Value} {base : Heap} {f : Addr} {fd : FuncData}
/-! ## _law_field: any kind -/
theorem sc_law_field : FnScope ["_law_e"] ["_law_e"] (defScope sL_field) := ⟨rfl, rfl, rfl, by decide +kernel, rfl, by decide +kernel, by decide +kernel⟩
theorem ok_law_fieldG {tup : List Value} (F : FnT K "_law_field" sL_field f fd) : FnP P w K mg base 1 f fd ["_law_e"] (spFieldG K tup) := by
  refine fn_hsP F sc_law_field (fun p vs H Q h => ?_) (fun cdv A outer sh H vs Q p hr h => ?_)
  · obtain ⟨S, k, g, _, rfl, _⟩ := h
    rfl
  · obtain ⟨S, k, g, s, rfl, ok, px, q⟩ := h
    have hp : p ∈ [p] := List.mem_cons_self
    have hfld := ok.fld
    have fin : ∀ {S1 H1 : Hp} {v : V} {S' H' : Hp}, Gr S H S1 H1 → Gr S1 H1 S' H' → Dt K g v S' → Q v H' := fun a b c => q _ _ _ (a.trans b) c
    refine hs_if (et_inLs (ns := fldAt) (ee_codeG hp px ok (ee_var 0 rfl rfl)) (ee_lst (ds := fldAt.map .str) (by repeat (first | exact ea_nil | refine ea_cons ee_str ?_)))) s (fun hk S1 H1 g1 => ?_) (fun hk S1 H1 g1 => hs_nil ?_)
    · unfold fieldOf at hfld
      rw [if_pos hk] at hfld
      exact hs_ret (ee_keptG hp (px.up g1.st) ok hfld (ee_var 0 rfl rfl)) g1.sub fun v S' H' g' pv => fin g1 g' pv
    unfold fieldOf at hfld
    rw [if_neg (by rw [hk]; exact Bool.false_ne_true)] at hfld
    have px := px.up g1.st
    refine hs_if (et_inLs (ns := fldNm) (ee_codeG hp px ok (ee_var 0 rfl rfl)) (ee_lst (ds := fldNm.map .str) (by repeat (first | exact ea_nil | refine ea_cons ee_str ?_)))) g1.sub (fun hk S2 H2 g2 => ?_) (fun hk S2 H2 g2 => hs_nil ?_)
    · rw [if_pos hk] at hfld
      exact hs_ret (ee_keptG hp (px.up g2.st) ok hfld (ee_var 0 rfl rfl)) g2.sub fun v S' H' g' pv => fin (g1.trans g2) g' pv
    rw [if_neg (by rw [hk]; exact Bool.false_ne_true)] at hfld
    have px := px.up g2.st
    have g12 := g1.trans g2
    refine hs_if (et_inLs (ns := fldNo) (ee_codeG hp px ok (ee_var 0 rfl rfl)) (ee_lst (ds := fldNo.map .str) (by repeat (first | exact ea_nil | refine ea_cons ee_str ?_)))) g2.sub (fun hk S3 H3 g3 => ?_) (fun hk S3 H3 g3 => hs_nil ?_)
    · rw [if_pos hk] at hfld
      obtain ⟨dd, fs, _, _, _, _, _, h6, _⟩ := px
      have e := h6 hfld
      subst e
      exact hs_ret (P := Dt K .none) ee_non g3.sub fun v S' H' g' pv => fin (g12.trans g3) g' pv
    rw [if_neg (by rw [hk]; exact Bool.false_ne_true)] at hfld
    have px := px.up g3.st
    have g13 := g12.trans g3
    refine hs_if (et_eqS (ee_codeG hp px ok (ee_var 0 rfl rfl)) ee_str) g3.sub (fun hk S4 H4 g4 => ?_) (fun hk S4 H4 g4 => hs_nil ?_)
    · rw [if_pos hk] at hfld
      exact hs_ret (ee_keptG hp (px.up g4.st) ok hfld (ee_var 0 rfl rfl)) g4.sub fun v S' H' g' pv => fin (g13.trans g4) g' pv
    rw [if_neg (by rw [hk]; exact Bool.false_ne_true)] at hfld
    have px := px.up g4.st
    have g14 := g13.trans g4
    refine hs_if (et_eqS (ee_codeG hp px ok (ee_var 0 rfl rfl)) ee_str) g4.sub (fun hk S5 H5 g5 => ?_) (fun hk S5 H5 g5 => hs_nil ?_)
    · rw [if_pos hk] at hfld
      exact hs_ret (ee_keptG hp (px.up g5.st) ok hfld (ee_var 0 rfl rfl)) g5.sub fun v S' H' g' pv => fin (g14.trans g5) g' pv
    rw [if_neg (by rw [hk]; exact Bool.false_ne_true)] at hfld
    have px := px.up g5.st
    have g15 := g14.trans g5
    refine hs_if (et_eqS (ee_codeG hp px ok (ee_var 0 rfl rfl)) ee_str) g5.sub (fun hk S6 H6 g6 => ?_) (fun hk S6 H6 g6 => hs_nil ?_)
    · rw [if_pos hk] at hfld
      exact hs_ret (ee_keptG hp (px.up g6.st) ok hfld (ee_var 0 rfl rfl)) g6.sub fun v S' H' g' pv => fin (g15.trans g6) g' pv
    rw [if_neg (by rw [hk]; exact Bool.false_ne_true)] at hfld
    have px := px.up g6.st
    have g16 := g15.trans g6
    refine hs_ifN ((et_eqS (ee_codeG hp px ok (ee_var 0 rfl rfl)) ee_str).is ok.nt) g6.sub fun S7 H7 g7 => ?_
    have px := px.up g7.st
    refine hs_ifN ((et_eqS (ee_codeG hp px ok (ee_var 0 rfl rfl)) ee_str).is ok.nb) g7.sub fun S8 H8 g8 => ?_
    have px := px.up g8.st
    have g18 := (g16.trans g7).trans g8
    refine hs_ret (ee_if (Q' := Dt K g) (et_eqS (ee_codeG hp px ok (ee_var 0 rfl rfl)) ee_str) (fun hk => ?_) fun hk => ?_) g8.sub fun v S' H' g' pv => fin g18 g' pv
    · rw [if_pos hk] at hfld
      exact ee_keptG hp px ok hfld (ee_var 0 rfl rfl)
    · rw [if_neg (by rw [hk]; exact Bool.false_ne_true)] at hfld
      exact ee_keptG hp px ok hfld (ee_var 0 rfl rfl)
/-! ## _law_try, _law_tries: asks of any kind -/
theorem sc_law_try : FnScope ["_law_ask", "_law_e"] ["_law_ask"] (defScope sL_try) := ⟨rfl, rfl, rfl, by decide +kernel, rfl, by decide +kernel, by decide +kernel⟩
theorem sc_law_tries : FnScope ["_law_asks", "_law_ask"] ["_law_asks"] (defScope sL_tries) := ⟨rfl, rfl, rfl, by decide +kernel, rfl, by decide +kernel, by decide +kernel⟩
end
end K17
namespace K17
open PySem PySem.Spec PyProof.Rows L2 Z Y
/-! ## products, plainly: a factor is a pair (power, exponent), put together as the groups of a table are -/
def pairD (g : Grp) : PyData := .tuple [tI g.2, .int g.1]
def mpG (gs : List Grp) : MapI := gs.map fun g => (g.2, g.1)
theorem putM_new {m : MapI} {k : List Int} {n : Int} (h : k ∉ keysM m) : putM m k n = m ++ [(k, n)] := by
  unfold putM
  rw [if_neg]
  intro e
  obtain ⟨q, hq, e⟩ := List.any_eq_true.mp e
  exact h (List.mem_map.mpr ⟨q, hq, of_decide_eq_true e⟩)
theorem mkM_nodupA : ∀ (ps m : MapI), (m.map (·.1) ++ ps.map (·.1)).Nodup → ps.foldl (fun m p => putM m p.1 p.2) m = m ++ ps
  | [], m, _ => by simp
  | p :: ps, m, h => by
    have h1 : p.1 ∉ keysM m := fun z => by
      have h2 := (List.nodup_append.mp h).2.2 _ z p.1 (by simp)
      exact h2 rfl
    show ps.foldl _ (putM m p.1 p.2) = _
    rw [putM_new h1, mkM_nodupA ps (m ++ [(p.1, p.2)]) (by simpa using h)]
    simp
theorem mkM_nodup {ps : MapI} (h : (ps.map (·.1)).Nodup) : mkM ps = ps := by
  have h1 := mkM_nodupA ps [] (by simpa using h)
  rw [List.nil_append] at h1
  exact h1
/-- the dict of a product -/
theorem mkM_norm (gs : List Grp) : mkM ((rowsS gs).map fun r => (r, totG gs r)) = mpG (norm gs) := by
  rw [mkM_nodup]
  · unfold mpG norm
    rw [List.map_map]; rfl
  · rw [List.map_map]
    exact (List.map_id (rowsS gs)).symm ▸ nodup_rowsS gs
section
variable {P : Program} {w : World} {K : PySem.W.Frag} {mg : Str → Option Value} {base : Heap} {f : Addr} {fd : FuncData}
/-! ### Product.__init__ -/
def PrOk (n : Nat) (gs : List Grp) : Prop := 1 ≤ n ∧ n ≤ 3 ∧ gs.length ≤ 1000 ∧ (norm gs).length ≤ 12 ∧ ∀ g ∈ gs, 1 ≤ g.1 ∧ g.2.length = n ∧ ∀ x ∈ g.2, 0 ≤ x ∧ x ≤ 6
def prdF (n : Nat) (l : Addr) : List (Str × V) := [("width", .int n), ("_powers", .ref l)]
def PrdL (C : Addr) (n : Nat) (gs : List Grp) (l : Addr) : V → Hp → Prop := fun v S => ∃ a dx, v = .ref a ∧ S a = some (.ins C dx (prdF n l)) ∧ DcO (mpG gs) l S
def PrdP (C : Addr) (n : Nat) (gs : List Grp) : V → Hp → Prop := fun v S => ∃ l, PrdL C n gs l v S
instance {C : Addr} {n : Nat} {gs : List Grp} {l : Addr} : Mn (PrdL C n gs l) := ⟨fun s ⟨a, dx, e, h1, h2⟩ => ⟨a, dx, e, s _ _ h1, h2.up s⟩⟩
instance {C : Addr} {n : Nat} {gs : List Grp} : Mn (PrdP C n gs) := ⟨fun s ⟨l, h⟩ => ⟨l, Mn.up s h⟩⟩
theorem newR_prd {C : Addr} {n : Nat} {gs : List Grp} {S S' : Hp} {v : V} (h : NewR (PrdL C n gs) S v S') : PrdP C n gs v S' := let ⟨l, _, h⟩ := h; ⟨l, h⟩
def Fprd (C : Addr) : List PyData → (Addr → V → Hp → Prop) → Prop := fun ds R => ∃ n d gs, ds = [.int (n : Nat), d] ∧ (d = .list (gs.map pairD) ∨ d = .tuple (gs.map pairD)) ∧ PrOk n gs ∧ R = PrdL C n (norm gs)
theorem sc_Pinit : FnScope ["self", "width", "factors", "powers", "at", "factor", "exponent", "power"] ["self", "width", "factors"] (defScope sProduct____init__) := ⟨rfl, rfl, rfl, by decide +kernel, rfl, by decide +kernel, by decide +kernel⟩
/-- a thing that the heap did not know is told from now on -/
theorem GrI.frz {a d : Addr} {o : HO} {S H S1 H1 : Hp} (i : GrI a S H S1 H1) (s : S d = none) (hd : H d = none) (hn : d ≠ a) : GrI a S H (upd S1 d o) (upd H1 d o) := by
  refine ⟨fun z u e => ?_, fun z u e => ?_, fun z u n e => ?_, fun z u n e m => ?_⟩
  · rw [upd_ne (fun q => by rw [q, s] at e; cases e)]; exact i.st _ _ e
  · by_cases h : z = d
    · subst h; rw [upd_same] at e ⊢; exact e
    · rw [upd_ne h] at e ⊢; exact i.sub _ _ e
  · rw [upd_ne (fun q => by rw [q, hd] at e; cases e)]; exact i.hh _ _ n e
  · rw [upd_ne (fun q => by rw [q, hd] at e; cases e)]; exact i.old _ _ n e m
theorem ok_Pinit {C : Addr} {mc : Value} {t : Tok} {dV : V} (F : FunD K "__init__" "Product.__init__" (defArgs sProduct____init__) (defBody sProduct____init__) (defScope sProduct____init__) [dV] [] f fd) (D1 : KD P w K mg base "check_width" 2 (spD K FchkW)) (D2 : KD P w K mg base "is_number" 1 (spD K FisNumber)) (D3 : KD P w K mg base "is_exponent_schemas" 2 (spD K FisExp)) (c : Cls K C)
    (n1 : NoAttr K C "width") (n2 : NoAttr K C "_powers") (gS : mg "Product" = some (.ref C)) (cr : ClX.CRead K C mc) (cv : ClX.CVal K C mc "MOST" (.int 12) (.int 12 t)) (g1 : mg "len" = none) (g2 : mg "isinstance" = none) (g3 : mg "list" = none) (g4 : mg "tuple" = none) (g5 : mg "enumerate" = none) (g7 : mg "sorted" = none) :
    FnOk P w K mg base CX0 3 f fd ["self", "width", "factors"] (spI C K (Fprd C)) := by
  refine fn_hs F sc_Pinit (fun vs H Q E h => ?_) (fun cdv A outer sh H vs Q E hr h => ?_)
  · obtain ⟨S, a, dx, ws, ds, R, rfl, _, _, _, hd, ⟨_, _, _, rfl, _⟩, _⟩ := h
    have := hd.1
    simp at this
    simp [this]
  · obtain ⟨S, a, dx, ws, ds, R, rfl, s, hSa, hHa, hd, ⟨n, d, gs, rfl, hdd, ho, rfl⟩, q⟩ := h
    obtain ⟨vn, vg, rfl, p1, p2⟩ := hd.two
    obtain ⟨o1, o3, ol, o12, oall⟩ := ho
    have i0 := GrI.start (o := .ins C dx []) s hSa hHa
    refine hs_expr (ee_callD D1 hr ⟨(n : Int), rfl, rfl, by omega, by omega⟩ (ea_1 (ee_var 1 rfl (p1.up i0.st)))) i0.sub fun _ S1 H1 e1 _ => ?_
    have i1 := i0.step e1
    have a1 : S1 a = some (.ins C dx []) := e1.st _ _ upd_same
    have hlt : (isD d "list" || isD d "tuple") = true := by rcases hdd with rfl | rfl <;> rfl
    refine hs_ifN ((et_not (et_val (ee_isiLT rfl g2 g3 g4 (ee_var 2 rfl (p2.up i1.st))))).is (by rw [hlt]; rfl)) i1.sub fun S2 H2 e2 => ?_
    have i2 := i1.step e2
    have a2 := e2.st _ _ a1
    have p12 := p1.up i2.st
    have p22 := p2.up i2.st
    refine hs_dnew (j := 3) sc_Pinit.nd fun b hb => ?_
    refine hs_forH (Ps := Ds K (enumD (gs.map pairD))) PassesOwn.never rfl (by
      rcases hdd with rfl | rfl
      · exact ei_enumL g5 (ee_var 2 rfl p22)
      · exact ei_enumT g5 (ee_var 2 rfl p22)) (sub_new i2.sub hb) fun S3 H3 e3 => ?_
    have hS2b : S2 b = none := i2.sub.free hb
    have hS3b : S3 b = none := (e3.old b _ upd_same (by intro xs z; cases z)).trans hS2b
    have hH3b : H3 b = some (.dT (kvM [])) := e3.hh _ _ upd_same
    have p13 := p12.up e3.st
    refine ⟨fun i σ' H' => ∃ T x4 x5 x6 x7, σ' = [some (.ref a), some vn, some vg, some (.ref b), x4, x5, x6, x7] ∧ GrI b S3 H3 T H' ∧ T b = some (.dT (kvM (accF [] (gs.take i)))), ⟨_, none, none, none, none, rfl, GrI.start e3.sub hS3b hH3b, upd_same⟩, fun i σ' H' ⟨T, _, _, _, _, _, j, _⟩ => j.st.trans j.sub, ?_, ?_⟩
    · rintro i Pi σ1 H4 x H5 hP ⟨T, x4, x5, x6, x7, rfl, j, hT⟩ y
      obtain ⟨T5, e5, px⟩ := y T j.st j.sub
      have hi : i < gs.length := by
        have := (List.getElem?_eq_some_iff.mp hP).1
        rw [enum_len, List.length_map] at this; exact this
      have hz : (gs.map pairD)[i]? = some (pairD gs[i]) := by rw [List.getElem?_map, List.getElem?_eq_getElem hi]; rfl
      rw [ds_get (enum_get hz)] at hP
      obtain rfl := Option.some.inj hP
      obtain ⟨c1, clen, crng⟩ := oall gs[i] (List.getElem_mem hi)
      have hne : gs[i].2 ≠ [] := fun e => by rw [e] at clen; simp at clen; omega
      obtain ⟨u1, u2, k1, k2, hg⟩ := eg_pair (σ := [some (.ref a), some vn, some vg, some (.ref b), x4, x5, x6, x7]) (i := 4) (j := 5) (x := "at") (y := "factor") (kk := _) (px := _) (py := _) (pos := _) (X := (cxOf CX0 P w K mg base ["self", "width", "factors", "powers", "at", "factor", "exponent", "power"] "Product.__init__" (defScope sProduct____init__) f cdv A outer sh H E).nox) rfl sc_Pinit.nd rfl rfl (Or.inl rfl) (Or.inl rfl) px
      refine hg H5 e5.sub _ ?_
      have j5 := j.step e5
      refine hs_ifN ((et_w (ew_or (et_not (et_val (ee_isi (isD_ok (pairD gs[i]) (T := "tuple") (by simp)) g2 g4 boot_tuple (ee_var 5 rfl k2)))) fun _ => ew_or1 (et_neI (ee_len g1 (d := pairD gs[i]) (n := 2) rfl (ee_var 5 rfl k2)) ee_int))).is (by rfl)) j5.sub fun S6 H6 e6 => ?_
      have j6 := j5.step e6
      refine hs_unpack (i := 6) (j := 7) (d1 := tI gs[i].2) (d2 := .int gs[i].1) rfl sc_Pinit.nd (ee_var 5 rfl (k2.up e6.st)) j6.sub fun v w S7 H7 e7 pv pw => ?_
      have j7 := j6.step e7
      refine hs_ifN ((et_w (ew_or (et_not (et_val (ee_callD D3 hr ⟨tI gs[i].2, (n : Int), rfl, rfl⟩ (ea_2 (ee_var 6 rfl pv) (ee_var 1 rfl (p13.up j7.st)))))) fun _ => ew_or1 (et_not (et_val (ee_callD D2 (hr.mono (by decide)) ⟨.int gs[i].1, 1, rfl, rfl⟩ (ea_2 (ee_var 7 rfl pw) ee_int)))))).is ?bb) j7.sub fun S8 H8 e8 => ?_
      case bb => rw [exp_rule clen crng, isNum_t c1]; rfl
      have j8 := j7.step e8
      have hT8 : S8 b = some (.dT (kvM (accF [] (gs.take i)))) := e8.st _ _ (e7.st _ _ (e6.st _ _ (e5.st _ _ hT)))
      have hml : (accF [] (gs.take i)).length < 16777216 := by
        have h1 := accF_len (gs.take i) []
        have h2 : (gs.take i).length ≤ gs.length := by rw [List.length_take]; omega
        simp only [List.length_nil] at h1
        omega
      refine hs_dputS (r := b) (n := (getM (accF [] (gs.take i)) gs[i].2).getD 0 + gs[i].1) (k := gs[i].2) (m := accF [] (gs.take i)) (room_u1 hr) (ee_add (ee_dget2 (room_u1 hr) hT8 (ee_var 3 rfl rfl) (EE.ky (ee_var 6 rfl (pv.up e8.st)) hne) ee_int) (ee_var 7 rfl (pw.up e8.st))) (ee_var 3 rfl rfl) (EE.ky (ee_var 6 rfl (pv.up e8.st)) hne) j8.sub hT8 hml fun S9 H9 e9 => hs_nil ?_
      refine ⟨_, _, _, _, _, rfl, (j8.step e9).put hS3b, ?_⟩
      rw [take_snocG hi, accF_snoc]
      exact upd_same
    · rintro σ1 H4 ⟨T, x4, x5, x6, x7, rfl, j, hT⟩
      have hlen : (Ds K (enumD (gs.map pairD))).length = gs.length := by rw [enum_len, List.length_map]
      rw [hlen, List.take_length] at hT
      have i4 := i2.under hb (GrI.after e3 j hb hS2b)
      have a4 : T a = some (.ins C dx []) := j.st _ _ (e3.st _ _ a2)
      have hmem : ∀ r ∈ keysM (accF [] gs), r.length = n := fun r hr' => by
        rcases (accF_keys gs [] r).mp hr' with h | h
        · cases h
        · obtain ⟨g, hg, rfl⟩ := List.mem_map.mp h
          exact (oall g hg).2.1
      have hkl : (accF [] gs).length ≤ 12 := by
        have : (norm gs).length = (accF [] gs).length := by
          unfold norm rowsS srt accM
          rw [List.length_map, List.length_mergeSort]
          unfold keysM
          rw [List.length_map]
        omega
      refine hs_ifN ((et_gt (ee_dlen g1 hT (ee_var 3 rfl rfl)) (ee_cval (P := Dt K (.int 12)) gS cr cv (fun _ => .int 12))).is (by rw [decide_eq_false (by omega)])) i4.sub fun S5 H5 e5 => ?_
      have i5 := i4.step e5
      have a5 := e5.st _ _ a4
      have hT5 := e5.st _ _ hT
      refine hs_fld (P := Dt K (.int (n : Nat))) (r := a) (C := C) (dx := dx) (fs := []) (ee_var 1 rfl (p1.up i5.st)) i5.sub (fun S6 _ => ee_var 0 rfl rfl) (i5.sub _ _ a5) c n1 (by decide) fun v S6 H6 e6 pv e0 => ?_
      obtain rfl := pv.int_inv
      have a6 := e6.st _ _ a5
      have i6 := (i5.step e6).put (o := .ins C dx [("width", .int (n : Nat))]) hSa
      have hne : b ≠ a := fun e => by subst e; rw [a2] at hS2b; cases hS2b
      have hT6 : upd S6 a (.ins C dx [("width", .int (n : Nat))]) b = some (.dT (kvM (accF [] gs))) := by rw [upd_ne hne]; exact e6.st _ _ hT5
      refine hs_fld (P := NewM (upd S6 a (.ins C dx [("width", .int (n : Nat))])) (mpG (norm gs))) (r := a) (C := C) (dx := dx) (fs := [("width", .int (n : Nat))]) ?_ i6.sub (fun S7 _ => ee_var 0 rfl rfl) upd_same c n2 (show 1 < 1000 by decide) fun v S7 H7 e7 pv e0 => ?_
      · refine (ee_dcT (own := [("exponent", 6)]) (as := srt tI' (keysM (accF [] gs))) (enc := tI') (kf := fun r => r) (vf := fun r => totG gs r) (Nat.lt_of_succ_lt (room_u1 hr)) rfl sc_Pinit.nd (blkOk_by (N := ["self", "width", "factors", "powers", "at", "factor", "exponent", "power"]) (sc := defScope sProduct____init__) (by decide +kernel)) (ei_list (ee_sortDT rfl g7 (sortOk_rows (fun k hk e => by have := hmem k hk; rw [e] at this; simp at this; omega) (room_u8 hr)) (fun k hk => by rw [hmem k hk]; show _ ≤ 16777216; omega) hT6 (ee_var 3 rfl rfl))) (by unfold srt; rw [List.length_mergeSort]; unfold keysM; rw [List.length_map]; omega) ?_).imp fun v S' h => (show mkM ((srt tI' (keysM (accF [] gs))).map fun a => (a, totG gs a)) = mpG (norm gs) from mkM_norm gs) ▸ h
        intro r hr' v S8 s8 pv
        have hr2 := mem_srt.mp hr'
        have hne : r ≠ [] := fun e => by have := hmem r hr2; rw [e] at this; simp at this; omega
        obtain ⟨z, hz⟩ := getM_some hr2
        have hzt : z = totG gs r := by
          have := accF_get gs [] r
          rw [hz] at this
          simpa [getM] using this
        subst hzt
        refine ⟨_, wipe1, fun sh' H0 C' cl fp => ⟨eg_name (i := 6) sc_Pinit.nd rfl (Or.inl rfl), EE.ky (ee_var (P := Dt K (tI r)) 6 rfl pv) hne, ee_dix (room_u1 hr) (s8 _ _ hT6) hz (ee_var 3 rfl rfl) (EE.ky (ee_var (P := Dt K (tI r)) 6 rfl pv) hne)⟩⟩
      · obtain ⟨l, rfl, h0, hl1⟩ := pv
        have a7 := e7.st _ _ (upd_same (H := S6) (a := a) (o := .ins C dx [("width", .int (n : Nat))]))
        have i8 := (i6.step e7).put (o := .ins C dx (prdF n l)) hSa
        have lne : l ≠ a := fun e => by subst e; rw [upd_same] at h0; cases h0
        have hH6 : (upd H6 a (.ins C dx [("width", .int (n : Nat))])) l = none := gr_none e7 h0 hl1 (by intro xs z; cases z)
        have hHl : H l = none := by
          cases e : H l with
          | none => rfl
          | some u =>
            have := i6.hh l u lne e
            rw [hH6] at this; cases this
        have hl8 : (upd H7 a (.ins C dx (prdF n l))) l = some (.dT (kvM (mpG (norm gs)))) := by rw [upd_ne lne]; exact e7.sub _ _ hl1
        refine hs_freeze hl8 True.intro fun o => hs_nil ?_
        have i9 := GrI.frz (o := .frz o (.dT (kvM (mpG (norm gs))))) i8 (s.free hHl) hHl lne
        exact q l _ _ i9 (s.free hHl) ⟨a, dx, rfl, by rw [upd_ne (Ne.symm lne), upd_same], o, upd_same⟩
end
end K17
namespace K17
open PySem PySem.Spec PyProof.Rows L2 Z Y
section
variable {P : Program} {w : World} {K : PySem.W.Frag} {mg : Str → Option Value} {base : Heap} {f : Addr} {fd : FuncData}
/-! ## Product: what is read of it -/
section
variable {C : Addr} {n : Nat} {gs : List Grp}
theorem PrdP.ins : ∀ v S, PrdP C n gs v S → ∃ a dx fs, v = .ref a ∧ S a = some (.ins C dx fs) := fun v S ⟨l, a, dx, e, h, _⟩ => ⟨a, dx, _, e, h⟩
theorem PrdP.wid : ∀ v S1, PrdP C n gs v S1 → ∃ a dx fs u, v = .ref a ∧ S1 a = some (.ins C dx fs) ∧ fs.lookup ("width" : Str) = some u ∧ Dt K (.int (n : Nat)) u S1 := fun v S ⟨l, a, dx, e, h, _⟩ => ⟨a, dx, _, _, e, h, rfl, .int _⟩
theorem PrdP.pow : ∀ v S1, PrdP C n gs v S1 → ∃ a dx fs u, v = .ref a ∧ S1 a = some (.ins C dx fs) ∧ fs.lookup ("_powers" : Str) = some u ∧ DcV (mpG gs) u S1 := fun v S ⟨l, a, dx, e, h, h2⟩ => ⟨a, dx, _, _, e, h, rfl, l, rfl, h2⟩
theorem PrdP.insP {m : Str} (h : ∀ l, (prdF n l).lookup m = none := by intro _; rfl) : InsP C m (PrdP C n gs) := fun v S ⟨l, a, dx, e, q, _⟩ => ⟨a, dx, _, e, q, h l⟩
end
/-- Product is made -/
structure MkP (P : Program) (w : World) (K : PySem.W.Frag) (mg : Str → Option Value) (base : Heap) (C : Addr) : Prop where
  ex : ∃ fi fdi ps dv, Mk K C fi ∧ FnOk P w K mg base CX0 3 fi fdi ps (spI C K (Fprd C)) ∧ Binds K fdi ps [] ∧ (∃ us, Vals [dv] us ∧ Binds K fdi ps us) ∧ (∀ S, Dt K (.tuple []) dv S) ∧ ∃ g gV, KBn K fdi ps 1 ["factors", "width"] g gV ∧ ∀ s v w, gV [s] [v, w] = [s, w, v]
section
variable {X : Cx} {σ : L2.St} {S : Hp} {C : Addr} {a b : Expr} {p pos q1 q2 : Pos} {n : Nat} {d : PyData} {gs : List Grp}
theorem norm_nilP : norm [] = [] := List.eq_nil_of_length_eq_zero (by unfold norm rowsS srt; rw [List.length_map, List.length_mergeSort]; rfl)
theorem prOk_nil {n : Nat} (h1 : 1 ≤ n) (h3 : n ≤ 3) : PrOk n [] := ⟨h1, h3, by decide, by rw [norm_nilP]; decide, fun g hg => nomatch hg⟩
theorem ee_mkP1 (M : MkP X.prog X.w X.K X.mg X.base C) (hr : Room 4 X.A) (gS : X.mg "Product" = some (.ref C)) (h1 : 1 ≤ n) (h3 : n ≤ 3) (ha : EE X σ S a (Dt X.K (.int (n : Nat)))) (hg : Gl X "Product" := by rfl)
    (he : starEach [a] X.env = (false, eval a X.env) :: starEach [] X.env := by rfl) (hpl : (backTo pos (starEach [] X.env)).any (·.1) = false := by rfl) : EE X σ S (.Call (.Name "Product" p) [a] [] pos) (NewR (PrdL C n []) S) := by
  obtain ⟨fi, fdi, ps', dv, m, G, _, ⟨us, hu, b2⟩, hdv, _⟩ := M.ex
  exact ee_make (ds := [.int (n : Nat)]) (dd := [.tuple []]) m G hr gS b2 hu (fun S => Dts.cons (hdv S) .nil) (ea_1 ha he) ⟨n, .tuple [], [], rfl, .inr rfl, prOk_nil h1 h3, by rw [norm_nilP]⟩ hg (by decide) he hpl
end
/-! ### factors, power, in, len, bool, repr -/
/-! ### == -/
end
end K17
namespace K17
open PySem PySem.Spec PyProof.Rows L2 Z Y
section
variable {P : Program} {w : World} {K : PySem.W.Frag} {mg : Str → Option Value} {base : Heap} {f : Addr} {fd : FuncData}
/-! ### Product.worth refused -/
def GPwo (C CT : Addr) (K : PySem.W.Frag) (kW : EK) : List V → Hp → EK → PyData → Prop := fun vs S k g => ∃ n m gs hs v u, vs = [v, u] ∧ PrdP C n gs v S ∧ TabP K CT m hs u S ∧ n ≠ m ∧ k = kW ∧ g = .int (m : Nat)
theorem sc_PwoX : FnScope ["self", "table", "found", "exponent", "power"] ["self", "table"] (defScope sProduct__worth) := ⟨rfl, rfl, rfl, by decide +kernel, rfl, by decide +kernel, by decide +kernel⟩
theorem ok_PwoX {C CT : Addr} {kW : EK} (F : FnM K "worth" "Product.worth" sProduct__worth f fd) (RW : Err P w K mg base "WrongWidth" kW.C "width" kW.code) (hW : kW.fn = some "width") (c : Cls K C) (cT : Cls K CT) (n1 : NoAttr K C "width") (nT : NoAttr K CT "width") : FnOk P w K mg base (L2.CX P w) 3 f fd ["self", "table"] (spX K (GPwo C CT K kW)) := by
  refine fn_hsX F sc_PwoX (fun vs H Q E h => ?_) (fun cdv A outer sh H vs Q E hr h tk => ?_)
  · obtain ⟨S, k, g, _, ⟨n, m, gs, hs, v, u, rfl, _⟩, _⟩ := h
    rfl
  · obtain ⟨S, k, g, s, ⟨n, m, gs, hs, v, u, rfl, pv, pu, hne, rfl, rfl⟩, hx⟩ := h
    refine hs_ifT ((et_neI (ee_fld (ee_var 1 rfl pu) TabP.wid cT nT) (ee_fld (ee_var 0 rfl pv) PrdP.wid c n1)).is (by rw [decide_eq_false (by omega)]; rfl)) s fun S1 H1 e1 => ?_
    exact hs_raise1 rfl tk RW hW (by decide) (hr.mono (by decide)) (ee_fld (ee_var (P := TabP K CT m hs) 1 rfl (Mn.up e1.st pu)) TabP.wid cT nT) e1.sub (hx.up e1)
end
end K17
namespace K17
open PySem PySem.Spec PyProof.Rows L2 Z Y
section
variable {P : Program} {w : World} {K : PySem.W.Frag} {mg : Str → Option Value} {base : Heap} {f : Addr} {fd : FuncData}
/-! ## the numbers of the tables at their bounds -/
theorem nodup_len {α : Type} [DecidableEq α] : ∀ {L M : List α}, L.Nodup → (∀ x ∈ L, x ∈ M) → L.length ≤ M.length
  | [], _, _, _ => Nat.zero_le _
  | a :: L, M, hn, h => by
    have hn' := List.nodup_cons.mp hn
    have ha : a ∈ M := h a List.mem_cons_self
    have := nodup_len (L := L) (M := M.erase a) hn'.2 fun x hx => (List.mem_erase_of_ne fun e => hn'.1 (by rw [← e]; exact hx)).mpr (h x (List.mem_cons_of_mem _ hx))
    rw [List.length_erase_of_mem ha] at this
    have : 0 < M.length := List.length_pos_of_mem ha
    rw [List.length_cons]; omega
theorem norm_len_rows (gs : List Grp) : (norm gs).length = (rowsS gs).length := by rw [← norm_rows, List.length_map]
theorem len_ge {gs : List Grp} {L : List (List Int)} (nd : L.Nodup) (h : ∀ r ∈ L, r ∈ gs.map (·.2)) : L.length ≤ (norm gs).length := by
  rw [norm_len_rows]
  exact nodup_len nd fun r hr => mem_rowsS.mpr (h r hr)
theorem len_le {gs : List Grp} {L : List (List Int)} (h : ∀ r ∈ gs.map (·.2), r ∈ L) : (norm gs).length ≤ L.length := by
  rw [norm_len_rows]
  exact nodup_len (nodup_rowsS gs) fun r hr => h r (mem_rowsS.mp hr)
theorem mulG_row {gs hs : List Grp} {r : List Int} : r ∈ (mulG gs hs).map (·.2) ↔ ∃ a ∈ gs, ∃ b ∈ hs, r = (a.2.zip b.2).map fun p => p.1 * p.2 := by
  unfold mulG
  rw [List.map_flatMap, List.mem_flatMap]
  constructor
  · rintro ⟨a, ha, h⟩
    rw [List.map_map] at h
    obtain ⟨b, hb, rfl⟩ := List.mem_map.mp h
    exact ⟨a, ha, b, hb, rfl⟩
  · rintro ⟨a, ha, b, hb, rfl⟩
    exact ⟨a, ha, by rw [List.map_map]; exact List.mem_map.mpr ⟨b, hb, rfl⟩⟩
theorem mem_mulG {gs hs : List Grp} {g : Grp} : g ∈ mulG gs hs ↔ ∃ a ∈ gs, ∃ b ∈ hs, g = (a.1 * b.1, (a.2.zip b.2).map fun p => p.1 * p.2) := by
  unfold mulG
  rw [List.mem_flatMap]
  constructor
  · rintro ⟨a, ha, h⟩
    obtain ⟨b, hb, rfl⟩ := List.mem_map.mp h
    exact ⟨a, ha, b, hb, rfl⟩
  · rintro ⟨a, ha, b, hb, rfl⟩
    exact ⟨a, ha, List.mem_map.mpr ⟨b, hb, rfl⟩⟩
/-! ### powers of a table of one column and small rows -/
def Sml (gs : List Grp) : Prop := gs ≠ [] ∧ gs.length ≤ 3 ∧ ∀ g ∈ gs, g.1 = 1 ∧ ∃ x, g.2 = [x] ∧ 1 ≤ x ∧ x ≤ 5
def PwB (k : Nat) (gs : List Grp) : Prop := ∀ g ∈ gs, (1 ≤ g.1 ∧ g.1 ≤ ((300 ^ k : Nat) : Int)) ∧ ∃ x, g.2 = [x] ∧ 1 ≤ x ∧ x ≤ ((5 ^ k : Nat) : Int)
theorem pwb_mul {gs hs : List Grp} {k : Nat} (h : Sml gs) (hb : PwB k hs) : ∀ g ∈ mulG hs gs, (1 ≤ g.1 ∧ g.1 ≤ ((300 ^ k : Nat) : Int)) ∧ ∃ x, g.2 = [x] ∧ 1 ≤ x ∧ x ≤ ((5 ^ (k + 1) : Nat) : Int) := fun g hg => by
  obtain ⟨a, ha, b, hb', rfl⟩ := mem_mulG.mp hg
  obtain ⟨⟨a1, a2⟩, x, ax, x1, x2⟩ := hb a ha
  obtain ⟨b1, y, hy, y1, y2⟩ := h.2.2 b hb'
  refine ⟨?_, x * y, ?_, ?_, ?_⟩
  · show 1 ≤ a.1 * b.1 ∧ a.1 * b.1 ≤ _
    rw [b1, Int.mul_one]
    exact ⟨a1, a2⟩
  · show (a.2.zip b.2).map _ = _
    rw [ax, hy]; rfl
  · have := Int.mul_le_mul x1 y1 (by omega) (by omega)
    omega
  · have := Int.mul_le_mul x2 y2 (by omega) (by omega)
    refine Int.le_trans this ?_
    rw [Nat.pow_succ]
    exact Int.le_of_eq (by rw [Int.natCast_mul]; rfl)
theorem mulG_ne {gs hs : List Grp} (h1 : gs ≠ []) (h2 : hs ≠ []) : mulG gs hs ≠ [] := fun e => by
  have := mulG_len gs hs
  rw [e] at this
  have a := List.length_pos_iff.mpr h1
  have b := List.length_pos_iff.mpr h2
  have := Nat.mul_pos a b
  simp at *
  omega
theorem norm_ne {gs : List Grp} (h : gs ≠ []) : norm gs ≠ [] := fun e => by
  cases gs with
  | nil => exact h rfl
  | cons g gs =>
    have := (mem_norm_rows (gs := g :: gs) (r := g.2)).mpr (List.mem_map_of_mem List.mem_cons_self)
    rw [e] at this
    cases this
theorem toG_ne {n : Nat} {gs : List Grp} (h : gs ≠ []) : ∀ k, toG n gs k ≠ []
  | 0 => by simp [toG, unitG]
  | k + 1 => norm_ne (mulG_ne (toG_ne h k) h)
theorem pwb_norm {gs hs : List Grp} {k : Nat} (h : Sml gs) (hl : hs.length ≤ 100) (hb : PwB k hs) : PwB (k + 1) (norm (mulG hs gs)) := fun g hg => by
  have hm := pwb_mul h hb
  have hr : g.2 ∈ (mulG hs gs).map (·.2) := mem_norm_rows.mp (List.mem_map_of_mem hg)
  have e1 : g.1 = totG (mulG hs gs) g.2 := by
    unfold norm at hg
    obtain ⟨r, _, rfl⟩ := List.mem_map.mp hg
    rfl
  obtain ⟨g', hg', e⟩ := List.mem_map.mp hr
  have h4 := (hm g' hg').2
  rw [e] at h4
  refine ⟨⟨by rw [e1]; exact totG_pos (fun x hx => (hm x hx).1.1) hr, ?_⟩, h4⟩
  rw [e1]
  refine Int.le_trans (totG_le (B := 300 ^ k) (fun x hx => by have := (hm x hx).1; omega) g.2) ?_
  have : (mulG hs gs).length ≤ 300 := by
    rw [mulG_len]
    exact Nat.le_trans (Nat.mul_le_mul hl h.2.1) (by decide)
  have := Nat.mul_le_mul_right (300 ^ k) this
  rw [Nat.pow_succ]
  exact Int.ofNat_le.mpr (by omega)
theorem toB {gs : List Grp} (h : Sml gs) : ∀ k, (∀ j, j < k → (toG 1 gs j).length ≤ 100) → PwB k (toG 1 gs k)
  | 0, _ => fun g hg => by
    have : g = (1, [1]) := by simpa [toG, unitG] using hg
    subst this
    exact ⟨⟨by decide, by decide⟩, 1, rfl, by decide, by decide⟩
  | k + 1, hl => pwb_norm h (hl k (Nat.lt_succ_self k)) (toB h k fun j hj => hl j (Nat.lt_succ_of_lt hj))
theorem nat_lt {n : Int} {B : Nat} (h1 : 1 ≤ n) (h : n ≤ (B : Int)) (hB : B < 2 ^ 2000000) : n.natAbs < 2 ^ 2000000 := Nat.lt_of_le_of_lt (by omega) hB
theorem big (k : Nat) (hk : k ≤ 61) : 300 ^ k < 2 ^ 2000000 ∧ 5 ^ k < 2 ^ 2000000 := by
  have h9 : 300 ^ k ≤ (2 ^ 9) ^ k := Nat.pow_le_pow_left (by decide) k
  have h3 : 5 ^ k ≤ (2 ^ 9) ^ k := Nat.pow_le_pow_left (by decide) k
  have e : (2 ^ 9) ^ k = 2 ^ (9 * k) := (Nat.pow_mul 2 9 k).symm
  have lt : 2 ^ (9 * k) < 2 ^ 2000000 := Nat.pow_lt_pow_right (by decide) (by omega)
  rw [e] at h9 h3
  exact ⟨Nat.lt_of_le_of_lt h9 lt, Nat.lt_of_le_of_lt h3 lt⟩
theorem sml_w {gs : List Grp} (h : Sml gs) {k : Nat} (hk : k ≤ 60) (hl : ∀ j, j ≤ k → (toG 1 gs j).length ≤ 100) : WMul (toG 1 gs k) gs := by
  have hb := toB h k fun j hj => hl j (Nat.le_of_lt hj)
  obtain ⟨B1, B2⟩ := big k (by omega)
  refine ⟨hl k (Nat.le_refl k), by have := h.2.1; omega, fun g hg => ?_, fun a ha b hb' => ⟨?_, fun p hp => ?_⟩⟩
  · obtain ⟨x, e, _⟩ := (hb g hg).2
    rw [e]; exact (show 1 ≤ 3 by decide)
  · have ha' := (hb a ha).1
    have hb1 := (h.2.2 b hb').1
    exact mulx_ok (nat_lt ha'.1 ha'.2 B1) (by rw [hb1]; exact Nat.lt_of_le_of_lt (show (1 : Int).natAbs ≤ 300 ^ k from Nat.one_le_pow k 300 (by decide)) B1) (by decide)
  · obtain ⟨x, e, x1, x2⟩ := (hb a ha).2
    obtain ⟨_, y, e2, y1, y2⟩ := h.2.2 b hb'
    rw [e, e2] at hp
    have : p = (x, y) := by simpa using hp
    subst this
    exact mulx_ok (nat_lt x1 x2 B2) (nat_lt y1 (B := 5 ^ 1) y2 (big 1 (by decide)).2) (by decide)
theorem sml_grps {gs : List Grp} (h : Sml gs) {k : Nat} (hl : ∀ j, j ≤ k → (toG 1 gs j).length ≤ 100) : GrpsOk 1 (mulG (toG 1 gs k) gs) := fun g hg => by
  obtain ⟨⟨a, _⟩, x, e, x1, _⟩ := pwb_mul h (toB h k fun j hj => hl j (Nat.le_of_lt hj)) g hg
  exact ⟨a, by rw [e]; rfl, fun y hy => by rw [e] at hy; rw [List.mem_singleton.mp hy]; exact x1⟩
theorem sml_to {gs : List Grp} (h : Sml gs) {k : Nat} (hk : k ≤ 60) (hl : ∀ j, j ≤ k → (toG 1 gs j).length ≤ 100) : ToOk 1 gs k := by
  refine ⟨by decide, by decide, hk, fun j hj => ⟨⟨by decide, by decide, mulG_ne (toG_ne h.1 j) h.1, ?_, hl (j + 1) hj, sml_grps h fun i hi => hl i (by omega)⟩, sml_w h (by omega) fun i hi => hl i (by omega)⟩⟩
  rw [mulG_len]
  exact Nat.le_trans (Nat.mul_le_mul (hl j (by omega)) h.2.1) (by decide)
def three : List Grp := [(1, [2]), (1, [3]), (1, [5])]
def two : List Grp := [(1, [1]), (1, [2])]
theorem norm_two : norm two = two := norm_uniq (by rw [leR]; decide +kernel) (by decide +kernel) (fun r => Iff.rfl) (by decide +kernel)
theorem norm_three : norm three = three := norm_uniq (by rw [leR]; decide +kernel) (by decide +kernel) (fun r => Iff.rfl) (by decide +kernel)
theorem sml_two : Sml two := ⟨by decide, by decide, fun g hg => by
  simp only [two, List.mem_cons, List.not_mem_nil, or_false] at hg
  rcases hg with rfl | rfl <;> exact ⟨rfl, _, rfl, by decide, by decide⟩⟩
theorem sml_three : Sml three := ⟨by decide, by decide, fun g hg => by
  simp only [three, List.mem_cons, List.not_mem_nil, or_false] at hg
  rcases hg with rfl | rfl | rfl <;> exact ⟨rfl, _, rfl, by decide, by decide⟩⟩
/-- the rows of the powers of (1), (2) -/
theorem rows_two : ∀ k, ∀ r ∈ (toG 1 two k).map (·.2), ∃ i, i ≤ k ∧ r = [((2 ^ i : Nat) : Int)]
  | 0, r, hr => by
    have : r = [1] := by simpa [toG, unitG] using hr
    exact ⟨0, Nat.le_refl _, this⟩
  | k + 1, r, hr => by
    have hr := mem_norm_rows.mp hr
    obtain ⟨a, ha, b, hb, rfl⟩ := mulG_row.mp hr
    obtain ⟨i, hi, e⟩ := rows_two k a.2 (List.mem_map_of_mem ha)
    rw [e]
    simp only [two, List.mem_cons, List.not_mem_nil, or_false] at hb
    rcases hb with rfl | rfl
    · exact ⟨i, by omega, by simp⟩
    · exact ⟨i + 1, by omega, by simp [Int.pow_succ]⟩
theorem len_two (k : Nat) : (toG 1 two k).length ≤ k + 1 := by
  have e : toG 1 two k = norm (toG 1 two k) := by
    cases k with
    | zero => exact (norm_unit 1).symm
    | succ k => exact (norm_norm _).symm
  rw [e]
  refine Nat.le_trans (len_le (L := (List.range (k + 1)).map fun i => [((2 ^ i : Nat) : Int)]) fun r hr => ?_) (by rw [List.length_map, List.length_range]; exact Nat.le_refl _)
  obtain ⟨i, hi, rfl⟩ := rows_two k r hr
  exact List.mem_map.mpr ⟨i, List.mem_range.mpr (by omega), rfl⟩
theorem to_two : ToOk 1 two 60 := sml_to sml_two (by decide) fun j hj => Nat.le_trans (len_two j) (by omega)
/-- the rows of the powers of (2), (3), (5) -/
def triE (a b c : Nat) : List Int := [((2 ^ a * 3 ^ b * 5 ^ c : Nat) : Int)]
def triL (k : Nat) : List (List Int) := (List.range (k + 1)).flatMap fun a => (List.range (k + 1 - a)).map fun b => triE a b (k - a - b)
theorem mem_tri {k : Nat} {r : List Int} : r ∈ triL k ↔ ∃ a b c, a + b + c = k ∧ r = triE a b c := by
  unfold triL
  rw [List.mem_flatMap]
  constructor
  · rintro ⟨a, ha, h⟩
    obtain ⟨b, hb, rfl⟩ := List.mem_map.mp h
    rw [List.mem_range] at ha hb
    exact ⟨a, b, k - a - b, by omega, rfl⟩
  · rintro ⟨a, b, c, e, rfl⟩
    refine ⟨a, List.mem_range.mpr (by omega), List.mem_map.mpr ⟨b, List.mem_range.mpr (by omega), ?_⟩⟩
    rw [show k - a - b = c by omega]
theorem tri2 (a b c : Nat) : (((triE a b c).zip [(2 : Int)]).map fun p => p.1 * p.2) = triE (a + 1) b c := by
  unfold triE
  simp only [List.zip_cons_cons, List.zip_nil_right, List.map_cons, List.map_nil]
  congr 1
  rw [Nat.pow_succ]
  simp only [Int.natCast_mul]
  rw [show (((2 : Nat) : Int)) = 2 from rfl]
  ac_rfl
theorem tri3 (a b c : Nat) : (((triE a b c).zip [(3 : Int)]).map fun p => p.1 * p.2) = triE a (b + 1) c := by
  unfold triE
  simp only [List.zip_cons_cons, List.zip_nil_right, List.map_cons, List.map_nil]
  congr 1
  rw [Nat.pow_succ]
  simp only [Int.natCast_mul]
  rw [show (((3 : Nat) : Int)) = 3 from rfl]
  ac_rfl
theorem tri5 (a b c : Nat) : (((triE a b c).zip [(5 : Int)]).map fun p => p.1 * p.2) = triE a b (c + 1) := by
  unfold triE
  simp only [List.zip_cons_cons, List.zip_nil_right, List.map_cons, List.map_nil]
  congr 1
  rw [Nat.pow_succ]
  simp only [Int.natCast_mul]
  rw [show (((5 : Nat) : Int)) = 5 from rfl]
  ac_rfl
theorem rows_tri : ∀ k r, r ∈ (toG 1 three k).map (·.2) ↔ r ∈ triL k
  | 0, r => by
    have e : (toG 1 three 0).map (·.2) = [[1]] := rfl
    have e2 : triL 0 = [[1]] := by decide +kernel
    rw [e, e2]
  | k + 1, r => by
    show r ∈ (norm (mulG (toG 1 three k) three)).map (·.2) ↔ _
    rw [mem_norm_rows, mulG_row, mem_tri]
    constructor
    · rintro ⟨x, hx, b, hb, rfl⟩
      obtain ⟨a, b', c, e, e2⟩ := mem_tri.mp ((rows_tri k x.2).mp (List.mem_map_of_mem hx))
      rw [e2]
      simp only [three, List.mem_cons, List.not_mem_nil, or_false] at hb
      rcases hb with rfl | rfl | rfl
      · exact ⟨a + 1, b', c, by omega, tri2 a b' c⟩
      · exact ⟨a, b' + 1, c, by omega, tri3 a b' c⟩
      · exact ⟨a, b', c + 1, by omega, tri5 a b' c⟩
    · rintro ⟨a, b, c, e, rfl⟩
      have get : ∀ a b c, a + b + c = k → ∃ x ∈ toG 1 three k, x.2 = triE a b c := fun a b c e => by
        obtain ⟨x, hx, h⟩ := List.mem_map.mp ((rows_tri k (triE a b c)).mpr (mem_tri.mpr ⟨a, b, c, e, rfl⟩))
        exact ⟨x, hx, h⟩
      rcases Nat.eq_zero_or_pos a with ha | ha
      · rcases Nat.eq_zero_or_pos b with hb | hb
        · obtain ⟨x, hx, h⟩ := get a b (c - 1) (by omega)
          exact ⟨x, hx, (1, [5]), by simp [three], by rw [h, tri5, show c - 1 + 1 = c by omega]⟩
        · obtain ⟨x, hx, h⟩ := get a (b - 1) c (by omega)
          exact ⟨x, hx, (1, [3]), by simp [three], by rw [h, tri3, show b - 1 + 1 = b by omega]⟩
      · obtain ⟨x, hx, h⟩ := get (a - 1) b c (by omega)
        exact ⟨x, hx, (1, [2]), by simp [three], by rw [h, tri2, show a - 1 + 1 = a by omega]⟩
theorem to_norm (k : Nat) : norm (toG 1 three k) = toG 1 three k := by
  cases k with
  | zero => exact norm_unit 1
  | succ k => exact norm_norm _
theorem three_le (k : Nat) : (toG 1 three k).length ≤ (triL k).length := by
  rw [← to_norm k]
  exact len_le fun r hr => (rows_tri k r).mp hr
theorem three_ge {k : Nat} (nd : (triL k).Nodup) : (triL k).length ≤ (toG 1 three k).length := by
  rw [← to_norm k]
  exact len_ge nd fun r hr => (rows_tri k r).mpr hr
theorem triL_len : ∀ k, k ≤ 12 → (triL k).length ≤ 91 := by decide +kernel
theorem nd12 : (triL 12).Nodup := by decide +kernel
theorem nd13 : (triL 13).Nodup := by decide +kernel
theorem len_12 : (toG 1 three 12).length = 91 := Nat.le_antisymm (Nat.le_trans (three_le 12) (triL_len 12 (by decide))) (Nat.le_trans (by decide +kernel) (three_ge nd12))
theorem len_13 : 100 < (norm (mulG (toG 1 three 12) three)).length := Nat.lt_of_lt_of_le (by decide +kernel) (three_ge nd13)
theorem to_three : ToOk 1 three 12 := sml_to sml_three (by decide) fun j hj => Nat.le_trans (Nat.le_trans (three_le j) (triL_len j hj)) (by decide)
theorem three_w : WMul (toG 1 three 12) three := sml_w sml_three (by decide) fun j hj => Nat.le_trans (Nat.le_trans (three_le j) (triL_len j hj)) (by decide)
theorem three_g : GrpsOk 1 (mulG (toG 1 three 12) three) := sml_grps sml_three fun j hj => Nat.le_trans (Nat.le_trans (three_le j) (triL_len j hj)) (by decide)
/-! ### rows of one number each -/
def wG (f m : Nat) : List Grp := (List.range m).map fun i : Nat => ((1 : Int), [((f + 1 + i : Nat) : Int)])
theorem wg_mem {f m : Nat} {g : Grp} (h : g ∈ wG f m) : g.1 = 1 ∧ ∃ i : Nat, i < m ∧ g.2 = [((f + 1 + i : Nat) : Int)] := by
  unfold wG at h
  obtain ⟨i, hi, rfl⟩ := List.mem_map.mp h
  exact ⟨rfl, i, List.mem_range.mp hi, rfl⟩
theorem wg_len (f m : Nat) : (wG f m).length = m := by unfold wG; rw [List.length_map, List.length_range]
theorem wg_grps (f m : Nat) : GrpsOk 1 (wG f m) := fun g hg => by
  obtain ⟨h1, i, _, e⟩ := wg_mem hg
  exact ⟨by rw [h1]; decide, by rw [e]; rfl, fun x hx => by rw [e] at hx; rw [List.mem_singleton.mp hx]; omega⟩
theorem wg_rows (f m : Nat) (r : List Int) : r ∈ (wG f m).map (·.2) ↔ ∃ i : Nat, i < m ∧ r = [((f + 1 + i : Nat) : Int)] := by
  unfold wG
  rw [List.map_map, List.mem_map]
  constructor
  · rintro ⟨i, hi, rfl⟩; exact ⟨i, List.mem_range.mp hi, rfl⟩
  · rintro ⟨i, hi, rfl⟩; exact ⟨i, List.mem_range.mpr hi, rfl⟩
theorem wg_nodup (f m : Nat) : ((wG f m).map (·.2)).Nodup := by
  unfold wG
  rw [List.map_map]
  refine List.Pairwise.map _ (fun a b hab e => hab ?_) List.nodup_range
  have : (((f + 1 + a : Nat) : Int)) = ((f + 1 + b : Nat) : Int) := (List.cons.inj e).1
  omega
theorem wg_norm_len (f m : Nat) : (norm (wG f m)).length = m := by
  refine Nat.le_antisymm ?_ ?_
  · have := norm_len (wG f m); rw [wg_len] at this; exact this
  · have := len_ge (wg_nodup f m) fun r hr => hr
    rw [List.length_map, wg_len] at this
    exact this
theorem app_rows {gs hs : List Grp} {r : List Int} : r ∈ (gs ++ hs).map (·.2) ↔ r ∈ gs.map (·.2) ∨ r ∈ hs.map (·.2) := by rw [List.map_append, List.mem_append]
theorem len_100 : (norm (norm (wG 0 55) ++ norm (wG 45 55))).length = 100 := by
  have h : ∀ r, r ∈ (norm (wG 0 55) ++ norm (wG 45 55)).map (·.2) ↔ r ∈ (wG 0 100).map (·.2) := fun r => by
    rw [app_rows, mem_norm_rows, mem_norm_rows, wg_rows, wg_rows, wg_rows]
    constructor
    · rintro (⟨i, hi, rfl⟩ | ⟨i, hi, rfl⟩)
      · exact ⟨i, by omega, rfl⟩
      · exact ⟨45 + i, by omega, by congr 2; omega⟩
    · rintro ⟨i, hi, rfl⟩
      by_cases h : i < 55
      · exact .inl ⟨i, h, rfl⟩
      · exact .inr ⟨i - 45, by omega, by congr 2; omega⟩
  rw [norm_len_rows, rowsS_congr h, ← norm_len_rows, wg_norm_len]
theorem len_101 : 100 < (norm (norm (wG 0 55) ++ norm (wG 46 55))).length := by
  have h : ∀ r ∈ (wG 0 101).map (·.2), r ∈ (norm (wG 0 55) ++ norm (wG 46 55)).map (·.2) := fun r hr => by
    rw [app_rows, mem_norm_rows, mem_norm_rows, wg_rows, wg_rows]
    obtain ⟨i, hi, rfl⟩ := (wg_rows 0 101 r).mp hr
    by_cases h : i < 55
    · exact .inl ⟨i, h, rfl⟩
    · exact .inr ⟨i - 46, by omega, by congr 2; omega⟩
  have := len_ge (wg_nodup 0 101) h
  rw [List.length_map, wg_len] at this
  omega
def sqL : List (List Int) := ((List.range 55).map fun i : Nat => [((1 + i : Nat) : Int)]) ++ ((List.range 54).map fun i : Nat => [((55 * (2 + i) : Nat) : Int)])
theorem sq_nd : sqL.Nodup := by decide +kernel
theorem len_sq : 100 < (norm (mulG (norm (wG 0 55)) (norm (wG 0 55)))).length := by
  have row : ∀ i : Nat, i < 55 → ∃ g ∈ norm (wG 0 55), g.2 = [((1 + i : Nat) : Int)] := fun i hi => by
    have : [((1 + i : Nat) : Int)] ∈ (norm (wG 0 55)).map (·.2) := mem_norm_rows.mpr ((wg_rows 0 55 _).mpr ⟨i, hi, by rw [Nat.zero_add]⟩)
    obtain ⟨g, hg, e⟩ := List.mem_map.mp this
    exact ⟨g, hg, e⟩
  have h : ∀ r ∈ sqL, r ∈ (mulG (norm (wG 0 55)) (norm (wG 0 55))).map (·.2) := fun r hr => by
    rw [mulG_row]
    unfold sqL at hr
    rcases List.mem_append.mp hr with h | h
    · obtain ⟨i, hi, rfl⟩ := List.mem_map.mp h
      obtain ⟨a, ha, ea⟩ := row 0 (by decide)
      obtain ⟨b, hb, eb⟩ := row i (List.mem_range.mp hi)
      exact ⟨a, ha, b, hb, by rw [ea, eb]; simp⟩
    · obtain ⟨i, hi, rfl⟩ := List.mem_map.mp h
      obtain ⟨a, ha, ea⟩ := row 54 (by decide)
      obtain ⟨b, hb, eb⟩ := row (1 + i) (by have := List.mem_range.mp hi; omega)
      refine ⟨a, ha, b, hb, ?_⟩
      rw [ea, eb]
      simp only [List.zip_cons_cons, List.zip_nil_right, List.map_cons, List.map_nil]
      congr 1
      rw [Int.natCast_mul]
      congr 1
      omega
  exact Nat.lt_of_lt_of_le (by decide +kernel) (len_ge sq_nd h)
end
end K17
namespace K17
open PySem PySem.Spec PyProof.Rows L2 Z Y
section
variable {P : Program} {w : World} {K : PySem.W.Frag} {mg : Str → Option Value} {base : Heap} {f : Addr} {fd : FuncData}
/-! ## _law_kind, _law_same of things that are no data -/
theorem fn_or {CX : CXT} {k : Nat} {ps : List Str} {sp1 sp2 : Sp} (F1 : FnOk P w K mg base CX k f fd ps sp1) (F2 : FnOk P w K mg base CX k f fd ps sp2) : FnOk P w K mg base CX k f fd ps (fun vs H Q E => sp1 vs H Q E ∨ sp2 vs H Q E) :=
  ⟨fun vs H Q E h => h.elim (F1.len vs H Q E) (F2.len vs H Q E), fun A outer s H args us vs Q E hr he hb hv hs => hs.elim (F1.run A outer s H args us vs Q E hr he hb hv) (F2.run A outer s H args us vs Q E hr he hb hv)⟩
/-- a thing whose kind is n: a list, a tuple, or an object of an own class -/
def OthK (K : PySem.W.Frag) (n : Nat) (v : V) (S : Hp) : Prop := v ≠ .non ∧ (n = 4 ∨ n = 5 ∨ n = 6) ∧ ∃ t, (∀ H, Same S H → TyX K H v t) ∧ PySem.W.kitOne K t (.type "bool") = some false ∧ PySem.W.kitOne K t (.type "int") = some false ∧ PySem.W.kitOne K t (.type "str") = some false ∧ PySem.W.kitOne K t (.type "list") = some (decide (n = 4)) ∧ PySem.W.kitOne K t (.type "tuple") = some (decide (n = 5))
instance {K : PySem.W.Frag} {n : Nat} : Mn (OthK K n) := ⟨fun s ⟨a, b, t, c, d⟩ => ⟨a, b, t, fun H s2 => c H (s.trans s2), d⟩⟩
theorem oth_lst {K : PySem.W.Frag} {S : Hp} {l : Addr} {xs : List V} (h : S l = some (.lst xs)) : OthK K 4 (.ref l) S := ⟨(fun z => nomatch z), .inl rfl, .type "list", fun H s => .base (.lst (s _ _ h)), kit_ty (by decide +kernel), kit_ty (by decide +kernel), kit_ty (by decide +kernel), kit_ty (by decide +kernel), kit_ty (by decide +kernel)⟩
theorem oth_tup {K : PySem.W.Frag} {S : Hp} {l : Addr} {xs : List V} (h : S l = some (.tup xs)) : OthK K 5 (.ref l) S := ⟨(fun z => nomatch z), .inr (.inl rfl), .type "tuple", fun H s => .base (.tup (s _ _ h)), kit_ty (by decide +kernel), kit_ty (by decide +kernel), kit_ty (by decide +kernel), kit_ty (by decide +kernel), kit_ty (by decide +kernel)⟩
def mksO (n : Nat) : List Bool := [false, false, false, false] ++ [decide (n = 4), decide (n = 5), true]
def spKindO (K : PySem.W.Frag) : Sp := fun vs H Q _ => ∃ S n v, vs = [v] ∧ Same S H ∧ OthK K n v S ∧ ∀ u S1 H1, Gr S H S1 H1 → Dt K (.int (n : Nat)) u S1 → Q u H1
theorem kindO_E {K : PySem.W.Frag} {S : Hp} {n : Nat} : SpE (spKindO K) S [OthK K n] (Dt K (.int (n : Nat))) := fun vs S1 H1 st s al Q q => by
  obtain ⟨v, rfl, pv⟩ := al.one
  exact ⟨S1, n, v, rfl, s, pv, q⟩
theorem ok_L_kindO (F : FnT K "_law_kind" sL_kind f fd) (g1 : mg "isinstance" = none) (g2 : mg "bool" = none) (g3 : mg "int" = none) (g4 : mg "str" = none) (g5 : mg "list" = none) (g6 : mg "tuple" = none) : FnOk P w K mg base CX0 1 f fd ["_law_thing"] (spKindO K) := by
  refine fn_hs F scL_kind (fun vs H Q E h => ?_) (fun cdv A outer sh H vs Q E hr h => ?_)
  · obtain ⟨S, n, v, rfl, _⟩ := h
    rfl
  · obtain ⟨S, n, v, rfl, s, ⟨h0, hn, t, ht, k1, k2, k3, k4, k5⟩, q⟩ := h
    haveI : Mn (fun (u : V) (S' : Hp) => u = v ∧ Same S S') := ⟨fun s h => ⟨h.1, h.2.trans s⟩⟩
    have ty : ∀ {T : Str}, ∀ u S1 H1, Same S1 H1 → (u = v ∧ Same S S1) → TyX K H1 u t := fun u S1 H1 s1 h => by
      obtain ⟨rfl, s2⟩ := h
      exact ht _ (s2.trans s1)
    refine hs_set (i := 1) (ee_lst (ds := [.bool false, .bool false, .bool false, .bool false]) (ea_cons ((ee_isN (ee_var 0 rfl rfl)).isd (by rw [decide_eq_false h0])) (ea_cons (ee_isiB (k := false) g1 g2 boot_bool (ee_var (P := fun u S' => u = v ∧ Same S S') 0 rfl ⟨rfl, Same.refl _⟩) fun u S1 H1 s1 h => ⟨t, ty (T := "") u S1 H1 s1 h, k1⟩) (ea_cons (ee_isiB (k := false) g1 g3 boot_int (ee_var (P := fun u S' => u = v ∧ Same S S') 0 rfl ⟨rfl, Same.refl _⟩) fun u S1 H1 s1 h => ⟨t, ty (T := "") u S1 H1 s1 h, k2⟩) (ea_cons (ee_isiB (k := false) g1 g4 boot_str (ee_var (P := fun u S' => u = v ∧ Same S S') 0 rfl ⟨rfl, Same.refl _⟩) fun u S1 H1 s1 h => ⟨t, ty (T := "") u S1 H1 s1 h, k3⟩) ea_nil))))) s scL_kind.nd fun m1 S1 H1 gr1 pm1 => ?_
    refine hs_set (i := 1) (ee_catL (by show _ ≤ 16777216; exact Nat.le_of_ble_eq_true rfl) (ee_var 1 rfl pm1) (ee_lst (ds := [.bool (decide (n = 4)), .bool (decide (n = 5)), .bool true]) (ea_cons (ee_isiB (k := decide (n = 4)) g1 g5 boot_list (ee_var (P := fun u S' => u = v ∧ Same S S') 0 rfl ⟨rfl, gr1.st⟩) fun u S1 H1 s1 h => ⟨t, ty (T := "") u S1 H1 s1 h, k4⟩) (ea_cons (ee_isiB (k := decide (n = 5)) g1 g6 boot_tuple (ee_var (P := fun u S' => u = v ∧ Same S S') 0 rfl ⟨rfl, gr1.st⟩) fun u S1 H1 s1 h => ⟨t, ty (T := "") u S1 H1 s1 h, k5⟩) (ea_cons ee_bl ea_nil))))) gr1.sub scL_kind.nd fun m2 S2 H2 gr2 pm2 => ?_
    refine hs_ret (ee_indexT (bs := mksO n) (j := n) ?_ ?_ (ee_var 1 rfl pm2) ee_bl) gr2.sub fun v S3 H3 gr3 pv => q v S3 H3 (gr1.trans (gr2.trans gr3)) pv
    · rcases hn with rfl | rfl | rfl <;> rfl
    · rcases hn with rfl | rfl | rfl
      · intro m h
        match m, h with
        | 0, _ => rfl
        | 1, _ => rfl
        | 2, _ => rfl
        | 3, _ => rfl
        | m + 4, h => exact absurd h (by omega)
      · intro m h
        match m, h with
        | 0, _ => rfl
        | 1, _ => rfl
        | 2, _ => rfl
        | 3, _ => rfl
        | 4, _ => rfl
        | m + 5, h => exact absurd h (by omega)
      · intro m h
        match m, h with
        | 0, _ => rfl
        | 1, _ => rfl
        | 2, _ => rfl
        | 3, _ => rfl
        | 4, _ => rfl
        | 5, _ => rfl
        | m + 6, h => exact absurd h (by omega)
/-! ### same things: data, or as T says, or rows of such -/
def Sm (K : PySem.W.Frag) (T : V → V → Hp → Prop) : Nat → V → V → Hp → Prop
  | 0, v, u, S => (∃ d, Bd 0 d ∧ Dt K d v S ∧ Dt K d u S) ∨ T v u S
  | n + 1, v, u, S => (∃ d, Bd (n + 1) d ∧ Dt K d v S ∧ Dt K d u S) ∨ T v u S ∨ ∃ l m xs ys, v = .ref l ∧ u = .ref m ∧ xs.length ≤ 1000 ∧ Al2 (List.replicate xs.length (Sm K T n)) xs ys S ∧ ((S l = some (.lst xs) ∧ S m = some (.lst ys)) ∨ (S l = some (.tup xs) ∧ S m = some (.tup ys)))
theorem sm_up {K : PySem.W.Frag} {T : V → V → Hp → Prop} (hT : Mn2 T) : ∀ n, Mn2 (Sm K T n)
  | 0 => ⟨fun s h => by
    rcases h with ⟨d, a, b, c⟩ | h
    · exact .inl ⟨d, a, b.up s, c.up s⟩
    · exact .inr (hT.up s h)⟩
  | n + 1 => ⟨fun s h => by
    rcases h with ⟨d, a, b, c⟩ | h | ⟨l, m, xs, ys, a, b, c, d, e⟩
    · exact .inl ⟨d, a, b.up s, c.up s⟩
    · exact .inr (.inl (hT.up s h))
    · refine .inr (.inr ⟨l, m, xs, ys, a, b, c, al2_up (fun P hP => ?_) s d, e.elim (fun z => .inl ⟨s _ _ z.1, s _ _ z.2⟩) fun z => .inr ⟨s _ _ z.1, s _ _ z.2⟩⟩)
      rw [List.eq_of_mem_replicate hP]
      exact sm_up hT n⟩
theorem sm_dat {K : PySem.W.Frag} {T : V → V → Hp → Prop} {n : Nat} {v u : V} {S : Hp} {d : PyData} (hb : Bd n d) (h1 : Dt K d v S) (h2 : Dt K d u S) : Sm K T n v u S := by
  cases n with
  | zero => exact .inl ⟨d, hb, h1, h2⟩
  | succ n => exact .inl ⟨d, hb, h1, h2⟩
theorem sm_T {K : PySem.W.Frag} {T : V → V → Hp → Prop} {n : Nat} {v u : V} {S : Hp} (h : T v u S) : Sm K T n v u S := by
  cases n with
  | zero => exact .inr h
  | succ n => exact .inr (.inl h)
def spSm (K : PySem.W.Frag) (T : V → V → Hp → Prop) (n : Nat) : Sp := fun vs H Q _ => ∃ S v u, vs = [v, u] ∧ Same S H ∧ Sm K T n v u S ∧ ∀ r S1 H1, Gr S H S1 H1 → Dt K (.bool true) r S1 → Q r H1
theorem sm_E {K : PySem.W.Frag} {T : V → V → Hp → Prop} (hT : Mn2 T) {n : Nat} {S : Hp} {v u : V} (h : Sm K T n v u S) : SpE (spSm K T n) S [fun x _ => x = v, fun x _ => x = u] (Dt K (.bool true)) := fun vs S1 H1 st s al Q q => by
  obtain ⟨a, b, rfl, rfl, rfl⟩ := al.two
  exact ⟨S1, _, _, rfl, s, (sm_up hT n).up st h, q⟩
/-- both are tables with the same groups -/
def TT (K : PySem.W.Frag) (C : Addr) (v u : V) (S : Hp) : Prop := ∃ n gs, TabP K C n gs v S ∧ TabP K C n gs u S
instance tt_mn {K : PySem.W.Frag} {C : Addr} : Mn2 (TT K C) := ⟨fun s ⟨n, gs, a, b⟩ => ⟨n, gs, Mn.up s a, Mn.up s b⟩⟩
theorem notC_t {K : PySem.W.Frag} {C : Addr} {n : Nat} {gs : List Grp} : ∀ w S1, TabP K C n gs w S1 → NotC K C w S1 := fun w S1 h => by
  obtain ⟨a, dx, fs, rfl, e⟩ := TabP.ins w S1 h
  exact ⟨.inl ⟨a, dx, fs, rfl, e⟩⟩
/-- an object of C is none of the plain kinds -/
structure KitC (K : PySem.W.Frag) (C : Addr) : Prop where
  b : PySem.W.kitOne K (.ref C) (.type "bool") = some false
  i : PySem.W.kitOne K (.ref C) (.type "int") = some false
  s : PySem.W.kitOne K (.ref C) (.type "str") = some false
  l : PySem.W.kitOne K (.ref C) (.type "list") = some false
  t : PySem.W.kitOne K (.ref C) (.type "tuple") = some false
theorem oth_tab {K : PySem.W.Frag} {C : Addr} (c : Cls K C) (J : IsiC K C) (kc : KitC K C) {n : Nat} {gs : List Grp} {v : V} {S : Hp} (h : TabP K C n gs v S) : OthK K 6 v S := by
  obtain ⟨a, dx, fs, rfl, e⟩ := TabP.ins v S h
  exact ⟨(fun z => nomatch z), .inr (.inr rfl), .ref C, fun H s => .base (.ins (s _ _ e) c J.cls J.sp J.tk J.ob), kc.b, kc.i, kc.s, kc.l, kc.t⟩
theorem ok_L_sameV {C : Addr} (F : FnT K "_law_same" sL_same f fd) (hm : mg "_law_same" = some (.ref f)) (hb : Binds K fd ["_law_found", "_law_due"] []) (D0 : ∀ n, FnOk P w K mg base CX0 (n + 2) f fd ["_law_found", "_law_due"] (spD K (Fsame n))) (D1 : KD P w K mg base "_law_kind" 1 (spKindO K)) (De : KM P w K mg base C "__eq__" 1 (spEqT K C)) (c : Cls K C) (J : IsiC K C) (kc : KitC K C) (g1 : mg "len" = none) (g2 : mg "all" = none) (g3 : mg "zip" = none) : ∀ n : Nat, FnOk P w K mg base CX0 (n + 2) f fd ["_law_found", "_law_due"] (spSm K (TT K C) n) := by
  let N : List Str := ["_law_found", "_law_due", "_law_a", "_law_b"]
  have stepT : ∀ n : Nat, FnOk P w K mg base CX0 (n + 2) f fd ["_law_found", "_law_due"] (fun vs H Q _ => ∃ S v u, vs = [v, u] ∧ Same S H ∧ TT K C v u S ∧ ∀ r S1 H1, Gr S H S1 H1 → Dt K (.bool true) r S1 → Q r H1) := fun n => by
    refine fn_hs F scL_same (fun vs H Q E h => ?_) (fun cdv A outer sh H vs Q E hr h => ?_)
    · obtain ⟨S, v, u, rfl, _⟩ := h
      rfl
    · obtain ⟨S, v, u, rfl, s, ⟨m, gs, pv, pu⟩, q⟩ := h
      have ov : OthK K 6 v S := oth_tab c J kc pv
      have ou : OthK K 6 u S := oth_tab c J kc pu
      refine hs_ifN ((et_neI (ee_call D1 (hr.mono (by omega)) (ea_1 (ee_var 0 rfl ov)) kindO_E) (ee_call D1 (hr.mono (by omega)) (ea_1 (ee_var 1 rfl ou)) kindO_E)).is (by simp)) s fun S1 H1 g4 => ?_
      refine hs_ifN ((et_inT (ns := [4, 5]) (ee_call D1 (hr.mono (by omega)) (ea_1 (ee_var 1 rfl (Mn.up g4.st ou))) kindO_E) (ee_tup (ds := [.int 4, .int 5]) (ea_2 ee_int ee_int))).is (by decide)) g4.sub fun S2 H2 g5 => ?_
      have s2 := g4.st.trans g5.st
      refine hs_ret (ee_eqO (Pa := TabP K C m gs) (Pb := TabP K C m gs) (bo := true) De (hr.mono (by omega)) (ee_var 0 rfl (Mn.up s2 pv)) (ee_var 1 rfl (Mn.up s2 pu)) (fun w S1 h => TabP.ins w S1 h) notC_t (fun a b S3 H3 st s pa pb Q q => ⟨S3, a, b, _, rfl, s, ⟨m, gs, pa, .inl ⟨m, gs, pb, by simp⟩⟩, q⟩)) g5.sub fun r S3 H3 g6 pr => q r S3 H3 (g4.trans (g5.trans g6)) pr
  have stepL : ∀ n : Nat, FnOk P w K mg base CX0 (n + 2) f fd ["_law_found", "_law_due"] (spSm K (TT K C) n) → FnOk P w K mg base CX0 (n + 3) f fd ["_law_found", "_law_due"] (fun vs H Q _ => ∃ S v u, vs = [v, u] ∧ Same S H ∧ (∃ l m xs ys, v = .ref l ∧ u = .ref m ∧ xs.length ≤ 1000 ∧ Al2 (List.replicate xs.length (Sm K (TT K C) n)) xs ys S ∧ ((S l = some (.lst xs) ∧ S m = some (.lst ys)) ∨ (S l = some (.tup xs) ∧ S m = some (.tup ys)))) ∧ ∀ r S1 H1, Gr S H S1 H1 → Dt K (.bool true) r S1 → Q r H1) := fun n ih => by
    have D2 : KD P w K mg base "_law_same" (n + 2) (spSm K (TT K C) n) := ⟨f, fd, _, ih, hm, F.kp, hb⟩
    refine fn_hs F scL_same (fun vs H Q E h => ?_) (fun cdv A outer sh H vs Q E hr h => ?_)
    · obtain ⟨S, v, u, rfl, _⟩ := h
      rfl
    · obtain ⟨S, v, u, rfl, s, ⟨l, m, xs, ys, rfl, rfl, hz, al, hk⟩, q⟩ := h
      have hM : ∀ P ∈ List.replicate xs.length (Sm K (TT K C) n), Mn2 P := fun P hP => by rw [List.eq_of_mem_replicate hP]; exact sm_up tt_mn n
      have hly : ys.length = xs.length := by rw [(al2_len al).2, List.length_replicate]
      haveI : ∀ a : Addr, Mn (fun (w : V) (_ : Hp) => w = .ref a) := fun _ => ⟨fun _ h => h⟩
      haveI : ∀ (a : Addr) (o : HO), Mn (fun (w : V) (S' : Hp) => w = .ref a ∧ S' a = some o) := fun _ _ => ⟨fun s h => ⟨h.1, s _ _ h.2⟩⟩
      haveI : ∀ a : V, Mn (fun (w : V) (_ : Hp) => w = a) := fun _ => ⟨fun _ h => h⟩
      have alT : ((List.replicate xs.length true).all fun b => b) = true := by rw [List.all_eq_true]; exact fun b hb => List.eq_of_mem_replicate hb
      rcases hk with ⟨hl, hm'⟩ | ⟨hl, hm'⟩
      · have ov : OthK K 4 (.ref l) S := oth_lst hl
        have ou : OthK K 4 (.ref m) S := oth_lst hm'
        refine hs_ifN ((et_neI (ee_call D1 (hr.mono (by omega)) (ea_1 (ee_var 0 rfl ov)) kindO_E) (ee_call D1 (hr.mono (by omega)) (ea_1 (ee_var 1 rfl ou)) kindO_E)).is (by simp)) s fun S1 H1 g4 => ?_
        refine hs_ifT ((et_inT (ns := [4, 5]) (ee_call D1 (hr.mono (by omega)) (ea_1 (ee_var 1 rfl (Mn.up g4.st ou))) kindO_E) (ee_tup (ds := [.int 4, .int 5]) (ea_2 ee_int ee_int))).is (by decide)) g4.sub fun S2 H2 g5 => ?_
        have s2 := g4.st.trans g5.st
        have hl2 := s2 _ _ hl
        have hm2 := s2 _ _ hm'
        refine hs_ret ((ee_and (ee_eqI (ee_lenLP (Pa := fun w S' => w = .ref l ∧ S' l = some (.lst xs)) (n := xs.length) g1 (ee_var 0 rfl ⟨rfl, hl2⟩) fun v S1 h => ⟨l, xs, h.1, .inl h.2, rfl⟩) (ee_lenLP (Pa := fun w S' => w = .ref m ∧ S' m = some (.lst ys)) (n := xs.length) g1 (ee_var 1 rfl ⟨rfl, hm2⟩) fun v S1 h => ⟨m, ys, h.1, .inl h.2, hly⟩)) fun _ => ee_one (ee_all (bs := List.replicate xs.length true) rfl g2
          ((ee_lc2P (r := .bool true) (Rs := List.replicate xs.length (Sm K (TT K C) n)) (i := 2) (j := 3) rfl scL_same.nd (blkOk_by (N := ["_law_found", "_law_due", "_law_a", "_law_b"]) (sc := defScope sL_same) (by decide +kernel)) (ei_zipLP hM g3 hl2 hm2 (al2_up hM s2 al) (ee_var 0 rfl rfl) (ee_var 1 rfl rfl)) (by rw [List.length_replicate]; show _ ≤ 16777216; omega) ?el).isd (by rw [List.map_replicate, List.map_replicate])))).isd ?fin) g5.sub fun r S3 H3 g6 pr => q r S3 H3 (g4.trans (g5.trans g6)) pr
        case el =>
          intro P hP a b S' s' hp sh' H0 C' cl fp
          rw [List.eq_of_mem_replicate hP] at hp
          exact ee_call D2 (hr.mono (by omega)) (ea_2 (ee_var (P := fun x _ => x = a) 2 rfl rfl) (ee_var (P := fun x _ => x = b) 3 rfl rfl)) (sm_E tt_mn hp)
        case fin => rw [alT]; simp
      · have ov : OthK K 5 (.ref l) S := oth_tup hl
        have ou : OthK K 5 (.ref m) S := oth_tup hm'
        refine hs_ifN ((et_neI (ee_call D1 (hr.mono (by omega)) (ea_1 (ee_var 0 rfl ov)) kindO_E) (ee_call D1 (hr.mono (by omega)) (ea_1 (ee_var 1 rfl ou)) kindO_E)).is (by simp)) s fun S1 H1 g4 => ?_
        refine hs_ifT ((et_inT (ns := [4, 5]) (ee_call D1 (hr.mono (by omega)) (ea_1 (ee_var 1 rfl (Mn.up g4.st ou))) kindO_E) (ee_tup (ds := [.int 4, .int 5]) (ea_2 ee_int ee_int))).is (by decide)) g4.sub fun S2 H2 g5 => ?_
        have s2 := g4.st.trans g5.st
        have hl2 := s2 _ _ hl
        have hm2 := s2 _ _ hm'
        refine hs_ret ((ee_and (ee_eqI (ee_lenLP (Pa := fun w S' => w = .ref l ∧ S' l = some (.tup xs)) (n := xs.length) g1 (ee_var 0 rfl ⟨rfl, hl2⟩) fun v S1 h => ⟨l, xs, h.1, .inr h.2, rfl⟩) (ee_lenLP (Pa := fun w S' => w = .ref m ∧ S' m = some (.tup ys)) (n := xs.length) g1 (ee_var 1 rfl ⟨rfl, hm2⟩) fun v S1 h => ⟨m, ys, h.1, .inr h.2, hly⟩)) fun _ => ee_one (ee_all (bs := List.replicate xs.length true) rfl g2
          ((ee_lc2P (r := .bool true) (Rs := List.replicate xs.length (Sm K (TT K C) n)) (i := 2) (j := 3) rfl scL_same.nd (blkOk_by (N := ["_law_found", "_law_due", "_law_a", "_law_b"]) (sc := defScope sL_same) (by decide +kernel)) (ei_zipTP hM g3 hl2 hm2 (al2_up hM s2 al) (ee_var 0 rfl rfl) (ee_var 1 rfl rfl)) (by rw [List.length_replicate]; show _ ≤ 16777216; omega) ?el).isd (by rw [List.map_replicate, List.map_replicate])))).isd ?fin) g5.sub fun r S3 H3 g6 pr => q r S3 H3 (g4.trans (g5.trans g6)) pr
        case el =>
          intro P hP a b S' s' hp sh' H0 C' cl fp
          rw [List.eq_of_mem_replicate hP] at hp
          exact ee_call D2 (hr.mono (by omega)) (ea_2 (ee_var (P := fun x _ => x = a) 2 rfl rfl) (ee_var (P := fun x _ => x = b) 3 rfl rfl)) (sm_E tt_mn hp)
        case fin => rw [alT]; simp
  intro n
  induction n with
  | zero =>
    refine (fn_or (D0 0) (stepT 0)).imp fun vs H Q E hh => ?_
    obtain ⟨S, v, u, e, s, h, q⟩ := hh
    rcases h with ⟨d, hb', h1, h2⟩ | h
    · exact .inl ⟨S, [d, d], .bool true, s, by subst e; exact Dts.cons h1 (Dts.cons h2 .nil), ⟨d, rfl, hb', rfl⟩, q⟩
    · exact .inr ⟨S, v, u, e, s, h, q⟩
  | succ n ih =>
    refine (fn_or (fn_or (D0 (n + 1)) (stepT (n + 1))) (stepL n ih)).imp fun vs H Q E hh => ?_
    obtain ⟨S, v, u, e, s, h, q⟩ := hh
    rcases h with ⟨d, hb', h1, h2⟩ | h | h
    · exact .inl (.inl ⟨S, [d, d], .bool true, s, by subst e; exact Dts.cons h1 (Dts.cons h2 .nil), ⟨d, rfl, hb', rfl⟩, q⟩)
    · exact .inl (.inr ⟨S, v, u, e, s, h, q⟩)
    · exact .inr ⟨S, v, u, e, s, h, q⟩
/-! ## _law_try, _law_tries: answers need not be data -/
theorem ok_law_tryV {C1 C2 C3 : Addr} {k : Nat} (F : FnT K "_law_try" sL_try f fd) (D1 : ∃ f fd, FnP P w K mg base 1 f fd ["_law_e"] (spFieldG K [.ref C1, .ref C2, .ref C3]) ∧ mg "_law_field" = some (.ref f) ∧ PySem.W.keepIn K (.ref f) = true ∧ Binds K fd ["_law_e"] [])
    (m1 : mg "DealError" = some (.ref C1)) (m2 : mg "Missing" = some (.ref C2)) (m3 : mg "NothingLeft" = some (.ref C3)) (hk : 1 ≤ k) : FnOk P w K mg base CX0 (k + 1) f fd ["_law_ask"] (spTryV P w K mg base [.ref C1, .ref C2, .ref C3] k) := by
  refine fn_hs F sc_law_try (fun vs H Q E h => ?_) (fun cdv A outer sh H vs Q E hr h => ?_)
  · obtain ⟨S, f', F', fr, dvs, ws, L, sp, R, O, _, rfl, _⟩ := h
    rfl
  · obtain ⟨S, f', F', fr, dvs, ws, L, sp, R, O, hRb, rfl, LO, KH, s, hok, hR, q⟩ := h
    obtain ⟨fF, fdF, FP, hmF, hkF, hbF⟩ := D1
    refine hs_tryAs (Wout := fun _ _ _ _ => False) (i := 1) (n := "_law_e") rfl rfl (show (["_law_ask", "_law_e"] : List Str).Nodup by decide) rfl rfl LamX.takes0 fun pn xe tk _ => ?_
    refine hs_cons (ps_ret (pe_tup (pa_cons (te := tC (.str "")) pe_str (pa_cons (te := bE _ _) peb pa_nil)))) ?_
    refine he_callLam (i := 0) (E := fun cls d H' => ∀ σ', WAs _ _ 1 _ (fun _ _ _ _ => False) _ cls d σ' H') tk (fun cls d σ' H' h => h σ') LO hr rfl KH (hR _ _ (fun v S1 H1 g1 pv hL => ?_) fun e g ho => ?_) rfl (Or.inl rfl)
    · -- a value
      have g2 : Gr S H S1 (shownL H1 L) := Y.Gr.shownL g1 hL KH.shw KH.nd
      refine ⟨by show 2 ≤ 16777216; omega, fun p hp => ?_⟩
      exact q _ _ _ (g2.trans (Gr.new g2.sub hp)) (.inl ⟨_, v, rfl, upd_same, hRb.rb (les_same (Same.new (g2.sub.free hp))) pv⟩)
    · intro d fs S3 H3 g1 hd hxd hcode hnone hat hL σ' hlen
      have ok := hok e g ho
      have g2 : Gr S H S3 (shownL H3 L) := Y.Gr.shownL g1 hL KH.shw KH.nd
      refine ⟨true, tst3 ⟨rfl, by decide, .inl m1⟩ ⟨rfl, by decide, .inl m2⟩ ⟨rfl, by decide, .inl m3⟩ ok.ex, fun _ a oe pn na nb hz hf => ?_, fun z => nomatch z⟩
      have px : ExcG K e g (a, oe) S3 := ⟨d, fs, hz.1, hz.2, hf, hxd, hcode, hnone, hat⟩
      have hσ : (σ'.set 1 (some (V.ref a)))[1]? = some (some (V.ref a)) := by
        have z : σ'.length = 2 := hlen
        rw [List.getElem?_set_self (by omega)]
      refine hs_cons (ps_ret (pe_tup (pa_cons (te := bE _ _) peb (pa_cons (te := bE _ _) peb pa_nil)))) ?_
      refine (ee_codeG (p := (a, oe)) List.mem_cons_self px ok (ee_var (P := fun w _ => w = .ref a) 1 hσ rfl)) _ g2.sub _ fun x S4 H4 g4 px4 => ?_
      cases px4
      refine he_callP FP ⟨(L2H.roomH_of (hr.mono hk)).dp, (L2H.roomH_of (hr.mono hk)).un⟩ hmF hkF hbF (he_of (pv 1 rfl (Or.inl rfl) (by decide) (by decide)) ⟨.ref a, hσ, rfl, rfl⟩) ⟨S4, e, g, g4.sub, rfl, ok, px.up g4.st, fun v S5 H5 g5 pv5 => ⟨by show 2 ≤ 16777216; omega, fun p hp => ?_⟩⟩
      refine q _ _ _ (((g2.trans g4).trans g5).trans (Gr.new g5.sub hp)) (.inr ⟨e, g, ho, Dt.tup_mk (tus_of upd_same) (al_dts (ds := [.str e.code, g]) (.cons (.str _) (.cons (pv5.up (Same.new (g5.sub.free hp))) .nil))) (by show 2 ≤ 16777216; omega)⟩)
theorem ok_law_triesV {tup : List Value} {k : Nat} (F : FnT K "_law_tries" sL_tries f fd) (D1 : KD P w K mg base "_law_try" (k + 1) (spTryV P w K mg base tup k)) : FnOk P w K mg base CX0 (k + 3) f fd ["_law_asks"] (spTriesV P w K mg base tup k) := by
  refine fn_hs F sc_law_tries (fun vs H Q E h => ?_) (fun cdv A outer sh H vs Q E hr h => ?_)
  · obtain ⟨S, its, l, _, rfl, _⟩ := h
    rfl
  · obtain ⟨S, its, l, s, rfl, hl, hz, q⟩ := h
    refine hs_ret (ee_lcB (R := AskJV) (ds := its) (own := [("_law_ask", 1)]) (G := fun it => RtV K it.R it.O) (fun it _ => (rtv_rb it.rb).mn) rfl sc_law_tries.nd (blkOk_by (N := ["_law_asks", "_law_ask"]) (sc := defScope sL_tries) (by decide +kernel)) (ei_lstP (fun P hP => ?_) (ee_var 0 rfl hl)) (Nat.le_trans hz (by show 1000 ≤ 16777216; omega)) fun it _ v S' s' pv => ⟨_, wipe1, fun sh' H0 C' cl fp => ⟨eg_name (i := 1) sc_law_tries.nd rfl (by first | exact Or.inl rfl | exact Or.inr rfl) (by first | exact .inl rfl | exact .inr rfl), ets_nil, ?_⟩⟩) s fun u S1 H1 g h => ?_
    · obtain ⟨it, _, rfl⟩ := List.mem_map.mp hP
      exact askMnV
    · haveI := (rtv_rb (K := K) (O := it.O) it.rb).mn
      exact ee_call D1 (hr.mono (by omega)) (ea_1 (ee_var 1 rfl pv)) (tryV_E it)
    · exact q u S1 H1 g h
end
end K17
namespace K17
open PySem PySem.Spec PyProof.Rows L2 Z Y LamX NdefX
section
variable {P : Program} {w : World} {K : PySem.W.Frag} {mg : Str → Option Value} {base : Heap} {f : Addr} {fd : FuncData}
/-! ## what is wrong -/
theorem tI_rep (n : Nat) (c : Int) : tI (List.replicate n c) = .tuple (List.replicate n (.int c)) := by
  show PyData.tuple ((List.replicate n c).map .int) = _
  rw [List.map_replicate]
theorem dir_len {n : Nat} {l : List PyData} (h : l.length ≠ n) : isDir (.tuple l) (n : Nat) = false := by
  show (decide ((l.length : Int) = n) && _) = false
  rw [decide_eq_false (by omega)]; rfl
theorem dir_rep {n : Nat} (n1 : 1 ≤ n) {d : PyData} (h : isNum d 0 = false) : isDir (.tuple (List.replicate n d)) (n : Nat) = false := by
  show (decide (((List.replicate n d).length : Int) = n) && (List.replicate n d).all fun x => isNum x 0) = false
  obtain ⟨m, rfl⟩ : ∃ m, n = m + 1 := ⟨n - 1, by omega⟩
  rw [List.replicate_succ, List.all_cons, h]
  simp
theorem pos_rep {n : Nat} (n1 : 1 ≤ n) {d : PyData} (h : posD d = false) : posR (.tuple (List.replicate n d)) = false := by
  show (List.replicate n d).all posD = false
  obtain ⟨m, rfl⟩ : ∃ m, n = m + 1 := ⟨n - 1, by omega⟩
  rw [List.replicate_succ, List.all_cons, h]; rfl
/-- a wrong group -/
def wrongs (n : Nat) (es : List Int) : List PyData := [.none, tI es, .tuple [tI es], .tuple [.int 0, tI es], .tuple [.bool true, tI es], .tuple [.str "1", tI es], .list [.int 1, tI es], .tuple [.int 1, tI es, .int 1], .tuple [.int 1, .list (es.map .int)], .tuple [.int 1, tI (es ++ [1])], .tuple [.int 1, tI (es.drop 1)],
  .tuple [.int 1, tI (List.replicate n 0)], .tuple [.int 1, .tuple (List.replicate n (.bool true))], .tuple [.int (-1), tI es], .int 5, .tuple [.int 1, .tuple (List.replicate n (.str "1"))]]
theorem wrong_grp {n : Nat} {es : List Int} (n1 : 1 ≤ n) (h1 : es.length = n) {d : PyData} (h : d ∈ wrongs n es) : isGrp n d = false := by
  unfold wrongs at h
  simp only [List.mem_cons, List.not_mem_nil, or_false] at h
  have nd : ∀ r : PyData, isDir r (n : Nat) = false → isGrp n (.tuple [.int 1, r]) = false := fun r hr => by
    show (isNum (.int 1) 1 && (isDir r (n : Nat) && posR r)) = false
    rw [hr]; rfl
  have nc : ∀ c r : PyData, isNum c 1 = false → isGrp n (.tuple [c, r]) = false := fun c r hc => by
    show (isNum c 1 && (isDir r (n : Nat) && posR r)) = false
    rw [hc]; rfl
  rcases h with rfl | rfl | rfl | rfl | rfl | rfl | rfl | rfl | rfl | rfl | rfl | rfl | rfl | rfl | rfl | rfl
  · rfl
  · show isGrp n (.tuple (es.map .int)) = false
    match es with
    | [] => rfl
    | [_] => rfl
    | [a, b] => show (isNum (.int a) 1 && (isDir (.int b) (n : Nat) && posR (.int b))) = false; simp [isDir]
    | _ :: _ :: _ :: _ => rfl
  · rfl
  · exact nc _ _ rfl
  · exact nc _ _ rfl
  · exact nc _ _ rfl
  · rfl
  · rfl
  · exact nd _ rfl
  · exact nd _ (dir_len (by rw [List.length_map, List.length_append]; show es.length + 1 ≠ n; omega))
  · exact nd _ (dir_len (by rw [List.length_map, List.length_drop]; omega))
  · show (isNum (.int 1) 1 && (isDir (tI (List.replicate n 0)) (n : Nat) && posR (tI (List.replicate n 0)))) = false
    rw [tI_rep, pos_rep n1 rfl, Bool.and_false, Bool.and_false]
  · exact nd _ (dir_rep n1 rfl)
  · exact nc _ _ rfl
  · rfl
  · exact nd _ (dir_rep n1 rfl)
/-- a wrong power group -/
def lines (n : Nat) (es : List Int) : List PyData := [.none, .tuple [.int 0], .tuple [.int (-1), tI es], .tuple [.bool true, tI es], .tuple [.int 0, .list (es.map .int)], .tuple [.int 0, tI (es ++ [0])], .tuple [.int 0, tI (List.replicate n (-1))], .list [.int 0, tI es]]
theorem line_pg {n : Nat} {es : List Int} (n1 : 1 ≤ n) (h1 : es.length = n) {d : PyData} (h : d ∈ lines n es) : isPg d (n : Nat) = false := by
  unfold lines at h
  simp only [List.mem_cons, List.not_mem_nil, or_false] at h
  have nd : ∀ r : PyData, isDir r (n : Nat) = false → isPg (.tuple [.int 0, r]) (n : Nat) = false := fun r hr => by
    show (isNum (.int 0) 0 && isDir r (n : Nat)) = false
    rw [hr]; rfl
  have nc : ∀ c r : PyData, isNum c 0 = false → isPg (.tuple [c, r]) (n : Nat) = false := fun c r hc => by
    show (isNum c 0 && isDir r (n : Nat)) = false
    rw [hc]; rfl
  rcases h with rfl | rfl | rfl | rfl | rfl | rfl | rfl | rfl
  · rfl
  · rfl
  · exact nc _ _ rfl
  · exact nc _ _ rfl
  · exact nd _ rfl
  · exact nd _ (dir_len (by rw [List.length_map, List.length_append]; show es.length + 1 ≠ n; omega))
  · exact nd _ (by rw [tI_rep]; exact dir_rep n1 rfl)
  · rfl
def fars : List PyData := [.int 0, .int 4, .int (-1), .bool true, .none, .str "1"]
theorem far_w {d : PyData} (h : d ∈ fars) : isW d = false := by
  have key : (fars.all fun d => !isW d) = true := by decide +kernel
  have := List.all_eq_true.mp key d h
  simpa using this
def sizes : List PyData := [.int 0, .int (-1), .bool true, .none, .str "2"]
theorem size_n {d : PyData} (h : d ∈ sizes) : isNum d 1 = false := by
  have key : (sizes.all fun d => !isNum d 1) = true := by decide +kernel
  have := List.all_eq_true.mp key d h
  simpa using this
def highs : List PyData := [.int (-1), .int 61, .bool true, .none, .str "2"]
theorem high_p {d : PyData} (h : d ∈ highs) : isP d = false := by
  have key : (highs.all fun d => !isP d) = true := by decide +kernel
  have := List.all_eq_true.mp key d h
  simpa using this
def nones : List PyData := [.none, .list [], .tuple [], .int 3, .str "x"]
theorem none_lt {d : PyData} (h : d ∈ nones) : noLT d := by
  simp only [nones, List.mem_cons, List.not_mem_nil, or_false] at h
  rcases h with rfl | rfl | rfl | rfl | rfl
  · exact .inl rfl
  · exact .inr (.inl rfl)
  · exact .inr (.inr rfl)
  · exact .inl rfl
  · exact .inl rfl
def odds (n : Nat) : List PyData := [tI (List.replicate n 7), tI (List.replicate (n + 1) 0)]
theorem odd_exp {n : Nat} (n1 : 1 ≤ n) (n3 : n ≤ 3) {d : PyData} (h : d ∈ oddL ++ odds n) : isExp d (n : Nat) = false := by
  have key : ∀ m : Nat, m ≤ 3 → 1 ≤ m → ((oddL ++ odds m).all fun d => !isExp d (m : Nat)) = true := by decide +kernel
  have := List.all_eq_true.mp (key n n3 n1) d h
  simpa using this
/-! ### not deep -/
def bd1 (d : PyData) : Bool := match d with
  | .none => true
  | .bool _ => true
  | .int _ => true
  | .str _ => true
  | .list l => l.all fun x => match x with
    | .none => true
    | .bool _ => true
    | .int _ => true
    | .str _ => true
    | _ => false
  | .tuple l => l.all fun x => match x with
    | .none => true
    | .bool _ => true
    | .int _ => true
    | .str _ => true
    | _ => false
  | .dict _ => false
theorem bd1_ok {d : PyData} (h : bd1 d = true) : Bd 1 d := by
  cases d with
  | none => trivial
  | bool b => trivial
  | int i => trivial
  | str x => trivial
  | list l =>
    intro x hx
    have := List.all_eq_true.mp h x hx
    cases x <;> first | trivial | (simp at this)
  | tuple l =>
    intro x hx
    have := List.all_eq_true.mp h x hx
    cases x <;> first | trivial | (simp at this)
  | dict l => simp [bd1] at h
theorem bd1_all {L : List PyData} (h : L.all bd1 = true) {d : PyData} (hd : d ∈ L) : Bd 1 d := bd1_ok (List.all_eq_true.mp h d hd)
theorem odds_bd {n : Nat} (n3 : n ≤ 3) {d : PyData} (h : d ∈ oddL ++ odds n) : Bd 1 d := by
  have key : ∀ m : Nat, m ≤ 3 → (oddL ++ odds m).all bd1 = true := by decide +kernel
  exact bd1_all (key n n3) h
theorem pair_bd {c : Str} {g : PyData} (h : Bd 1 g) : Bd 2 (.tuple [.str c, g]) := fun y hy => by
  simp only [List.mem_cons, List.not_mem_nil, or_false] at hy
  rcases hy with rfl | rfl
  · trivial
  · exact h
theorem bd_list {L : List PyData} (h : ∀ d ∈ L, Bd 2 d) : Bd 3 (.list L) := h
/-! ### cuts -/
theorem cut_to {α : Type} (xs : List α) {i : Nat} (h : i ≤ xs.length) : Z.cutD xs none (some (i : Int)) = xs.take i := by
  unfold Z.cutD
  have e1 : HT.sIx xs.length 0 none = 0 := rfl
  have e2 : HT.sIx xs.length xs.length (some (i : Int)) = i := by
    show (if (i : Int) < 0 then ((i : Int) + xs.length).toNat else min (i : Int).toNat xs.length) = i
    rw [if_neg (by omega)]; omega
  rw [e1, e2]; simp
theorem cut_from {α : Type} (xs : List α) {i : Nat} (h : i ≤ xs.length) : Z.cutD xs (some (i : Int)) none = xs.drop i := by
  unfold Z.cutD
  have e1 : HT.sIx xs.length 0 (some (i : Int)) = i := by
    show (if (i : Int) < 0 then ((i : Int) + xs.length).toNat else min (i : Int).toNat xs.length) = i
    rw [if_neg (by omega)]; omega
  have e2 : HT.sIx xs.length xs.length none = xs.length := rfl
  rw [e1, e2, List.take_of_length_le (by rw [List.length_drop]; exact Nat.le_refl _)]
theorem rep_c (c : PyData) (n : Nat) : (List.replicate n [c]).flatten = List.replicate n c := by
  induction n with
  | zero => rfl
  | succ n ih => rw [List.replicate_succ, List.flatten_cons, ih, List.replicate_succ]; rfl
abbrev kIN (C : Addr) : EK := ⟨C, "InvalidNumber", some "given"⟩
abbrev kIG (C : Addr) : EK := ⟨C, "InvalidGroup", some "at"⟩
abbrev kIE (C : Addr) : EK := ⟨C, "InvalidExponent", some "given"⟩
abbrev kTM (C : Addr) : EK := ⟨C, "TooMany", some "most"⟩
abbrev kWW (C : Addr) : EK := ⟨C, "WrongWidth", some "width"⟩
/-- what stands around the law and its part on the bounds -/
structure LE (P : Program) (w : World) (K : PySem.W.Frag) (mg : Str → Option Value) (base : Heap) (C CS CP CN CG CE CT CW : Addr) (tup : List Value) : Prop where
  openD : KD P w K mg base "_law_open" 1 (spOpen K)
  take : KD P w K mg base "_law_take" 1 (spB K Ftake)
  one : KD P w K mg base "_law_one" 2 (spB K Fone)
  expo : KD P w K mg base "_law_exp" 2 (spB K Fexp)
  odd : KD P w K mg base "_law_odd" 3 (spB K Fodd)
  lots : KD P w K mg base "_law_lots" 5 (spB K Flots)
  same : ∀ n, KD P w K mg base "_law_same" (n + 2) (spD K (Fsame n))
  sameV : ∀ n, KD P w K mg base "_law_same" (n + 2) (spSm K (TT K C) n)
  tries : KD P w K mg base "_law_tries" 13 (spTriesV P w K mg base tup 10)
  mkT : MkT P w K mg base C
  mkX : MkTX P w K mg base C (kIN CN) (kIG CG) (kTM CT)
  gT : mg "Table" = some (.ref C)
  cls : Cls K C
  pw : KSP P w K mg base CX0 C "powers" 5 (spTpw K C)
  pwX : KSP P w K mg base (L2.CX P w) C "powers" 4 (spX K (GPw (kIN CN) (kIG CG) K))
  sumX : KMX P w K mg base C "sum_of" 3 (spX K (GTs C K (kIE CE)))
  raisX : KMX P w K mg base C "raised" 4 (spX K (GTn C K (kIN CN)))
  toX : KMX P w K mg base C "to_the" 7 (spX K (GTt K C (kIN CN) (kWW CW) (kTM CT)))
  powX : KMX P w K mg base C "__pow__" 8 (spX K (GTt K C (kIN CN) (kWW CW) (kTM CT)))
  keepX : KMX P w K mg base C "keeps" 3 (spX K (GTk C CS K (kWW CW)))
  addX : KMX P w K mg base C "__add__" 6 (spX K (GTa K C (kWW CW) (kTM CT)))
  mulX : KMX P w K mg base C "__mul__" 6 (spX K (GTm K C (kWW CW) (kTM CT)))
  add : KM P w K mg base C "__add__" 5 (spTop K C (fun a b => a ++ b) fun a b => a.length + b.length ≤ 1000)
  pow : KM P w K mg base C "__pow__" 7 (spTto K C)
  repr : KM P w K mg base C "__repr__" 1 (spO K (FTrepr C K))
  size : ∃ p g fd ps, PropOf K C "size" p g ∧ FnOk P w K mg base CX0 1 g fd ps (spO K (FTsize C K)) ∧ L2.Binds K fd ps []
  pc : PowC K C
  mkS : MkS P w K mg base CS
  gS : mg "Schema" = some (.ref CS)
  mkP : MkP P w K mg base CP
  gP : mg "Product" = some (.ref CP)
  clsP : Cls K CP
  worX : KMX P w K mg base CP "worth" 3 (spX K (GPwo CP C K (kWW CW)))
  okN : KOk K tup (kIN CN)
  okG : KOk K tup (kIG CG)
  okE : KOk K tup (kIE CE)
  okT : KOk K tup (kTM CT)
  okW : KOk K tup (kWW CW)
  flist : mg "list" = none
  frange : mg "range" = none
  fint : mg "int" = none
  ftuple : mg "tuple" = none
  frepr : mg "repr" = none
/-- the code tables: of the law, of its part on the bounds -/
structure LTab (base : Heap) (mg : Str → Option Value) (c Pt c2 Pt2 : Addr) : Prop where
  t1 : TabB base mg c Pt
  t2 : TabB base mg c2 Pt2
  dif : ¬ Pt = Pt2
abbrev NL : List Str := ["_law_script", "_law_box", "_law_turn", "_law_many", "_law_lots_here", "_law_spot", "_law_row_here", "_law_wrong", "_law_bent", "_law_far", "_law_size", "_law_made", "_law_none", "_law_asks", "_law_due", "_law_good", "_law_at", "_law_line", "_law_odd_here", "_law_high_z", "_law_other_z", "_law_late"]
theorem sc_law : FnScope NL ["_law_script"] (defScope slaw) := ⟨rfl, rfl, rfl, by decide +kernel, rfl, by decide +kernel, by decide +kernel⟩
abbrev NB : List Str := ["_law_wide", "_law_first", "_law_at", "_law_asks", "_law_three", "_law_more"]
theorem sc_bnd : FnScope NB [] (defScope sL_table_bounds_so) := ⟨rfl, rfl, rfl, by decide +kernel, rfl, by decide +kernel, by decide +kernel⟩
def forBody (s : Stmt) : List Stmt := match s with
  | .For _ _ b _ _ => b
  | _ => []
def stAt (l : List Stmt) (i : Nat) : Stmt := l.getD i (.Pass ⟨0, 0, 0, 0⟩)
def turnBody : List Stmt := forBody (stAt (defBody slaw) 1)
/-- the i-th lambda of the list in a statement -/
def lamOf (s : Stmt) (i : Nat) : Expr := match s with
  | .Assign _ (.List es _) _ => es.getD i (.Constant .none 0 ⟨0, 0, 0, 0⟩)
  | .Assign _ (.BinOp _ _ (.List es _) _) _ => es.getD i (.Constant .none 0 ⟨0, 0, 0, 0⟩)
  | _ => .Constant .none 0 ⟨0, 0, 0, 0⟩
def lamQ : Str := (envOfC "law" (defScope slaw) 0 0 .none).qual ++ "<lambda>"
def lamQB : Str := (envOfC "_law_table_bounds_so" (defScope sL_table_bounds_so) 0 0 .none).qual ++ "<lambda>"
abbrev TS (Pt Pt2 : Addr) : List NTab := [(Pt, fun _ _ => lamQ), (Pt2, fun _ _ => lamQB)]
abbrev LX (P : Program) (w : World) (K : PySem.W.Frag) (mg : Str → Option Value) (base : Heap) (f c : Addr) (A : Around) (outer : List Env) (sh : Shared) (H0 : Hp) (E : XK) : Cx := (cxOf CX0 P w K mg base NL "law" (defScope slaw) f (.ref c) A outer sh H0 E).nox
abbrev BXx (P : Program) (w : World) (K : PySem.W.Frag) (mg : Str → Option Value) (base : Heap) (f c : Addr) (A : Around) (outer : List Env) (sh : Shared) (H0 : Hp) (E : XK) : Cx := (cxOf CX0 P w K mg base NB "_law_table_bounds_so" (defScope sL_table_bounds_so) f (.ref c) A outer sh H0 E).nox
section
variable {c Pt c2 Pt2 : Addr} {A : Around} {outer : List Env} {sh : Shared} {H0 : Hp} {E : XK}
theorem LTab.U (L : LTab base mg c Pt c2 Pt2) : TabU (LX P w K mg base f c A outer sh H0 E) c Pt lamQ := ⟨L.t1, rfl, rfl⟩
theorem LTab.U2 (L : LTab base mg c Pt c2 Pt2) : TabU (BXx P w K mg base f c2 A outer sh H0 E) c2 Pt2 lamQB := ⟨L.t2, rfl, rfl⟩
theorem LTab.m1 : (Pt, fun _ _ => lamQ) ∈ TS Pt Pt2 := List.mem_cons_self
theorem LTab.m2 : (Pt2, fun _ _ => lamQB) ∈ TS Pt Pt2 := List.mem_cons_of_mem _ List.mem_cons_self
theorem LTab.h1 (L : LTab base mg c Pt c2 Pt2) : ∀ p ∈ TS Pt Pt2, p.1 = Pt → p.2 = fun _ _ => lamQ := fun p hp e => by
  simp only [TS, List.mem_cons, List.not_mem_nil, or_false] at hp
  rcases hp with rfl | rfl
  · rfl
  · exact absurd e.symm L.dif
theorem LTab.h2 (L : LTab base mg c Pt c2 Pt2) : ∀ p ∈ TS Pt Pt2, p.1 = Pt2 → p.2 = fun _ _ => lamQB := fun p hp e => by
  simp only [TS, List.mem_cons, List.not_mem_nil, or_false] at hp
  rcases hp with rfl | rfl
  · exact absurd e L.dif
  · rfl
end
theorem tab_step {S H Hf : Hp} (s : Same S H) (nT : ∀ a ps, S a ≠ some (.tbl ps)) (x : ExtN H Hf) : Same S (Y.noTab Hf) := fun a o e => noTab_at (x a o (s a o e) fun ps z => nT a ps (by rw [e, z])) fun ps z => nT a ps (by rw [e, z])
theorem noTab_up {S S1 : Hp} (s : Same S S1) (nT : ∀ a ps, S a ≠ some (.tbl ps)) : Same S (Y.noTab S1) := fun a o e => noTab_at (s a o e) fun ps z => nT a ps (by rw [e, z])
instance {K : PySem.W.Frag} {C : Addr} {n : Nat} {gs : List Grp} : Rb (TabP K C n gs) := ⟨fun e ⟨l, a, dx, xs, h1, h2, h3, h4, h5⟩ => ⟨l, a, dx, xs, h1, e _ _ h2 ⟨(fun _ z => nomatch z), (fun _ z => nomatch z)⟩, e _ _ h3 ⟨(fun _ z => nomatch z), (fun _ z => nomatch z)⟩, dts_rb h4 e, h5⟩⟩
/-- a def over the box, two fixed things and one that is not fixed -/
theorem ok_one {K : PySem.W.Frag} {tup : List Value} {k : EK} {g : PyData} (h : KOk K tup k) : ∀ e g', O1 k g e g' → KOk K tup e := fun e g' ⟨a, _⟩ => by subst a; exact h
theorem ok_none {K : PySem.W.Frag} {tup : List Value} : ∀ e g', NoE e g' → KOk K tup e := fun e g' h => h.elim
section
variable {C CS CP CN CG CE CT CW : Addr} {tup : List Value} {c Pt c2 Pt2 : Addr} {A : Around} {outer : List Env} {sh : Shared} {H0 : Hp} {E : XK} {vs vb : V} {S H : Hp} {D : Ends} {rest : List Stmt}
/-- many, lots, spot, row, wrong, bent -/
theorem turn_a (L : LE P w K mg base C CS CP CN CG CE CT CW tup) (hr : Room 14 (LX P w K mg base f c A outer sh H0 E).A) {a2 a3 a4 a5 a6 a7 a8 a9 a10 a11 a12 a13 a14 a15 a16 a17 a18 a19 a20 a21 : Option V} (s : Same S H) (hb : BX vb S)
    (nx : ∀ n gs (sp : Nat) bad v3 v4 v5 v6 v7 v8 S' H', Gr S H S' H' → 1 ≤ n → n ≤ 3 → LotsOk n gs → gs.length = 4 → sp ≤ 4 → isGrp n bad = false → Dt K (.int (n : Nat)) v3 S' → Dt K (.list (gs.map grpD)) v4 S' → Dt K (.int (sp : Nat)) v5 S' → Dt K (.list ((gs.take sp).map grpD ++ bad :: ((gs.drop sp).map grpD ++ [.none]))) v8 S' →
      HS (LX P w K mg base f c A outer sh H0 E) D rest [some vs, some vb, a2, some v3, some v4, some v5, some v6, some v7, some v8, a9, a10, a11, a12, a13, a14, a15, a16, a17, a18, a19, a20, a21] H') :
    HS (LX P w K mg base f c A outer sh H0 E) D (stAt turnBody 0 :: stAt turnBody 1 :: stAt turnBody 2 :: stAt turnBody 3 :: stAt turnBody 4 :: stAt turnBody 5 :: rest) [some vs, some vb, a2, a3, a4, a5, a6, a7, a8, a9, a10, a11, a12, a13, a14, a15, a16, a17, a18, a19, a20, a21] H := by
  refine hs_set (i := 3) (P := Ex K fun d => ∃ n : Nat, d = .int n ∧ 1 ≤ n ∧ n ≤ 3) ((ee_addE (F := fun i => i = 1) (G := fun i => 0 ≤ i ∧ i < 3) (ee_int.ex ⟨1, rfl, rfl⟩) (ee_callBx L.take (hr.mono (by decide)) ⟨3, rfl, by decide, by decide, rfl⟩ (ea_2 (ee_var 1 rfl hb) ee_int))).exi fun d ⟨i, e, x, y, hx, hy, hi⟩ => ⟨(1 + y).toNat, by rw [e]; congr 1; omega, by omega, by omega⟩) s sc_law.nd fun v3 S1 H1 g1 pm => ?_
  obtain ⟨_, ⟨n, rfl, n1, n3⟩, pm⟩ := pm
  have hb1 : BX vb S1 := Mn.up g1.st hb
  refine hs_set (i := 4) (P := Ex K fun d => ∃ gs : List Grp, d = .list (gs.map grpD) ∧ LotsOk n gs ∧ gs.length = 4) (ee_callBx L.lots (hr.mono (by decide)) ⟨n, 3, rfl, n3, by decide, rfl⟩ (ea_cons (ee_var 1 rfl hb1) (ea_cons (ee_lst (ds := []) ea_nil) (ea_2 (ee_var 3 rfl pm) ee_int)))) g1.sub sc_law.nd fun v4 S2 H2 g2 pr => ?_
  obtain ⟨_, ⟨gs, rfl, hgs, hg4⟩, pr⟩ := pr
  have G2 := g1.trans g2
  have hb2 : BX vb S2 := Mn.up g2.st hb1
  have pm2 := pm.up g2.st
  refine hs_set (i := 5) (P := Ex K fun d => ∃ k : Nat, d = .int k ∧ k ≤ 4) ((ee_callBx L.take (hr.mono (by decide)) ⟨5, rfl, by decide, by decide, rfl⟩ (ea_2 (ee_var 1 rfl hb2) ee_int)).exi fun d ⟨i, e, i0, i1⟩ => ⟨i.toNat, by rw [e]; congr 1; omega, by omega⟩) G2.sub sc_law.nd fun v5 S3 H3 g3 ps => ?_
  obtain ⟨_, ⟨sp, rfl, hsp⟩, ps⟩ := ps
  have G3 := G2.trans g3
  have hb3 : BX vb S3 := Mn.up g3.st hb2
  have pm3 := pm2.up g3.st
  have pr3 := pr.up g3.st
  obtain ⟨g0, gt, rfl⟩ : ∃ g0 gt, gs = g0 :: gt := by
    cases gs with
    | nil => cases hg4
    | cons a b => exact ⟨a, b, rfl⟩
  have hg0 := hgs.2.2 g0 List.mem_cons_self
  obtain ⟨k0, es⟩ := g0
  have he1 : es.length = n := hg0.2.1
  refine hs_set (i := 6) (P := Dt K (tI es)) (ee_ixT (ds := [.int k0, tI es]) (d := tI es) rfl (ee_ixL (d := .tuple [.int k0, tI es]) (by exact L2.atI_nat (j := 0) rfl) (ee_var 4 rfl pr3) ee_int) ee_int) G3.sub sc_law.nd fun v6 S4 H4 g4 pe => ?_
  have G4 := G3.trans g4
  have s24 := g3.st.trans g4.st
  have hb4 : BX vb S4 := Mn.up s24 hb2
  have pm4 := pm2.up s24
  have pe4 : Dt K (.tuple (es.map .int)) v6 S4 := pe
  have c1 : Z.cutD (es.map PyData.int) (some 1) none = (es.drop 1).map .int := by
    have := cut_from (es.map PyData.int) (i := 1) (by rw [List.length_map]; omega)
    rw [List.map_drop]
    exact this
  refine hs_set (i := 7) (P := Ex K fun d => d ∈ wrongs n es) (ee_callBx L.one (hr.mono (by decide)) ⟨wrongs n es, rfl, by show 0 < 16; decide, by show 16 < 1073741824; decide, rfl⟩ (ea_2 (ee_var 1 rfl hb4) (ee_lst (ds := wrongs n es)
    (ea_cons ee_non (ea_cons (ee_var 6 rfl pe) (ea_cons (ee_tup (ds := [tI es]) (ea_1 (ee_var 6 rfl pe))) (ea_cons (ee_tup (ds := [.int 0, tI es]) (ea_2 ee_int (ee_var 6 rfl pe))) (ea_cons (ee_tup (ds := [.bool true, tI es]) (ea_2 ee_bl (ee_var 6 rfl pe))) (ea_cons (ee_tup (ds := [.str "1", tI es]) (ea_2 ee_str (ee_var 6 rfl pe)))
      (ea_cons (ee_lst (ds := [.int 1, tI es]) (ea_2 ee_int (ee_var 6 rfl pe))) (ea_cons (ee_tup (ds := [.int 1, tI es, .int 1]) (ea_cons ee_int (ea_2 (ee_var 6 rfl pe) ee_int))) (ea_cons (ee_tup (ds := [.int 1, .list (es.map .int)]) (ea_2 ee_int (ee_list L.flist (.inr rfl) (ee_var 6 rfl pe4))))
        (ea_cons (ee_tup (ds := [.int 1, tI (es ++ [1])]) (ea_2 ee_int ((ee_catT (ds1 := es.map .int) (ds2 := [.int 1]) (by rw [List.length_map]; show _ + 1 ≤ 16777216; omega) (ee_var 6 rfl pe4) (ee_tup (ds := [.int 1]) (ea_1 ee_int))).isd (by unfold tI; rw [List.map_append]; rfl))))
          (ea_cons (ee_tup (ds := [.int 1, tI (es.drop 1)]) (ea_2 ee_int ((ee_slT (ee_var 6 rfl pe4) (eo_some ee_int) eo_none).isd (by rw [c1]; rfl))))
            (ea_cons (ee_tup (ds := [.int 1, tI (List.replicate n 0)]) (ea_2 ee_int ((ee_repT n1 (by omega) (by show 1 ≤ 1000; decide) (by simp) (ee_tup (ds := [.int 0]) (ea_1 ee_int)) (ee_var 3 rfl pm4)).isd (by rw [rep_c, tI_rep]))))
              (ea_cons (ee_tup (ds := [.int 1, .tuple (List.replicate n (.bool true))]) (ea_2 ee_int ((ee_repT n1 (by omega) (by show 1 ≤ 1000; decide) (by simp) (ee_tup (ds := [.bool true]) (ea_1 ee_bl)) (ee_var 3 rfl pm4)).isd (by rw [rep_c]))))
                (ea_cons (ee_tup (ds := [.int (-1), tI es]) (ea_2 (ee_neg ee_int) (ee_var 6 rfl pe)))
                  (ea_cons ee_int (ea_cons (ee_tup (ds := [.int 1, .tuple (List.replicate n (.str "1"))]) (ea_2 ee_int ((ee_repT n1 (by omega) (by show 1 ≤ 1000; decide) (by simp) (ee_tup (ds := [.str "1"]) (ea_1 ee_str)) (ee_var 3 rfl pm4)).isd (by rw [rep_c])))) ea_nil)))))))))))))))) (by show 16 ≤ 16777216; decide)))) G4.sub sc_law.nd fun v7 S5 H5 g5 pw => ?_
  obtain ⟨bad, hbad, pw⟩ := pw
  have G5 := G4.trans g5
  have s25 := s24.trans g5.st
  have pr5 := pr.up s25
  have ps5 := ps.up (g4.st.trans g5.st)
  let gs : List Grp := (k0, es) :: gt
  have hl4 : (gs.map grpD).length = 4 := by rw [List.length_map]; exact hg4
  refine hs_set (i := 8) (P := Dt K (.list ((gs.take sp).map grpD ++ bad :: ((gs.drop sp).map grpD ++ [.none])))) (EE.isd (ee_catL (ds1 := (gs.map grpD).take sp ++ [bad] ++ (gs.map grpD).drop sp) (ds2 := [.none]) ?z1 (ee_catL ?z2 (ee_catL ?z3 ((ee_slL (ee_var 4 rfl pr5) eo_none (eo_some (ee_var 5 rfl ps5))).isd (by rw [cut_to _ (show sp ≤ (gs.map grpD).length by omega)])) (ee_lst (ds := [bad]) (ea_1 (ee_var 7 rfl pw)))) ((ee_slL (ee_var 4 rfl pr5) (eo_some (ee_var 5 rfl ps5)) eo_none).isd (by rw [cut_from _ (show sp ≤ (gs.map grpD).length by omega)]))) (ee_lst (ds := [.none]) (ea_1 ee_non))) ?eq) G5.sub sc_law.nd fun v8 S6 H6 g6 pbt => ?_
  case z1 => rw [List.length_append, List.length_append, List.length_take, List.length_drop, hl4]; show _ + 1 + _ + 1 ≤ 16777216; omega
  case z2 => rw [List.length_append, List.length_take, List.length_drop, hl4]; show _ + 1 + _ ≤ 16777216; omega
  case z3 => rw [List.length_take, hl4]; show _ + 1 ≤ 16777216; omega
  case eq => rw [List.map_take, List.map_drop]; simp
  have G6 := G5.trans g6
  have s26 := s25.trans g6.st
  exact nx n gs sp bad v3 v4 v5 v6 v7 v8 S6 H6 G6 n1 n3 hgs hg4 hsp (wrong_grp n1 he1 hbad) (pm2.up s26) (pr.up s26) (ps.up (g4.st.trans (g5.st.trans g6.st))) pbt
end
end
end K17
namespace K17
open PySem PySem.Spec PyProof.Rows L2 Z Y LamX NdefX
section
variable {P : Program} {w : World} {K : PySem.W.Frag} {mg : Str → Option Value} {base : Heap} {f : Addr} {fd : FuncData}
/-- the names that the lambdas capture -/
abbrev capN : List Str := ["_law_far", "_law_bent", "_law_many", "_law_none", "_law_size", "_law_good", "_law_spot", "_law_line", "_law_made", "_law_odd_here", "_law_high_z", "_law_late", "_law_other_z"]
theorem cap_cells {c : Addr} {A : Around} {outer : List Env} {sh : Shared} {H0 : Hp} {E : XK} : ∀ y ∈ capN, (LX P w K mg base f c A outer sh H0 E).env.scope.names.lookup y = some .cell ∧ (LX P w K mg base f c A outer sh H0 E).fn y = true := fun y hy => by
  simp only [capN, List.mem_cons, List.not_mem_nil, or_false] at hy
  rcases hy with rfl | rfl | rfl | rfl | rfl | rfl | rfl | rfl | rfl | rfl | rfl | rfl | rfl <;> exact ⟨rfl, rfl⟩
def lamB (e : Expr) : Bool := (LamSc e).names.all fun y => !decide (y.2 = .free) || (decide ((defScope slaw).names.lookup y.1 = some .cell) && decide (y.1 ∈ capN))
theorem lamB_free {e : Expr} (h : lamB e = true) : ∀ y ∈ (LamSc e).names, y.2 = .free → (defScope slaw).names.lookup y.1 = some .cell ∨ (defScope slaw).names.lookup y.1 = some .free := fun y hy hf => by
  have := List.all_eq_true.mp h y hy
  rw [hf] at this
  simp only [decide_true, Bool.not_true, Bool.false_or, Bool.and_eq_true, decide_eq_true_eq] at this
  exact .inl this.1
theorem lamB_sub {e : Expr} (h : lamB e = true) : ∀ y ∈ (LamSc e).names, y.2 = .free → y.1 ∈ capN := fun y hy hf => by
  have := List.all_eq_true.mp h y hy
  rw [hf] at this
  simp only [decide_true, Bool.not_true, Bool.false_or, Bool.and_eq_true, decide_eq_true_eq] at this
  exact this.2
def btD (gs : List Grp) (sp : Nat) (bad : PyData) : PyData := .list ((gs.take sp).map grpD ++ bad :: ((gs.drop sp).map grpD ++ [.none]))
theorem lots_grps {n : Nat} {gs : List Grp} (h : LotsOk n gs) : GrpsOk n gs := fun g hg => ⟨(h.2.2 g hg).1.1, (h.2.2 g hg).2.1, fun x hx => ((h.2.2 g hg).2.2 x hx).1⟩
theorem bt_bad {kN kG kT : EK} {n sp : Nat} {gs : List Grp} {bad : PyData} (n1 : 1 ≤ n) (n3 : n ≤ 3) (h : LotsOk n gs) (h4 : gs.length = 4) (hs : sp ≤ 4) (hb : isGrp n bad = false) : BadT kN kG kT (.int (n : Nat)) (btD gs sp bad) kG (.int (sp : Nat)) :=
  .inr ⟨n, rfl, n1, n3, .inr (.inl ⟨gs.take sp, bad, (gs.drop sp).map grpD ++ [.none], .inl rfl, by rw [List.length_take]; omega, fun g hg => lots_grps h g (List.mem_of_mem_take hg), hb, rfl, by rw [List.length_take, h4]; congr 1; omega⟩)⟩
section
variable {C CS CP CN CG CE CT CW : Addr} {tup : List Value}
theorem la0 (L : LE P w K mg base C CS CP CN CG CE CT CW tup) {fr : PyData} (hfr : fr ∈ fars) {bt : PyData} {f' c' : Addr} {cells : List (Str × Addr)} : LOk P w K mg base (L2.CX P w) 10 f' (LamF (lamOf (stAt turnBody 8) 0) lamQ cells c' none) ["_law_far", "_law_bent"] [] (spAsk K (fun ws S => ∃ v1 v2, ws = [some v1, some v2] ∧ (Dt K fr) v1 S ∧ (Dt K bt) v2 S) (NoV) (O1 (kIN CN) fr)) := by
  refine lok_ask (N := ["_law_far", "_law_bent"]) (ps := []) (nscope_by (sc := LamSc (lamOf (stAt turnBody 8) 0)) (by decide +kernel)) (lbind0 rfl fun _ _ => rfl) rfl fun A outer s H ws E S hr hlen hw tk => ?_
  obtain ⟨v1, v2, rfl, p1, p2⟩ := hw
  exact er_mkT2 (d1 := fr) (d2 := bt) tk L.mkX (hr.mono (by decide)) L.gT (ee_var 0 rfl p1) (ee_var 1 rfl p2) (.inl ⟨far_w hfr, rfl, rfl⟩)
theorem la1 (L : LE P w K mg base C CS CP CN CG CE CT CW tup) {n sp : Nat} {gs : List Grp} {bad : PyData} (n1 : 1 ≤ n) (n3 : n ≤ 3) (hgs : LotsOk n gs) (hg4 : gs.length = 4) (hsp : sp ≤ 4) (hbad : isGrp n bad = false) {f' c' : Addr} {cells : List (Str × Addr)} {T : Addr} : LOk P w K mg base (L2.CX P w) 10 f' (LamF (lamOf (stAt turnBody 8) 1) lamQ cells c' (some T)) ["_law_many", "_law_bent"] [.int 0] (spAsk K (fun ws S => ∃ v1 v2, ws = [some v1, some v2] ∧ (Dt K (.int (n : Nat))) v1 S ∧ (Dt K (btD gs sp bad)) v2 S) (NoV) (O1 (kIG CG) (.int (sp : Nat)))) := by
  refine lok_ask (N := ["_law_a", "_law_many", "_law_bent"]) (ps := ["_law_a"]) (nscope_by (sc := LamSc (lamOf (stAt turnBody 8) 1)) (by decide +kernel)) (lbind1 rfl fun _ _ => ⟨_, rfl, fun _ => rfl⟩) rfl fun A outer s H ws E S hr hlen hw tk => ?_
  obtain ⟨v1, v2, rfl, p1, p2⟩ := hw
  exact er_mkT2 (d1 := .int (n : Nat)) (d2 := btD gs sp bad) tk L.mkX (hr.mono (by decide)) L.gT (ee_var 1 rfl p1) (ee_var 2 rfl p2) (bt_bad n1 n3 hgs hg4 hsp hbad)
theorem la2 (L : LE P w K mg base C CS CP CN CG CE CT CW tup) {n : Nat} (n1 : 1 ≤ n) (n3 : n ≤ 3) {no : PyData} (hno : no ∈ nones) {f' c' : Addr} {cells : List (Str × Addr)} {T : Addr} : LOk P w K mg base (L2.CX P w) 10 f' (LamF (lamOf (stAt turnBody 8) 2) lamQ cells c' (some T)) ["_law_many", "_law_none"] [.int 0] (spAsk K (fun ws S => ∃ v1 v2, ws = [some v1, some v2] ∧ (Dt K (.int (n : Nat))) v1 S ∧ (Dt K no) v2 S) (NoV) (O1 (kIG CG) (.int (-1)))) := by
  refine lok_ask (N := ["_law_b", "_law_many", "_law_none"]) (ps := ["_law_b"]) (nscope_by (sc := LamSc (lamOf (stAt turnBody 8) 2)) (by decide +kernel)) (lbind1 rfl fun _ _ => ⟨_, rfl, fun _ => rfl⟩) rfl fun A outer s H ws E S hr hlen hw tk => ?_
  obtain ⟨v1, v2, rfl, p1, p2⟩ := hw
  exact er_mkT2 (d1 := .int (n : Nat)) (d2 := no) tk L.mkX (hr.mono (by decide)) L.gT (ee_var 1 rfl p1) (ee_var 2 rfl p2) (.inr ⟨n, rfl, n1, n3, .inl ⟨none_lt hno, rfl, rfl⟩⟩)
theorem la3 (L : LE P w K mg base C CS CP CN CG CE CT CW tup) {fr : PyData} (hfr : fr ∈ fars) {sz no : PyData} {f' c' : Addr} {cells : List (Str × Addr)} {T : Addr} : LOk P w K mg base (L2.CX P w) 10 f' (LamF (lamOf (stAt turnBody 8) 3) lamQ cells c' (some T)) ["_law_far", "_law_size", "_law_none"] [.int 0] (spAsk K (fun ws S => ∃ v1 v2 v3, ws = [some v1, some v2, some v3] ∧ (Dt K fr) v1 S ∧ (Dt K sz) v2 S ∧ (Dt K no) v3 S) (NoV) (O1 (kIN CN) fr)) := by
  refine lok_ask (N := ["_law_c", "_law_far", "_law_size", "_law_none"]) (ps := ["_law_c"]) (nscope_by (sc := LamSc (lamOf (stAt turnBody 8) 3)) (by decide +kernel)) (lbind1 rfl fun _ _ => ⟨_, rfl, fun _ => rfl⟩) rfl fun A outer s H ws E S hr hlen hw tk => ?_
  obtain ⟨v1, v2, v3, rfl, p1, p2, p3⟩ := hw
  exact er_staticP tk L.pwX (hr.mono (by decide)) L.gT (Ps := Ds K [fr, sz, no]) (ea_cons (ee_var 1 rfl p1) (ea_2 (ee_var 2 rfl p2) (ee_var 3 rfl p3))) (spX_O fun vs S1 _ al => ⟨_, _, ⟨_, _, _, al_dts al, .inl ⟨far_w hfr, rfl, rfl⟩⟩, rfl, rfl⟩)
theorem la4 (L : LE P w K mg base C CS CP CN CG CE CT CW tup) {n : Nat} (n1 : 1 ≤ n) (n3 : n ≤ 3) {sz : PyData} (hsz : sz ∈ sizes) {no : PyData} {f' c' : Addr} {cells : List (Str × Addr)} {T : Addr} : LOk P w K mg base (L2.CX P w) 10 f' (LamF (lamOf (stAt turnBody 8) 4) lamQ cells c' (some T)) ["_law_many", "_law_size", "_law_none"] [.int 0] (spAsk K (fun ws S => ∃ v1 v2 v3, ws = [some v1, some v2, some v3] ∧ (Dt K (.int (n : Nat))) v1 S ∧ (Dt K sz) v2 S ∧ (Dt K no) v3 S) (NoV) (O1 (kIN CN) sz)) := by
  refine lok_ask (N := ["_law_d", "_law_many", "_law_size", "_law_none"]) (ps := ["_law_d"]) (nscope_by (sc := LamSc (lamOf (stAt turnBody 8) 4)) (by decide +kernel)) (lbind1 rfl fun _ _ => ⟨_, rfl, fun _ => rfl⟩) rfl fun A outer s H ws E S hr hlen hw tk => ?_
  obtain ⟨v1, v2, v3, rfl, p1, p2, p3⟩ := hw
  exact er_staticP tk L.pwX (hr.mono (by decide)) L.gT (Ps := Ds K [.int (n : Nat), sz, no]) (ea_cons (ee_var 1 rfl p1) (ea_2 (ee_var 2 rfl p2) (ee_var 3 rfl p3))) (spX_O fun vs S1 _ al => ⟨_, _, ⟨_, _, _, al_dts al, .inr ⟨n, rfl, n1, n3, .inl ⟨size_n hsz, rfl, rfl⟩⟩⟩, rfl, rfl⟩)
theorem la5 (L : LE P w K mg base C CS CP CN CG CE CT CW tup) {n : Nat} (n1 : 1 ≤ n) (n3 : n ≤ 3) {no : PyData} (hno : no ∈ nones) {f' c' : Addr} {cells : List (Str × Addr)} {T : Addr} : LOk P w K mg base (L2.CX P w) 10 f' (LamF (lamOf (stAt turnBody 8) 5) lamQ cells c' (some T)) ["_law_many", "_law_none"] [.int 0] (spAsk K (fun ws S => ∃ v1 v2, ws = [some v1, some v2] ∧ (Dt K (.int (n : Nat))) v1 S ∧ (Dt K no) v2 S) (NoV) (O1 (kIG CG) (.int (-1)))) := by
  refine lok_ask (N := ["_law_e", "_law_many", "_law_none"]) (ps := ["_law_e"]) (nscope_by (sc := LamSc (lamOf (stAt turnBody 8) 5)) (by decide +kernel)) (lbind1 rfl fun _ _ => ⟨_, rfl, fun _ => rfl⟩) rfl fun A outer s H ws E S hr hlen hw tk => ?_
  obtain ⟨v1, v2, rfl, p1, p2⟩ := hw
  exact er_staticP tk L.pwX (hr.mono (by decide)) L.gT (Ps := Ds K [.int (n : Nat), .int 2, no]) (ea_cons (ee_var 1 rfl p1) (ea_2 (ee_int) (ee_var 2 rfl p2))) (spX_O fun vs S1 _ al => ⟨_, _, ⟨_, _, _, al_dts al, .inr ⟨n, rfl, n1, n3, .inr ⟨rfl, .inl ⟨none_lt hno, rfl, rfl⟩⟩⟩⟩, rfl, rfl⟩)
theorem lb0 (L : LE P w K mg base C CS CP CN CG CE CT CW tup) {n sp : Nat} {gd : List Grp} {ln : PyData} (n1 : 1 ≤ n) (n3 : n ≤ 3) (hgd : PgsOk n gd) (hd4 : gd.length = 4) (hsp : sp ≤ 4) (hln : isPg ln (n : Nat) = false) {f' c' : Addr} {cells : List (Str × Addr)} : LOk P w K mg base (L2.CX P w) 10 f' (LamF (lamOf (stAt turnBody 14) 0) lamQ cells c' none) ["_law_many", "_law_good", "_law_spot", "_law_line"] [] (spAsk K (fun ws S => ∃ v1 v2 v3 v4, ws = [some v1, some v2, some v3, some v4] ∧ (Dt K (.int (n : Nat))) v1 S ∧ (Dt K (.list (gd.map grpD))) v2 S ∧ (Dt K (.int (sp : Nat))) v3 S ∧ (Dt K ln) v4 S) (NoV) (O1 (kIG CG) (.int (sp : Nat)))) := by
  refine lok_ask (N := ["_law_many", "_law_good", "_law_spot", "_law_line"]) (ps := []) (nscope_by (sc := LamSc (lamOf (stAt turnBody 14) 0)) (by decide +kernel)) (lbind0 rfl fun _ _ => rfl) rfl fun A outer s H ws E S hr hlen hw tk => ?_
  obtain ⟨v1, v2, v3, v4, rfl, p1, p2, p3, p4⟩ := hw
  have hl4 : (gd.map grpD).length = 4 := by rw [List.length_map]; exact hd4
  refine er_staticP tk L.pwX (hr.mono (by decide)) L.gT (Ps := Ds K [.int (n : Nat), .int 3, btD gd sp ln]) (ea_cons (ee_var 0 rfl p1) (ea_2 ee_int (EE.isd (ee_catL (ds1 := (gd.map grpD).take sp ++ [ln] ++ (gd.map grpD).drop sp) (ds2 := [.none]) ?z1 (ee_catL ?z2 (ee_catL ?z3 ((ee_slL (ee_var 1 rfl p2) eo_none (eo_some (ee_var 2 rfl p3))).isd (by rw [cut_to _ (show sp ≤ (gd.map grpD).length by omega)])) (ee_lst (ds := [ln]) (ea_1 (ee_var 3 rfl p4)))) ((ee_slL (ee_var 1 rfl p2) (eo_some (ee_var 2 rfl p3)) eo_none).isd (by rw [cut_from _ (show sp ≤ (gd.map grpD).length by omega)]))) (ee_lst (ds := [.none]) (ea_1 ee_non))) ?eq))) (spX_O fun vs S1 _ al => ⟨_, _, ⟨_, _, _, al_dts al, .inr ⟨n, rfl, n1, n3, .inr ⟨rfl, .inr ⟨gd.take sp, ln, (gd.drop sp).map grpD ++ [.none], .inl rfl, by rw [List.length_take]; omega, fun g hg => hgd g (List.mem_of_mem_take hg), hln, rfl, by rw [List.length_take, hd4]; congr 1; omega⟩⟩⟩⟩, rfl, rfl⟩)
  case z1 => rw [List.length_append, List.length_append, List.length_take, List.length_drop, hl4]; show _ + 1 + _ + 1 ≤ 16777216; omega
  case z2 => rw [List.length_append, List.length_take, List.length_drop, hl4]; show _ + 1 + _ ≤ 16777216; omega
  case z3 => rw [List.length_take, hl4]; show _ + 1 ≤ 16777216; omega
  case eq => unfold btD; rw [List.map_take, List.map_drop]; simp
theorem lb1 (L : LE P w K mg base C CS CP CN CG CE CT CW tup) {n : Nat} {gs : List Grp} {od : PyData} (hod : isExp od (n : Nat) = false) {f' c' : Addr} {cells : List (Str × Addr)} {T : Addr} : LOk P w K mg base (L2.CX P w) 10 f' (LamF (lamOf (stAt turnBody 14) 1) lamQ cells c' (some T)) ["_law_made", "_law_odd_here"] [.int 0] (spAsk K (fun ws S => ∃ v1 v2, ws = [some v1, some v2] ∧ (TabP K C n gs) v1 S ∧ (Dt K od) v2 S) (NoV) (O1 (kIE CE) od)) := by
  refine lok_ask (N := ["_law_a", "_law_made", "_law_odd_here"]) (ps := ["_law_a"]) (nscope_by (sc := LamSc (lamOf (stAt turnBody 14) 1)) (by decide +kernel)) (lbind1 rfl fun _ _ => ⟨_, rfl, fun _ => rfl⟩) rfl fun A outer s H ws E S hr hlen hw tk => ?_
  obtain ⟨v1, v2, rfl, p1, p2⟩ := hw
  refine er_meth (P0 := TabP K C n gs) (Ps := [Dt K od]) tk L.sumX L.cls (hr.mono (by decide)) (ee_var 1 rfl p1) TabP.insP (ea_1 (ee_var 2 rfl p2)) (spX_O fun vs S1 _ al => ?_)
  obtain ⟨v, u, rfl, pv, pu⟩ := al.two
  exact ⟨_, _, ⟨n, gs, od, v, u, rfl, pv, pu, hod, rfl, rfl⟩, rfl, rfl⟩
theorem lb2 (L : LE P w K mg base C CS CP CN CG CE CT CW tup) {n : Nat} {gs : List Grp} {od : PyData} (hod : isP od = false) {f' c' : Addr} {cells : List (Str × Addr)} {T : Addr} : LOk P w K mg base (L2.CX P w) 10 f' (LamF (lamOf (stAt turnBody 14) 2) lamQ cells c' (some T)) ["_law_made", "_law_high_z"] [.int 0] (spAsk K (fun ws S => ∃ v1 v2, ws = [some v1, some v2] ∧ (TabP K C n gs) v1 S ∧ (Dt K od) v2 S) (NoV) (O1 (kIN CN) od)) := by
  refine lok_ask (N := ["_law_b", "_law_made", "_law_high_z"]) (ps := ["_law_b"]) (nscope_by (sc := LamSc (lamOf (stAt turnBody 14) 2)) (by decide +kernel)) (lbind1 rfl fun _ _ => ⟨_, rfl, fun _ => rfl⟩) rfl fun A outer s H ws E S hr hlen hw tk => ?_
  obtain ⟨v1, v2, rfl, p1, p2⟩ := hw
  refine er_meth (P0 := TabP K C n gs) (Ps := [Dt K od]) tk L.toX L.cls (hr.mono (by decide)) (ee_var 1 rfl p1) TabP.insP (ea_1 (ee_var 2 rfl p2)) (spX_O fun vs S1 _ al => ?_)
  obtain ⟨v, u, rfl, pv, pu⟩ := al.two
  exact ⟨_, _, ⟨n, gs, v, u, rfl, pv, .inl ⟨od, pu, hod, rfl, rfl⟩⟩, rfl, rfl⟩
theorem lb3 (L : LE P w K mg base C CS CP CN CG CE CT CW tup) {n : Nat} {gs : List Grp} {od : PyData} (hod : isP od = false) {f' c' : Addr} {cells : List (Str × Addr)} {T : Addr} : LOk P w K mg base (L2.CX P w) 10 f' (LamF (lamOf (stAt turnBody 14) 3) lamQ cells c' (some T)) ["_law_made", "_law_high_z"] [.int 0] (spAsk K (fun ws S => ∃ v1 v2, ws = [some v1, some v2] ∧ (TabP K C n gs) v1 S ∧ (Dt K od) v2 S) (NoV) (O1 (kIN CN) od)) := by
  refine lok_ask (N := ["_law_c", "_law_made", "_law_high_z"]) (ps := ["_law_c"]) (nscope_by (sc := LamSc (lamOf (stAt turnBody 14) 3)) (by decide +kernel)) (lbind1 rfl fun _ _ => ⟨_, rfl, fun _ => rfl⟩) rfl fun A outer s H ws E S hr hlen hw tk => ?_
  obtain ⟨v1, v2, rfl, p1, p2⟩ := hw
  refine er_meth (P0 := TabP K C n gs) (Ps := [Dt K od]) tk L.raisX L.cls (hr.mono (by decide)) (ee_var 1 rfl p1) TabP.insP (ea_1 (ee_var 2 rfl p2)) (spX_O fun vs S1 _ al => ?_)
  obtain ⟨v, u, rfl, pv, pu⟩ := al.two
  exact ⟨_, _, ⟨n, gs, od, v, u, rfl, pv, pu, hod, rfl, rfl⟩, rfl, rfl⟩
theorem lc0 (L : LE P w K mg base C CS CP CN CG CE CT CW tup) {n m : Nat} {gs hs : List Grp} (hnm : n ≠ m) {f' c' : Addr} {cells : List (Str × Addr)} : LOk P w K mg base (L2.CX P w) 10 f' (LamF (lamOf (stAt turnBody 18) 0) lamQ cells c' none) ["_law_made", "_law_late"] [] (spAsk K (fun ws S => ∃ v1 v2, ws = [some v1, some v2] ∧ (TabP K C n gs) v1 S ∧ (TabP K C m hs) v2 S) (NoV) (O1 (kWW CW) (.int (m : Nat)))) := by
  refine lok_ask (N := ["_law_made", "_law_late"]) (ps := []) (nscope_by (sc := LamSc (lamOf (stAt turnBody 18) 0)) (by decide +kernel)) (lbind0 rfl fun _ _ => rfl) rfl fun A outer s H ws E S hr hlen hw tk => ?_
  obtain ⟨v1, v2, rfl, p1, p2⟩ := hw
  refine er_binO (m := "__add__") (Pa := TabP K C n gs) (Pb := TabP K C m hs) tk rfl L.addX L.pc.first (hr.mono (by decide)) (ee_var 0 rfl p1) (ee_var 1 rfl p2) TabP.ins TabP.ins (spX_O fun vs S1 _ al => ?_)
  obtain ⟨v, u, rfl, pv, pu⟩ := al.two
  exact ⟨_, _, ⟨n, m, gs, hs, v, u, rfl, pv, pu, .inl ⟨hnm, rfl, rfl⟩⟩, rfl, rfl⟩
theorem lc1 (L : LE P w K mg base C CS CP CN CG CE CT CW tup) {n m : Nat} {gs hs : List Grp} (hnm : n ≠ m) {f' c' : Addr} {cells : List (Str × Addr)} {T : Addr} : LOk P w K mg base (L2.CX P w) 10 f' (LamF (lamOf (stAt turnBody 18) 1) lamQ cells c' (some T)) ["_law_made", "_law_late"] [.int 0] (spAsk K (fun ws S => ∃ v1 v2, ws = [some v1, some v2] ∧ (TabP K C n gs) v1 S ∧ (TabP K C m hs) v2 S) (NoV) (O1 (kWW CW) (.int (m : Nat)))) := by
  refine lok_ask (N := ["_law_a", "_law_made", "_law_late"]) (ps := ["_law_a"]) (nscope_by (sc := LamSc (lamOf (stAt turnBody 18) 1)) (by decide +kernel)) (lbind1 rfl fun _ _ => ⟨_, rfl, fun _ => rfl⟩) rfl fun A outer s H ws E S hr hlen hw tk => ?_
  obtain ⟨v1, v2, rfl, p1, p2⟩ := hw
  refine er_binO (m := "__mul__") (Pa := TabP K C n gs) (Pb := TabP K C m hs) tk rfl L.mulX L.pc.first (hr.mono (by decide)) (ee_var 1 rfl p1) (ee_var 2 rfl p2) TabP.ins TabP.ins (spX_O fun vs S1 _ al => ?_)
  obtain ⟨v, u, rfl, pv, pu⟩ := al.two
  exact ⟨_, _, ⟨n, m, gs, hs, v, u, rfl, pv, pu, .inl ⟨hnm, rfl, rfl⟩⟩, rfl, rfl⟩
theorem abc_col : ∀ m : Nat, m ≤ 3 → 1 ≤ m → (cutS "abc" none (some (m : Int))).cps.size = m ∧ ColOk (cutS "abc" none (some (m : Int))) := by
  have key : ∀ m : Nat, m ≤ 3 → 1 ≤ m → (cutS "abc" none (some (m : Int))).cps.size = m ∧ ((cutS "abc" none (some (m : Int))).cps.all (· < 128) = true ∧ (cutS "abc" none (some (m : Int))).cps.toList.Nodup ∧ 1 ≤ (cutS "abc" none (some (m : Int))).cps.size ∧ (cutS "abc" none (some (m : Int))).cps.size ≤ 3 ∧ ∀ c ∈ (cutS "abc" none (some (m : Int))).cps.toList, 97 ≤ c ∧ c ≤ 122) := by decide +kernel
  exact key
theorem lc2 (L : LE P w K mg base C CS CP CN CG CE CT CW tup) {n m : Nat} {gs : List Grp} (hnm : n ≠ m) (m1 : 1 ≤ m) (m3 : m ≤ 3) {f' c' : Addr} {cells : List (Str × Addr)} {T : Addr} : LOk P w K mg base (L2.CX P w) 10 f' (LamF (lamOf (stAt turnBody 18) 2) lamQ cells c' (some T)) ["_law_made", "_law_other_z"] [.int 0] (spAsk K (fun ws S => ∃ v1 v2, ws = [some v1, some v2] ∧ (TabP K C n gs) v1 S ∧ (Dt K (.int (m : Nat))) v2 S) (NoV) (O1 (kWW CW) (.int (m : Nat)))) := by
  refine lok_ask (N := ["_law_b", "_law_made", "_law_other_z"]) (ps := ["_law_b"]) (nscope_by (sc := LamSc (lamOf (stAt turnBody 18) 2)) (by decide +kernel)) (lbind1 rfl fun _ _ => ⟨_, rfl, fun _ => rfl⟩) rfl fun A outer s H ws E S hr hlen hw tk => ?_
  obtain ⟨v1, v2, rfl, p1, p2⟩ := hw
  obtain ⟨z1, z2⟩ := abc_col m m3 m1
  refine er_meth (P0 := TabP K C n gs) (Ps := [SchP K CS (cutS "abc" none (some (m : Int))) []]) tk L.keepX L.cls (hr.mono (by decide)) (ee_var 1 rfl p1) TabP.insP (ea_1 ((ee_mk1 L.mkS (hr.mono (by decide)) L.gS z2 (ee_slS (by decide) ee_str eo_none (eo_some (ee_var 2 rfl p2)))).imp fun v S' h => newR_sch h)) (spX_O fun vs S1 _ al => ?_)
  obtain ⟨v, u, rfl, pv, pu⟩ := al.two
  exact ⟨_, _, ⟨n, gs, _, [], v, u, rfl, pv, pu, by rw [z1]; omega, rfl, rfl⟩, rfl, by rw [z1]⟩
theorem lc3 (L : LE P w K mg base C CS CP CN CG CE CT CW tup) {n m : Nat} {hs : List Grp} (hnm : n ≠ m) (n1 : 1 ≤ n) (n3 : n ≤ 3) {f' c' : Addr} {cells : List (Str × Addr)} {T : Addr} : LOk P w K mg base (L2.CX P w) 10 f' (LamF (lamOf (stAt turnBody 18) 3) lamQ cells c' (some T)) ["_law_many", "_law_late"] [.int 0] (spAsk K (fun ws S => ∃ v1 v2, ws = [some v1, some v2] ∧ (Dt K (.int (n : Nat))) v1 S ∧ (TabP K C m hs) v2 S) (NoV) (O1 (kWW CW) (.int (m : Nat)))) := by
  refine lok_ask (N := ["_law_c", "_law_many", "_law_late"]) (ps := ["_law_c"]) (nscope_by (sc := LamSc (lamOf (stAt turnBody 18) 3)) (by decide +kernel)) (lbind1 rfl fun _ _ => ⟨_, rfl, fun _ => rfl⟩) rfl fun A outer s H ws E S hr hlen hw tk => ?_
  obtain ⟨v1, v2, rfl, p1, p2⟩ := hw
  refine er_meth (P0 := PrdP CP n []) (Ps := [TabP K C m hs]) tk L.worX L.clsP (hr.mono (by decide)) ((ee_mkP1 L.mkP (hr.mono (by decide)) L.gP n1 n3 (ee_var 1 rfl p1)).imp fun v S' h => newR_prd h) PrdP.insP (ea_1 (ee_var 2 rfl p2)) (spX_O fun vs S1 _ al => ?_)
  obtain ⟨v, u, rfl, pv, pu⟩ := al.two
  exact ⟨_, _, ⟨n, m, [], hs, v, u, rfl, pv, pu, hnm, rfl, rfl⟩, rfl, rfl⟩
end
end
end K17
namespace K17
open PySem PySem.Spec PyProof.Rows L2 Z Y LamX NdefX
section
variable {P : Program} {w : World} {K : PySem.W.Frag} {mg : Str → Option Value} {base : Heap} {f : Addr} {fd : FuncData}
abbrev es8 : List (Expr × Bool) := [(lamOf (stAt turnBody 8) 0, false), (lamOf (stAt turnBody 8) 1, true), (lamOf (stAt turnBody 8) 2, true), (lamOf (stAt turnBody 8) 3, true), (lamOf (stAt turnBody 8) 4, true), (lamOf (stAt turnBody 8) 5, true)]
abbrev es14 : List (Expr × Bool) := [(lamOf (stAt turnBody 14) 0, false), (lamOf (stAt turnBody 14) 1, true), (lamOf (stAt turnBody 14) 2, true), (lamOf (stAt turnBody 14) 3, true)]
abbrev es18 : List (Expr × Bool) := [(lamOf (stAt turnBody 18) 0, false), (lamOf (stAt turnBody 18) 1, true), (lamOf (stAt turnBody 18) 2, true), (lamOf (stAt turnBody 18) 3, true)]
section
variable {C CS CP CN CG CE CT CW : Addr} {tup : List Value} {c Pt c2 Pt2 : Addr} {A : Around} {outer : List Env} {sh : Shared} {H0 : Hp} {E : XK} {vs vb : V} {S H : Hp} {D : Ends} {rest : List Stmt}
/-- far, size, made, none -/
theorem turn_b (L : LE P w K mg base C CS CP CN CG CE CT CW tup) (hr : Room 14 (LX P w K mg base f c A outer sh H0 E).A) {n : Nat} {gs : List Grp} {v3 v4 : V} {a2 a5 a6 a7 a8 a9 a10 a11 a12 a13 a14 a15 a16 a17 a18 a19 a20 a21 : Option V} (s : Same S H) (hb : BX vb S) (n1 : 1 ≤ n) (n3 : n ≤ 3) (hgs : LotsOk n gs) (pm : Dt K (.int (n : Nat)) v3 S) (pl : Dt K (.list (gs.map grpD)) v4 S)
    (nx : ∀ fr sz no v9 v10 v11 v12 S' H', Gr S H S' H' → fr ∈ fars → sz ∈ sizes → no ∈ nones → Dt K fr v9 S' → Dt K sz v10 S' → TabP K C n (norm gs) v11 S' → Dt K no v12 S' → HS (LX P w K mg base f c A outer sh H0 E) D rest [some vs, some vb, a2, some v3, some v4, a5, a6, a7, a8, some v9, some v10, some v11, some v12, a13, a14, a15, a16, a17, a18, a19, a20, a21] H') :
    HS (LX P w K mg base f c A outer sh H0 E) D (stAt turnBody 6 :: stAt turnBody 7 :: rest) [some vs, some vb, a2, some v3, some v4, a5, a6, a7, a8, a9, a10, a11, a12, a13, a14, a15, a16, a17, a18, a19, a20, a21] H := by
  refine hs_unpackF (i := 9) (j := 10) (F := fun d => d ∈ fars) (G := fun d => d ∈ sizes) rfl sc_law.nd (ee_pairE (ee_callBx L.one (hr.mono (by decide)) ⟨fars, rfl, by decide, by decide, rfl⟩ (ea_2 (ee_var 1 rfl hb) (ee_lst (ds := fars) (ea_cons ee_int (ea_cons ee_int (ea_cons (ee_neg ee_int) (ea_cons ee_bl (ea_cons ee_non (ea_cons ee_str ea_nil)))))) (by show 6 ≤ 16777216; decide))))
    (ee_callBx L.one (hr.mono (by decide)) ⟨sizes, rfl, by decide, by decide, rfl⟩ (ea_2 (ee_var 1 rfl hb) (ee_lst (ds := sizes) (ea_cons ee_int (ea_cons (ee_neg ee_int) (ea_cons ee_bl (ea_cons ee_non (ea_cons ee_str ea_nil))))) (by show 5 ≤ 16777216; decide))))) s fun fr sz v9 v10 S1 H1 hfr hsz g1 pf pz => ?_
  have hb1 : BX vb S1 := Mn.up g1.st hb
  refine hs_unpackP (i := 11) (j := 12) (P1 := TabP K C n (norm gs)) (P2 := Ex K fun d => d ∈ nones) rfl sc_law.nd (ee_tupP (ea_2 ((ee_mkT L.mkT (hr.mono (by decide)) L.gT (hgs.gs.tab n1 n3) (.inl rfl) (ee_var 3 rfl (pm.up g1.st)) (ee_var 4 rfl (pl.up g1.st))).imp fun v S' h => newR_tab h)
    (ee_callBx L.one (hr.mono (by decide)) ⟨nones, rfl, by decide, by decide, rfl⟩ (ea_2 (ee_var 1 rfl hb1) (ee_lst (ds := nones) (ea_cons ee_non (ea_cons (ee_lst (ds := []) ea_nil) (ea_cons (ee_tup (ds := []) ea_nil) (ea_2 ee_int ee_str)))) (by show 5 ≤ 16777216; decide)))))) g1.sub fun v11 v12 S2 H2 g2 pt pn => ?_
  obtain ⟨no, hno, pn⟩ := pn
  exact nx fr sz no v9 v10 v11 v12 S2 H2 (g1.trans g2) hfr hsz hno (pf.up g2.st) (pz.up g2.st) pt pn
/-- the first asks -/
theorem turn_c (L : LE P w K mg base C CS CP CN CG CE CT CW tup) (T : LTab base mg c Pt c2 Pt2) (hr : Room 14 (LX P w K mg base f c A outer sh H0 E).A) {n sp : Nat} {gs : List Grp} {bad fr sz no : PyData} {v3 v4 v5 v8 v9 v10 v11 v12 : V} {a2 a6 a7 a13 a14 a15 a16 a17 a18 a19 a20 a21 : Option V} (s : Same S H) (nT : ∀ a ps, S a ≠ some (.tbl ps)) (hT : TabsN (TS Pt Pt2) H) (n1 : 1 ≤ n) (n3 : n ≤ 3) (hgs : LotsOk n gs) (hg4 : gs.length = 4) (hsp : sp ≤ 4) (hbad : isGrp n bad = false) (hfr : fr ∈ fars) (hsz : sz ∈ sizes) (hno : no ∈ nones)
    (pm : Dt K (.int (n : Nat)) v3 S) (ps : Dt K (.int (sp : Nat)) v5 S) (pbt : Dt K (btD gs sp bad) v8 S) (pf : Dt K fr v9 S) (pz : Dt K sz v10 S) (pn : Dt K no v12 S)
    (nx : ∀ a13 a14 Hf, Same S Hf → TabsN (TS Pt Pt2) Hf → HS (LX P w K mg base f c A outer sh H0 E) D rest [some vs, some vb, a2, some v3, some v4, some v5, a6, a7, some v8, some v9, some v10, some v11, some v12, a13, a14, a15, a16, a17, a18, a19, a20, a21] Hf) :
    HS (LX P w K mg base f c A outer sh H0 E) D (stAt turnBody 8 :: stAt turnBody 9 :: stAt turnBody 10 :: rest) [some vs, some vb, a2, some v3, some v4, some v5, a6, a7, some v8, some v9, some v10, some v11, some v12, a13, a14, a15, a16, a17, a18, a19, a20, a21] H := by
  refine hs_asksT (es := es8) (i := 13) T.U LTab.m1 T.h1 sc_law.nd hT (fun p hp => ?_) (by decide) fun l xs Hf xf hTf al hl => ?_
  · simp only [es8, List.mem_cons, List.not_mem_nil, or_false] at hp
    rcases hp with rfl | rfl | rfl | rfl | rfl | rfl
    · exact ⟨_, _, _, _, rfl, lamB_free (e := lamOf (stAt turnBody 8) 0) (by decide +kernel), fun _ => rfl, (by intro z; cases z)⟩
    · exact ⟨_, _, _, _, rfl, lamB_free (e := lamOf (stAt turnBody 8) 1) (by decide +kernel), (by intro z; cases z), fun _ => ⟨_, _, rfl⟩⟩
    · exact ⟨_, _, _, _, rfl, lamB_free (e := lamOf (stAt turnBody 8) 2) (by decide +kernel), (by intro z; cases z), fun _ => ⟨_, _, rfl⟩⟩
    · exact ⟨_, _, _, _, rfl, lamB_free (e := lamOf (stAt turnBody 8) 3) (by decide +kernel), (by intro z; cases z), fun _ => ⟨_, _, rfl⟩⟩
    · exact ⟨_, _, _, _, rfl, lamB_free (e := lamOf (stAt turnBody 8) 4) (by decide +kernel), (by intro z; cases z), fun _ => ⟨_, _, rfl⟩⟩
    · exact ⟨_, _, _, _, rfl, lamB_free (e := lamOf (stAt turnBody 8) 5) (by decide +kernel), (by intro z; cases z), fun _ => ⟨_, _, rfl⟩⟩
  have sf : Same S (Y.noTab Hf) := tab_step s nT xf
  have e3 := pm.up sf
  have e5 := ps.up sf
  have e8 := pbt.up sf
  have e9 := pf.up sf
  have e10 := pz.up sf
  have e12 := pn.up sf
  let σ0 : L2.St := [some vs, some vb, a2, some v3, some v4, some v5, a6, a7, some v8, some v9, some v10, some v11, some v12, some (.ref l), a14, a15, a16, a17, a18, a19, a20, a21]
  let told : List PyData := [.tuple [.str "InvalidNumber", fr], .tuple [.str "InvalidGroup", .int (sp : Nat)], .tuple [.str "InvalidGroup", .int (-1)], .tuple [.str "InvalidNumber", fr], .tuple [.str "InvalidNumber", sz], .tuple [.str "InvalidGroup", .int (-1)]]
  refine hs_set (i := 14) (P := Dt K (.list told)) (ee_lst (ds := told) (ea_cons (ee_tup (ds := [.str "InvalidNumber", fr]) (ea_2 ee_str (ee_var 9 rfl e9))) (ea_cons (ee_tup (ds := [.str "InvalidGroup", .int (sp : Nat)]) (ea_2 ee_str ((ee_if (Q' := Dt K (.int (sp : Nat))) (et_lt (ee_var 5 rfl e5) ee_int) (fun _ => ee_var 5 rfl e5) fun h => ?ge)))) (ea_cons (ee_tup (ds := [.str "InvalidGroup", .int (-1)]) (ea_2 ee_str (ee_neg ee_int)))
    (ea_cons (ee_tup (ds := [.str "InvalidNumber", fr]) (ea_2 ee_str (ee_var 9 rfl e9))) (ea_2 (ee_tup (ds := [.str "InvalidNumber", sz]) (ea_2 ee_str (ee_var 10 rfl e10))) (ee_tup (ds := [.str "InvalidGroup", .int (-1)]) (ea_2 ee_str (ee_neg ee_int)))))))) (by show 6 ≤ 16777216; decide)) noTab_sub sc_law.nd fun v14 S1 H1 g1 pd => ?_
  case ge =>
    have : ¬ ((sp : Int) < 4) := of_decide_eq_false h
    have : sp = 4 := by omega
    subst this
    exact ee_int
  have hl1 := g1.st _ _ hl
  have al1 := askEs_up g1.st al
  have e3 := e3.up g1.st
  have e8 := e8.up g1.st
  have e9 := e9.up g1.st
  have e10 := e10.up g1.st
  have e12 := e12.up g1.st
  let σ : L2.St := [some vs, some vb, a2, some v3, some v4, some v5, a6, a7, some v8, some v9, some v10, some v11, some v12, some (.ref l), some v14, a15, a16, a17, a18, a19, a20, a21]
  let X0 := LX P w K mg base f c A outer sh H0 E
  let i1 : AskV X0 lamQ tup 10 σ capN S1 := { e := lamOf (stAt turnBody 8) 0, b := false, fr := ["_law_far", "_law_bent"], js := [9, 8], R := NoV, rb := inferInstance, O := O1 (kIN CN) fr, W := fun ws S => ∃ v1 v2, ws = [some v1, some v2] ∧ (Dt K fr) v1 S ∧ (Dt K (btD gs sp bad)) v2 S, lam := ⟨_, _, _, _, rfl⟩, lok := fun f' c' dT h0 _ => by obtain rfl := h0 rfl; exact la0 L hfr, free := lamB_free (by decide +kernel), sub := lamB_sub (by decide +kernel), hfr := by decide +kernel, hjs := rfl, ok := ok_one L.okN, hW := fun S' s' => ⟨v9, v8, rfl, Mn.up s' e9, Mn.up s' e8⟩ }
  let i2 : AskV X0 lamQ tup 10 σ capN S1 := { e := lamOf (stAt turnBody 8) 1, b := true, fr := ["_law_many", "_law_bent"], js := [3, 8], R := NoV, rb := inferInstance, O := O1 (kIG CG) (.int (sp : Nat)), W := fun ws S => ∃ v1 v2, ws = [some v1, some v2] ∧ (Dt K (.int (n : Nat))) v1 S ∧ (Dt K (btD gs sp bad)) v2 S, lam := ⟨_, _, _, _, rfl⟩, lok := fun f' c' dT _ h0 => by obtain ⟨T, rfl⟩ := h0 rfl; exact la1 L n1 n3 hgs hg4 hsp hbad, free := lamB_free (by decide +kernel), sub := lamB_sub (by decide +kernel), hfr := by decide +kernel, hjs := rfl, ok := ok_one L.okG, hW := fun S' s' => ⟨v3, v8, rfl, Mn.up s' e3, Mn.up s' e8⟩ }
  let i3 : AskV X0 lamQ tup 10 σ capN S1 := { e := lamOf (stAt turnBody 8) 2, b := true, fr := ["_law_many", "_law_none"], js := [3, 12], R := NoV, rb := inferInstance, O := O1 (kIG CG) (.int (-1)), W := fun ws S => ∃ v1 v2, ws = [some v1, some v2] ∧ (Dt K (.int (n : Nat))) v1 S ∧ (Dt K no) v2 S, lam := ⟨_, _, _, _, rfl⟩, lok := fun f' c' dT _ h0 => by obtain ⟨T, rfl⟩ := h0 rfl; exact la2 L n1 n3 hno, free := lamB_free (by decide +kernel), sub := lamB_sub (by decide +kernel), hfr := by decide +kernel, hjs := rfl, ok := ok_one L.okG, hW := fun S' s' => ⟨v3, v12, rfl, Mn.up s' e3, Mn.up s' e12⟩ }
  let i4 : AskV X0 lamQ tup 10 σ capN S1 := { e := lamOf (stAt turnBody 8) 3, b := true, fr := ["_law_far", "_law_size", "_law_none"], js := [9, 10, 12], R := NoV, rb := inferInstance, O := O1 (kIN CN) fr, W := fun ws S => ∃ v1 v2 v3, ws = [some v1, some v2, some v3] ∧ (Dt K fr) v1 S ∧ (Dt K sz) v2 S ∧ (Dt K no) v3 S, lam := ⟨_, _, _, _, rfl⟩, lok := fun f' c' dT _ h0 => by obtain ⟨T, rfl⟩ := h0 rfl; exact la3 L hfr, free := lamB_free (by decide +kernel), sub := lamB_sub (by decide +kernel), hfr := by decide +kernel, hjs := rfl, ok := ok_one L.okN, hW := fun S' s' => ⟨v9, v10, v12, rfl, Mn.up s' e9, Mn.up s' e10, Mn.up s' e12⟩ }
  let i5 : AskV X0 lamQ tup 10 σ capN S1 := { e := lamOf (stAt turnBody 8) 4, b := true, fr := ["_law_many", "_law_size", "_law_none"], js := [3, 10, 12], R := NoV, rb := inferInstance, O := O1 (kIN CN) sz, W := fun ws S => ∃ v1 v2 v3, ws = [some v1, some v2, some v3] ∧ (Dt K (.int (n : Nat))) v1 S ∧ (Dt K sz) v2 S ∧ (Dt K no) v3 S, lam := ⟨_, _, _, _, rfl⟩, lok := fun f' c' dT _ h0 => by obtain ⟨T, rfl⟩ := h0 rfl; exact la4 L n1 n3 hsz, free := lamB_free (by decide +kernel), sub := lamB_sub (by decide +kernel), hfr := by decide +kernel, hjs := rfl, ok := ok_one L.okN, hW := fun S' s' => ⟨v3, v10, v12, rfl, Mn.up s' e3, Mn.up s' e10, Mn.up s' e12⟩ }
  let i6 : AskV X0 lamQ tup 10 σ capN S1 := { e := lamOf (stAt turnBody 8) 5, b := true, fr := ["_law_many", "_law_none"], js := [3, 12], R := NoV, rb := inferInstance, O := O1 (kIG CG) (.int (-1)), W := fun ws S => ∃ v1 v2, ws = [some v1, some v2] ∧ (Dt K (.int (n : Nat))) v1 S ∧ (Dt K no) v2 S, lam := ⟨_, _, _, _, rfl⟩, lok := fun f' c' dT _ h0 => by obtain ⟨T, rfl⟩ := h0 rfl; exact la5 L n1 n3 hno, free := lamB_free (by decide +kernel), sub := lamB_sub (by decide +kernel), hfr := by decide +kernel, hjs := rfl, ok := ok_one L.okG, hW := fun S' s' => ⟨v3, v12, rfl, Mn.up s' e3, Mn.up s' e12⟩ }
  have hbd : Bd 3 (.list told) := bd_list fun d hd => by
    simp only [told, List.mem_cons, List.not_mem_nil, or_false] at hd
    have bf := bd1_all (L := fars) (by decide +kernel) hfr
    have bz := bd1_all (L := sizes) (by decide +kernel) hsz
    rcases hd with rfl | rfl | rfl | rfl | rfl | rfl <;> first | exact pair_bd trivial | exact pair_bd bf | exact pair_bd bz
  have htr : EE X0 σ S1 (match stAt turnBody 10 with | .If (.UnaryOp _ (.Call _ [e, _] _ _) _) _ _ _ => e | _ => .Constant .none 0 ⟨0, 0, 0, 0⟩) (Dt K (.list told)) :=
    EE.imp (ee_triesV (X := X0) (σ := σ) (S := S1) (xs := capN) (by decide) cap_cells L.tries (hr.mono (by decide)) [i1, i2, i3, i4, i5, i6] (by show 6 ≤ 1000; decide) (i := 13) rfl hl1 al1) fun v S' h => lst_dt (.cons (fun x S h => rtv_err h) (.cons (fun x S h => rtv_err h) (.cons (fun x S h => rtv_err h) (.cons (fun x S h => rtv_err h) (.cons (fun x S h => rtv_err h) (.cons (fun x S h => rtv_err h) (.nil))))))) (by show 6 ≤ 16777216; decide) h
  refine hs_ifN (ET.is (et_not (et_val (ee_callD (L.same 3) (hr.mono (by decide)) ⟨.list told, rfl, hbd, rfl⟩ (ea_2 htr (ee_var 14 rfl pd))))) (by rfl)) g1.sub fun S2 H2 g2 => ?_
  exact nx _ _ H2 (sf.trans (g1.st.trans (g2.st.trans g2.sub))) ((hTf.ext g1.hh).ext g2.hh)
end
end
end K17
namespace K17
open PySem PySem.Spec PyProof.Rows L2 Z Y LamX NdefX
section
variable {P : Program} {w : World} {K : PySem.W.Frag} {mg : Str → Option Value} {base : Heap} {f : Addr} {fd : FuncData}
section
variable {C CS CP CN CG CE CT CW : Addr} {tup : List Value} {c Pt c2 Pt2 : Addr} {A : Around} {outer : List Env} {sh : Shared} {H0 : Hp} {E : XK} {vs vb : V} {S H : Hp} {D : Ends} {rest : List Stmt}
/-- good, line, odd, high -/
theorem turn_d (L : LE P w K mg base C CS CP CN CG CE CT CW tup) (hr : Room 14 (LX P w K mg base f c A outer sh H0 E).A) {n : Nat} {v3 : V} {a2 a4 a5 a6 a7 a8 a9 a10 a11 a12 a13 a14 a15 a16 a17 a18 a19 a20 a21 : Option V} (s : Same S H) (hb : BX vb S) (n1 : 1 ≤ n) (n3 : n ≤ 3) (pm : Dt K (.int (n : Nat)) v3 S)
    (nx : ∀ gd ln od hi v15 v17 v18 v19 S' H', Gr S H S' H' → PgsOk n gd → gd.length = 4 → isPg ln (n : Nat) = false → od ∈ oddL ++ odds n → hi ∈ highs → Dt K (.list (gd.map grpD)) v15 S' → Dt K ln v17 S' → Dt K od v18 S' → Dt K hi v19 S' → HS (LX P w K mg base f c A outer sh H0 E) D rest [some vs, some vb, a2, some v3, a4, a5, a6, a7, a8, a9, a10, a11, a12, a13, a14, some v15, a16, some v17, some v18, some v19, a20, a21] H') :
    HS (LX P w K mg base f c A outer sh H0 E) D (stAt turnBody 11 :: stAt turnBody 12 :: stAt turnBody 13 :: rest) [some vs, some vb, a2, some v3, a4, a5, a6, a7, a8, a9, a10, a11, a12, a13, a14, a15, a16, a17, a18, a19, a20, a21] H := by
  refine hs_set (i := 15) (P := Ex K fun d => ∃ gs : List Grp, d = .list (gs.map grpD) ∧ PgsOk n gs ∧ gs.length = 4) (EE.exi (F := fun d => ∃ rs, d = .list rs ∧ Paired (fun _ d => ∃ g : Grp, d = grpD g ∧ (0 ≤ g.1 ∧ g.2.length = n ∧ ∀ x ∈ g.2, (0 : Int) ≤ x)) (upto 4) rs) ?r1 fun d ⟨rs, e, hp⟩ => ?r2) s sc_law.nd fun v15 S1 H1 g1 pg => ?_
  case r1 =>
    refine ee_lcN (i := 16) rfl sc_law.nd (blkOk_by (N := NL) (sc := defScope slaw) (by decide +kernel)) (ei_range (n := 4) L.frange (by decide) ee_int) (by rw [upto_len]; show _ ≤ 16777216; decide) fun d hd v S3 s3 pv sh' H0' C' cl fp => ?_
    have hb2 : BX vb S3 := Mn.up s3 hb
    have pm2 := pm.up s3
    refine EE.exi (F := fun d => ∃ d1 d2, d = .tuple [d1, d2] ∧ (∃ z : Int, d1 = .int z ∧ 0 ≤ z ∧ z < 3) ∧ (∃ l : List Int, d2 = tI l ∧ l.length = n ∧ ∀ x ∈ l, 0 ≤ x ∧ x ≤ 4)) (ee_pairE (ee_callBx L.take (hr.mono (by decide)) ⟨3, rfl, by decide, by decide, rfl⟩ (ea_2 (ee_var 1 rfl hb2) ee_int)) (ee_callBx L.expo (hr.mono (by decide)) ⟨n, 4, rfl, by omega, by decide, by decide, rfl⟩ (ea_cons (ee_var 1 rfl hb2) (ea_2 (ee_var 3 rfl pm2) ee_int)))) ?a3
    rintro d ⟨d1, d2, rfl, ⟨i, rfl, i1, i2⟩, ⟨l1, rfl, h1, h2⟩⟩
    exact ⟨(i, l1), rfl, i1, h1, fun x hx => (h2 x hx).1⟩
  case r2 =>
    obtain ⟨l, rfl, h2, h3⟩ := paired_any (enc := grpD) hp
    rw [upto_len] at h2
    exact ⟨l, e, fun g hg => h3 g hg, h2⟩
  obtain ⟨_, ⟨gd, rfl, hgd, hd4⟩, pg⟩ := pg
  have hb1 : BX vb S1 := Mn.up g1.st hb
  have pm1 := pm.up g1.st
  obtain ⟨g0, gt, rfl⟩ : ∃ g0 gt, gd = g0 :: gt := by
    cases gd with
    | nil => cases hd4
    | cons a b => exact ⟨a, b, rfl⟩
  have hg0 := hgd g0 List.mem_cons_self
  obtain ⟨k0, es⟩ := g0
  have he1 : es.length = n := hg0.2.1
  have gex : EE (LX P w K mg base f c A outer sh H0 E) ([some vs, some vb, a2, some v3, a4, a5, a6, a7, a8, a9, a10, a11, a12, a13, a14, some v15, a16, a17, a18, a19, a20, a21]) S1 (match stAt turnBody 12 with | .Assign _ (.Call _ [_, .List [_, _, .Tuple [_, e] _ _, _, _, _, _, _] _] _ _) _ => e | _ => .Constant .none 0 ⟨0, 0, 0, 0⟩) (Dt K (tI es)) := ee_ixT (ds := [.int k0, tI es]) (d := tI es) rfl (ee_ixL (d := .tuple [.int k0, tI es]) (by exact L2.atI_nat (j := 0) rfl) (ee_var 15 rfl pg) ee_int) ee_int
  have gx : ∀ {p1 p2 p3 p4 p5 : Pos}, EE (LX P w K mg base f c A outer sh H0 E) ([some vs, some vb, a2, some v3, a4, a5, a6, a7, a8, a9, a10, a11, a12, a13, a14, some v15, a16, a17, a18, a19, a20, a21]) S1 (.Subscript (.Subscript (.Name "_law_good" p1) (.Constant (.int 0) 0 p2) p3) (.Constant (.int 1) 0 p4) p5) (Dt K (tI es)) := ee_ixT (ds := [.int k0, tI es]) (d := tI es) rfl (ee_ixL (d := .tuple [.int k0, tI es]) (by exact L2.atI_nat (j := 0) rfl) (ee_var 15 rfl pg) ee_int) ee_int
  have gx4 : ∀ {p1 p2 p3 p4 p5 : Pos}, EE (LX P w K mg base f c A outer sh H0 E) ([some vs, some vb, a2, some v3, a4, a5, a6, a7, a8, a9, a10, a11, a12, a13, a14, some v15, a16, a17, a18, a19, a20, a21]) S1 (.Subscript (.Subscript (.Name "_law_good" p1) (.Constant (.int 0) 0 p2) p3) (.Constant (.int 1) 0 p4) p5) (Dt K (.tuple (es.map .int))) := gx
  refine hs_set (i := 17) (P := Ex K fun d => d ∈ lines n es) (ee_callBx L.one (hr.mono (by decide)) ⟨lines n es, rfl, by show 0 < 8; decide, by show 8 < 1073741824; decide, rfl⟩ (ea_2 (ee_var 1 rfl hb1) (ee_lst (ds := lines n es)
    (ea_cons ee_non (ea_cons (ee_tup (ds := [.int 0]) (ea_1 ee_int)) (ea_cons (ee_tup (ds := [.int (-1), tI es]) (ea_2 (ee_neg ee_int) gx)) (ea_cons (ee_tup (ds := [.bool true, tI es]) (ea_2 ee_bl gx))
      (ea_cons (ee_tup (ds := [.int 0, .list (es.map .int)]) (ea_2 ee_int (ee_list L.flist (.inr rfl) gx4)))
        (ea_cons (ee_tup (ds := [.int 0, tI (es ++ [0])]) (ea_2 ee_int ((ee_catT (ds1 := es.map .int) (ds2 := [.int 0]) (by rw [List.length_map]; show _ + 1 ≤ 16777216; omega) gx4 (ee_tup (ds := [.int 0]) (ea_1 ee_int))).isd (by unfold tI; rw [List.map_append]; rfl))))
          (ea_cons (ee_tup (ds := [.int 0, tI (List.replicate n (-1))]) (ea_2 ee_int ((ee_repT n1 (by omega) (by show 1 ≤ 1000; decide) (by simp) (ee_tup (ds := [.int (-1)]) (ea_1 (ee_neg ee_int))) (ee_var 3 rfl pm1)).isd (by rw [rep_c, tI_rep]))))
            (ea_cons (ee_lst (ds := [.int 0, tI es]) (ea_2 ee_int gx)) ea_nil)))))))) (by show 8 ≤ 16777216; decide)))) g1.sub sc_law.nd fun v17 S2 H2 g2 pl => ?_
  obtain ⟨ln, hln, pl⟩ := pl
  have G2 := g1.trans g2
  have hb2 : BX vb S2 := Mn.up g2.st hb1
  have pm2 := pm1.up g2.st
  refine hs_unpackF (i := 18) (j := 19) (F := fun d => d ∈ oddL ++ odds n) (G := fun d => d ∈ highs) rfl sc_law.nd (ee_pairE (ee_callBx L.odd (hr.mono (by decide)) ⟨odds n, rfl, by show 2 ≤ 1000; decide, rfl⟩ (ea_2 (ee_var 1 rfl hb2) (ee_lst (ds := odds n) (ea_2 ((ee_repT n1 (by omega) (by show 1 ≤ 1000; decide) (by simp) (ee_tup (ds := [.int 7]) (ea_1 ee_int)) (ee_var 3 rfl pm2)).isd (by rw [rep_c, tI_rep]))
      ((ee_repT (n := n + 1) (by omega) (by omega) (by show 1 ≤ 1000; decide) (by simp) (ee_tup (ds := [.int 0]) (ea_1 ee_int)) ((ee_add (ee_var 3 rfl pm2) ee_int).isd (by rfl))).isd (by rw [rep_c, tI_rep]))) (by show 2 ≤ 16777216; decide))))
    (ee_callBx L.one (hr.mono (by decide)) ⟨highs, rfl, by decide, by decide, rfl⟩ (ea_2 (ee_var 1 rfl hb2) (ee_lst (ds := highs) (ea_cons (ee_neg ee_int) (ea_cons ee_int (ea_cons ee_bl (ea_2 ee_non ee_str)))) (by show 5 ≤ 16777216; decide))))) G2.sub fun od hi v18 v19 S3 H3 hod hhi g3 po ph => ?_
  have s23 := g2.st.trans g3.st
  exact nx _ ln od hi v15 v17 v18 v19 S3 H3 (G2.trans g3) hgd hd4 (line_pg n1 he1 hln) hod hhi (pg.up s23) (pl.up g3.st) po ph
/-- the second asks -/
theorem turn_e (L : LE P w K mg base C CS CP CN CG CE CT CW tup) (T : LTab base mg c Pt c2 Pt2) (hr : Room 14 (LX P w K mg base f c A outer sh H0 E).A) {n sp : Nat} {gs gd : List Grp} {ln od hi : PyData} {v3 v5 v11 v15 v17 v18 v19 : V} {a2 a4 a6 a7 a8 a9 a10 a12 a13 a14 a16 a20 a21 : Option V} (s : Same S H) (nT : ∀ a ps, S a ≠ some (.tbl ps)) (hT : TabsN (TS Pt Pt2) H) (n1 : 1 ≤ n) (n3 : n ≤ 3) (hgd : PgsOk n gd) (hd4 : gd.length = 4) (hsp : sp ≤ 4) (hln : isPg ln (n : Nat) = false) (hod : od ∈ oddL ++ odds n) (hhi : hi ∈ highs)
    (pm : Dt K (.int (n : Nat)) v3 S) (ps : Dt K (.int (sp : Nat)) v5 S) (pt : TabP K C n gs v11 S) (pg : Dt K (.list (gd.map grpD)) v15 S) (pl : Dt K ln v17 S) (po : Dt K od v18 S) (ph : Dt K hi v19 S)
    (nx : ∀ a13 Hf, Same S Hf → TabsN (TS Pt Pt2) Hf → HS (LX P w K mg base f c A outer sh H0 E) D rest [some vs, some vb, a2, some v3, a4, some v5, a6, a7, a8, a9, a10, some v11, a12, a13, a14, some v15, a16, some v17, some v18, some v19, a20, a21] Hf) :
    HS (LX P w K mg base f c A outer sh H0 E) D (stAt turnBody 14 :: stAt turnBody 15 :: rest) [some vs, some vb, a2, some v3, a4, some v5, a6, a7, a8, a9, a10, some v11, a12, a13, a14, some v15, a16, some v17, some v18, some v19, a20, a21] H := by
  refine hs_asksT (es := es14) (i := 13) T.U LTab.m1 T.h1 sc_law.nd hT (fun p hp => ?_) (by decide) fun l xs Hf xf hTf al hl => ?_
  · simp only [es14, List.mem_cons, List.not_mem_nil, or_false] at hp
    rcases hp with rfl | rfl | rfl | rfl
    · exact ⟨_, _, _, _, rfl, lamB_free (e := lamOf (stAt turnBody 14) 0) (by decide +kernel), fun _ => rfl, (by intro z; cases z)⟩
    · exact ⟨_, _, _, _, rfl, lamB_free (e := lamOf (stAt turnBody 14) 1) (by decide +kernel), (by intro z; cases z), fun _ => ⟨_, _, rfl⟩⟩
    · exact ⟨_, _, _, _, rfl, lamB_free (e := lamOf (stAt turnBody 14) 2) (by decide +kernel), (by intro z; cases z), fun _ => ⟨_, _, rfl⟩⟩
    · exact ⟨_, _, _, _, rfl, lamB_free (e := lamOf (stAt turnBody 14) 3) (by decide +kernel), (by intro z; cases z), fun _ => ⟨_, _, rfl⟩⟩
  have sf : Same S (Y.noTab Hf) := tab_step s nT xf
  have e3 := pm.up sf
  have e5 := ps.up sf
  have e11 : TabP K C n gs v11 (Y.noTab Hf) := Mn.up sf pt
  have e15 := pg.up sf
  have e17 := pl.up sf
  have e18 := po.up sf
  have e19 := ph.up sf
  let told : List PyData := [.tuple [.str "InvalidGroup", .int (sp : Nat)], .tuple [.str "InvalidExponent", od], .tuple [.str "InvalidNumber", hi], .tuple [.str "InvalidNumber", hi]]
  let σ : L2.St := [some vs, some vb, a2, some v3, a4, some v5, a6, a7, a8, a9, a10, some v11, a12, some (.ref l), a14, some v15, a16, some v17, some v18, some v19, a20, a21]
  let X0 := LX P w K mg base f c A outer sh H0 E
  let i1 : AskV X0 lamQ tup 10 σ capN (Y.noTab Hf) := { e := lamOf (stAt turnBody 14) 0, b := false, fr := ["_law_many", "_law_good", "_law_spot", "_law_line"], js := [3, 15, 5, 17], R := NoV, rb := inferInstance, O := O1 (kIG CG) (.int (sp : Nat)), W := fun ws S => ∃ v1 v2 v3 v4, ws = [some v1, some v2, some v3, some v4] ∧ (Dt K (.int (n : Nat))) v1 S ∧ (Dt K (.list (gd.map grpD))) v2 S ∧ (Dt K (.int (sp : Nat))) v3 S ∧ (Dt K ln) v4 S, lam := ⟨_, _, _, _, rfl⟩, lok := fun f' c' dT h0 _ => by obtain rfl := h0 rfl; exact lb0 L n1 n3 hgd hd4 hsp hln, free := lamB_free (by decide +kernel), sub := lamB_sub (by decide +kernel), hfr := by decide +kernel, hjs := rfl, ok := ok_one L.okG, hW := fun S' s' => ⟨v3, v15, v5, v17, rfl, Mn.up s' e3, Mn.up s' e15, Mn.up s' e5, Mn.up s' e17⟩ }
  let i2 : AskV X0 lamQ tup 10 σ capN (Y.noTab Hf) := { e := lamOf (stAt turnBody 14) 1, b := true, fr := ["_law_made", "_law_odd_here"], js := [11, 18], R := NoV, rb := inferInstance, O := O1 (kIE CE) od, W := fun ws S => ∃ v1 v2, ws = [some v1, some v2] ∧ (TabP K C n gs) v1 S ∧ (Dt K od) v2 S, lam := ⟨_, _, _, _, rfl⟩, lok := fun f' c' dT _ h0 => by obtain ⟨T, rfl⟩ := h0 rfl; exact lb1 L (odd_exp n1 n3 hod), free := lamB_free (by decide +kernel), sub := lamB_sub (by decide +kernel), hfr := by decide +kernel, hjs := rfl, ok := ok_one L.okE, hW := fun S' s' => ⟨v11, v18, rfl, Mn.up s' e11, Mn.up s' e18⟩ }
  let i3 : AskV X0 lamQ tup 10 σ capN (Y.noTab Hf) := { e := lamOf (stAt turnBody 14) 2, b := true, fr := ["_law_made", "_law_high_z"], js := [11, 19], R := NoV, rb := inferInstance, O := O1 (kIN CN) hi, W := fun ws S => ∃ v1 v2, ws = [some v1, some v2] ∧ (TabP K C n gs) v1 S ∧ (Dt K hi) v2 S, lam := ⟨_, _, _, _, rfl⟩, lok := fun f' c' dT _ h0 => by obtain ⟨T, rfl⟩ := h0 rfl; exact lb2 L (high_p hhi), free := lamB_free (by decide +kernel), sub := lamB_sub (by decide +kernel), hfr := by decide +kernel, hjs := rfl, ok := ok_one L.okN, hW := fun S' s' => ⟨v11, v19, rfl, Mn.up s' e11, Mn.up s' e19⟩ }
  let i4 : AskV X0 lamQ tup 10 σ capN (Y.noTab Hf) := { e := lamOf (stAt turnBody 14) 3, b := true, fr := ["_law_made", "_law_high_z"], js := [11, 19], R := NoV, rb := inferInstance, O := O1 (kIN CN) hi, W := fun ws S => ∃ v1 v2, ws = [some v1, some v2] ∧ (TabP K C n gs) v1 S ∧ (Dt K hi) v2 S, lam := ⟨_, _, _, _, rfl⟩, lok := fun f' c' dT _ h0 => by obtain ⟨T, rfl⟩ := h0 rfl; exact lb3 L (high_p hhi), free := lamB_free (by decide +kernel), sub := lamB_sub (by decide +kernel), hfr := by decide +kernel, hjs := rfl, ok := ok_one L.okN, hW := fun S' s' => ⟨v11, v19, rfl, Mn.up s' e11, Mn.up s' e19⟩ }
  have hbd : Bd 3 (.list told) := bd_list fun d hd => by
    simp only [told, List.mem_cons, List.not_mem_nil, or_false] at hd
    have bo := odds_bd n3 hod
    have bh := bd1_all (L := highs) (by decide +kernel) hhi
    rcases hd with rfl | rfl | rfl | rfl <;> first | exact pair_bd trivial | exact pair_bd bo | exact pair_bd bh
  have htr : EE X0 σ (Y.noTab Hf) (match stAt turnBody 15 with | .If (.UnaryOp _ (.Call _ [e, _] _ _) _) _ _ _ => e | _ => .Constant .none 0 ⟨0, 0, 0, 0⟩) (Dt K (.list told)) :=
    EE.imp (ee_triesV (X := X0) (σ := σ) (S := Y.noTab Hf) (xs := capN) (by decide) cap_cells L.tries (hr.mono (by decide)) [i1, i2, i3, i4] (by show 4 ≤ 1000; decide) (i := 13) rfl hl al) fun v S' h => lst_dt (.cons (fun x S h => rtv_err h) (.cons (fun x S h => rtv_err h) (.cons (fun x S h => rtv_err h) (.cons (fun x S h => rtv_err h) (.nil))))) (by show 4 ≤ 16777216; decide) h
  refine hs_ifN (ET.is (et_not (et_val (ee_callD (L.same 3) (hr.mono (by decide)) ⟨.list told, rfl, hbd, rfl⟩ (ea_2 htr (ee_lst (ds := told) (ea_cons (ee_tup (ds := [.str "InvalidGroup", .int (sp : Nat)]) (ea_2 ee_str (ee_var 5 rfl e5))) (ea_cons (ee_tup (ds := [.str "InvalidExponent", od]) (ea_2 ee_str (ee_var 18 rfl e18))) (ea_2 (ee_tup (ds := [.str "InvalidNumber", hi]) (ea_2 ee_str (ee_var 19 rfl e19))) (ee_tup (ds := [.str "InvalidNumber", hi]) (ea_2 ee_str (ee_var 19 rfl e19)))))) (by show 4 ≤ 16777216; decide)))))) (by rfl)) noTab_sub fun S2 H2 g2 => ?_
  exact nx _ H2 (sf.trans (g2.st.trans g2.sub)) (hTf.ext g2.hh)
/-- the third asks -/
theorem turn_f (L : LE P w K mg base C CS CP CN CG CE CT CW tup) (T : LTab base mg c Pt c2 Pt2) (hr : Room 14 (LX P w K mg base f c A outer sh H0 E).A) {n : Nat} {gs : List Grp} {v3 v11 : V} {a2 a4 a5 a6 a7 a8 a9 a10 a12 a13 a14 a15 a16 a17 a18 a19 a20 a21 : Option V} (s : Same S H) (nT : ∀ a ps, S a ≠ some (.tbl ps)) (hT : TabsN (TS Pt Pt2) H) (n1 : 1 ≤ n) (n3 : n ≤ 3)
    (pm : Dt K (.int (n : Nat)) v3 S) (pt : TabP K C n gs v11 S)
    (nx : ∀ a13 a20 a21 Hf, Same S Hf → TabsN (TS Pt Pt2) Hf → D.nx [some vs, some vb, a2, some v3, a4, a5, a6, a7, a8, a9, a10, some v11, a12, a13, a14, a15, a16, a17, a18, a19, a20, a21] Hf) :
    HS (LX P w K mg base f c A outer sh H0 E) D [stAt turnBody 16, stAt turnBody 17, stAt turnBody 18, stAt turnBody 19] [some vs, some vb, a2, some v3, a4, a5, a6, a7, a8, a9, a10, some v11, a12, a13, a14, a15, a16, a17, a18, a19, a20, a21] H := by
  obtain ⟨m, hm⟩ : ∃ m, m = n % 3 + 1 := ⟨_, rfl⟩
  have m1 : 1 ≤ m := by omega
  have m3 : m ≤ 3 := by omega
  have hnm : n ≠ m := by omega
  refine hs_set (i := 20) (P := Dt K (.int (m : Nat))) ((ee_add (ee_mod (by decide) (ee_intOf L.fint (ee_var 3 rfl pm)) ee_int) ee_int).isd (by rw [hm]; first | rfl | (congr 1; omega))) s sc_law.nd fun v20 S1 H1 g1 po => ?_
  refine hs_set (i := 21) (P := TabP K C m (norm (unitG m))) ((ee_mkT (gs := unitG m) L.mkT (hr.mono (by decide)) L.gT (tab_unit m1 m3) (.inl rfl) (ee_var 20 rfl po) (ee_lst (ds := (unitG m).map grpD) (ea_1 (ee_tup (ds := [.int 1, tI (List.replicate m 1)]) (ea_2 ee_int ((ee_repT m1 (by omega) (by show 1 ≤ 1000; decide) (by simp) (ee_tup (ds := [.int 1]) (ea_1 ee_int)) (ee_var 20 rfl po)).isd (by rw [rep_c, tI_rep]))))))).imp fun v S' h => newR_tab h) g1.sub sc_law.nd fun v21 S2 H2 g2 pq => ?_
  have G2 := g1.trans g2
  have s2 : Same S (Y.noTab S2) := noTab_up G2.st nT
  have hT := hT.ext G2.hh
  refine hs_asksT (es := es18) (i := 13) T.U LTab.m1 T.h1 sc_law.nd hT (fun p hp => ?_) (by decide) fun l xs Hf xf hTf al hl => ?_
  · simp only [es18, List.mem_cons, List.not_mem_nil, or_false] at hp
    rcases hp with rfl | rfl | rfl | rfl
    · exact ⟨_, _, _, _, rfl, lamB_free (e := lamOf (stAt turnBody 18) 0) (by decide +kernel), fun _ => rfl, (by intro z; cases z)⟩
    · exact ⟨_, _, _, _, rfl, lamB_free (e := lamOf (stAt turnBody 18) 1) (by decide +kernel), (by intro z; cases z), fun _ => ⟨_, _, rfl⟩⟩
    · exact ⟨_, _, _, _, rfl, lamB_free (e := lamOf (stAt turnBody 18) 2) (by decide +kernel), (by intro z; cases z), fun _ => ⟨_, _, rfl⟩⟩
    · exact ⟨_, _, _, _, rfl, lamB_free (e := lamOf (stAt turnBody 18) 3) (by decide +kernel), (by intro z; cases z), fun _ => ⟨_, _, rfl⟩⟩
  have sf1 : Same (Y.noTab S2) (Y.noTab Hf) := tab_step (noTab_sub.trans G2.sub) (fun _ _ => noTab_no) xf
  have sf : Same S (Y.noTab Hf) := s2.trans sf1
  have e3 := pm.up sf
  have e11 : TabP K C n gs v11 (Y.noTab Hf) := Mn.up sf pt
  have e20 := (dt_noTab (po.up g2.st)).up sf1
  have e21 : TabP K C m (norm (unitG m)) v21 (Y.noTab Hf) := Mn.up sf1 (Rb.rb les_noTab pq)
  let told : List PyData := [.tuple [.str "WrongWidth", .int (m : Nat)], .tuple [.str "WrongWidth", .int (m : Nat)], .tuple [.str "WrongWidth", .int (m : Nat)], .tuple [.str "WrongWidth", .int (m : Nat)]]
  let σ : L2.St := [some vs, some vb, a2, some v3, a4, a5, a6, a7, a8, a9, a10, some v11, a12, some (.ref l), a14, a15, a16, a17, a18, a19, some v20, some v21]
  let X0 := LX P w K mg base f c A outer sh H0 E
  let i1 : AskV X0 lamQ tup 10 σ capN (Y.noTab Hf) := { e := lamOf (stAt turnBody 18) 0, b := false, fr := ["_law_made", "_law_late"], js := [11, 21], R := NoV, rb := inferInstance, O := O1 (kWW CW) (.int (m : Nat)), W := fun ws S => ∃ v1 v2, ws = [some v1, some v2] ∧ (TabP K C n gs) v1 S ∧ (TabP K C m (norm (unitG m))) v2 S, lam := ⟨_, _, _, _, rfl⟩, lok := fun f' c' dT h0 _ => by obtain rfl := h0 rfl; exact lc0 L hnm, free := lamB_free (by decide +kernel), sub := lamB_sub (by decide +kernel), hfr := by decide +kernel, hjs := rfl, ok := ok_one L.okW, hW := fun S' s' => ⟨v11, v21, rfl, Mn.up s' e11, Mn.up s' e21⟩ }
  let i2 : AskV X0 lamQ tup 10 σ capN (Y.noTab Hf) := { e := lamOf (stAt turnBody 18) 1, b := true, fr := ["_law_made", "_law_late"], js := [11, 21], R := NoV, rb := inferInstance, O := O1 (kWW CW) (.int (m : Nat)), W := fun ws S => ∃ v1 v2, ws = [some v1, some v2] ∧ (TabP K C n gs) v1 S ∧ (TabP K C m (norm (unitG m))) v2 S, lam := ⟨_, _, _, _, rfl⟩, lok := fun f' c' dT _ h0 => by obtain ⟨T, rfl⟩ := h0 rfl; exact lc1 L hnm, free := lamB_free (by decide +kernel), sub := lamB_sub (by decide +kernel), hfr := by decide +kernel, hjs := rfl, ok := ok_one L.okW, hW := fun S' s' => ⟨v11, v21, rfl, Mn.up s' e11, Mn.up s' e21⟩ }
  let i3 : AskV X0 lamQ tup 10 σ capN (Y.noTab Hf) := { e := lamOf (stAt turnBody 18) 2, b := true, fr := ["_law_made", "_law_other_z"], js := [11, 20], R := NoV, rb := inferInstance, O := O1 (kWW CW) (.int (m : Nat)), W := fun ws S => ∃ v1 v2, ws = [some v1, some v2] ∧ (TabP K C n gs) v1 S ∧ (Dt K (.int (m : Nat))) v2 S, lam := ⟨_, _, _, _, rfl⟩, lok := fun f' c' dT _ h0 => by obtain ⟨T, rfl⟩ := h0 rfl; exact lc2 L hnm m1 m3, free := lamB_free (by decide +kernel), sub := lamB_sub (by decide +kernel), hfr := by decide +kernel, hjs := rfl, ok := ok_one L.okW, hW := fun S' s' => ⟨v11, v20, rfl, Mn.up s' e11, Mn.up s' e20⟩ }
  let i4 : AskV X0 lamQ tup 10 σ capN (Y.noTab Hf) := { e := lamOf (stAt turnBody 18) 3, b := true, fr := ["_law_many", "_law_late"], js := [3, 21], R := NoV, rb := inferInstance, O := O1 (kWW CW) (.int (m : Nat)), W := fun ws S => ∃ v1 v2, ws = [some v1, some v2] ∧ (Dt K (.int (n : Nat))) v1 S ∧ (TabP K C m (norm (unitG m))) v2 S, lam := ⟨_, _, _, _, rfl⟩, lok := fun f' c' dT _ h0 => by obtain ⟨T, rfl⟩ := h0 rfl; exact lc3 L hnm n1 n3, free := lamB_free (by decide +kernel), sub := lamB_sub (by decide +kernel), hfr := by decide +kernel, hjs := rfl, ok := ok_one L.okW, hW := fun S' s' => ⟨v3, v21, rfl, Mn.up s' e3, Mn.up s' e21⟩ }
  have hbd : Bd 3 (.list told) := bd_list fun d hd => by
    simp only [told, List.mem_cons, List.not_mem_nil, or_false, or_self] at hd
    subst hd
    exact pair_bd trivial
  have htr : EE X0 σ (Y.noTab Hf) (match stAt turnBody 19 with | .If (.UnaryOp _ (.Call _ [e, _] _ _) _) _ _ _ => e | _ => .Constant .none 0 ⟨0, 0, 0, 0⟩) (Dt K (.list told)) :=
    EE.imp (ee_triesV (X := X0) (σ := σ) (S := Y.noTab Hf) (xs := capN) (by decide) cap_cells L.tries (hr.mono (by decide)) [i1, i2, i3, i4] (by show 4 ≤ 1000; decide) (i := 13) rfl hl al) fun v S' h => lst_dt (.cons (fun x S h => rtv_err h) (.cons (fun x S h => rtv_err h) (.cons (fun x S h => rtv_err h) (.cons (fun x S h => rtv_err h) (.nil))))) (by show 4 ≤ 16777216; decide) h
  refine hs_ifN (ET.is (et_not (et_val (ee_callD (L.same 3) (hr.mono (by decide)) ⟨.list told, rfl, hbd, rfl⟩ (ea_2 htr (ee_repL (ds := [.tuple [.str "WrongWidth", .int (m : Nat)]]) (by decide) (by decide) (by show 1 * 4 ≤ 16777216; decide) (ee_lst (ds := [.tuple [.str "WrongWidth", .int (m : Nat)]]) (ea_1 (ee_tup (ds := [.str "WrongWidth", .int (m : Nat)]) (ea_2 ee_str (ee_var 20 rfl e20))))) ee_int))))) (by rfl)) noTab_sub fun S3 H3 g3 => hs_nil ?_
  exact nx _ _ _ H3 (sf.trans (g3.st.trans g3.sub)) (hTf.ext g3.hh)
end
end
end K17
namespace K17
open PySem PySem.Spec PyProof.Rows L2 Z Y LamX NdefX
section
variable {P : Program} {w : World} {K : PySem.W.Frag} {mg : Str → Option Value} {base : Heap} {f : Addr} {fd : FuncData}
/-! ## the tables at their bounds: they are made -/
theorem grps_norm {n : Nat} {gs : List Grp} (h : GrpsOk n gs) : GrpsOk n (norm gs) := fun g hg => by
  have hr : g.2 ∈ gs.map (·.2) := mem_norm_rows.mp (List.mem_map_of_mem hg)
  have e1 : g.1 = totG gs g.2 := by
    unfold norm at hg
    obtain ⟨r, _, rfl⟩ := List.mem_map.mp hg
    rfl
  obtain ⟨g', hg', e⟩ := List.mem_map.mp hr
  have h4 := (h g' hg').2
  rw [e] at h4
  exact ⟨by rw [e1]; exact totG_pos (fun x hx => (h x hx).1) hr, h4⟩
theorem grps_app {n : Nat} {a b : List Grp} (h : GrpsOk n a) (h' : GrpsOk n b) : GrpsOk n (a ++ b) := fun g hg => (List.mem_append.mp hg).elim (h g) (h' g)
theorem tab_of {n : Nat} {gs : List Grp} (n1 : 1 ≤ n) (n3 : n ≤ 3) (h0 : gs ≠ []) (h1 : gs.length ≤ 100) (h : GrpsOk n gs) : TabOk n gs := ⟨n1, n3, h0, by omega, by have := norm_len gs; omega, h⟩
theorem wg_ne (f m : Nat) : wG f (m + 1) ≠ [] := fun e => by
  have := wg_len f (m + 1)
  rw [e] at this
  cases this
theorem wg_tab (f : Nat) : TabOk 1 (wG f 55) := tab_of (by decide) (by decide) (wg_ne f 54) (by rw [wg_len]; decide) (wg_grps f 55)
theorem wg60_tab (f : Nat) : TabOk 1 (wG f 60) := tab_of (by decide) (by decide) (wg_ne f 59) (by rw [wg_len]; decide) (wg_grps f 60)
theorem ne_110 : norm (wG 0 55) ++ norm (wG 45 55) ≠ [] := fun e => by
  have : (norm (wG 0 55) ++ norm (wG 45 55)).length = 110 := by rw [List.length_append, wg_norm_len, wg_norm_len]
  rw [e] at this
  cases this
theorem ne_101 : norm (wG 0 55) ++ norm (wG 46 55) ≠ [] := fun e => by
  have : (norm (wG 0 55) ++ norm (wG 46 55)).length = 110 := by rw [List.length_append, wg_norm_len, wg_norm_len]
  rw [e] at this
  cases this
theorem ok_100 : TabOk 1 (norm (wG 0 55) ++ norm (wG 45 55)) := ⟨by decide, by decide, ne_110, by rw [List.length_append, wg_norm_len, wg_norm_len]; decide, by rw [len_100]; decide, grps_app (grps_norm (wg_grps 0 55)) (grps_norm (wg_grps 45 55))⟩
theorem two_tab : TabOk 1 two := tab_of (by decide) (by decide) (by decide) (by decide) fun g hg => by
  obtain ⟨h1, x, e, x1, _⟩ := sml_two.2.2 g hg
  exact ⟨by rw [h1]; decide, by rw [e]; rfl, fun y hy => by rw [e] at hy; rw [List.mem_singleton.mp hy]; exact x1⟩
theorem three_tab : TabOk 1 three := tab_of (by decide) (by decide) (by decide) (by decide) fun g hg => by
  obtain ⟨h1, x, e, x1, _⟩ := sml_three.2.2 g hg
  exact ⟨by rw [h1]; decide, by rw [e]; rfl, fun y hy => by rw [e] at hy; rw [List.mem_singleton.mp hy]; exact x1⟩
theorem wn_mem {g : Grp} (h : g ∈ norm (wG 0 55)) : (1 ≤ g.1 ∧ g.1 ≤ 55) ∧ ∃ i : Nat, i < 55 ∧ g.2 = [((0 + 1 + i : Nat) : Int)] := by
  have e1 : g.1 = totG (wG 0 55) g.2 := by
    unfold norm at h
    obtain ⟨r, _, rfl⟩ := List.mem_map.mp h
    rfl
  refine ⟨⟨(grps_norm (wg_grps 0 55) g h).1, ?_⟩, (wg_rows 0 55 _).mp (mem_norm_rows.mp (List.mem_map_of_mem h))⟩
  rw [e1]
  have := totG_le (gs := wG 0 55) (B := 1) (fun x hx => by rw [(wg_mem hx).1]; decide) g.2
  rw [wg_len] at this
  exact this
theorem sq_w : WMul (norm (wG 0 55)) (norm (wG 0 55)) := ⟨by rw [wg_norm_len]; decide, by rw [wg_norm_len]; decide, fun g hg => by
  obtain ⟨_, i, _, e⟩ := wn_mem hg
  rw [e]; exact (show 1 ≤ 3 by decide), fun a ha b hb => by
  obtain ⟨⟨a1, a2⟩, i, hi, ea⟩ := wn_mem ha
  obtain ⟨⟨b1, b2⟩, j, hj, eb⟩ := wn_mem hb
  refine ⟨mulx_small (by omega) (by omega), fun p hp => ?_⟩
  rw [ea, eb] at hp
  have : p = (((0 + 1 + i : Nat) : Int), ((0 + 1 + j : Nat) : Int)) := by simpa using hp
  subst this
  exact mulx_small (by show ((0 + 1 + i : Nat) : Int).natAbs ≤ 1000000; omega) (by show ((0 + 1 + j : Nat) : Int).natAbs ≤ 1000000; omega)⟩
theorem sq_ne : mulG (norm (wG 0 55)) (norm (wG 0 55)) ≠ [] := mulG_ne (norm_ne (wg_ne 0 54)) (norm_ne (wg_ne 0 54))
theorem sq_g : GrpsOk 1 (mulG (norm (wG 0 55)) (norm (wG 0 55))) := fun g hg => by
  obtain ⟨a, ha, b, hb, rfl⟩ := mem_mulG.mp hg
  obtain ⟨⟨a1, a2⟩, i, hi, ea⟩ := wn_mem ha
  obtain ⟨⟨b1, b2⟩, j, hj, eb⟩ := wn_mem hb
  refine ⟨?_, by rw [ea, eb]; rfl, fun x hx => ?_⟩
  · have := Int.mul_le_mul a1 b1 (by omega) (by omega)
    show 1 ≤ a.1 * b.1
    omega
  · rw [ea, eb] at hx
    have e : x = ((0 + 1 + i : Nat) : Int) * ((0 + 1 + j : Nat) : Int) := by simpa using hx
    have := Int.mul_le_mul (show (1 : Int) ≤ ((0 + 1 + i : Nat) : Int) by omega) (show (1 : Int) ≤ ((0 + 1 + j : Nat) : Int) by omega) (by omega) (by omega)
    omega
theorem size_60 : ((norm (wG 0 60)).map fun g : Grp => g.1).sum = 60 := by
  have h := sum_norm (fun _ => 1) (wG 0 60)
  have e : ∀ l : List Grp, (l.map fun g : Grp => g.1 * (fun _ : List Int => (1 : Int)) g.2).sum = (l.map fun g : Grp => g.1).sum := fun l => by
    congr 1
    exact List.map_congr_left fun g _ => Int.mul_one _
  rw [e, e] at h
  rw [h]
  decide +kernel
/-- (i, (i,)) -/
def pwG : List Grp := (List.range 60).map fun i : Nat => (((i : Int), [(i : Int)]) : Grp)
theorem pw_mem {g : Grp} (h : g ∈ pwG) : ∃ i : Nat, i < 60 ∧ g = ((i : Int), [(i : Int)]) := by
  obtain ⟨i, hi, rfl⟩ := List.mem_map.mp h
  exact ⟨i, List.mem_range.mp hi, rfl⟩
theorem pw_len : pwG.length = 60 := by unfold pwG; rw [List.length_map, List.length_range]
theorem pw_ok : PgsOk 1 pwG := fun g hg => by
  obtain ⟨i, _, rfl⟩ := pw_mem hg
  exact ⟨by show (0 : Int) ≤ i; omega, rfl, fun x hx => by rw [List.mem_singleton.mp hx]; omega⟩
theorem pow1_ok (i : Nat) : PowOk 1 (i : Int) := ⟨by omega, by
  show (max 1 1) ^ (i : Int).toNat < _
  rw [show max 1 1 = 1 from rfl, Nat.one_pow]
  exact Nat.one_lt_two_pow (by decide)⟩
theorem pw_pg : ∀ g ∈ pwG, PgOk 1 g := fun g hg => by
  obtain ⟨i, _, rfl⟩ := pw_mem hg
  exact ⟨pow1_ok i, fun x hx => by rw [List.mem_singleton.mp hx]; exact pow1_ok i, by show 1 ≤ 3; decide⟩
theorem pw_one {g : Grp} (h : g ∈ pwG.map (pgG 1)) : g = (1, [1]) := by
  obtain ⟨x, hx, rfl⟩ := List.mem_map.mp h
  obtain ⟨i, _, rfl⟩ := pw_mem hx
  unfold pgG
  simp [Int.one_pow]
theorem pw_tab : TabOk 1 (pwG.map (pgG 1)) := tab_of (by decide) (by decide) (fun e => by
  have : (pwG.map (pgG 1)).length = 60 := by rw [List.length_map, pw_len]
  rw [e] at this
  cases this) (by rw [List.length_map, pw_len]; decide) fun g hg => by
  rw [pw_one hg]
  exact ⟨by decide, rfl, fun x hx => by rw [List.mem_singleton.mp hx]; decide⟩
theorem len_1 : (norm (pwG.map (pgG 1))).length = 1 := Nat.le_antisymm (len_le (L := [[1]]) fun r hr => by
  obtain ⟨g, hg, rfl⟩ := List.mem_map.mp hr
  rw [pw_one hg]
  exact List.mem_singleton.mpr rfl) (len_ge (L := [[1]]) (by decide) fun r hr => by
  rw [List.mem_singleton.mp hr]
  exact List.mem_map.mpr ⟨pgG 1 (((0 : Nat) : Int), [((0 : Nat) : Int)]), List.mem_map_of_mem (List.mem_map.mpr ⟨0, by decide, rfl⟩), rfl⟩)
/-- (1, (1, 1 + i)) -/
def w2G : List Grp := (List.range 60).map fun i : Nat => (((1 : Int), [(1 : Int), ((0 + 1 + i : Nat) : Int)]) : Grp)
theorem w2_tab : TabOk 2 w2G := tab_of (by decide) (by decide) (by decide +kernel) (by decide +kernel) fun g hg => by
  obtain ⟨i, hi, rfl⟩ := List.mem_map.mp hg
  refine ⟨by show (1 : Int) ≤ 1; decide, rfl, fun x hx => ?_⟩
  simp only [List.mem_cons, List.not_mem_nil, or_false] at hx
  rcases hx with rfl | rfl <;> omega
def wF (d : PyData) : Grp := match d with
  | .int i => (1, [1 + i])
  | _ => (0, [])
def pF (d : PyData) : Grp := match d with
  | .int i => (i, [i])
  | _ => (0, [])
def w2F (d : PyData) : Grp := match d with
  | .int i => (1, [1, 1 + i])
  | _ => (0, [])
theorem wF_upto (m : Nat) : (upto m).map wF = wG 0 m := by
  unfold upto wG
  rw [List.map_map]
  exact List.map_congr_left fun i _ => by show ((1 : Int), [1 + ((i : Nat) : Int)]) = _; rw [show (0 + 1 + i : Nat) = 1 + i by omega, Int.natCast_add]; try rfl
theorem wF_rng (f m : Nat) : ((List.range m).map fun k : Nat => PyData.int ((f : Int) + k)).map wF = wG f m := by
  unfold wG
  rw [List.map_map]
  exact List.map_congr_left fun i _ => by show ((1 : Int), [1 + ((f : Int) + (i : Nat))]) = _; rw [show (f + 1 + i : Nat) = 1 + (f + i) by omega, Int.natCast_add, Int.natCast_add]; try rfl
theorem pF_upto : (upto 60).map pF = pwG := by
  unfold upto pwG
  rw [List.map_map]; rfl
theorem w2F_upto : (upto 60).map w2F = w2G := by
  unfold upto w2G
  rw [List.map_map]
  exact List.map_congr_left fun i _ => by show ((1 : Int), [(1 : Int), 1 + ((i : Nat) : Int)]) = _; rw [show (0 + 1 + i : Nat) = 1 + i by omega, Int.natCast_add]; try rfl
theorem mem_upto {m : Nat} {d : PyData} (h : d ∈ upto m) : ∃ i : Nat, d = .int i := by
  obtain ⟨i, _, rfl⟩ := List.mem_map.mp h
  exact ⟨i, rfl⟩
/-- the three wide tables -/
def WPs (K : PySem.W.Frag) (C : Addr) : List (V → Hp → Prop) := [TabP K C 1 (norm (wG 0 55)), TabP K C 1 (norm (wG 45 55)), TabP K C 1 (norm (wG 46 55))]
def WP (K : PySem.W.Frag) (C : Addr) : V → Hp → Prop := LstP (WPs K C)
theorem wmn {K : PySem.W.Frag} {C : Addr} : ∀ P ∈ WPs K C, Mn P := fun P hP => by
  simp only [WPs, List.mem_cons, List.not_mem_nil, or_false] at hP
  rcases hP with rfl | rfl | rfl <;> infer_instance
theorem wrb {K : PySem.W.Frag} {C : Addr} : ∀ P ∈ WPs K C, Rb P := fun P hP => by
  simp only [WPs, List.mem_cons, List.not_mem_nil, or_false] at hP
  rcases hP with rfl | rfl | rfl <;> infer_instance
instance {K : PySem.W.Frag} {C : Addr} : Mn (WP K C) := lstP_mn wmn
instance {K : PySem.W.Frag} {C : Addr} : Rb (WP K C) := lstP_rb wrb
section
variable {C CS CP CN CG CE CT CW : Addr} {tup : List Value}
theorem lq0 (L : LE P w K mg base C CS CP CN CG CE CT CW tup) {f' c' : Addr} {cells : List (Str × Addr)} : LOk P w K mg base (L2.CX P w) 10 f' (LamF (lamOf (stAt (defBody sL_table_bounds_so) 1) 0) lamQB cells c' none) ["_law_wide"] [] (spAsk K (fun ws S => ∃ v1, ws = [some v1] ∧ (WP K C) v1 S) (Dt K (.str "Table(100 groups)")) (NoE)) := by
  refine lok_ask (N := ["_law_wide"]) (ps := []) (nscope_by (sc := LamSc (lamOf (stAt (defBody sL_table_bounds_so) 1) 0)) (by decide +kernel)) (lbind0 rfl fun _ _ => rfl) rfl fun A outer s H ws E S hr hlen hw tk => ?_
  obtain ⟨v1, rfl, p1⟩ := hw
  exact EE.er (ee_repr (P0 := TabP K C 1 (norm (norm (wG 0 55) ++ norm (wG 45 55)))) L.repr (hr.mono (by decide)) L.frepr (ee_binO (m := "__add__") (Pa := TabP K C 1 (norm (wG 0 55))) (Pb := TabP K C 1 (norm (wG 45 55))) rfl L.add L.pc.first (hr.mono (by decide)) (ee_ixLP wmn rfl (ee_var 0 rfl p1) ee_int) (ee_ixLP wmn rfl (ee_var 0 rfl p1) ee_int) TabP.ins TabP.ins (spTop_B ok_100 (by show _ + _ ≤ 1000; rw [wg_norm_len, wg_norm_len]; decide))) TabP.ins
    (spO_E (F := FTrepr C K) (P0 := TabP K C 1 (norm (norm (wG 0 55) ++ norm (wG 45 55)))) (ds := []) (d := .str "Table(100 groups)") ⟨1, _, rfl, by rw [len_100]; decide, rfl, by rw [len_100]; rfl⟩))
theorem lq1 (L : LE P w K mg base C CS CP CN CG CE CT CW tup) {f' c' : Addr} {cells : List (Str × Addr)} {T : Addr} : LOk P w K mg base (L2.CX P w) 10 f' (LamF (lamOf (stAt (defBody sL_table_bounds_so) 1) 1) lamQB cells c' (some T)) ["_law_wide"] [.int 0] (spAsk K (fun ws S => ∃ v1, ws = [some v1] ∧ (WP K C) v1 S) (NoV) (O1 (kTM CT) (.int 100))) := by
  refine lok_ask (N := ["_law_a", "_law_wide"]) (ps := ["_law_a"]) (nscope_by (sc := LamSc (lamOf (stAt (defBody sL_table_bounds_so) 1) 1)) (by decide +kernel)) (lbind1 rfl fun _ _ => ⟨_, rfl, fun _ => rfl⟩) rfl fun A outer s H ws E S hr hlen hw tk => ?_
  obtain ⟨v1, rfl, p1⟩ := hw
  refine er_binO (m := "__add__") (Pa := TabP K C 1 (norm (wG 0 55))) (Pb := TabP K C 1 (norm (wG 46 55))) tk rfl L.addX L.pc.first (hr.mono (by decide)) (ee_ixLP wmn rfl (ee_var 1 rfl p1) ee_int) (ee_ixLP wmn rfl (ee_var 1 rfl p1) ee_int) TabP.ins TabP.ins (spX_O fun vs S1 _ al => ?_)
  obtain ⟨v, u, rfl, pv, pu⟩ := al.two
  exact ⟨_, _, ⟨1, 1, _, _, v, u, rfl, pv, pu, .inr ⟨rfl, by decide, by decide, by rw [wg_norm_len, wg_norm_len]; decide, ne_101, grps_app (grps_norm (wg_grps 0 55)) (grps_norm (wg_grps 46 55)), len_101, rfl, rfl⟩⟩, rfl, rfl⟩
theorem lq2 (L : LE P w K mg base C CS CP CN CG CE CT CW tup) {f' c' : Addr} {cells : List (Str × Addr)} {T : Addr} : LOk P w K mg base (L2.CX P w) 10 f' (LamF (lamOf (stAt (defBody sL_table_bounds_so) 1) 2) lamQB cells c' (some T)) [] [.int 0] (spAsk K (fun ws _ => ws = []) (TabP K C 1 (toG 1 two 60)) (NoE)) := by
  refine lok_ask (N := ["_law_b"]) (ps := ["_law_b"]) (nscope_by (sc := LamSc (lamOf (stAt (defBody sL_table_bounds_so) 1) 2)) (by decide +kernel)) (lbind1 rfl fun _ _ => ⟨_, rfl, fun _ => rfl⟩) rfl fun A outer s H ws E S hr hlen hw tk => ?_
  obtain rfl : ws = [] := hw
  exact EE.er (ee_powO (Pa := TabP K C 1 two) (i := ((60 : Nat) : Int)) L.pow L.pc (hr.mono (by decide)) ((ee_mkT (gs := two) L.mkT (hr.mono (by decide)) L.gT two_tab (.inl rfl) ee_int (ee_lst (ds := two.map grpD) (ea_2 (ee_tup (ds := [.int 1, tI [1]]) (ea_2 ee_int (ee_tup (ds := [.int 1]) (ea_1 ee_int)))) (ee_tup (ds := [.int 1, tI [2]]) (ea_2 ee_int (ee_tup (ds := [.int 2]) (ea_1 ee_int))))))).imp fun v S' h => by have := newR_tab h; rw [norm_two] at this; exact this) ee_int TabP.ins (spTto_B (k := 60) to_two))
theorem lq3 (L : LE P w K mg base C CS CP CN CG CE CT CW tup) {f' c' : Addr} {cells : List (Str × Addr)} {T : Addr} : LOk P w K mg base (L2.CX P w) 10 f' (LamF (lamOf (stAt (defBody sL_table_bounds_so) 1) 3) lamQB cells c' (some T)) ["_law_wide"] [.int 0] (spAsk K (fun ws S => ∃ v1, ws = [some v1] ∧ (WP K C) v1 S) (NoV) (O1 (kTM CT) (.int 100))) := by
  refine lok_ask (N := ["_law_c", "_law_wide"]) (ps := ["_law_c"]) (nscope_by (sc := LamSc (lamOf (stAt (defBody sL_table_bounds_so) 1) 3)) (by decide +kernel)) (lbind1 rfl fun _ _ => ⟨_, rfl, fun _ => rfl⟩) rfl fun A outer s H ws E S hr hlen hw tk => ?_
  obtain ⟨v1, rfl, p1⟩ := hw
  refine er_binO (m := "__mul__") (Pa := TabP K C 1 (norm (wG 0 55))) (Pb := TabP K C 1 (norm (wG 0 55))) tk rfl L.mulX L.pc.first (hr.mono (by decide)) (ee_ixLP wmn rfl (ee_var 1 rfl p1) ee_int) (ee_ixLP wmn rfl (ee_var 1 rfl p1) ee_int) TabP.ins TabP.ins (spX_O fun vs S1 _ al => ?_)
  obtain ⟨v, u, rfl, pv, pu⟩ := al.two
  exact ⟨_, _, ⟨1, 1, _, _, v, u, rfl, pv, pu, .inr ⟨rfl, by decide, by decide, sq_w, sq_ne, sq_g, len_sq, rfl, rfl⟩⟩, rfl, rfl⟩
theorem lq4 (L : LE P w K mg base C CS CP CN CG CE CT CW tup) {f' c' : Addr} {cells : List (Str × Addr)} : LOk P w K mg base (L2.CX P w) 10 f' (LamF (lamOf (stAt (defBody sL_table_bounds_so) 2) 0) lamQB cells c' none) [] [] (spAsk K (fun ws _ => ws = []) (Dt K (.int 60)) (NoE)) := by
  refine lok_ask (N := ["_law_at"]) (ps := []) (nscope_by (sc := LamSc (lamOf (stAt (defBody sL_table_bounds_so) 2) 0)) (by decide +kernel)) (lbind0 rfl fun _ _ => rfl) rfl fun A outer s H ws E S hr hlen hw tk => ?_
  obtain rfl : ws = [] := hw
  obtain ⟨pp, gg, fds, pss, hprop, Fsz, hbs⟩ := L.size
  exact EE.er (ee_prop L.cls hprop Fsz (hr.mono (by decide)) hbs ((ee_mkT (gs := wG 0 60) L.mkT (hr.mono (by decide)) L.gT (wg60_tab 0) (.inl rfl) ee_int ((ee_lc (i := 0) (enc := grpD) (f := wF) rfl (show (["_law_at"] : List Str).Nodup by decide) (blkOk_by (N := ["_law_at"]) (sc := LamSc (lamOf (stAt (defBody sL_table_bounds_so) 2) 0)) (by decide +kernel)) (ei_range (n := 60) L.frange (by decide) ee_int) (by rw [upto_len]; show 60 ≤ 16777216; decide) fun d hd v S3 s3 pv sh' H0' C' cl fp => by
      obtain ⟨i, rfl⟩ := mem_upto hd
      exact ee_tup (ds := [.int 1, tI [1 + (i : Nat)]]) (ea_2 ee_int (ee_tup (ds := [.int (1 + (i : Nat))]) (ea_1 (ee_add ee_int (ee_var 0 rfl pv)))))).isd (by rw [wF_upto]))).imp fun v S' h => newR_tab h) TabP.ins (spO_E (F := FTsize C K) (P0 := TabP K C 1 (norm (wG 0 60))) (ds := []) (d := .int 60) ⟨1, _, rfl, by rw [wg_norm_len]; decide, rfl, by rw [size_60]⟩))
theorem lq5 (L : LE P w K mg base C CS CP CN CG CE CT CW tup) {f' c' : Addr} {cells : List (Str × Addr)} {T : Addr} : LOk P w K mg base (L2.CX P w) 10 f' (LamF (lamOf (stAt (defBody sL_table_bounds_so) 2) 1) lamQB cells c' (some T)) [] [.int 0] (spAsk K (fun ws _ => ws = []) (Dt K (.str "Table(1 groups)")) (NoE)) := by
  refine lok_ask (N := ["_law_a", "_law_at"]) (ps := ["_law_a"]) (nscope_by (sc := LamSc (lamOf (stAt (defBody sL_table_bounds_so) 2) 1)) (by decide +kernel)) (lbind1 rfl fun _ _ => ⟨_, rfl, fun _ => rfl⟩) rfl fun A outer s H ws E S hr hlen hw tk => ?_
  obtain rfl : ws = [] := hw
  exact EE.er (ee_repr (P0 := TabP K C 1 (norm (pwG.map (pgG 1)))) L.repr (hr.mono (by decide)) L.frepr (ee_staticP L.pw (hr.mono (by decide)) L.gT (Ps := [Dt K (.int ((1 : Nat) : Int)), Dt K (.int 1), Dt K (.list (pwG.map grpD))]) (ea_cons ee_int (ea_2 ee_int ((ee_lc (i := 1) (enc := grpD) (f := pF) rfl (show (["_law_a", "_law_at"] : List Str).Nodup by decide) (blkOk_by (N := ["_law_a", "_law_at"]) (sc := LamSc (lamOf (stAt (defBody sL_table_bounds_so) 2) 1)) (by decide +kernel)) (ei_range (n := 60) L.frange (by decide) ee_int) (by rw [upto_len]; show 60 ≤ 16777216; decide) fun d hd v S3 s3 pv sh' H0' C' cl fp => by
      obtain ⟨i, rfl⟩ := mem_upto hd
      exact ee_tup (ds := [.int (i : Nat), tI [(i : Nat)]]) (ea_2 (ee_var 1 rfl pv) (ee_tup (ds := [.int (i : Nat)]) (ea_1 (ee_var 1 rfl pv))))).isd (by rw [pF_upto])))) (spTpw_E (n := 1) (b := 1) (gs := pwG) (by decide) (by rw [pw_len]; decide) pw_ok pw_pg pw_tab)) TabP.ins
    (spO_E (F := FTrepr C K) (P0 := TabP K C 1 (norm (pwG.map (pgG 1)))) (ds := []) (d := .str "Table(1 groups)") ⟨1, _, rfl, by rw [len_1]; decide, rfl, by rw [len_1]; rfl⟩))
theorem lm0 (L : LE P w K mg base C CS CP CN CG CE CT CW tup) {f' c' : Addr} {cells : List (Str × Addr)} : LOk P w K mg base (L2.CX P w) 10 f' (LamF (lamOf (stAt (defBody sL_table_bounds_so) 4) 0) lamQB cells c' none) ["_law_three"] [] (spAsk K (fun ws S => ∃ v1, ws = [some v1] ∧ (TabP K C 1 three) v1 S) (NoV) (O1 (kTM CT) (.int 100))) := by
  refine lok_ask (N := ["_law_three"]) (ps := []) (nscope_by (sc := LamSc (lamOf (stAt (defBody sL_table_bounds_so) 4) 0)) (by decide +kernel)) (lbind0 rfl fun _ _ => rfl) rfl fun A outer s H ws E S hr hlen hw tk => ?_
  obtain ⟨v1, rfl, p1⟩ := hw
  refine er_powO (Pa := TabP K C 1 three) (i := ((60 : Nat) : Int)) tk L.powX L.pc (hr.mono (by decide)) (ee_var 0 rfl p1) ee_int TabP.ins (spX_O fun vs S1 _ al => ?_)
  obtain ⟨v, u, rfl, pv, pu⟩ := al.two
  exact ⟨_, _, ⟨1, three, v, u, rfl, pv, .inr ⟨60, 12, pu, by decide, by decide, by decide, by decide, to_three, .inr ⟨rfl, by decide, by decide, three_w, mulG_ne (toG_ne (by decide) 12) (by decide), three_g, len_13, rfl, rfl⟩⟩⟩, rfl, rfl⟩
theorem lm1 (L : LE P w K mg base C CS CP CN CG CE CT CW tup) {f' c' : Addr} {cells : List (Str × Addr)} {T : Addr} : LOk P w K mg base (L2.CX P w) 10 f' (LamF (lamOf (stAt (defBody sL_table_bounds_so) 4) 1) lamQB cells c' (some T)) ["_law_three"] [.int 0] (spAsk K (fun ws S => ∃ v1, ws = [some v1] ∧ (TabP K C 1 three) v1 S) (Dt K (.str "Table(91 groups)")) (NoE)) := by
  refine lok_ask (N := ["_law_a", "_law_three"]) (ps := ["_law_a"]) (nscope_by (sc := LamSc (lamOf (stAt (defBody sL_table_bounds_so) 4) 1)) (by decide +kernel)) (lbind1 rfl fun _ _ => ⟨_, rfl, fun _ => rfl⟩) rfl fun A outer s H ws E S hr hlen hw tk => ?_
  obtain ⟨v1, rfl, p1⟩ := hw
  exact EE.er (ee_repr (P0 := TabP K C 1 (toG 1 three 12)) L.repr (hr.mono (by decide)) L.frepr (ee_powO (Pa := TabP K C 1 three) (i := ((12 : Nat) : Int)) L.pow L.pc (hr.mono (by decide)) (ee_var 1 rfl p1) ee_int TabP.ins (spTto_B (k := 12) to_three)) TabP.ins
    (spO_E (F := FTrepr C K) (P0 := TabP K C 1 (toG 1 three 12)) (ds := []) (d := .str "Table(91 groups)") ⟨1, _, rfl, by rw [len_12]; decide, rfl, by rw [len_12]; rfl⟩))
theorem lm2 (L : LE P w K mg base C CS CP CN CG CE CT CW tup) {f' c' : Addr} {cells : List (Str × Addr)} {T : Addr} : LOk P w K mg base (L2.CX P w) 10 f' (LamF (lamOf (stAt (defBody sL_table_bounds_so) 4) 2) lamQB cells c' (some T)) [] [.int 0] (spAsk K (fun ws _ => ws = []) (NoV) (O1 (kWW CW) (.int 2))) := by
  refine lok_ask (N := ["_law_b", "_law_at"]) (ps := ["_law_b"]) (nscope_by (sc := LamSc (lamOf (stAt (defBody sL_table_bounds_so) 4) 2)) (by decide +kernel)) (lbind1 rfl fun _ _ => ⟨_, rfl, fun _ => rfl⟩) rfl fun A outer s H ws E S hr hlen hw tk => ?_
  obtain rfl : ws = [] := hw
  refine er_binO (m := "__add__") (Pa := TabP K C 1 (norm (wG 0 60))) (Pb := TabP K C 2 (norm w2G)) tk rfl L.addX L.pc.first (hr.mono (by decide)) ((ee_mkT (gs := wG 0 60) L.mkT (hr.mono (by decide)) L.gT (wg60_tab 0) (.inl rfl) ee_int ((ee_lc (i := 1) (enc := grpD) (f := wF) rfl (show (["_law_b", "_law_at"] : List Str).Nodup by decide) (blkOk_by (N := ["_law_b", "_law_at"]) (sc := LamSc (lamOf (stAt (defBody sL_table_bounds_so) 4) 2)) (by decide +kernel)) (ei_range (n := 60) L.frange (by decide) ee_int) (by rw [upto_len]; show 60 ≤ 16777216; decide) fun d hd v S3 s3 pv sh' H0' C' cl fp => by
      obtain ⟨i, rfl⟩ := mem_upto hd
      exact ee_tup (ds := [.int 1, tI [1 + (i : Nat)]]) (ea_2 ee_int (ee_tup (ds := [.int (1 + (i : Nat))]) (ea_1 (ee_add ee_int (ee_var 1 rfl pv)))))).isd (by rw [wF_upto]))).imp fun v S' h => newR_tab h)
    ((ee_mkT (n := 2) (gs := w2G) L.mkT (hr.mono (by decide)) L.gT w2_tab (.inl rfl) ee_int ((ee_lc (i := 1) (enc := grpD) (f := w2F) rfl (show (["_law_b", "_law_at"] : List Str).Nodup by decide) (blkOk_by (N := ["_law_b", "_law_at"]) (sc := LamSc (lamOf (stAt (defBody sL_table_bounds_so) 4) 2)) (by decide +kernel)) (ei_range (n := 60) L.frange (by decide) ee_int) (by rw [upto_len]; show 60 ≤ 16777216; decide) fun d hd v S3 s3 pv sh' H0' C' cl fp => by
      obtain ⟨i, rfl⟩ := mem_upto hd
      exact ee_tup (ds := [.int 1, tI [1, 1 + (i : Nat)]]) (ea_2 ee_int (ee_tup (ds := [.int 1, .int (1 + (i : Nat))]) (ea_2 ee_int (ee_add ee_int (ee_var 1 rfl pv)))))).isd (by rw [w2F_upto]))).imp fun v S' h => newR_tab h) TabP.ins TabP.ins (spX_O fun vs S1 _ al => ?_)
  obtain ⟨v, u, rfl, pv, pu⟩ := al.two
  exact ⟨_, _, ⟨1, 2, _, _, v, u, rfl, pv, pu, .inl ⟨by decide, rfl, rfl⟩⟩, rfl, rfl⟩
end
end
end K17
namespace K17
open PySem PySem.Spec PyProof.Rows L2 Z Y LamX NdefX
section
variable {P : Program} {w : World} {K : PySem.W.Frag} {mg : Str → Option Value} {base : Heap} {f : Addr} {fd : FuncData}
abbrev capB : List Str := ["_law_wide", "_law_three"]
theorem cap_cellsB {c2 : Addr} {A : Around} {outer : List Env} {sh : Shared} {H0 : Hp} {E : XK} : ∀ y ∈ capB, (BXx P w K mg base f c2 A outer sh H0 E).env.scope.names.lookup y = some .cell ∧ (BXx P w K mg base f c2 A outer sh H0 E).fn y = true := fun y hy => by
  simp only [capB, List.mem_cons, List.not_mem_nil, or_false] at hy
  rcases hy with rfl | rfl <;> exact ⟨rfl, rfl⟩
def lamC (e : Expr) : Bool := (LamSc e).names.all fun y => !decide (y.2 = .free) || (decide ((defScope sL_table_bounds_so).names.lookup y.1 = some .cell) && decide (y.1 ∈ capB))
theorem lamC_free {e : Expr} (h : lamC e = true) : ∀ y ∈ (LamSc e).names, y.2 = .free → (defScope sL_table_bounds_so).names.lookup y.1 = some .cell ∨ (defScope sL_table_bounds_so).names.lookup y.1 = some .free := fun y hy hf => by
  have := List.all_eq_true.mp h y hy
  rw [hf] at this
  simp only [decide_true, Bool.not_true, Bool.false_or, Bool.and_eq_true, decide_eq_true_eq] at this
  exact .inl this.1
theorem lamC_sub {e : Expr} (h : lamC e = true) : ∀ y ∈ (LamSc e).names, y.2 = .free → y.1 ∈ capB := fun y hy hf => by
  have := List.all_eq_true.mp h y hy
  rw [hf] at this
  simp only [decide_true, Bool.not_true, Bool.false_or, Bool.and_eq_true, decide_eq_true_eq] at this
  exact this.2
abbrev esq : List (Expr × Bool) := [(lamOf (stAt (defBody sL_table_bounds_so) 1) 0, false), (lamOf (stAt (defBody sL_table_bounds_so) 1) 1, true), (lamOf (stAt (defBody sL_table_bounds_so) 1) 2, true), (lamOf (stAt (defBody sL_table_bounds_so) 1) 3, true)]
abbrev esq2 : List (Expr × Bool) := [(lamOf (stAt (defBody sL_table_bounds_so) 2) 0, false), (lamOf (stAt (defBody sL_table_bounds_so) 2) 1, true)]
abbrev esm : List (Expr × Bool) := [(lamOf (stAt (defBody sL_table_bounds_so) 4) 0, false), (lamOf (stAt (defBody sL_table_bounds_so) 4) 1, true), (lamOf (stAt (defBody sL_table_bounds_so) 4) 2, true)]
section
variable {C CS CP CN CG CE CT CW : Addr} {tup : List Value} {c Pt c2 Pt2 : Addr} {A : Around} {outer : List Env} {sh : Shared} {H0 : Hp} {E : XK} {vs vb : V} {S H : Hp} {D : Ends} {rest : List Stmt}
/-- the wide tables -/
theorem bnd_a (L : LE P w K mg base C CS CP CN CG CE CT CW tup) (hr : Room 14 (BXx P w K mg base f c2 A outer sh H0 E).A) {a0 a1 a2 a3 a4 a5 : Option V} (s : Same S H)
    (nx : ∀ v0 S' H', Gr S H S' H' → WP K C v0 S' → HS (BXx P w K mg base f c2 A outer sh H0 E) D rest [some v0, a1, a2, a3, a4, a5] H') : HS (BXx P w K mg base f c2 A outer sh H0 E) D (stAt (defBody sL_table_bounds_so) 0 :: rest) [a0, a1, a2, a3, a4, a5] H := by
  refine hs_set (i := 0) (P := WP K C) (ee_lcB (ds := [0, 45, 46]) (R := fun (k : Nat) => Dt K (.int (k : Nat))) (G := fun (k : Nat) => TabP K C 1 (norm (wG k 55))) (own := [("_law_first", 1)]) (fun d _ => inferInstance) rfl sc_bnd.nd (blkOk_by (N := NB) (sc := defScope sL_table_bounds_so) (by decide +kernel)) (ei_list (ds := [.int 0, .int 45, .int 46]) (ee_lst (ds := [.int 0, .int 45, .int 46]) (ea_cons ee_int (ea_2 ee_int ee_int)))) (by show 3 ≤ 16777216; decide) fun d hd v S' s' pv => ⟨_, wipe1, fun sh' H0' C' cl fp => ⟨eg_name (i := 1) sc_bnd.nd rfl (by first | exact Or.inl rfl | exact Or.inr rfl) (by first | exact .inl rfl | exact .inr rfl), ets_nil, ?_⟩⟩) s sc_bnd.nd fun v0 S1 H1 g1 pw => nx v0 S1 H1 g1 pw
  have pv : Dt K (.int (d : Nat)) v S' := pv
  have hd3 : d ≤ 46 := by
    simp only [List.mem_cons, List.not_mem_nil, or_false] at hd
    omega
  refine EE.imp (P := NewR (TabL K C 1 (norm (wG d 55))) S') ?_ fun v S' h => newR_tab h
  refine ee_mkT (gs := wG d 55) L.mkT (hr.mono (by decide)) L.gT (wg_tab d) (.inl rfl) ee_int ?_
  refine (ee_lc (i := 2) (enc := grpD) (f := wF) rfl sc_bnd.nd (blkOk_by (N := NB) (sc := compScope (setE (defBody sL_table_bounds_so) 0)) (by decide +kernel)) (ei_range2 (i := (d : Int)) (n := 55) L.frange (by omega) (by decide) (ee_var 1 rfl pv) (ee_add (ee_var 1 rfl pv) ee_int)) (by rw [List.length_map, List.length_range]; show 55 ≤ 16777216; decide) fun e he u S3 s3 pu sh2 H02 C2 cl2 fp2 => ?_).isd (by rw [wF_rng])
  obtain ⟨k, _, rfl⟩ := List.mem_map.mp he
  exact ee_tup (ds := [.int 1, tI [1 + ((d : Int) + (k : Nat))]]) (ea_2 ee_int (ee_tup (ds := [.int (1 + ((d : Int) + (k : Nat)))]) (ea_1 (ee_add ee_int (ee_var 2 rfl pu)))))
/-- the six asks -/
theorem bnd_b (T : LTab base mg c Pt c2 Pt2) {v0 : V} {a1 a2 a3 a4 a5 : Option V} (s : Same S H) (nT : ∀ a ps, S a ≠ some (.tbl ps)) (hT : TabsN (TS Pt Pt2) H)
    (nx : ∀ l xs Hf, Same S (Y.noTab Hf) → TabsN (TS Pt Pt2) Hf → Al (AskEs (BXx P w K mg base f c2 A outer sh H0 E).env.cells lamQB (esq ++ esq2)) xs (Y.noTab Hf) → Y.noTab Hf l = some (.lst xs) → HS (BXx P w K mg base f c2 A outer sh H0 E) D rest [some v0, a1, a2, some (.ref l), a4, a5] Hf) :
    HS (BXx P w K mg base f c2 A outer sh H0 E) D (stAt (defBody sL_table_bounds_so) 1 :: stAt (defBody sL_table_bounds_so) 2 :: rest) [some v0, a1, a2, a3, a4, a5] H := by
  refine hs_asksT (es := esq) (i := 3) T.U2 LTab.m2 T.h2 sc_bnd.nd hT (fun p hp => ?_) (by decide) fun l xs Hf xf hTf al hl => ?_
  · simp only [esq, List.mem_cons, List.not_mem_nil, or_false] at hp
    rcases hp with rfl | rfl | rfl | rfl
    · exact ⟨_, _, _, _, rfl, lamC_free (e := lamOf (stAt (defBody sL_table_bounds_so) 1) 0) (by decide +kernel), fun _ => rfl, (by intro z; cases z)⟩
    · exact ⟨_, _, _, _, rfl, lamC_free (e := lamOf (stAt (defBody sL_table_bounds_so) 1) 1) (by decide +kernel), (by intro z; cases z), fun _ => ⟨_, _, rfl⟩⟩
    · exact ⟨_, _, _, _, rfl, lamC_free (e := lamOf (stAt (defBody sL_table_bounds_so) 1) 2) (by decide +kernel), (by intro z; cases z), fun _ => ⟨_, _, rfl⟩⟩
    · exact ⟨_, _, _, _, rfl, lamC_free (e := lamOf (stAt (defBody sL_table_bounds_so) 1) 3) (by decide +kernel), (by intro z; cases z), fun _ => ⟨_, _, rfl⟩⟩
  have sf : Same S (Y.noTab Hf) := tab_step s nT xf
  have hT := hTf
  refine hs_asksMoreT (es := esq2) (es0 := esq) (i := 3) T.U2 LTab.m2 T.h2 sc_bnd.nd hT (fun p hp => ?_) (by decide) (askEs_up noTab_sub al) (noTab_sub _ _ hl) rfl fun l2 xs2 Hg xg hTg al2 hl2 => ?_
  · simp only [esq2, List.mem_cons, List.not_mem_nil, or_false] at hp
    rcases hp with rfl | rfl
    · exact ⟨_, _, _, _, rfl, lamC_free (e := lamOf (stAt (defBody sL_table_bounds_so) 2) 0) (by decide +kernel), fun _ => rfl, (by intro z; cases z)⟩
    · exact ⟨_, _, _, _, rfl, lamC_free (e := lamOf (stAt (defBody sL_table_bounds_so) 2) 1) (by decide +kernel), (by intro z; cases z), fun _ => ⟨_, _, rfl⟩⟩
  exact nx l2 xs2 Hg (sf.trans (tab_step noTab_sub (fun _ _ => noTab_no) xg)) hTg al2 hl2
/-- the three others -/
theorem bnd_c (L : LE P w K mg base C CS CP CN CG CE CT CW tup) (T : LTab base mg c Pt c2 Pt2) (hr : Room 14 (BXx P w K mg base f c2 A outer sh H0 E).A) {v0 v3 : V} {a1 a2 a4 a5 : Option V} (s : Same S H) (nT : ∀ a ps, S a ≠ some (.tbl ps)) (hT : TabsN (TS Pt Pt2) H)
    (nx : ∀ v4 a5 Hf, Same S Hf → HS (BXx P w K mg base f c2 A outer sh H0 E) D rest [some v0, a1, a2, some v3, some v4, a5] Hf) :
    HS (BXx P w K mg base f c2 A outer sh H0 E) D (stAt (defBody sL_table_bounds_so) 3 :: stAt (defBody sL_table_bounds_so) 4 :: stAt (defBody sL_table_bounds_so) 5 :: rest) [some v0, a1, a2, some v3, a4, a5] H := by
  refine hs_set (i := 4) (P := TabP K C 1 three) ((ee_mkT (gs := three) L.mkT (hr.mono (by decide)) L.gT three_tab (.inl rfl) ee_int (ee_lst (ds := three.map grpD) (ea_cons (ee_tup (ds := [.int 1, tI [2]]) (ea_2 ee_int (ee_tup (ds := [.int 2]) (ea_1 ee_int)))) (ea_2 (ee_tup (ds := [.int 1, tI [3]]) (ea_2 ee_int (ee_tup (ds := [.int 3]) (ea_1 ee_int)))) (ee_tup (ds := [.int 1, tI [5]]) (ea_2 ee_int (ee_tup (ds := [.int 5]) (ea_1 ee_int)))))))).imp fun v S' h => by have := newR_tab h; rw [norm_three] at this; exact this) s sc_bnd.nd fun v4 S1 H1 g1 pt => ?_
  have s1 : Same S (Y.noTab S1) := noTab_up g1.st nT
  have hT := hT.ext g1.hh
  refine hs_asksT (es := esm) (i := 5) T.U2 LTab.m2 T.h2 sc_bnd.nd hT (fun p hp => ?_) (by decide) fun l xs Hf xf hTf al hl => ?_
  · simp only [esm, List.mem_cons, List.not_mem_nil, or_false] at hp
    rcases hp with rfl | rfl | rfl
    · exact ⟨_, _, _, _, rfl, lamC_free (e := lamOf (stAt (defBody sL_table_bounds_so) 4) 0) (by decide +kernel), fun _ => rfl, (by intro z; cases z)⟩
    · exact ⟨_, _, _, _, rfl, lamC_free (e := lamOf (stAt (defBody sL_table_bounds_so) 4) 1) (by decide +kernel), (by intro z; cases z), fun _ => ⟨_, _, rfl⟩⟩
    · exact ⟨_, _, _, _, rfl, lamC_free (e := lamOf (stAt (defBody sL_table_bounds_so) 4) 2) (by decide +kernel), (by intro z; cases z), fun _ => ⟨_, _, rfl⟩⟩
  have sf1 : Same (Y.noTab S1) (Y.noTab Hf) := tab_step (noTab_sub.trans g1.sub) (fun _ _ => noTab_no) xf
  have sf : Same S (Y.noTab Hf) := s1.trans sf1
  have e4 : TabP K C 1 three v4 (Y.noTab Hf) := Mn.up sf1 (Rb.rb les_noTab pt)
  let told : List PyData := [.tuple [.str "TooMany", .int 100], .tuple [.str "", .str "Table(91 groups)"], .tuple [.str "WrongWidth", .int 2]]
  let σ : L2.St := [some v0, a1, a2, some v3, some v4, some (.ref l)]
  let X0 := BXx P w K mg base f c2 A outer sh H0 E
  let i1 : AskV X0 lamQB tup 10 σ capB (Y.noTab Hf) := { e := lamOf (stAt (defBody sL_table_bounds_so) 4) 0, b := false, fr := ["_law_three"], js := [4], R := NoV, rb := inferInstance, O := O1 (kTM CT) (.int 100), W := fun ws S => ∃ v1, ws = [some v1] ∧ (TabP K C 1 three) v1 S, lam := ⟨_, _, _, _, rfl⟩, lok := fun f' c' dT h0 _ => by obtain rfl := h0 rfl; exact lm0 L, free := lamC_free (by decide +kernel), sub := lamC_sub (by decide +kernel), hfr := by decide +kernel, hjs := rfl, ok := ok_one L.okT, hW := fun S' s' => ⟨v4, rfl, Mn.up s' e4⟩ }
  let i2 : AskV X0 lamQB tup 10 σ capB (Y.noTab Hf) := { e := lamOf (stAt (defBody sL_table_bounds_so) 4) 1, b := true, fr := ["_law_three"], js := [4], R := Dt K (.str "Table(91 groups)"), rb := inferInstance, O := NoE, W := fun ws S => ∃ v1, ws = [some v1] ∧ (TabP K C 1 three) v1 S, lam := ⟨_, _, _, _, rfl⟩, lok := fun f' c' dT _ h0 => by obtain ⟨T, rfl⟩ := h0 rfl; exact lm1 L, free := lamC_free (by decide +kernel), sub := lamC_sub (by decide +kernel), hfr := by decide +kernel, hjs := rfl, ok := ok_none, hW := fun S' s' => ⟨v4, rfl, Mn.up s' e4⟩ }
  let i3 : AskV X0 lamQB tup 10 σ capB (Y.noTab Hf) := { e := lamOf (stAt (defBody sL_table_bounds_so) 4) 2, b := true, fr := [], js := [], R := NoV, rb := inferInstance, O := O1 (kWW CW) (.int 2), W := fun ws _ => ws = [], lam := ⟨_, _, _, _, rfl⟩, lok := fun f' c' dT _ h0 => by obtain ⟨T, rfl⟩ := h0 rfl; exact lm2 L, free := lamC_free (by decide +kernel), sub := lamC_sub (by decide +kernel), hfr := by decide +kernel, hjs := rfl, ok := ok_one L.okW, hW := fun S' s' => rfl }
  have hbd : Bd 3 (.list told) := bd_list fun d hd => by
    simp only [told, List.mem_cons, List.not_mem_nil, or_false] at hd
    rcases hd with rfl | rfl | rfl <;> exact pair_bd trivial
  have htr : EE X0 σ (Y.noTab Hf) (match stAt (defBody sL_table_bounds_so) 5 with | .If (.UnaryOp _ (.Call _ [e, _] _ _) _) _ _ _ => e | _ => .Constant .none 0 ⟨0, 0, 0, 0⟩) (Dt K (.list told)) :=
    EE.imp (ee_triesV (X := X0) (σ := σ) (S := Y.noTab Hf) (xs := capB) (by decide) cap_cellsB L.tries (hr.mono (by decide)) [i1, i2, i3] (by show 3 ≤ 1000; decide) (i := 5) rfl hl al) fun v S' h => lst_dt (.cons (fun x S h => rtv_err h) (.cons (fun x S h => rtv_dat h) (.cons (fun x S h => rtv_err h) .nil))) (by show 3 ≤ 16777216; decide) h
  refine hs_ifN (ET.is (et_not (et_val (ee_callD (L.same 3) (hr.mono (by decide)) ⟨.list told, rfl, hbd, rfl⟩ (ea_2 htr (ee_lst (ds := told) (ea_cons (ee_tup (ds := [.str "TooMany", .int 100]) (ea_2 ee_str ee_int)) (ea_2 (ee_tup (ds := [.str "", .str "Table(91 groups)"]) (ea_2 ee_str ee_str)) (ee_tup (ds := [.str "WrongWidth", .int 2]) (ea_2 ee_str ee_int)))) (by show 3 ≤ 16777216; decide)))))) (by rfl)) noTab_sub fun S2 H2 g2 => ?_
  exact nx v4 _ H2 (sf.trans (g2.st.trans g2.sub))
theorem sm_pair {K : PySem.W.Frag} {C : Addr} {n : Nat} {gs : List Grp} {v u : V} {S : Hp} (h : RtV K (TabP K C n gs) NoE v S) (h2 : TupP [Dt K (.str ""), TabP K C n gs] u S) : Sm K (TT K C) 1 v u S := by
  rcases h with ⟨l, x, rfl, h1, p⟩ | ⟨_, _, z, _⟩
  · obtain ⟨m, ys, rfl, hm, al⟩ := h2
    obtain ⟨y1, y2, rfl, q1, q2⟩ := al.two
    refine .inr (.inr ⟨l, m, _, _, rfl, rfl, by show 2 ≤ 1000; decide, ?_, .inr ⟨h1, hm⟩⟩)
    exact .cons (sm_dat (d := .str "") trivial (.str _) q1) (.cons (sm_T ⟨n, gs, p, q2⟩) .nil)
  · exact z.elim
def Due (K : PySem.W.Frag) (C : Addr) : List (V → Hp → Prop) := [Dt K (.tuple [.str "", .str "Table(100 groups)"]), Dt K (.tuple [.str "TooMany", .int 100]), TupP [Dt K (.str ""), TabP K C 1 (toG 1 two 60)], Dt K (.tuple [.str "TooMany", .int 100]), Dt K (.tuple [.str "", .int 60]), Dt K (.tuple [.str "", .str "Table(1 groups)"])]
theorem bnd_d (L : LE P w K mg base C CS CP CN CG CE CT CW tup) (hr : Room 14 (BXx P w K mg base f c2 A outer sh H0 E).A) {v0 : V} {l : Addr} {xs : List V} {a1 a2 a4 a5 : Option V} (s : Same S H) (pw : WP K C v0 S) (al : Al (AskEs (BXx P w K mg base f c2 A outer sh H0 E).env.cells lamQB (esq ++ esq2)) xs S) (hl : S l = some (.lst xs)) (q : ∀ H', D.rt (.bl true) H') :
    HS (BXx P w K mg base f c2 A outer sh H0 E) D [stAt (defBody sL_table_bounds_so) 6] [some v0, a1, a2, some (.ref l), a4, a5] H := by
  have e0 := pw
  let σ : L2.St := [some v0, a1, a2, some (.ref l), a4, a5]
  let X0 := BXx P w K mg base f c2 A outer sh H0 E
  let i1 : AskV X0 lamQB tup 10 σ capB (S) := { e := lamOf (stAt (defBody sL_table_bounds_so) 1) 0, b := false, fr := ["_law_wide"], js := [0], R := Dt K (.str "Table(100 groups)"), rb := inferInstance, O := NoE, W := fun ws S => ∃ v1, ws = [some v1] ∧ (WP K C) v1 S, lam := ⟨_, _, _, _, rfl⟩, lok := fun f' c' dT h0 _ => by obtain rfl := h0 rfl; exact lq0 L, free := lamC_free (by decide +kernel), sub := lamC_sub (by decide +kernel), hfr := by decide +kernel, hjs := rfl, ok := ok_none, hW := fun S' s' => ⟨v0, rfl, Mn.up s' e0⟩ }
  let i2 : AskV X0 lamQB tup 10 σ capB (S) := { e := lamOf (stAt (defBody sL_table_bounds_so) 1) 1, b := true, fr := ["_law_wide"], js := [0], R := NoV, rb := inferInstance, O := O1 (kTM CT) (.int 100), W := fun ws S => ∃ v1, ws = [some v1] ∧ (WP K C) v1 S, lam := ⟨_, _, _, _, rfl⟩, lok := fun f' c' dT _ h0 => by obtain ⟨T, rfl⟩ := h0 rfl; exact lq1 L, free := lamC_free (by decide +kernel), sub := lamC_sub (by decide +kernel), hfr := by decide +kernel, hjs := rfl, ok := ok_one L.okT, hW := fun S' s' => ⟨v0, rfl, Mn.up s' e0⟩ }
  let i3 : AskV X0 lamQB tup 10 σ capB (S) := { e := lamOf (stAt (defBody sL_table_bounds_so) 1) 2, b := true, fr := [], js := [], R := TabP K C 1 (toG 1 two 60), rb := inferInstance, O := NoE, W := fun ws _ => ws = [], lam := ⟨_, _, _, _, rfl⟩, lok := fun f' c' dT _ h0 => by obtain ⟨T, rfl⟩ := h0 rfl; exact lq2 L, free := lamC_free (by decide +kernel), sub := lamC_sub (by decide +kernel), hfr := by decide +kernel, hjs := rfl, ok := ok_none, hW := fun S' s' => rfl }
  let i4 : AskV X0 lamQB tup 10 σ capB (S) := { e := lamOf (stAt (defBody sL_table_bounds_so) 1) 3, b := true, fr := ["_law_wide"], js := [0], R := NoV, rb := inferInstance, O := O1 (kTM CT) (.int 100), W := fun ws S => ∃ v1, ws = [some v1] ∧ (WP K C) v1 S, lam := ⟨_, _, _, _, rfl⟩, lok := fun f' c' dT _ h0 => by obtain ⟨T, rfl⟩ := h0 rfl; exact lq3 L, free := lamC_free (by decide +kernel), sub := lamC_sub (by decide +kernel), hfr := by decide +kernel, hjs := rfl, ok := ok_one L.okT, hW := fun S' s' => ⟨v0, rfl, Mn.up s' e0⟩ }
  let i5 : AskV X0 lamQB tup 10 σ capB (S) := { e := lamOf (stAt (defBody sL_table_bounds_so) 2) 0, b := false, fr := [], js := [], R := Dt K (.int 60), rb := inferInstance, O := NoE, W := fun ws _ => ws = [], lam := ⟨_, _, _, _, rfl⟩, lok := fun f' c' dT h0 _ => by obtain rfl := h0 rfl; exact lq4 L, free := lamC_free (by decide +kernel), sub := lamC_sub (by decide +kernel), hfr := by decide +kernel, hjs := rfl, ok := ok_none, hW := fun S' s' => rfl }
  let i6 : AskV X0 lamQB tup 10 σ capB (S) := { e := lamOf (stAt (defBody sL_table_bounds_so) 2) 1, b := true, fr := [], js := [], R := Dt K (.str "Table(1 groups)"), rb := inferInstance, O := NoE, W := fun ws _ => ws = [], lam := ⟨_, _, _, _, rfl⟩, lok := fun f' c' dT _ h0 => by obtain ⟨T, rfl⟩ := h0 rfl; exact lq5 L, free := lamC_free (by decide +kernel), sub := lamC_sub (by decide +kernel), hfr := by decide +kernel, hjs := rfl, ok := ok_none, hW := fun S' s' => rfl }
  have htr : EE X0 σ S (match stAt (defBody sL_table_bounds_so) 6 with | .Return (some (.Call _ [e, _] _ _)) _ => e | _ => .Constant .none 0 ⟨0, 0, 0, 0⟩) (LstP [RtV K (Dt K (.str "Table(100 groups)")) (NoE), RtV K (NoV) (O1 (kTM CT) (.int 100)), RtV K (TabP K C 1 (toG 1 two 60)) (NoE), RtV K (NoV) (O1 (kTM CT) (.int 100)), RtV K (Dt K (.int 60)) (NoE), RtV K (Dt K (.str "Table(1 groups)")) (NoE)]) := ee_triesV (X := X0) (σ := σ) (S := S) (xs := capB) (by decide) cap_cellsB L.tries (hr.mono (by decide)) [i1, i2, i3, i4, i5, i6] (by show 6 ≤ 1000; decide) (i := 3) rfl hl al
  haveI : Mn (LstP [RtV K (Dt K (.str "Table(100 groups)")) (NoE), RtV K (NoV) (O1 (kTM CT) (.int 100)), RtV K (TabP K C 1 (toG 1 two 60)) (NoE), RtV K (NoV) (O1 (kTM CT) (.int 100)), RtV K (Dt K (.int 60)) (NoE), RtV K (Dt K (.str "Table(1 groups)")) (NoE)]) := lstP_mn fun P hP => by
    simp only [List.mem_cons, List.not_mem_nil, or_false] at hP
    rcases hP with rfl | rfl | rfl | rfl | rfl | rfl <;> exact (rtv_rb inferInstance).mn
  haveI : Mn (LstP (Due K C)) := lstP_mn fun P hP => by
    simp only [Due, List.mem_cons, List.not_mem_nil, or_false] at hP
    rcases hP with rfl | rfl | rfl | rfl | rfl | rfl <;> first | infer_instance | exact ⟨fun s ⟨l, xs, h1, h2, h3⟩ => ⟨l, xs, h1, s _ _ h2, h3.up (.cons inferInstance (.cons inferInstance .nil)) s⟩⟩
  haveI : Mn (TupP [Dt K (.str ""), TabP K C 1 (toG 1 two 60)]) := ⟨fun s ⟨l, xs, h1, h2, h3⟩ => ⟨l, xs, h1, s _ _ h2, h3.up (.cons inferInstance (.cons inferInstance .nil)) s⟩⟩
  refine hs_ret (P := Dt K (.bool true)) (ee_call (L.sameV 2) (hr.mono (by decide)) (ea_2 htr (ee_lstP (Ps := Due K C) (ea_cons (ee_tup (ds := [.str "", .str "Table(100 groups)"]) (ea_2 ee_str ee_str)) (ea_cons (ee_tup (ds := [.str "TooMany", .int 100]) (ea_2 ee_str ee_int)) (ea_cons (ee_tupP (Ps := [Dt K (.str ""), TabP K C 1 (toG 1 two 60)]) (ea_2 ee_str (ee_powO (Pa := TabP K C 1 two) (i := ((60 : Nat) : Int)) L.pow L.pc (hr.mono (by decide)) ((ee_mkT (gs := two) L.mkT (hr.mono (by decide)) L.gT two_tab (.inl rfl) ee_int (ee_lst (ds := two.map grpD) (ea_2 (ee_tup (ds := [.int 1, tI [1]]) (ea_2 ee_int (ee_tup (ds := [.int 1]) (ea_1 ee_int)))) (ee_tup (ds := [.int 1, tI [2]]) (ea_2 ee_int (ee_tup (ds := [.int 2]) (ea_1 ee_int))))))).imp fun v S' h => by have := newR_tab h; rw [norm_two] at this; exact this) ee_int TabP.ins (spTto_B (k := 60) to_two))))
    (ea_cons (ee_tup (ds := [.str "TooMany", .int 100]) (ea_2 ee_str ee_int)) (ea_2 (ee_tup (ds := [.str "", .int 60]) (ea_2 ee_str ee_int)) (ee_tup (ds := [.str "", .str "Table(1 groups)"]) (ea_2 ee_str ee_str)))))))
    (by show 6 ≤ 16777216; decide))) fun vs S1 H1 st s1 al' Q qq => ?_) s fun v S' H' g pv => by cases pv; exact q H'
  obtain ⟨v, u, rfl, pv, pu⟩ := al'.two
  refine ⟨S1, v, u, rfl, s1, ?_, qq⟩
  obtain ⟨lf, fs, rfl, hf, af⟩ := pv
  obtain ⟨ld, ds, rfl, hd, ad⟩ := pu
  cases af with
  | cons f1 af => cases af with
    | cons f2 af => cases af with
      | cons f3 af => cases af with
        | cons f4 af => cases af with
          | cons f5 af => cases af with
            | cons f6 af =>
              cases af
              cases ad with
              | cons d1 ad => cases ad with
                | cons d2 ad => cases ad with
                  | cons d3 ad => cases ad with
                    | cons d4 ad => cases ad with
                      | cons d5 ad => cases ad with
                        | cons d6 ad =>
                          cases ad
                          refine .inr (.inr ⟨lf, ld, _, _, rfl, rfl, by show 6 ≤ 1000; decide, ?_, .inl ⟨hf, hd⟩⟩)
                          have bp : ∀ {c : Str} {g : PyData}, Bd 0 g → Bd 1 (.tuple [.str c, g]) := fun hg y hy => by
                            simp only [List.mem_cons, List.not_mem_nil, or_false] at hy
                            rcases hy with rfl | rfl
                            · trivial
                            · exact hg
                          exact .cons (sm_dat (d := .tuple [.str "", .str "Table(100 groups)"]) (bp trivial) (rtv_dat f1) d1) (.cons (sm_dat (d := .tuple [.str "TooMany", .int 100]) (bp trivial) (rtv_err f2) d2) (.cons (sm_pair f3 d3) (.cons (sm_dat (d := .tuple [.str "TooMany", .int 100]) (bp trivial) (rtv_err f4) d4) (.cons (sm_dat (d := .tuple [.str "", .int 60]) (bp trivial) (rtv_dat f5) d5) (.cons (sm_dat (d := .tuple [.str "", .str "Table(1 groups)"]) (bp trivial) (rtv_dat f6) d6) .nil)))))
end
end
end K17
namespace K17
open PySem PySem.Spec PyProof.Rows L2 Z Y LamX NdefX
section
variable {P : Program} {w : World} {K : PySem.W.Frag} {mg : Str → Option Value} {base : Heap} {f : Addr} {fd : FuncData}
def spBnd (Pt Pt2 : Addr) : Sp := fun vs H Q _ => vs = [] ∧ TabsN (TS Pt Pt2) H ∧ ∀ H', Q (.bl true) H'
theorem ok_bnd {C CS CP CN CG CE CT CW : Addr} {tup : List Value} {c Pt c2 Pt2 : Addr} (F : FnT K "_law_table_bounds_so" sL_table_bounds_so f fd) (hcode : fd.code = .ref c2) (L : LE P w K mg base C CS CP CN CG CE CT CW tup) (T : LTab base mg c Pt c2 Pt2) : FnOk P w K mg base CX0 15 f fd [] (spBnd Pt Pt2) := by
  refine fn_hsC F sc_bnd hcode (fun vs H Q E h => by obtain ⟨rfl, _⟩ := h; rfl) (fun A outer sh H vs Q E hr h => ?_)
  obtain ⟨rfl, hT, q⟩ := h
  refine bnd_a L hr (S := Y.noTab H) noTab_sub fun v0 S1 H1 g1 pw => ?_
  have s1 : Same (Y.noTab S1) H1 := noTab_sub.trans g1.sub
  refine bnd_b T s1 (fun _ _ => noTab_no) (hT.ext g1.hh) fun l xs Hf sf hTf al hl => ?_
  refine bnd_c L T hr (S := Y.noTab Hf) noTab_sub (fun _ _ => noTab_no) hTf fun v4 a5 Hg sg => ?_
  have pw2 : WP K C v0 (Y.noTab Hf) := Mn.up sf (Rb.rb les_noTab pw)
  exact bnd_d L hr sg pw2 al hl q
def spLaw (K : PySem.W.Frag) (Pt Pt2 : Addr) : Sp := fun vs H Q _ => ∃ (a : Addr) (ns : List Int), vs = [.ref a] ∧ SqL K H a (ns.map V.int) ∧ ns.length ≤ 63 ∧ H Pt = some (.tbl #[]) ∧ H Pt2 = some (.tbl #[]) ∧ ∀ H', Q (.bl true) H'
def OSt (vs vb : V) (σ : L2.St) : Prop := ∃ a2 a3 a4 a5 a6 a7 a8 a9 a10 a11 a12 a13 a14 a15 a16 a17 a18 a19 a20 a21, σ = [some vs, some vb, a2, a3, a4, a5, a6, a7, a8, a9, a10, a11, a12, a13, a14, a15, a16, a17, a18, a19, a20, a21]
theorem ok_law {C CS CP CN CG CE CT CW : Addr} {tup : List Value} {c Pt c2 Pt2 : Addr} (F : FnT K "law" slaw f fd) (hcode : fd.code = .ref c) (L : LE P w K mg base C CS CP CN CG CE CT CW tup) (T : LTab base mg c Pt c2 Pt2) (DB : KD P w K mg base "_law_table_bounds_so" 15 (spBnd Pt Pt2)) : FnOk P w K mg base CX0 16 f fd ["_law_script"] (spLaw K Pt Pt2) := by
  refine fn_hsC F sc_law hcode (fun vs H Q E h => by obtain ⟨a, ns, rfl, _⟩ := h; rfl) (fun A outer sh H vs Q E hr h => ?_)
  obtain ⟨a, ns, rfl, hS, hl, hP, hP2, q⟩ := h
  obtain ⟨fo, fdo, pso, G, hm, hk, hb⟩ := L.openD.ex
  obtain ⟨fB, fdB, psB, GB, hmB, hkB, hbB⟩ := DB.ex
  have hr14 : Room 14 (LX P w K mg base f c A outer sh H E).A := hr.mono (by decide)
  refine hs_cons (ps_set (i := 1) sc_law.nd rfl (by first | exact Or.inl rfl | exact Or.inr rfl) (pe_call G (hr.mono (by decide)) rfl hm hk hb .nil pass0 (pa_cons (pv 0) pa_nil)) rfl (by first | exact .inl rfl | exact .inr rfl)) ?_
  refine ⟨_, rfl, ?_⟩
  refine ⟨a, ns, rfl, hS, hl, fun vb H1 sm hbx => ?_⟩
  have hT : TabsN (TS Pt Pt2) H1 := fun p hp => by
    simp only [TS, List.mem_cons, List.not_mem_nil, or_false] at hp
    rcases hp with rfl | rfl
    · exact TabN.nil (sm _ _ hP)
    · exact TabN.nil (sm _ _ hP2)
  refine hs_forR (S := H1) (n := 4) (fun i σ H' => BX vb H' ∧ TabsN (TS Pt Pt2) H' ∧ OSt (.ref a) vb σ) PassesOwn.never rfl L.frange (by decide) ee_int (Same.refl H1) (fun S' H' g => ⟨Mn.up (g.st.trans g.sub) hbx, hT.ext g.hh, _, _, _, _, _, _, _, _, _, _, _, _, _, _, _, _, _, _, _, _, rfl⟩) ?_ ?_
  · rintro i σ1 H2 _ ⟨hb2, hT2, a2, a3, a4, a5, a6, a7, a8, a9, a10, a11, a12, a13, a14, a15, a16, a17, a18, a19, a20, a21, rfl⟩
    refine (eg_name (S := Y.noTab H2) (i := 2) sc_law.nd rfl (by first | exact Or.inl rfl | exact Or.inr rfl)) H2 noTab_sub _ ?_
    refine turn_a L hr14 noTab_sub (bx_noTab hb2) fun n gs sp bad v3 v4 v5 v6 v7 v8 S3 H3 g3 n1 n3 hgs hg4 hsp hbad pm pl ps pbt => ?_
    have hb3 : BX vb S3 := Mn.up g3.st (bx_noTab hb2)
    refine turn_b L hr14 g3.sub hb3 n1 n3 hgs pm pl fun fr sz no v9 v10 v11 v12 S4 H4 g4 hfr hsz hno pf pz pt pn => ?_
    have s4 : Same (Y.noTab S4) H4 := noTab_sub.trans g4.sub
    have nT : ∀ a ps, Y.noTab S4 a ≠ some (.tbl ps) := fun _ _ => noTab_no
    have hb4 : BX vb (Y.noTab S4) := bx_noTab (Mn.up g4.st hb3)
    have pm4 := dt_noTab (pm.up g4.st)
    have ps4 := dt_noTab (ps.up g4.st)
    have pt4 : TabP K C n (norm gs) v11 (Y.noTab S4) := Rb.rb les_noTab pt
    refine turn_c L T hr14 s4 nT ((hT2.ext g3.hh).ext g4.hh) n1 n3 hgs hg4 hsp hbad hfr hsz hno pm4 ps4 (dt_noTab (pbt.up g4.st)) (dt_noTab pf) (dt_noTab pz) (dt_noTab pn) fun b13 b14 H5 s5 hT5 => ?_
    refine turn_d L hr14 s5 hb4 n1 n3 pm4 fun gd ln od hi v15 v17 v18 v19 S6 H6 g6 hgd hd4 hln hod hhi pg pl2 po ph => ?_
    have s6 : Same (Y.noTab S6) H6 := noTab_sub.trans g6.sub
    have pm6 := dt_noTab (pm4.up g6.st)
    have pt6 : TabP K C n (norm gs) v11 (Y.noTab S6) := Rb.rb les_noTab (Mn.up g6.st pt4)
    refine turn_e L T hr14 s6 (fun _ _ => noTab_no) (hT5.ext g6.hh) n1 n3 hgd hd4 hsp hln hod hhi pm6 (dt_noTab (ps4.up g6.st)) pt6 (dt_noTab pg) (dt_noTab pl2) (dt_noTab po) (dt_noTab ph) fun c13 H7 s7 hT7 => ?_
    exact turn_f L T hr14 s7 (fun _ _ => noTab_no) hT7 n1 n3 pm6 pt6 fun d13 d20 d21 H8 s8 hT8 => ⟨Mn.up s8 (bx_noTab (Mn.up g6.st hb4)), hT8, _, _, _, _, _, _, _, _, _, _, _, _, _, _, _, _, _, _, _, _, rfl⟩
  · rintro σ1 H2 ⟨hb2, hT2, a2, a3, a4, a5, a6, a7, a8, a9, a10, a11, a12, a13, a14, a15, a16, a17, a18, a19, a20, a21, rfl⟩
    refine hs_cons (ps_ret (pe_call0 GB (hr.mono (by decide)) rfl hmB hkB hbB .nil pass0)) ?_
    exact ⟨rfl, hT2, fun H' => q H'⟩
end
end K17
namespace K17
open PySem PySem.Spec PyProof.Rows L2 Z Y LamX NdefX
section
variable {P : Program} {w : World} {K : PySem.W.Frag} {mg : Str → Option Value} {base : Heap} {f : Addr} {fd : FuncData}
/-! ## the errors of k17 -/
theorem sc_iInvalidNumber : FnScope ["self", "given"] ["self", "given"] (defScope sInvalidNumber____init__) := ⟨rfl, rfl, rfl, by decide +kernel, rfl, by decide +kernel, by decide +kernel⟩
theorem ok_init_InvalidNumber {C : Addr} (F : FunD K "__init__" "InvalidNumber.__init__" (defArgs sInvalidNumber____init__) (defBody sInvalidNumber____init__) (defScope sInvalidNumber____init__) [] [] f fd) (T : OexC K C) (n1 : PySem.W.findIn K (.ref C) "given" = some none) (n2 : PySem.W.findIn K (.ref C) "code" = some none) : FnOk P w K mg base CX0 1 f fd ["self", "given"] (spXI C "given" "InvalidNumber") := by
  refine fn_hs F sc_iInvalidNumber (fun vs H Q E h => ?_) (fun cdv A outer sh H vs Q E hr h => ?_)
  · obtain ⟨a, v, rfl, _⟩ := h
    rfl
  · obtain ⟨a, v, rfl, ha, q⟩ := h
    refine hs_cons (ps_ost (pv 0) (pv 1)) ⟨_, rfl, _, rfl, a, C, rfl, T, n1, .inl ⟨ha, fun dx h1 h2 => ?_⟩⟩
    refine hs_cons (ps_ost (pv 0) pe_str) ⟨_, rfl, a, C, rfl, T, n2, .inr ⟨dx, [("given", v)], upd_same, by rw [upd_ne h2, upd_same], (show 1 ≤ 900 by decide), ?_⟩⟩
    exact hs_nil (q dx h1 h2)
theorem sc_iInvalidGroup : FnScope ["self", "at"] ["self", "at"] (defScope sInvalidGroup____init__) := ⟨rfl, rfl, rfl, by decide +kernel, rfl, by decide +kernel, by decide +kernel⟩
theorem ok_init_InvalidGroup {C : Addr} (F : FunD K "__init__" "InvalidGroup.__init__" (defArgs sInvalidGroup____init__) (defBody sInvalidGroup____init__) (defScope sInvalidGroup____init__) [] [] f fd) (T : OexC K C) (n1 : PySem.W.findIn K (.ref C) "at" = some none) (n2 : PySem.W.findIn K (.ref C) "code" = some none) : FnOk P w K mg base CX0 1 f fd ["self", "at"] (spXI C "at" "InvalidGroup") := by
  refine fn_hs F sc_iInvalidGroup (fun vs H Q E h => ?_) (fun cdv A outer sh H vs Q E hr h => ?_)
  · obtain ⟨a, v, rfl, _⟩ := h
    rfl
  · obtain ⟨a, v, rfl, ha, q⟩ := h
    refine hs_cons (ps_ost (pv 0) (pv 1)) ⟨_, rfl, _, rfl, a, C, rfl, T, n1, .inl ⟨ha, fun dx h1 h2 => ?_⟩⟩
    refine hs_cons (ps_ost (pv 0) pe_str) ⟨_, rfl, a, C, rfl, T, n2, .inr ⟨dx, [("at", v)], upd_same, by rw [upd_ne h2, upd_same], (show 1 ≤ 900 by decide), ?_⟩⟩
    exact hs_nil (q dx h1 h2)
theorem sc_iInvalidExponent : FnScope ["self", "given"] ["self", "given"] (defScope sInvalidExponent____init__) := ⟨rfl, rfl, rfl, by decide +kernel, rfl, by decide +kernel, by decide +kernel⟩
theorem ok_init_InvalidExponent {C : Addr} (F : FunD K "__init__" "InvalidExponent.__init__" (defArgs sInvalidExponent____init__) (defBody sInvalidExponent____init__) (defScope sInvalidExponent____init__) [] [] f fd) (T : OexC K C) (n1 : PySem.W.findIn K (.ref C) "given" = some none) (n2 : PySem.W.findIn K (.ref C) "code" = some none) : FnOk P w K mg base CX0 1 f fd ["self", "given"] (spXI C "given" "InvalidExponent") := by
  refine fn_hs F sc_iInvalidExponent (fun vs H Q E h => ?_) (fun cdv A outer sh H vs Q E hr h => ?_)
  · obtain ⟨a, v, rfl, _⟩ := h
    rfl
  · obtain ⟨a, v, rfl, ha, q⟩ := h
    refine hs_cons (ps_ost (pv 0) (pv 1)) ⟨_, rfl, _, rfl, a, C, rfl, T, n1, .inl ⟨ha, fun dx h1 h2 => ?_⟩⟩
    refine hs_cons (ps_ost (pv 0) pe_str) ⟨_, rfl, a, C, rfl, T, n2, .inr ⟨dx, [("given", v)], upd_same, by rw [upd_ne h2, upd_same], (show 1 ≤ 900 by decide), ?_⟩⟩
    exact hs_nil (q dx h1 h2)
theorem sc_iTooMany : FnScope ["self", "most"] ["self", "most"] (defScope sTooMany____init__) := ⟨rfl, rfl, rfl, by decide +kernel, rfl, by decide +kernel, by decide +kernel⟩
theorem ok_init_TooMany {C : Addr} (F : FunD K "__init__" "TooMany.__init__" (defArgs sTooMany____init__) (defBody sTooMany____init__) (defScope sTooMany____init__) [] [] f fd) (T : OexC K C) (n1 : PySem.W.findIn K (.ref C) "most" = some none) (n2 : PySem.W.findIn K (.ref C) "code" = some none) : FnOk P w K mg base CX0 1 f fd ["self", "most"] (spXI C "most" "TooMany") := by
  refine fn_hs F sc_iTooMany (fun vs H Q E h => ?_) (fun cdv A outer sh H vs Q E hr h => ?_)
  · obtain ⟨a, v, rfl, _⟩ := h
    rfl
  · obtain ⟨a, v, rfl, ha, q⟩ := h
    refine hs_cons (ps_ost (pv 0) (pv 1)) ⟨_, rfl, _, rfl, a, C, rfl, T, n1, .inl ⟨ha, fun dx h1 h2 => ?_⟩⟩
    refine hs_cons (ps_ost (pv 0) pe_str) ⟨_, rfl, a, C, rfl, T, n2, .inr ⟨dx, [("most", v)], upd_same, by rw [upd_ne h2, upd_same], (show 1 ≤ 900 by decide), ?_⟩⟩
    exact hs_nil (q dx h1 h2)
theorem sc_iWrongWidth : FnScope ["self", "width"] ["self", "width"] (defScope sWrongWidth____init__) := ⟨rfl, rfl, rfl, by decide +kernel, rfl, by decide +kernel, by decide +kernel⟩
theorem ok_init_WrongWidth {C : Addr} (F : FunD K "__init__" "WrongWidth.__init__" (defArgs sWrongWidth____init__) (defBody sWrongWidth____init__) (defScope sWrongWidth____init__) [] [] f fd) (T : OexC K C) (n1 : PySem.W.findIn K (.ref C) "width" = some none) (n2 : PySem.W.findIn K (.ref C) "code" = some none) : FnOk P w K mg base CX0 1 f fd ["self", "width"] (spXI C "width" "WrongWidth") := by
  refine fn_hs F sc_iWrongWidth (fun vs H Q E h => ?_) (fun cdv A outer sh H vs Q E hr h => ?_)
  · obtain ⟨a, v, rfl, _⟩ := h
    rfl
  · obtain ⟨a, v, rfl, ha, q⟩ := h
    refine hs_cons (ps_ost (pv 0) (pv 1)) ⟨_, rfl, _, rfl, a, C, rfl, T, n1, .inl ⟨ha, fun dx h1 h2 => ?_⟩⟩
    refine hs_cons (ps_ost (pv 0) pe_str) ⟨_, rfl, a, C, rfl, T, n2, .inr ⟨dx, [("width", v)], upd_same, by rw [upd_ne h2, upd_same], (show 1 ≤ 900 by decide), ?_⟩⟩
    exact hs_nil (q dx h1 h2)
def gK {α : Type} : List α → List α → List α → List α
  | us, _, [a, b] => us ++ [b, a]
  | us, _, ws => us ++ ws
theorem gK_rel {vs ds zs : List V} {us its ws : List Value} (r1 : Vals vs us) (_ : Vals ds its) (r3 : Vals zs ws) : Vals (gK vs ds zs) (gK us its ws) := by
  cases r3 with
  | nil => exact r1.append .nil
  | cons a t =>
    cases t with
    | nil => exact r1.append (.cons a .nil)
    | cons b t =>
      cases t with
      | nil => exact r1.append (.cons b (.cons a .nil))
      | cons c t => exact r1.append (.cons a (.cons b (.cons c t)))
theorem kbindsW {K : PySem.W.Frag} {x qual : Str} {params : Arguments} {body : List Stmt} {scope : Scope} {f : Addr} {fd : FuncData} {ps ks : List Str} (F : FunD K x qual params body scope [] [] f fd) (n : Nat)
    (h : ∀ (kV doc pm : Value) (an : Option Addr) (cdv ct : Value) (us ws : List Value), us.length = n → ws.length = ks.length → bindArgs (PySem.W.fnOf x qual params body scope .none kV doc pm an cdv ct) ⟨us, ks.zip ws⟩ = pure (ps.zip (Y.gS us ws))) : KBn K fd ps n ks Y.gS Y.gS := by
  obtain ⟨oc, od, dV, kV, doc, pm, an, cdv, ct, osl, rfl, lk, hcd, hD, hK⟩ := F.ex
  rcases hD with ⟨_, rfl⟩ | ⟨e, _⟩
  · exact ⟨fun s us ws _ l1 l2 => .of_eq (h kV doc pm an cdv ct us ws l1 l2), fun r1 r2 => Y.gS_rel r1 r2⟩
  · exact absurd rfl e
theorem facts {P : Program} {w : World} {K : PySem.W.Frag} {h : Heap} {mg : Str → Option Value} {f : Addr} (X : K.In h) (G : h.Ns mainGlobals mg) (hfa : mg ("law" : Str) = some (.ref f)) (c0 : SaysG fa fn pn sn tf ex h K) :
    ∃ fd : FuncData, (∀ (s : Shared) (v : Value), BindsTo s fd ⟨[v], []⟩ [("_law_script", v)]) ∧ ∀ base : Heap, K.In base → base.Ns mainGlobals mg → TabB base mg (He.cT K ("law", none)).1 (He.cT K ("law", none)).2 → TabB base mg (He.cT K ("_law_table_bounds_so", none)).1 (He.cT K ("_law_table_bounds_so", none)).2 → FnOk P w K mg base CX0 16 f fd ["_law_script"] (spLaw K (He.cT K ("law", none)).2 (He.cT K ("_law_table_bounds_so", none)).2) := by
  have d := c0.d
  have more := c0.more
  unfold ex at more
  rw [Bool.and_eq_true] at more
  obtain ⟨x_dflS, more⟩ := more
  rw [Bool.and_eq_true] at more
  obtain ⟨x_dflP, more⟩ := more
  rw [Bool.and_eq_true] at more
  obtain ⟨x_alias, more⟩ := more
  rw [Bool.and_eq_true] at more
  obtain ⟨x_Schema_rd, more⟩ := more
  rw [Bool.and_eq_true] at more
  obtain ⟨x_Schema_sg, more⟩ := more
  rw [Bool.and_eq_true] at more
  obtain ⟨x_Schema_cv, more⟩ := more
  rw [Bool.and_eq_true] at more
  obtain ⟨x_Product_rd, more⟩ := more
  rw [Bool.and_eq_true] at more
  obtain ⟨x_Product_sg, more⟩ := more
  rw [Bool.and_eq_true] at more
  obtain ⟨x_Product_cv, more⟩ := more
  rw [Bool.and_eq_true] at more
  obtain ⟨x_Table_ne, more⟩ := more
  rw [Bool.and_eq_true] at more
  obtain ⟨x_Table_ob, more⟩ := more
  rw [Bool.and_eq_true] at more
  obtain ⟨x_Table_cls, more⟩ := more
  rw [Bool.and_eq_true] at more
  obtain ⟨x_Table_str, more⟩ := more
  rw [Bool.and_eq_true] at more
  obtain ⟨x_Table_sp, more⟩ := more
  rw [Bool.and_eq_true] at more
  obtain ⟨x_Table_tk, more⟩ := more
  rw [Bool.and_eq_true] at more
  obtain ⟨x_Table_kit_list, more⟩ := more
  rw [Bool.and_eq_true] at more
  obtain ⟨x_Table_sub_list, more⟩ := more
  rw [Bool.and_eq_true] at more
  obtain ⟨x_Table_kit_int, more⟩ := more
  rw [Bool.and_eq_true] at more
  obtain ⟨x_Table_sub_int, more⟩ := more
  rw [Bool.and_eq_true] at more
  obtain ⟨x_Table_rd, more⟩ := more
  rw [Bool.and_eq_true] at more
  obtain ⟨x_Table_sg, more⟩ := more
  rw [Bool.and_eq_true] at more
  obtain ⟨x_Table_cv, more⟩ := more
  rw [Bool.and_eq_true] at more
  obtain ⟨x_Table_first, more⟩ := more
  rw [Bool.and_eq_true] at more
  obtain ⟨x_Table_rpow, more⟩ := more
  rw [Bool.and_eq_true] at more
  obtain ⟨x_err_InvalidNumber, more⟩ := more
  rw [Bool.and_eq_true] at more
  obtain ⟨x_exm_InvalidNumber, more⟩ := more
  rw [Bool.and_eq_true] at more
  obtain ⟨x_err_InvalidGroup, more⟩ := more
  rw [Bool.and_eq_true] at more
  obtain ⟨x_exm_InvalidGroup, more⟩ := more
  rw [Bool.and_eq_true] at more
  obtain ⟨x_err_InvalidExponent, more⟩ := more
  rw [Bool.and_eq_true] at more
  obtain ⟨x_exm_InvalidExponent, more⟩ := more
  rw [Bool.and_eq_true] at more
  obtain ⟨x_err_TooMany, more⟩ := more
  rw [Bool.and_eq_true] at more
  obtain ⟨x_exm_TooMany, more⟩ := more
  rw [Bool.and_eq_true] at more
  obtain ⟨x_err_WrongWidth, more⟩ := more
  rw [Bool.and_eq_true] at more
  obtain ⟨x_exm_WrongWidth, more⟩ := more
  rw [Bool.and_eq_true] at more
  obtain ⟨x_Table_not_bool, more⟩ := more
  rw [Bool.and_eq_true] at more
  obtain ⟨x_Table_not_int, more⟩ := more
  rw [Bool.and_eq_true] at more
  obtain ⟨x_Table_not_str, more⟩ := more
  rw [Bool.and_eq_true] at more
  obtain ⟨x_Table_not_list, more⟩ := more
  rw [Bool.and_eq_true] at more
  obtain ⟨x_Table_not_tuple, more⟩ := more
  have x_tabs2 := more
  have x_alias := of_decide_eq_true x_alias
  have x_Schema_sg := He.eqO_ok x_Schema_sg
  have x_Product_sg := He.eqO_ok x_Product_sg
  have x_Table_ne := He.eqO_ok x_Table_ne
  have x_Table_ob := of_decide_eq_true x_Table_ob
  have x_Table_cls := He.eqO_ok x_Table_cls
  have x_Table_str := of_decide_eq_true x_Table_str
  have x_Table_sp := He.eqO_ok x_Table_sp
  have x_Table_tk := of_decide_eq_true x_Table_tk
  have x_Table_kit_list := of_decide_eq_true x_Table_kit_list
  have x_Table_sub_list := of_decide_eq_true x_Table_sub_list
  have x_Table_kit_int := of_decide_eq_true x_Table_kit_int
  have x_Table_sub_int := of_decide_eq_true x_Table_sub_int
  have x_Table_sg := He.eqO_ok x_Table_sg
  have x_Table_rpow := of_decide_eq_true x_Table_rpow
  have x_exm_InvalidNumber := of_decide_eq_true x_exm_InvalidNumber
  have x_exm_InvalidGroup := of_decide_eq_true x_exm_InvalidGroup
  have x_exm_InvalidExponent := of_decide_eq_true x_exm_InvalidExponent
  have x_exm_TooMany := of_decide_eq_true x_exm_TooMany
  have x_exm_WrongWidth := of_decide_eq_true x_exm_WrongWidth
  have x_Table_not_bool := of_decide_eq_true x_Table_not_bool
  have x_Table_not_int := of_decide_eq_true x_Table_not_int
  have x_Table_not_str := of_decide_eq_true x_Table_not_str
  have x_Table_not_list := of_decide_eq_true x_Table_not_list
  have x_Table_not_tuple := of_decide_eq_true x_Table_not_tuple
  have x_tabs2 := of_decide_eq_true x_tabs2
  obtain ⟨T_InvalidNumber, X_InvalidNumber, n1_InvalidNumber, n2_InvalidNumber, hI_InvalidNumber, tI_InvalidNumber⟩ := errB_ok x_err_InvalidNumber
  obtain ⟨T_InvalidGroup, X_InvalidGroup, n1_InvalidGroup, n2_InvalidGroup, hI_InvalidGroup, tI_InvalidGroup⟩ := errB_ok x_err_InvalidGroup
  obtain ⟨T_InvalidExponent, X_InvalidExponent, n1_InvalidExponent, n2_InvalidExponent, hI_InvalidExponent, tI_InvalidExponent⟩ := errB_ok x_err_InvalidExponent
  obtain ⟨T_TooMany, X_TooMany, n1_TooMany, n2_TooMany, hI_TooMany, tI_TooMany⟩ := errB_ok x_err_TooMany
  obtain ⟨T_WrongWidth, X_WrongWidth, n1_WrongWidth, n2_WrongWidth, hI_WrongWidth, tI_WrongWidth⟩ := errB_ok x_err_WrongWidth
  have h_isinstance : mg "isinstance" = none := He.free_ok X G (d.fact 39 (f := .free "isinstance") rfl)
  have h_bool : mg "bool" = none := He.free_ok X G (d.fact 40 (f := .free "bool") rfl)
  have h_int : mg "int" = none := He.free_ok X G (d.fact 41 (f := .free "int") rfl)
  have h_str : mg "str" = none := He.free_ok X G (d.fact 42 (f := .free "str") rfl)
  have h_list : mg "list" = none := He.free_ok X G (d.fact 43 (f := .free "list") rfl)
  have h_tuple : mg "tuple" = none := He.free_ok X G (d.fact 44 (f := .free "tuple") rfl)
  have h_len : mg "len" = none := He.free_ok X G (d.fact 45 (f := .free "len") rfl)
  have h_all : mg "all" = none := He.free_ok X G (d.fact 46 (f := .free "all") rfl)
  have h_sum : mg "sum" = none := He.free_ok X G (d.fact 47 (f := .free "sum") rfl)
  have h_zip : mg "zip" = none := He.free_ok X G (d.fact 48 (f := .free "zip") rfl)
  have h_range : mg "range" = none := He.free_ok X G (d.fact 49 (f := .free "range") rfl)
  have h_set : mg "set" = none := He.free_ok X G (d.fact 50 (f := .free "set") rfl)
  have h_enumerate : mg "enumerate" = none := He.free_ok X G (d.fact 51 (f := .free "enumerate") rfl)
  have h_repr : mg "repr" = none := He.free_ok X G (d.fact 52 (f := .free "repr") rfl)
  have h_sorted : mg "sorted" = none := He.free_ok X G (d.fact 53 (f := .free "sorted") rfl)
  have h_dict : mg "dict" = none := He.free_ok X G (d.fact 54 (f := .free "dict") rfl)
  have h_MOST_EXPONENT : ∃ t, mg "MOST_EXPONENT" = some (.int 6 t) := He.int_ok X G (d.fact 55 (f := .int "MOST_EXPONENT" 6) rfl)
  have h_MOST_POWER : ∃ t, mg "MOST_POWER" = some (.int 60 t) := He.int_ok X G (d.fact 56 (f := .int "MOST_POWER" 60) rfl)
  have gT : mg "Table" = some (.ref (He.ga K "Table")) := He.glo_ok X G (d.fact 13 (f := .glo "Table") rfl)
  have cT : Cls K (He.ga K "Table") := He.cls_ok (d.fact 68 (f := .cls "Table") rfl)
  have mkr_Table : Mk K (He.ga K "Table") (He.ma K (He.ga K "Table") "__init__") := He.mkr_ok (d.fact 69 (f := .mkr "Table") rfl)
  have gS : mg "Schema" = some (.ref (He.ga K "Schema")) := He.glo_ok X G (d.fact 11 (f := .glo "Schema") rfl)
  have cS : Cls K (He.ga K "Schema") := He.cls_ok (d.fact 57 (f := .cls "Schema") rfl)
  have mkr_Schema : Mk K (He.ga K "Schema") (He.ma K (He.ga K "Schema") "__init__") := He.mkr_ok (d.fact 58 (f := .mkr "Schema") rfl)
  have gP : mg "Product" = some (.ref (He.ga K "Product")) := He.glo_ok X G (d.fact 12 (f := .glo "Product") rfl)
  have cP : Cls K (He.ga K "Product") := He.cls_ok (d.fact 63 (f := .cls "Product") rfl)
  have mkr_Product : Mk K (He.ga K "Product") (He.ma K (He.ga K "Product") "__init__") := He.mkr_ok (d.fact 64 (f := .mkr "Product") rfl)
  have n_Table_width : NoAttr K (He.ga K "Table") "width" := He.noat_ok (d.fact 70 (f := .noat "Table" "width") rfl)
  have n_Table__groups : NoAttr K (He.ga K "Table") "_groups" := He.noat_ok (d.fact 71 (f := .noat "Table" "_groups") rfl)
  have n_Schema_columns : NoAttr K (He.ga K "Schema") "columns" := He.noat_ok (d.fact 59 (f := .noat "Schema" "columns") rfl)
  have n_Schema_width : NoAttr K (He.ga K "Schema") "width" := He.noat_ok (d.fact 60 (f := .noat "Schema" "width") rfl)
  have n_Schema__facts : NoAttr K (He.ga K "Schema") "_facts" := He.noat_ok (d.fact 61 (f := .noat "Schema" "_facts") rfl)
  have n_Product_width : NoAttr K (He.ga K "Product") "width" := He.noat_ok (d.fact 65 (f := .noat "Product" "width") rfl)
  have n_Product__powers : NoAttr K (He.ga K "Product") "_powers" := He.noat_ok (d.fact 66 (f := .noat "Product" "_powers") rfl)
  have m_Table_sum_of : Meth K (He.ga K "Table") "sum_of" (He.ma K (He.ga K "Table") "sum_of") := He.meth_ok (d.fact 72 (f := .meth "Table" "sum_of") rfl)
  have m_Table_raised : Meth K (He.ga K "Table") "raised" (He.ma K (He.ga K "Table") "raised") := He.meth_ok (d.fact 73 (f := .meth "Table" "raised") rfl)
  have m_Table_keeps : Meth K (He.ga K "Table") "keeps" (He.ma K (He.ga K "Table") "keeps") := He.meth_ok (d.fact 74 (f := .meth "Table" "keeps") rfl)
  have m_Table_to_the : Meth K (He.ga K "Table") "to_the" (He.ma K (He.ga K "Table") "to_the") := He.meth_ok (d.fact 75 (f := .meth "Table" "to_the") rfl)
  have m_Table___add__ : Meth K (He.ga K "Table") "__add__" (He.ma K (He.ga K "Table") "__add__") := He.meth_ok (d.fact 76 (f := .meth "Table" "__add__") rfl)
  have m_Table___mul__ : Meth K (He.ga K "Table") "__mul__" (He.ma K (He.ga K "Table") "__mul__") := He.meth_ok (d.fact 77 (f := .meth "Table" "__mul__") rfl)
  have m_Table___pow__ : Meth K (He.ga K "Table") "__pow__" (He.ma K (He.ga K "Table") "__pow__") := He.meth_ok (d.fact 78 (f := .meth "Table" "__pow__") rfl)
  have m_Table___eq__ : Meth K (He.ga K "Table") "__eq__" (He.ma K (He.ga K "Table") "__eq__") := He.meth_ok (d.fact 79 (f := .meth "Table" "__eq__") rfl)
  have m_Table___repr__ : Meth K (He.ga K "Table") "__repr__" (He.ma K (He.ga K "Table") "__repr__") := He.meth_ok (d.fact 80 (f := .meth "Table" "__repr__") rfl)
  have m_Product_worth : Meth K (He.ga K "Product") "worth" (He.ma K (He.ga K "Product") "worth") := He.meth_ok (d.fact 67 (f := .meth "Product" "worth") rfl)
  have m_Schema_is_exponent : Meth K (He.ga K "Schema") "is_exponent" (He.ma K (He.ga K "Schema") "is_exponent") := He.meth_ok (d.fact 62 (f := .meth "Schema" "is_exponent") rfl)
  obtain ⟨t_Table, cv_Table⟩ : ∃ t, ClX.CVal K (He.ga K "Table") (.type "type") "MOST" (.int 100) (.int 100 t) := by
    split at x_Table_cv
    · rename_i t heq
      exact ⟨t, ⟨heq, ⟨t, rfl⟩⟩⟩
    · cases x_Table_cv
  have cr_Table : ClX.CRead K (He.ga K "Table") (.type "type") := ⟨x_Table_rd, x_Table_sg⟩
  obtain ⟨t_Schema, cv_Schema⟩ : ∃ t, ClX.CVal K (He.ga K "Schema") (.type "type") "MOST" (.int 4) (.int 4 t) := by
    split at x_Schema_cv
    · rename_i t heq
      exact ⟨t, ⟨heq, ⟨t, rfl⟩⟩⟩
    · cases x_Schema_cv
  have cr_Schema : ClX.CRead K (He.ga K "Schema") (.type "type") := ⟨x_Schema_rd, x_Schema_sg⟩
  obtain ⟨t_Product, cv_Product⟩ : ∃ t, ClX.CVal K (He.ga K "Product") (.type "type") "MOST" (.int 12) (.int 12 t) := by
    split at x_Product_cv
    · rename_i t heq
      exact ⟨t, ⟨heq, ⟨t, rfl⟩⟩⟩
    · cases x_Product_cv
  have cr_Product : ClX.CRead K (He.ga K "Product") (.type "type") := ⟨x_Product_rd, x_Product_sg⟩
  have isi : IsiC K (He.ga K "Table") := ⟨x_Table_cls, x_Table_str, x_Table_sp, x_Table_tk, x_Table_ob⟩
  obtain ⟨fd_law, F_law⟩ := d.def_ 75 (d := dlaw) rfl
  have e := hfa.symm.trans (He.glo_ok X G (d.fact 30 (f := .glo "law") rfl))
  cases e
  have b := FunD.bindsA (ps := ["_law_script"]) F_law fun _ _ _ _ _ _ us hl => match us, hl with | [_], _ => rfl
  obtain ⟨fd_bnd, F_bnd⟩ := d.def_ 74 (d := dL_table_bounds_so) rfl
  have hcode_law : fd_law.code = .ref (He.cT K ("law", none)).1 := by
    obtain ⟨oc, od, dV, kV, doc, pm, an, cdv, ct, osl, e, lk, hcd, _, _⟩ := F_law.ex
    obtain ⟨cc, hc⟩ := He.codeIn_ref hcd
    have e2 : fd_law.code = .ref cc := by rw [e]; exact hc
    rw [e2]
    exact congrArg Value.ref (He.codeOf_eq (p := ("law", none)) lk e2).symm
  have hcode_bnd : fd_bnd.code = .ref (He.cT K ("_law_table_bounds_so", none)).1 := by
    obtain ⟨oc, od, dV, kV, doc, pm, an, cdv, ct, osl, e, lk, hcd, _, _⟩ := F_bnd.ex
    obtain ⟨cc, hc⟩ := He.codeIn_ref hcd
    have e2 : fd_bnd.code = .ref cc := by rw [e]; exact hc
    rw [e2]
    exact congrArg Value.ref (He.codeOf_eq (p := ("_law_table_bounds_so", none)) lk e2).symm
  refine ⟨fd_law, fun s v => b s [v] rfl, fun base _ _ TB TB2 => ?_⟩
  obtain ⟨fd_iInvalidNumber, F_iInvalidNumber⟩ := d.def_ 0 (d := dInvalidNumber____init__) rfl
  have R_InvalidNumber : Err P w K mg base "InvalidNumber" (He.ga K "InvalidNumber") "given" "InvalidNumber" := ⟨T_InvalidNumber, He.glo_ok X G (d.fact 34 (f := .glo "InvalidNumber") rfl), _, fd_iInvalidNumber, ["self", "given"], hI_InvalidNumber, tI_InvalidNumber, ok_init_InvalidNumber F_iInvalidNumber T_InvalidNumber n1_InvalidNumber n2_InvalidNumber, F_iInvalidNumber.bindsN (fun _ _ _ _ _ _ us hl => match us, hl with | [_, _], _ => rfl)⟩
  obtain ⟨fd_iInvalidGroup, F_iInvalidGroup⟩ := d.def_ 5 (d := dInvalidGroup____init__) rfl
  have R_InvalidGroup : Err P w K mg base "InvalidGroup" (He.ga K "InvalidGroup") "at" "InvalidGroup" := ⟨T_InvalidGroup, He.glo_ok X G (d.fact 35 (f := .glo "InvalidGroup") rfl), _, fd_iInvalidGroup, ["self", "at"], hI_InvalidGroup, tI_InvalidGroup, ok_init_InvalidGroup F_iInvalidGroup T_InvalidGroup n1_InvalidGroup n2_InvalidGroup, F_iInvalidGroup.bindsN (fun _ _ _ _ _ _ us hl => match us, hl with | [_, _], _ => rfl)⟩
  obtain ⟨fd_iInvalidExponent, F_iInvalidExponent⟩ := d.def_ 3 (d := dInvalidExponent____init__) rfl
  have R_InvalidExponent : Err P w K mg base "InvalidExponent" (He.ga K "InvalidExponent") "given" "InvalidExponent" := ⟨T_InvalidExponent, He.glo_ok X G (d.fact 36 (f := .glo "InvalidExponent") rfl), _, fd_iInvalidExponent, ["self", "given"], hI_InvalidExponent, tI_InvalidExponent, ok_init_InvalidExponent F_iInvalidExponent T_InvalidExponent n1_InvalidExponent n2_InvalidExponent, F_iInvalidExponent.bindsN (fun _ _ _ _ _ _ us hl => match us, hl with | [_, _], _ => rfl)⟩
  obtain ⟨fd_iTooMany, F_iTooMany⟩ := d.def_ 7 (d := dTooMany____init__) rfl
  have R_TooMany : Err P w K mg base "TooMany" (He.ga K "TooMany") "most" "TooMany" := ⟨T_TooMany, He.glo_ok X G (d.fact 37 (f := .glo "TooMany") rfl), _, fd_iTooMany, ["self", "most"], hI_TooMany, tI_TooMany, ok_init_TooMany F_iTooMany T_TooMany n1_TooMany n2_TooMany, F_iTooMany.bindsN (fun _ _ _ _ _ _ us hl => match us, hl with | [_, _], _ => rfl)⟩
  obtain ⟨fd_iWrongWidth, F_iWrongWidth⟩ := d.def_ 6 (d := dWrongWidth____init__) rfl
  have R_WrongWidth : Err P w K mg base "WrongWidth" (He.ga K "WrongWidth") "width" "WrongWidth" := ⟨T_WrongWidth, He.glo_ok X G (d.fact 38 (f := .glo "WrongWidth") rfl), _, fd_iWrongWidth, ["self", "width"], hI_WrongWidth, tI_WrongWidth, ok_init_WrongWidth F_iWrongWidth T_WrongWidth n1_WrongWidth n2_WrongWidth, F_iWrongWidth.bindsN (fun _ _ _ _ _ _ us hl => match us, hl with | [_, _], _ => rfl)⟩
  have ok_InvalidNumber : KOk K [.ref (He.ga K "DealError"), .ref (He.ga K "Missing"), .ref (He.ga K "NothingLeft")] (kIN (He.ga K "InvalidNumber")) := ⟨X_InvalidNumber, n2_InvalidNumber, fun y hy => (by cases hy; exact n1_InvalidNumber), x_exm_InvalidNumber, (show some ("given" : Str) = fieldOf "InvalidNumber" by decide +kernel), (show decide (("InvalidNumber" : Str) = "Tight") = false by decide +kernel), (show decide (("InvalidNumber" : Str) = "BrokenClaim") = false by decide +kernel)⟩
  have ok_InvalidGroup : KOk K [.ref (He.ga K "DealError"), .ref (He.ga K "Missing"), .ref (He.ga K "NothingLeft")] (kIG (He.ga K "InvalidGroup")) := ⟨X_InvalidGroup, n2_InvalidGroup, fun y hy => (by cases hy; exact n1_InvalidGroup), x_exm_InvalidGroup, (show some ("at" : Str) = fieldOf "InvalidGroup" by decide +kernel), (show decide (("InvalidGroup" : Str) = "Tight") = false by decide +kernel), (show decide (("InvalidGroup" : Str) = "BrokenClaim") = false by decide +kernel)⟩
  have ok_InvalidExponent : KOk K [.ref (He.ga K "DealError"), .ref (He.ga K "Missing"), .ref (He.ga K "NothingLeft")] (kIE (He.ga K "InvalidExponent")) := ⟨X_InvalidExponent, n2_InvalidExponent, fun y hy => (by cases hy; exact n1_InvalidExponent), x_exm_InvalidExponent, (show some ("given" : Str) = fieldOf "InvalidExponent" by decide +kernel), (show decide (("InvalidExponent" : Str) = "Tight") = false by decide +kernel), (show decide (("InvalidExponent" : Str) = "BrokenClaim") = false by decide +kernel)⟩
  have ok_TooMany : KOk K [.ref (He.ga K "DealError"), .ref (He.ga K "Missing"), .ref (He.ga K "NothingLeft")] (kTM (He.ga K "TooMany")) := ⟨X_TooMany, n2_TooMany, fun y hy => (by cases hy; exact n1_TooMany), x_exm_TooMany, (show some ("most" : Str) = fieldOf "TooMany" by decide +kernel), (show decide (("TooMany" : Str) = "Tight") = false by decide +kernel), (show decide (("TooMany" : Str) = "BrokenClaim") = false by decide +kernel)⟩
  have ok_WrongWidth : KOk K [.ref (He.ga K "DealError"), .ref (He.ga K "Missing"), .ref (He.ga K "NothingLeft")] (kWW (He.ga K "WrongWidth")) := ⟨X_WrongWidth, n2_WrongWidth, fun y hy => (by cases hy; exact n1_WrongWidth), x_exm_WrongWidth, (show some ("width" : Str) = fieldOf "WrongWidth" by decide +kernel), (show decide (("WrongWidth" : Str) = "Tight") = false by decide +kernel), (show decide (("WrongWidth" : Str) = "BrokenClaim") = false by decide +kernel)⟩
  obtain ⟨fd_is_number, F_is_number⟩ := d.def_ 9 (d := dis_number) rfl
  have D_is_number : KD P w K mg base "is_number" 1 (spD K FisNumber) := kd_mk F_is_number (ok_is_number F_is_number h_isinstance h_int h_bool) (He.glo_ok X G (d.fact 0 (f := .glo "is_number") rfl)) (F_is_number.bindsN (fun _ _ _ _ _ _ us hl => match us, hl with | [_, _], _ => rfl))
  obtain ⟨fd_power_of, F_power_of⟩ := d.def_ 10 (d := dpower_of) rfl
  have D_power_of : KD P w K mg base "power_of" 1 (spD K Fpower_of) := kd_mk F_power_of (ok_power_of F_power_of) (He.glo_ok X G (d.fact 1 (f := .glo "power_of") rfl)) (F_power_of.bindsN (fun _ _ _ _ _ _ us hl => match us, hl with | [_, _], _ => rfl))
  obtain ⟨fd_is_exponent, F_is_exponent⟩ := d.def_ 12 (d := dis_exponent) rfl
  have D_ies : KD P w K mg base "is_exponent_schemas" 2 (spD K FisExp) := ⟨_, _, _, ok_is_exponent F_is_exponent D_is_number h_isinstance h_tuple h_len h_all h_MOST_EXPONENT, (He.glo_ok X G (d.fact 4 (f := .glo "is_exponent_schemas") rfl)).trans (by rw [x_alias]; rfl), F_is_exponent.kp, F_is_exponent.bindsN (fun _ _ _ _ _ _ us hl => match us, hl with | [_, _], _ => rfl)⟩
  obtain ⟨fd_is_direction, F_is_direction⟩ := d.def_ 13 (d := dis_direction) rfl
  have D_is_direction : KD P w K mg base "is_direction" 2 (spD K FisDir) := kd_mk F_is_direction (ok_is_direction F_is_direction D_is_number h_isinstance h_tuple h_len h_all) (He.glo_ok X G (d.fact 5 (f := .glo "is_direction") rfl)) (F_is_direction.bindsN (fun _ _ _ _ _ _ us hl => match us, hl with | [_, _], _ => rfl))
  obtain ⟨fd_check_columns, F_check_columns⟩ := d.def_ 11 (d := dcheck_columns) rfl
  have D_check_columns : KD P w K mg base "check_columns" 1 (spD K FchkC) := kd_mk F_check_columns (ok_check_columns F_check_columns h_isinstance h_str h_len h_set) (He.glo_ok X G (d.fact 2 (f := .glo "check_columns") rfl)) (F_check_columns.bindsN (fun _ _ _ _ _ _ us hl => match us, hl with | [_], _ => rfl))
  obtain ⟨fd_check_width, F_check_width⟩ := d.def_ 31 (d := dcheck_width) rfl
  have D_check_width : KD P w K mg base "check_width" 2 (spD K FchkW) := kd_mk F_check_width (ok_chkW F_check_width D_is_number) (He.glo_ok X G (d.fact 7 (f := .glo "check_width") rfl)) (F_check_width.bindsN (fun _ _ _ _ _ _ us hl => match us, hl with | [_], _ => rfl))
  have X_check_width : KDX P w K mg base "check_width" 3 (spX K (GchkW (kIN (He.ga K "InvalidNumber")) K)) := ⟨_, _, _, ok_chkWX F_check_width R_InvalidNumber rfl D_is_number, He.glo_ok X G (d.fact 7 (f := .glo "check_width") rfl), F_check_width.kp, F_check_width.bindsN (fun _ _ _ _ _ _ us hl => match us, hl with | [_], _ => rfl)⟩
  obtain ⟨fd_check_power, F_check_power⟩ := d.def_ 45 (d := dcheck_power) rfl
  have D_check_power : KD P w K mg base "check_power" 2 (spD K FchkP) := kd_mk F_check_power (ok_chkP F_check_power D_is_number h_MOST_POWER) (He.glo_ok X G (d.fact 8 (f := .glo "check_power") rfl)) (F_check_power.bindsN (fun _ _ _ _ _ _ us hl => match us, hl with | [_], _ => rfl))
  have X_check_power : KDX P w K mg base "check_power" 3 (spX K (GchkP (kIN (He.ga K "InvalidNumber")) K)) := ⟨_, _, _, ok_chkPX F_check_power R_InvalidNumber rfl D_is_number h_MOST_POWER, He.glo_ok X G (d.fact 8 (f := .glo "check_power") rfl), F_check_power.kp, F_check_power.bindsN (fun _ _ _ _ _ _ us hl => match us, hl with | [_], _ => rfl)⟩
  obtain ⟨fd_is_power_group, F_is_power_group⟩ := d.def_ 46 (d := dis_power_group) rfl
  have D_is_power_group : KD P w K mg base "is_power_group" 3 (spD K FisPg) := kd_mk F_is_power_group (ok_isPg F_is_power_group D_is_number D_is_direction h_isinstance h_tuple h_len) (He.glo_ok X G (d.fact 9 (f := .glo "is_power_group") rfl)) (F_is_power_group.bindsN (fun _ _ _ _ _ _ us hl => match us, hl with | [_, _], _ => rfl))
  obtain ⟨fd_power_group, F_power_group⟩ := d.def_ 47 (d := dpower_group) rfl
  have D_power_group : KD P w K mg base "power_group" 2 (spD K Fpg) := kd_mk F_power_group (ok_pg F_power_group D_power_of h_tuple) (He.glo_ok X G (d.fact 10 (f := .glo "power_group") rfl)) (F_power_group.bindsN (fun _ _ _ _ _ _ us hl => match us, hl with | [_, _], _ => rfl))
  obtain ⟨fd_L_open, F_L_open⟩ := d.def_ 59 (d := dL_open) rfl
  have D_L_open : KD P w K mg base "_law_open" 1 (spOpen K) := kd_mk F_L_open (ok_L_open F_L_open h_list h_len) (He.glo_ok X G (d.fact 14 (f := .glo "_law_open") rfl)) (F_L_open.bindsN (fun _ _ _ _ _ _ us hl => match us, hl with | [_], _ => rfl))
  obtain ⟨fd_L_take, F_L_take⟩ := d.def_ 60 (d := dL_take) rfl
  have D_L_take : KD P w K mg base "_law_take" 1 (spB K Ftake) := kd_mk F_L_take (ok_L_take F_L_take h_len h_int) (He.glo_ok X G (d.fact 15 (f := .glo "_law_take") rfl)) (F_L_take.bindsN (fun _ _ _ _ _ _ us hl => match us, hl with | [_, _], _ => rfl))
  obtain ⟨fd_L_one, F_L_one⟩ := d.def_ 61 (d := dL_one) rfl
  have D_L_one : KD P w K mg base "_law_one" 2 (spB K Fone) := kd_mk F_L_one (ok_L_one F_L_one D_L_take h_len) (He.glo_ok X G (d.fact 16 (f := .glo "_law_one") rfl)) (F_L_one.bindsN (fun _ _ _ _ _ _ us hl => match us, hl with | [_, _], _ => rfl))
  obtain ⟨fd_L_odd, F_L_odd⟩ := d.def_ 67 (d := dL_odd) rfl
  have D_L_odd : KD P w K mg base "_law_odd" 3 (spB K Fodd) := kd_mk F_L_odd (ok_L_odd F_L_odd D_L_one) (He.glo_ok X G (d.fact 19 (f := .glo "_law_odd") rfl)) (F_L_odd.bindsN (fun _ _ _ _ _ _ us hl => match us, hl with | [_, _], _ => rfl))
  obtain ⟨fd_L_kind, F_L_kind⟩ := d.def_ 62 (d := dL_kind) rfl
  have D_L_kind : KD P w K mg base "_law_kind" 1 (spD K Fkind) := kd_mk F_L_kind (ok_L_kind F_L_kind h_isinstance h_bool h_int h_str h_list h_tuple) (He.glo_ok X G (d.fact 17 (f := .glo "_law_kind") rfl)) (F_L_kind.bindsN (fun _ _ _ _ _ _ us hl => match us, hl with | [_], _ => rfl))
  have O_L_kind : KD P w K mg base "_law_kind" 1 (spKindO K) := kd_mk F_L_kind (ok_L_kindO F_L_kind h_isinstance h_bool h_int h_str h_list h_tuple) (He.glo_ok X G (d.fact 17 (f := .glo "_law_kind") rfl)) (F_L_kind.bindsN (fun _ _ _ _ _ _ us hl => match us, hl with | [_], _ => rfl))
  obtain ⟨fd_L_same, F_L_same⟩ := d.def_ 63 (d := dL_same) rfl
  have b_same := F_L_same.bindsN (ps := ["_law_found", "_law_due"]) (fun _ _ _ _ _ _ us hl => match us, hl with | [_, _], _ => rfl)
  have g_same := He.glo_ok X G (d.fact 18 (f := .glo "_law_same") rfl)
  have G_same := ok_L_same (P := P) (w := w) (base := base) F_L_same g_same b_same D_L_kind h_len h_all h_zip
  have D_L_same : ∀ n, KD P w K mg base "_law_same" (n + 2) (spD K (Fsame n)) := fun n => kd_mk F_L_same (G_same n) g_same b_same
  obtain ⟨fd_L_exp, F_L_exp⟩ := d.def_ 68 (d := dL_exp) rfl
  have D_L_exp : KD P w K mg base "_law_exp" 2 (spB K Fexp) := kd_mk F_L_exp (ok_L_exp F_L_exp D_L_take h_tuple h_range) (He.glo_ok X G (d.fact 20 (f := .glo "_law_exp") rfl)) (F_L_exp.bindsN (fun _ _ _ _ _ _ us hl => match us, hl with | [_, _, _], _ => rfl))
  obtain ⟨fd_L_pow, F_L_pow⟩ := d.def_ 73 (d := dL_pow) rfl
  have D_L_pow : KD P w K mg base "_law_pow" 1 (spD K FL_pow) := kd_mk F_L_pow (ok_L_pow F_L_pow h_int) (He.glo_ok X G (d.fact 25 (f := .glo "_law_pow") rfl)) (F_L_pow.bindsN (fun _ _ _ _ _ _ us hl => match us, hl with | [_, _], _ => rfl))
  obtain ⟨fd_L_mono, F_L_mono⟩ := d.def_ 69 (d := dL_mono) rfl
  have D_L_mono : KD P w K mg base "_law_mono" 2 (spD K FL_mono) := kd_mk F_L_mono (ok_L_mono F_L_mono D_L_pow h_zip) (He.glo_ok X G (d.fact 21 (f := .glo "_law_mono") rfl)) (F_L_mono.bindsN (fun _ _ _ _ _ _ us hl => match us, hl with | [_, _], _ => rfl))
  obtain ⟨fd_L_fit_row, F_L_fit_row⟩ := d.def_ 70 (d := dL_fit_row) rfl
  have D_L_fit_row : KD P w K mg base "_law_fit_row" 3 (spD K FL_fit) := kd_mk F_L_fit_row (ok_L_fit_row F_L_fit_row D_L_mono h_all) (He.glo_ok X G (d.fact 22 (f := .glo "_law_fit_row") rfl)) (F_L_fit_row.bindsN (fun _ _ _ _ _ _ us hl => match us, hl with | [_, _], _ => rfl))
  obtain ⟨fd_L_row, F_L_row⟩ := d.def_ 71 (d := dL_row) rfl
  have D_L_row : KD P w K mg base "_law_row" 4 (spB K Frow) := kd_mk F_L_row (ok_L_row F_L_row D_L_one D_L_fit_row h_tuple h_range) (He.glo_ok X G (d.fact 23 (f := .glo "_law_row") rfl)) (F_L_row.bindsN (fun _ _ _ _ _ _ us hl => match us, hl with | [_, _, _, _], _ => rfl))
  obtain ⟨fd_L_lots, F_L_lots⟩ := d.def_ 72 (d := dL_lots) rfl
  have D_L_lots : KD P w K mg base "_law_lots" 5 (spB K Flots) := kd_mk F_L_lots (ok_L_lots F_L_lots D_L_take D_L_one D_L_row h_range) (He.glo_ok X G (d.fact 24 (f := .glo "_law_lots") rfl)) (F_L_lots.bindsN (fun _ _ _ _ _ _ us hl => match us, hl with | [_, _, _, _], _ => rfl))
  obtain ⟨fd_L_field, F_L_field⟩ := d.def_ 64 (d := dL_field) rfl
  have FP : ∃ f fd, FnP P w K mg base 1 f fd ["_law_e"] (spFieldG K [.ref (He.ga K "DealError"), .ref (He.ga K "Missing"), .ref (He.ga K "NothingLeft")]) ∧ mg "_law_field" = some (.ref f) ∧ PySem.W.keepIn K (.ref f) = true ∧ Binds K fd ["_law_e"] [] := ⟨_, _, ok_law_fieldG F_L_field, He.glo_ok X G (d.fact 26 (f := .glo "_law_field") rfl), F_L_field.kp, F_L_field.bindsN (fun _ _ _ _ _ _ us hl => match us, hl with | [_], _ => rfl)⟩
  obtain ⟨fd_L_try, F_L_try⟩ := d.def_ 65 (d := dL_try) rfl
  have D_L_try : KD P w K mg base "_law_try" 11 (spTryV P w K mg base [.ref (He.ga K "DealError"), .ref (He.ga K "Missing"), .ref (He.ga K "NothingLeft")] 10) := kd_mk F_L_try (ok_law_tryV (k := 10) F_L_try FP (He.glo_ok X G (d.fact 31 (f := .glo "DealError") rfl)) (He.glo_ok X G (d.fact 32 (f := .glo "Missing") rfl)) (He.glo_ok X G (d.fact 33 (f := .glo "NothingLeft") rfl)) (by decide)) (He.glo_ok X G (d.fact 27 (f := .glo "_law_try") rfl)) (F_L_try.bindsN (fun _ _ _ _ _ _ us hl => match us, hl with | [_], _ => rfl))
  obtain ⟨fd_L_tries, F_L_tries⟩ := d.def_ 66 (d := dL_tries) rfl
  have D_L_tries : KD P w K mg base "_law_tries" 13 (spTriesV P w K mg base [.ref (He.ga K "DealError"), .ref (He.ga K "Missing"), .ref (He.ga K "NothingLeft")] 10) := kd_mk F_L_tries (ok_law_triesV F_L_tries D_L_try) (He.glo_ok X G (d.fact 28 (f := .glo "_law_tries") rfl)) (F_L_tries.bindsN (fun _ _ _ _ _ _ us hl => match us, hl with | [_], _ => rfl))
  obtain ⟨fd_S_isx, F_S_isx⟩ := d.def_ 19 (d := dSchema__is_exponent) rfl
  have D_S_isx : KM P w K mg base (He.ga K "Schema") "is_exponent" 3 (spO K (Fsch_isExp (He.ga K "Schema"))) := ⟨_, _, _, ok_Sis_exponent F_S_isx D_ies cS n_Schema_width, m_Schema_is_exponent.at_, m_Schema_is_exponent.fn, m_Schema_is_exponent.kp, F_S_isx.bindsN (fun _ _ _ _ _ _ us hl => match us, hl with | [_, _], _ => rfl)⟩
  obtain ⟨fd_Sinit, F_Sinit⟩ := d.def_ 15 (d := dSchema____init__) rfl
  obtain ⟨fd_Pinit, F_Pinit⟩ := d.def_ 32 (d := dProduct____init__) rfl
  have F_Sinit : FunD K "__init__" "Schema.__init__" (defArgs sSchema____init__) (defBody sSchema____init__) (defScope sSchema____init__) [.ref (He.dflAt ("Schema", some "__init__") 0 K)] [] (He.ma K (He.ga K "Schema") "__init__") fd_Sinit := F_Sinit
  have hdvS : ∀ S, Dt K (.tuple []) (.ref (He.dflAt ("Schema", some "__init__") 0 K)) S := fun S => by
    split at x_dflS
    · rename_i o1 its n sl heq
      have he : its = #[] := by simpa using x_dflS
      subst he
      exact Dt.tup_mk (.inr ⟨rfl, .inr ⟨_, #[], n, heq, rfl, rfl, Nat.zero_le _, .nil⟩⟩) .nil (Nat.zero_le _)
    · cases x_dflS
  have F_Pinit : FunD K "__init__" "Product.__init__" (defArgs sProduct____init__) (defBody sProduct____init__) (defScope sProduct____init__) [.ref (He.dflAt ("Product", some "__init__") 0 K)] [] (He.ma K (He.ga K "Product") "__init__") fd_Pinit := F_Pinit
  have hdvP : ∀ S, Dt K (.tuple []) (.ref (He.dflAt ("Product", some "__init__") 0 K)) S := fun S => by
    split at x_dflP
    · rename_i o1 its n sl heq
      have he : its = #[] := by simpa using x_dflP
      subst he
      exact Dt.tup_mk (.inr ⟨rfl, .inr ⟨_, #[], n, heq, rfl, rfl, Nat.zero_le _, .nil⟩⟩) .nil (Nat.zero_le _)
    · cases x_dflP
  have G_Sinit := ok_Sinit (P := P) (w := w) (mg := mg) (base := base) F_Sinit D_check_columns D_S_isx cS n_Schema_columns n_Schema_width n_Schema__facts gS cr_Schema cv_Schema h_len h_isinstance h_list h_tuple h_enumerate
  have G_Pinit := ok_Pinit (P := P) (w := w) (mg := mg) (base := base) F_Pinit D_check_width D_is_number D_ies cP n_Product_width n_Product__powers gP cr_Product cv_Product h_len h_isinstance h_list h_tuple h_enumerate h_sorted
  have MS : MkS P w K mg base (He.ga K "Schema") := by
    obtain ⟨u3, hu3, b3⟩ := F_Sinit.binds1 (ps := ["self", "columns", "facts"]) 3 1 (fun z => nomatch z) rfl (fun T kV doc pm an cdv ct us its l1 l2 => match us, l1, its, l2 with | [_, _, _], _, [_], _ => ⟨_, rfl, rfl⟩)
    obtain ⟨u2, hu2, b2⟩ := F_Sinit.binds1 (ps := ["self", "columns", "facts"]) 2 0 (fun z => nomatch z) rfl (fun T kV doc pm an cdv ct us its l1 l2 => match us, l1, its, l2 with | [_, _], _, [_], _ => ⟨_, rfl, rfl⟩)
    obtain ⟨its, kb⟩ := F_Sinit.kbindsD (ps := ["self", "columns", "facts"]) 1 ["facts", "columns"] gK (fun z => nomatch z) gK_rel (fun T kV doc pm an cdv ct us its ws l1 l2 l3 => match us, l1, its, l2, ws, l3 with | [_], _, [_], _, [_, _], _ => ⟨_, rfl, rfl⟩)
    cases hu3
    exact ⟨_, fd_Sinit, ["self", "columns", "facts"], _, mkr_Schema, G_Sinit, b3, ⟨u2, hu2, b2⟩, hdvS, _, _, kb, fun s v w => rfl⟩
  have MP : MkP P w K mg base (He.ga K "Product") := by
    obtain ⟨u3, hu3, b3⟩ := F_Pinit.binds1 (ps := ["self", "width", "factors"]) 3 1 (fun z => nomatch z) rfl (fun T kV doc pm an cdv ct us its l1 l2 => match us, l1, its, l2 with | [_, _, _], _, [_], _ => ⟨_, rfl, rfl⟩)
    obtain ⟨u2, hu2, b2⟩ := F_Pinit.binds1 (ps := ["self", "width", "factors"]) 2 0 (fun z => nomatch z) rfl (fun T kV doc pm an cdv ct us its l1 l2 => match us, l1, its, l2 with | [_, _], _, [_], _ => ⟨_, rfl, rfl⟩)
    obtain ⟨its, kb⟩ := F_Pinit.kbindsD (ps := ["self", "width", "factors"]) 1 ["factors", "width"] gK (fun z => nomatch z) gK_rel (fun T kV doc pm an cdv ct us its ws l1 l2 l3 => match us, l1, its, l2, ws, l3 with | [_], _, [_], _, [_, _], _ => ⟨_, rfl, rfl⟩)
    cases hu3
    exact ⟨_, fd_Pinit, ["self", "width", "factors"], _, mkr_Product, G_Pinit, b3, ⟨u2, hu2, b2⟩, hdvP, _, _, kb, fun s v w => rfl⟩
  obtain ⟨fd_Tinit, F_Tinit⟩ := d.def_ 48 (d := dTable____init__) rfl
  have F_Tinit : FunD K "__init__" "Table.__init__" (defArgs sTable____init__) (defBody sTable____init__) (defScope sTable____init__) [] [] (He.ma K (He.ga K "Table") "__init__") fd_Tinit := F_Tinit
  have G_Tinit := ok_Tinit (P := P) (w := w) (mg := mg) (base := base) F_Tinit D_check_width D_is_number D_is_direction cT n_Table_width n_Table__groups gT cr_Table cv_Table h_len h_isinstance h_list h_tuple h_enumerate h_all h_sorted
  have G_TinitX := ok_TinitX (P := P) (w := w) (mg := mg) (base := base) (kN := (kIN (He.ga K "InvalidNumber"))) (kG := (kIG (He.ga K "InvalidGroup"))) (kT := (kTM (He.ga K "TooMany"))) F_Tinit D_check_width X_check_width D_is_number D_is_direction R_InvalidGroup rfl R_TooMany rfl gT cr_Table cv_Table h_len h_isinstance h_list h_tuple h_enumerate h_all
  have bT := F_Tinit.bindsN (ps := ["self", "width", "groups"]) (fun _ _ _ _ _ _ us hl => match us, hl with | [_, _, _], _ => rfl)
  have MT : MkT P w K mg base (He.ga K "Table") := ⟨_, fd_Tinit, ["self", "width", "groups"], mkr_Table, G_Tinit, bT, _, _, kbindsW F_Tinit 1 (fun _ _ _ _ _ _ us ws l1 l2 => match us, l1, ws, l2 with | [_], _, [_, _], _ => rfl), fun s v w => rfl⟩
  have MTX : MkTX P w K mg base (He.ga K "Table") (kIN (He.ga K "InvalidNumber")) (kIG (He.ga K "InvalidGroup")) (kTM (He.ga K "TooMany")) := ⟨_, fd_Tinit, ["self", "width", "groups"], mkr_Table, G_TinitX, bT⟩
  obtain ⟨fd_T_sum, F_T_sum⟩ := d.def_ 50 (d := dTable__sum_of) rfl
  have X_T_sum : KMX P w K mg base (He.ga K "Table") "sum_of" 3 (spX K (GTs (He.ga K "Table") K (kIE (He.ga K "InvalidExponent")))) := ⟨_, _, _, ok_TsumX F_T_sum R_InvalidExponent rfl D_ies cT n_Table_width, m_Table_sum_of.at_, m_Table_sum_of.fn, m_Table_sum_of.kp, F_T_sum.bindsN (fun _ _ _ _ _ _ us hl => match us, hl with | [_, _], _ => rfl)⟩
  obtain ⟨fd_T_rais, F_T_rais⟩ := d.def_ 55 (d := dTable__raised) rfl
  have X_T_rais : KMX P w K mg base (He.ga K "Table") "raised" 4 (spX K (GTn (He.ga K "Table") K (kIN (He.ga K "InvalidNumber")))) := ⟨_, _, _, ok_TraX F_T_rais X_check_power, m_Table_raised.at_, m_Table_raised.fn, m_Table_raised.kp, F_T_rais.bindsN (fun _ _ _ _ _ _ us hl => match us, hl with | [_, _], _ => rfl)⟩
  obtain ⟨fd_T_keep, F_T_keep⟩ := d.def_ 56 (d := dTable__keeps) rfl
  have X_T_keep : KMX P w K mg base (He.ga K "Table") "keeps" 3 (spX K (GTk (He.ga K "Table") (He.ga K "Schema") K (kWW (He.ga K "WrongWidth")))) := ⟨_, _, _, ok_TkeepsX F_T_keep R_WrongWidth rfl cT cS n_Table_width n_Schema_width, m_Table_keeps.at_, m_Table_keeps.fn, m_Table_keeps.kp, F_T_keep.bindsN (fun _ _ _ _ _ _ us hl => match us, hl with | [_, _], _ => rfl)⟩
  obtain ⟨fd_T_eq, F_T_eq⟩ := d.def_ 57 (d := dTable____eq__) rfl
  have D_T_eq : KM P w K mg base (He.ga K "Table") "__eq__" 1 (spEqT K (He.ga K "Table")) := ⟨_, _, _, ok_Teq F_T_eq h_isinstance gT cT isi x_Table_kit_list n_Table_width n_Table__groups, m_Table___eq__.at_, m_Table___eq__.fn, m_Table___eq__.kp, F_T_eq.bindsN (fun _ _ _ _ _ _ us hl => match us, hl with | [_, _], _ => rfl)⟩
  obtain ⟨fd_T_repr, F_T_repr⟩ := d.def_ 58 (d := dTable____repr__) rfl
  have D_T_repr : KM P w K mg base (He.ga K "Table") "__repr__" 1 (spO K (FTrepr (He.ga K "Table") K)) := ⟨_, _, _, ok_Trepr F_T_repr h_len cT n_Table__groups, m_Table___repr__.at_, m_Table___repr__.fn, m_Table___repr__.kp, F_T_repr.bindsN (fun _ _ _ _ _ _ us hl => match us, hl with | [_], _ => rfl)⟩
  obtain ⟨fd_T_add, F_T_add⟩ := d.def_ 51 (d := dTable____add__) rfl
  have D_T_add : KM P w K mg base (He.ga K "Table") "__add__" 5 (spTop K (He.ga K "Table") (fun a b => a ++ b) fun a b => a.length + b.length ≤ 1000) := ⟨_, _, _, ok_Tadd F_T_add MT h_isinstance gT cT isi n_Table_width n_Table__groups, m_Table___add__.at_, m_Table___add__.fn, m_Table___add__.kp, F_T_add.bindsN (fun _ _ _ _ _ _ us hl => match us, hl with | [_, _], _ => rfl)⟩
  have X_T_add : KMX P w K mg base (He.ga K "Table") "__add__" 6 (spX K (GTa K (He.ga K "Table") (kWW (He.ga K "WrongWidth")) (kTM (He.ga K "TooMany")))) := ⟨_, _, _, ok_TaddX F_T_add MTX R_WrongWidth rfl h_isinstance gT cT isi n_Table_width n_Table__groups, m_Table___add__.at_, m_Table___add__.fn, m_Table___add__.kp, F_T_add.bindsN (fun _ _ _ _ _ _ us hl => match us, hl with | [_, _], _ => rfl)⟩
  obtain ⟨fd_T_mul, F_T_mul⟩ := d.def_ 52 (d := dTable____mul__) rfl
  have D_T_mul : KM P w K mg base (He.ga K "Table") "__mul__" 5 (spTop K (He.ga K "Table") mulG WMul) := ⟨_, _, _, ok_Tmul F_T_mul MT h_isinstance h_tuple h_zip gT cT isi n_Table_width n_Table__groups, m_Table___mul__.at_, m_Table___mul__.fn, m_Table___mul__.kp, F_T_mul.bindsN (fun _ _ _ _ _ _ us hl => match us, hl with | [_, _], _ => rfl)⟩
  have X_T_mul : KMX P w K mg base (He.ga K "Table") "__mul__" 6 (spX K (GTm K (He.ga K "Table") (kWW (He.ga K "WrongWidth")) (kTM (He.ga K "TooMany")))) := ⟨_, _, _, ok_TmulX F_T_mul MTX R_WrongWidth rfl h_isinstance h_tuple h_zip gT cT isi n_Table_width n_Table__groups, m_Table___mul__.at_, m_Table___mul__.fn, m_Table___mul__.kp, F_T_mul.bindsN (fun _ _ _ _ _ _ us hl => match us, hl with | [_, _], _ => rfl)⟩
  obtain ⟨fd_T_to, F_T_to⟩ := d.def_ 54 (d := dTable__to_the) rfl
  have D_T_to : KM P w K mg base (He.ga K "Table") "to_the" 6 (spTto K (He.ga K "Table")) := ⟨_, _, _, ok_Tto F_T_to MT D_check_power D_T_mul x_Table_first h_range gT cT n_Table_width, m_Table_to_the.at_, m_Table_to_the.fn, m_Table_to_the.kp, F_T_to.bindsN (fun _ _ _ _ _ _ us hl => match us, hl with | [_, _], _ => rfl)⟩
  have X_T_to : KMX P w K mg base (He.ga K "Table") "to_the" 7 (spX K (GTt K (He.ga K "Table") (kIN (He.ga K "InvalidNumber")) (kWW (He.ga K "WrongWidth")) (kTM (He.ga K "TooMany")))) := ⟨_, _, _, ok_TtoX F_T_to MT D_check_power X_check_power D_T_mul X_T_mul x_Table_first h_range gT cT n_Table_width, m_Table_to_the.at_, m_Table_to_the.fn, m_Table_to_the.kp, F_T_to.bindsN (fun _ _ _ _ _ _ us hl => match us, hl with | [_, _], _ => rfl)⟩
  obtain ⟨fd_T_pow, F_T_pow⟩ := d.def_ 53 (d := dTable____pow__) rfl
  have D_T_pow : KM P w K mg base (He.ga K "Table") "__pow__" 7 (spTto K (He.ga K "Table")) := ⟨_, _, _, ok_Tpow F_T_pow D_T_to cT, m_Table___pow__.at_, m_Table___pow__.fn, m_Table___pow__.kp, F_T_pow.bindsN (fun _ _ _ _ _ _ us hl => match us, hl with | [_, _], _ => rfl)⟩
  have X_T_pow : KMX P w K mg base (He.ga K "Table") "__pow__" 8 (spX K (GTt K (He.ga K "Table") (kIN (He.ga K "InvalidNumber")) (kWW (He.ga K "WrongWidth")) (kTM (He.ga K "TooMany")))) := ⟨_, _, _, ok_TpowX F_T_pow X_T_to cT, m_Table___pow__.at_, m_Table___pow__.fn, m_Table___pow__.kp, F_T_pow.bindsN (fun _ _ _ _ _ _ us hl => match us, hl with | [_, _], _ => rfl)⟩
  obtain ⟨fd_P_wor, F_P_wor⟩ := d.def_ 43 (d := dProduct__worth) rfl
  have X_P_wor : KMX P w K mg base (He.ga K "Product") "worth" 3 (spX K (GPwo (He.ga K "Product") (He.ga K "Table") K (kWW (He.ga K "WrongWidth")))) := ⟨_, _, _, ok_PwoX F_P_wor R_WrongWidth rfl cP cT n_Product_width n_Table_width, m_Product_worth.at_, m_Product_worth.fn, m_Product_worth.kp, F_P_wor.bindsN (fun _ _ _ _ _ _ us hl => match us, hl with | [_, _], _ => rfl)⟩
  have pc : PowC K (He.ga K "Table") := ⟨x_Table_first, x_Table_rpow, x_Table_sub_int⟩
  have kc : KitC K (He.ga K "Table") := ⟨x_Table_not_bool, x_Table_not_int, x_Table_not_str, x_Table_not_list, x_Table_not_tuple⟩
  have V_L_same : ∀ n, KD P w K mg base "_law_same" (n + 2) (spSm K (TT K (He.ga K "Table")) n) := fun n => kd_mk F_L_same (ok_L_sameV F_L_same g_same b_same G_same O_L_kind D_T_eq cT isi kc h_len h_all h_zip n) g_same b_same
  obtain ⟨⟨fd_size, F_size⟩, hprop⟩ := getter c0 0 (d := dTable__size)
  have hsize : ∃ p g fd ps, PropOf K (He.ga K "Table") "size" p g ∧ FnOk P w K mg base CX0 1 g fd ps (spO K (FTsize (He.ga K "Table") K)) ∧ L2.Binds K fd ps [] := ⟨_, _, fd_size, ["self"], hprop, ok_Tsize F_size h_sum cT n_Table__groups, F_size.bindsN (fun _ _ _ _ _ _ us hl => match us, hl with | [_], _ => rfl)⟩
  obtain ⟨⟨fd_pw, F_pw⟩, hpw1, hpw2⟩ := static_ c0 0 (d := dTable__powers)
  have bpw := F_pw.bindsN (ps := ["width", "base", "groups"]) (fun _ _ _ _ _ _ us hl => match us, hl with | [_, _, _], _ => rfl)
  have PW : KSP P w K mg base CX0 (He.ga K "Table") "powers" 5 (spTpw K (He.ga K "Table")) := ⟨_, _, _, fd_pw, ["width", "base", "groups"], cr_Table, hpw1, hpw2, F_pw.kp, ok_Tpw F_pw MT D_check_width D_is_number D_is_power_group D_power_group gT h_isinstance h_list h_tuple h_enumerate, bpw⟩
  have PWX : KSP P w K mg base (L2.CX P w) (He.ga K "Table") "powers" 4 (spX K (GPw (kIN (He.ga K "InvalidNumber")) (kIG (He.ga K "InvalidGroup")) K)) := ⟨_, _, _, fd_pw, ["width", "base", "groups"], cr_Table, hpw1, hpw2, F_pw.kp, ok_TpwX F_pw D_check_width X_check_width D_is_number D_is_power_group R_InvalidNumber rfl R_InvalidGroup rfl h_isinstance h_list h_tuple h_enumerate, bpw⟩
  have L : LE P w K mg base (He.ga K "Table") (He.ga K "Schema") (He.ga K "Product") (He.ga K "InvalidNumber") (He.ga K "InvalidGroup") (He.ga K "InvalidExponent") (He.ga K "TooMany") (He.ga K "WrongWidth") [.ref (He.ga K "DealError"), .ref (He.ga K "Missing"), .ref (He.ga K "NothingLeft")] := ⟨D_L_open, D_L_take, D_L_one, D_L_exp, D_L_odd, D_L_lots, D_L_same, V_L_same, D_L_tries, MT, MTX, gT, cT, PW, PWX, X_T_sum, X_T_rais, X_T_to, X_T_pow, X_T_keep, X_T_add, X_T_mul, D_T_add, D_T_pow, D_T_repr, hsize, pc, MS, gS, MP, gP, cP, X_P_wor, ok_InvalidNumber, ok_InvalidGroup, ok_InvalidExponent, ok_TooMany, ok_WrongWidth, h_list, h_range, h_int, h_tuple, h_repr⟩
  have T : LTab base mg (He.cT K ("law", none)).1 (He.cT K ("law", none)).2 (He.cT K ("_law_table_bounds_so", none)).1 (He.cT K ("_law_table_bounds_so", none)).2 := ⟨TB, TB2, x_tabs2⟩
  have DB : KD P w K mg base "_law_table_bounds_so" 15 (spBnd (He.cT K ("law", none)).2 (He.cT K ("_law_table_bounds_so", none)).2) := kd_mk F_bnd (ok_bnd F_bnd hcode_bnd L T) (He.glo_ok X G (d.fact 29 (f := .glo "_law_table_bounds_so") rfl)) (F_bnd.bindsN (fun _ _ _ _ _ _ us hl => match us, hl with | [], _ => rfl))
  exact ok_law F_law hcode_law L T DB
end
end K17
open PySem PySem.W PySem.Calls PyProof.Rows
theorem PySem.Challenge.cw_dealtpowers_k17_tables_refused_holds : PySem.Challenge.rw_dealtpowers_k17_tables_refused.Holds := by
  w_on; o_law
  refine HandSHeadRun.head_any (r := OpenLaw.row PySem.Challenge.rw_dealtpowers_k17_tables_refused) (q := view (OpenLaw.row PySem.Challenge.rw_dealtpowers_k17_tables_refused).prog [50]) (H := K17.hk) (ob := K17.ob) (M := 20000) (loose := K17.nms) (d := HandSHeadRun.topDef (OpenLaw.row PySem.Challenge.rw_dealtpowers_k17_tables_refused).prog 50) (kwd := []) K17.ob_eq
    (by kernel_rfl) (fun s => by kernel_rfl) K17.run (by kernel_rfl) (by kernel_rfl) (by kernel_rfl) (by rfl) (by first | assumption | decide +kernel) (by decide +kernel) ⟨rfl, rfl, rfl, rfl, rfl, by decide +kernel⟩ ?hw ?hc
  case hw => w_witness2
  case hc =>
    refine LamX.walk_ofTsE (l := PySem.Challenge.rw_dealtpowers_k17_tables_refused) (n := 63) (k := 16) (x := "_law_script") (CX := fun _ => L2.CX0) rfl (by decide) (by kernel_rfl) ⟨rfl, by decide, by decide⟩ ?F (fun _ _ _ _ _ z => z)
    intro w mg fa h Y G hmg0
    obtain ⟨K, KX, c⟩ := Y
    have hmg : mg ("law" : PySem.Str) = some (.ref fa) := by
      have e : (HandSHeadRun.topDef (OpenLaw.row PySem.Challenge.rw_dealtpowers_k17_tables_refused).prog 50).name = ("law" : PySem.Str) := by kernel_rfl
      rw [← e]
      exact hmg0
    obtain ⟨fd, hb, hF⟩ := K17.facts (P := (PySem.Challenge.rw_dealtpowers_k17_tables_refused).prog) (w := w) KX G hmg c
    have ht := c.tab ("law", none) (by unfold K17.tf; exact List.mem_cons_self)
    have ht2 := c.tab ("_law_table_bounds_so", none) (by unfold K17.tf; exact List.mem_cons_of_mem _ List.mem_cons_self)
    have m1 : (He.cT K ("law", none)) ∈ [(He.cT K ("law", none)), (He.cT K ("_law_table_bounds_so", none))] := List.mem_cons_self
    have m2 : (He.cT K ("_law_table_bounds_so", none)) ∈ [(He.cT K ("law", none)), (He.cT K ("_law_table_bounds_so", none))] := List.mem_cons_of_mem _ List.mem_cons_self
    have sp : ∀ p, p ∈ [(He.cT K ("law", none)), (He.cT K ("_law_table_bounds_so", none))] → p = (He.cT K ("law", none)) ∨ p = (He.cT K ("_law_table_bounds_so", none)) := fun p hp => by simpa using hp
    refine ⟨K, KX, fd, [(He.cT K ("law", none)), (He.cT K ("_law_table_bounds_so", none))], K17.spLaw K (He.cT K ("law", none)).2 (He.cT K ("_law_table_bounds_so", none)).2, fun p hp => ?_, fun p hp => ?_, fun p hp => ?_, hb, fun H a ns hl _ hT hS => ⟨a, ns, rfl, hS, hl, hT _ m1, hT _ m2, fun _ => rfl⟩, fun base KB NB TB => hF base KB NB (TB _ m1) (TB _ m2)⟩
    · rcases sp p hp with e | e
      · rw [e]; exact ht.2.2
      · rw [e]; exact ht2.2.2
    · rcases sp p hp with e | e
      · rw [e]; exact ht.2.1
      · rw [e]; exact ht2.2.1
    · rcases sp p hp with e | e
      · rw [e]; exact codeHd_of_K KX ht.1
      · rw [e]; exact codeHd_of_K KX ht2.1
