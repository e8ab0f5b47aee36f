import PyProof.Rows.All
import Wide.All
import OpenK.AllK
import HandS.HeadHook4
import HandS.ExcField
import KE.KExcInit
import HandS.Head0
import HandS.Head1
import HandS.Head2
import HandS.HeadEnd
import HandS.HeadHook1
import HandS.HeadHook2
import HandS.HeadHook3
import HandS.HeadWalk
import HandS.Property
import PySem.Challenge.RW_dealtpowers_k01_errors_by_themselves
import Wide.FinOn
import KE.KStateDown
import HandS.ForMost
import HandS.ForExc
import HandS.IsInst
import HandS.Zip
import HandS.Defaults
import HandS.MakeKw
import HandS.MakeKwOnly
import HandS.Star
import HandS.ClsMeth
import HandS.OwnEq
import HandS.FStr
import HandS.Flow
import HandS.TupMul
import HandS.TupAny
import HandS.Strs
import HandS.WideBits
import HandS.Wide
import HandS.Walk
import HandS.Style
import HandS.SetTxt0
import KE.GoesEnum
import OpenK.KMeth
import OpenK.KOps
import KE.KFmtOwn
import PyProof.Rows.StrStep
import HandS.Exc
import HandS.ExcInit
import HandS.WordsExc
import HandS.TryMany
import KE.KTryMore
import KE.KExcHand
import HandS.Nested
import HandS.HotCalls
import HandS.DictTup
import HandS.TupLen
import HandS.TupSets
import HandS.Conv
import KE.SortData
import HandS.More
import HandS.Dict
import HandS.Deep
import KE.SortKeyHeap
import HandS.SortKw
import HandS.DictComp
import KE.KDictItemsList
import KE.KEqDict
import HandS.Replace
import KE.GoesMore
import KE.KxIndex
import KE.KStrOpen
import KE.KCallOwn
import KE.KExcIs
import HandS.ExcIs
import PyProof.ExcBaseAll.IndexError
import PyProof.ExcBaseAll.LookupError
import PyProof.ExcBaseAll.ValueError
set_option Elab.async false
set_option linter.all false
set_option maxRecDepth 100000
set_option maxHeartbeats 0
set_option exponentiation.threshold 256
namespace Y
open PySem PySem.Spec PyProof.Rows L2
def oexGB (K : PySem.W.Frag) (C : Addr) (bmB : List Value) (newId : String) : Bool := PySem.W.excInitIn K C bmB newId && (PySem.W.excOver K C bmB && (He.eqO (PySem.W.findIn K (.ref C) "__setattr__") (some (some (.builtin "object.__setattr__"))) && (xfB K C && (PySem.W.keepIn K (.ref C) && (He.eqO (PySem.W.findIn K (.ref C) "__class__") (some (some (.builtin "object.__class__"))) && decide (PySem.W.mroIn K C (.type "object") = some true))))))
def errGB (K : PySem.W.Frag) (C fI : Addr) (f : Str) : Bool := He.eqO (PySem.W.findIn K (.ref C) f) (some none) && (He.eqO (PySem.W.findIn K (.ref C) "code") (some none) && (He.eqO (PySem.W.findIn K (.ref C) "__init__") (some (some (.ref fI))) && decide (PySem.W.typeIn K (.ref fI) = some (.type "function"))))
def errGB0 (K : PySem.W.Frag) (C fI : Addr) : Bool := He.eqO (PySem.W.findIn K (.ref C) "code") (some none) && (He.eqO (PySem.W.findIn K (.ref C) "__init__") (some (some (.ref fI))) && decide (PySem.W.typeIn K (.ref fI) = some (.type "function")))
end Y
namespace K01
open PySem PySem.Spec PyProof.Rows L2
/-! ## the head's facts: K with the statics, without the empty tables; getters of properties -/
/-- what an object names, as far as the facts want it (not behind a code object) -/
def refsS (o : Obj) : List Addr := match o.data with
  | .seq its _ => its.toList.flatMap He.refV
  | .dict es _ => es.toList.flatMap fun e => He.refV e.val
  | .func fd => He.refV fd.code ++ (He.refV fd.defaults ++ He.refV fd.kwdefaults)
  | .cls cd => cd.ns :: cd.mro.flatMap He.refV
  | .fields vs => (match Nat.ble vs.size 8 with
    | true => vs.toList.flatMap He.refV
    | false => [])
  | _ => []
/-- what the module's names reach in n steps, each once (m: those met, as bits), and the statics -/
def addN : List Addr → Nat → List Addr → List Addr × Nat
  | [], m, acc => (acc, m)
  | r :: rs, m, acc => match Nat.beq (Nat.mod (Nat.shiftRight m r) 2) 1 with
    | true => addN rs m acc
    | false => HandSHeadRun.frNat (Nat.lor m (Nat.shiftLeft 1 r)) fun m2 => addN rs m2 (r :: acc)
def growN (g : Addr → Option Obj) : List Addr → Nat → List Addr → List Addr × Nat
  | [], m, acc => (acc, m)
  | a :: fr, m, acc => match addN (match g a with
      | some o => refsS o
      | none => []) m acc with
    | (acc2, m2) => growN g fr m2 acc2
def asN (g : Addr → Option Obj) : Nat → List Addr → Nat → List Addr
  | 0, fr, _ => fr
  | n + 1, fr, m => match growN g fr m [] with
    | (new, m2) => fr ++ asN g n new m2
def asE (g : Addr → Option Obj) (n : Nat) : List Addr := asN g n [mainGlobals] (Nat.shiftLeft 1 mainGlobals) ++ [cStatics]
def gtA (K : PySem.W.Frag) (p : He.Defn) : Addr := match PySem.W.recIn K (He.fAd K p) "property" with
  | some (.ref g :: _) => g
  | _ => 0
def gtW (K : PySem.W.Frag) (p : He.Defn) : He.FnW := match K.lookup (gtA K p) with
  | some ⟨_, _, .func fd, _⟩ => some (fd.name, fd.qualname, fd.params, fd.body, fd.scope, fd.globals, fd.closure, fd.builtins)
  | _ => none
def gtB (K : PySem.W.Frag) (d : He.DefD) : Bool :=
  (He.eqO (PySem.W.findIn K (.ref (He.ga K d.at_.1)) d.name) (some (some (.ref (He.fAd K d.at_)))) && (He.eqO (PySem.W.specialIn K (.ref (He.fAd K d.at_)) "__get__") (some (some (.builtin "property.__get__"))) && (decide (PySem.W.takesIn K (.ref (He.fAd K d.at_)) = some true) && (match PySem.W.recIn K (He.fAd K d.at_) "property" with
  | some (.ref _ :: _) => true
  | _ => false)))) && (PySem.W.keepIn K (.ref (gtA K d.at_)) && match K.lookup (gtA K d.at_) with
  | some ⟨_, _, .func fd, _⟩ => PySem.W.codeIn K fd.code d.qual && (He.dflB K fd.defaults [] && He.kwdB K fd.kwdefaults [])
  | _ => false)
/-- a staticmethod's def -/
def stA (K : PySem.W.Frag) (p : He.Defn) : Addr := match PySem.W.recIn K (He.fAd K p) "staticmethod" with
  | some (.ref g :: _) => g
  | _ => 0
def stW (K : PySem.W.Frag) (p : He.Defn) : He.FnW := match K.lookup (stA K p) with
  | some ⟨_, _, .func fd, _⟩ => some (fd.name, fd.qualname, fd.params, fd.body, fd.scope, fd.globals, fd.closure, fd.builtins)
  | _ => none
def stB (K : PySem.W.Frag) (d : He.DefD) : Bool :=
  ((match PySem.W.findCls K (.ref (He.ga K d.at_.1)) (.type "type") d.name with
    | some (.get (.builtin g) (.ref p) .none (.ref D)) => decide (g = "staticmethod.__get__") && (decide (p = He.fAd K d.at_) && decide (D = He.ga K d.at_.1))
    | _ => false) && (match PySem.W.recIn K (He.fAd K d.at_) "staticmethod" with
    | some (.ref _ :: _) => true
    | _ => false)) && (PySem.W.keepIn K (.ref (stA K d.at_)) && match K.lookup (stA K d.at_) with
  | some ⟨_, _, .func fd, _⟩ => PySem.W.codeIn K fd.code d.qual && (He.dflB K fd.defaults (d.dvs K) && He.kwdB K fd.kwdefaults (d.kws K))
  | _ => false)
abbrev AlP := ((He.AlD × Bool) × List He.FnW) × List He.FnW
structure SaysG (fa : List He.Fa) (fn pn sn : List He.DefD) (tf : List He.Defn) (ex : PySem.W.Frag → Bool) (h : Heap) (K : PySem.W.Frag) : Prop where
  d : He.SaysD fa fn K
  more : ex K = true
  tab : ∀ p ∈ tf, PySem.W.codeHdIn K (He.cT K p).1 (He.cT K p).2 = true ∧ K.lookup (He.cT K p).2 = none ∧ h.get? (He.cT K p).2 = some { cls := .none, data := .fields #[] }
  gets : ∀ d ∈ pn, gtB K d = true ∧ gtW K d.at_ = He.DefD.val d
  stats : ∀ d ∈ sn, stB K d = true ∧ stW K d.at_ = He.DefD.val d
def obsG (n : Nat) (fa : List He.Fa) (fn pn sn : List He.DefD) (tf : List He.Defn) (ex : PySem.W.Frag → Bool) (g : Addr → Option Obj) : AlP :=
  (((He.obsD fa fn (He.frT g (asE g n)), ((ex (He.frT g (asE g n)) && pn.all fun d => gtB (He.frT g (asE g n)) d) && sn.all fun d => stB (He.frT g (asE g n)) d) && He.tabsB g tf (He.frT g (asE g n))), pn.map fun d => gtW (He.frT g (asE g n)) d.at_), sn.map fun d => stW (He.frT g (asE g n)) d.at_)
theorem saysG_of {n : Nat} {fa : List He.Fa} {fn pn sn : List He.DefD} {tf : List He.Defn} {ex : PySem.W.Frag → Bool} {h : Heap} (e : obsG n fa fn pn sn tf ex h.get? = (((He.valD fn, true), pn.map He.DefD.val), sn.map He.DefD.val)) : SaysG fa fn pn sn tf ex h (He.frT h.get? (asE h.get? n)) := by
  have e2 : (((ex (He.frT h.get? (asE h.get? n)) && pn.all fun d => gtB (He.frT h.get? (asE h.get? n)) d) && sn.all fun d => stB (He.frT h.get? (asE h.get? n)) d) && He.tabsB h.get? tf (He.frT h.get? (asE h.get? n))) = true := congrArg (fun z : AlP => z.1.1.2) e
  have e4 : pn.map (fun d => gtW (He.frT h.get? (asE h.get? n)) d.at_) = pn.map He.DefD.val := congrArg (fun z : AlP => z.1.2) e
  have e5 : sn.map (fun d => stW (He.frT h.get? (asE h.get? n)) d.at_) = sn.map He.DefD.val := congrArg (fun z : AlP => z.2) e
  rw [Bool.and_eq_true, Bool.and_eq_true, Bool.and_eq_true] at e2
  refine ⟨congrArg (fun z : AlP => z.1.1.1) e, e2.1.1.1, fun p hp => ?_, fun d hd => ⟨List.all_eq_true.mp e2.1.1.2 d hd, List.map_inj_left.mp e4 d hd⟩, fun d hd => ⟨List.all_eq_true.mp e2.1.2 d hd, List.map_inj_left.mp e5 d hd⟩⟩
  have e3 := List.all_eq_true.mp e2.2 p hp
  rw [Bool.and_eq_true] at e3
  cases q : h.get? (He.cT (He.frT h.get? (asE h.get? n)) p).2 with
  | none => rw [q] at e3; exact absurd e3.2 Bool.false_ne_true
  | some o =>
    rw [q] at e3
    exact ⟨e3.1, He.frT_none q e3.2, by rw [He.emptyTab_eq e3.2]⟩
def hookG (n : Nat) (fa : List He.Fa) (fn pn sn : List He.DefD) (tf : List He.Defn) (ex : PySem.W.Frag → Bool) : PySem.W.Hook where
  α := AlP
  obs := fun s => obsG n fa fn pn sn tf ex s.heap.get?
  val := fun _ => (((He.valD fn, true), pn.map He.DefD.val), sn.map He.DefD.val)
  says := fun _ h => ∃ K : PySem.W.Frag, K.In h ∧ SaysG fa fn pn sn tf ex h K
  of := fun _ _ e => ⟨_, He.frT_in, saysG_of e⟩
  keeps := fun _ _ _ ⟨K, hK, c⟩ k => ⟨K, PySem.W.Frag.In.keeps hK k, ⟨c.d, c.more, fun p hp => ⟨(c.tab p hp).1, (c.tab p hp).2.1, k _ _ (c.tab p hp).2.2⟩, c.gets, c.stats⟩⟩
theorem obsG_eq {n : Nat} {fa : List He.Fa} {fn pn sn : List He.DefD} {tf : List He.Defn} {ex : PySem.W.Frag → Bool} {g : Addr → Option Obj} {s : Shared} (h : ∀ a, g a = s.heap.get? a) : obsG n fa fn pn sn tf ex g = (hookG n fa fn pn sn tf ex).obs s := by
  have e : g = s.heap.get? := funext h
  rw [e] <;> rfl
def top (i : Nat) : Stmt := PySem.Challenge.pw_dealtpowers_k01_errors_by_themselves.main.body.getD i (.Pass ⟨0, 0, 0, 0⟩)
abbrev sInvalidNumber____init__ : Stmt := inClass (top 3) 0
def dInvalidNumber____init__ : He.DefD := ⟨("InvalidNumber", some "__init__"), "__init__", "InvalidNumber.__init__", defArgs sInvalidNumber____init__, defBody sInvalidNumber____init__, defScope sInvalidNumber____init__, [], []⟩
abbrev sInvalidSystem____init__ : Stmt := inClass (top 4) 0
def dInvalidSystem____init__ : He.DefD := ⟨("InvalidSystem", some "__init__"), "__init__", "InvalidSystem.__init__", defArgs sInvalidSystem____init__, defBody sInvalidSystem____init__, defScope sInvalidSystem____init__, [], []⟩
abbrev sInvalidColumns____init__ : Stmt := inClass (top 5) 0
def dInvalidColumns____init__ : He.DefD := ⟨("InvalidColumns", some "__init__"), "__init__", "InvalidColumns.__init__", defArgs sInvalidColumns____init__, defBody sInvalidColumns____init__, defScope sInvalidColumns____init__, [], []⟩
abbrev sInvalidFact____init__ : Stmt := inClass (top 6) 0
def dInvalidFact____init__ : He.DefD := ⟨("InvalidFact", some "__init__"), "__init__", "InvalidFact.__init__", defArgs sInvalidFact____init__, defBody sInvalidFact____init__, defScope sInvalidFact____init__, [], []⟩
abbrev sInvalidExponent____init__ : Stmt := inClass (top 7) 0
def dInvalidExponent____init__ : He.DefD := ⟨("InvalidExponent", some "__init__"), "__init__", "InvalidExponent.__init__", defArgs sInvalidExponent____init__, defBody sInvalidExponent____init__, defScope sInvalidExponent____init__, [], []⟩
abbrev sInvalidFactor____init__ : Stmt := inClass (top 8) 0
def dInvalidFactor____init__ : He.DefD := ⟨("InvalidFactor", some "__init__"), "__init__", "InvalidFactor.__init__", defArgs sInvalidFactor____init__, defBody sInvalidFactor____init__, defScope sInvalidFactor____init__, [], []⟩
abbrev sInvalidGroup____init__ : Stmt := inClass (top 9) 0
def dInvalidGroup____init__ : He.DefD := ⟨("InvalidGroup", some "__init__"), "__init__", "InvalidGroup.__init__", defArgs sInvalidGroup____init__, defBody sInvalidGroup____init__, defScope sInvalidGroup____init__, [], []⟩
abbrev sInvalidClaim____init__ : Stmt := inClass (top 10) 0
def dInvalidClaim____init__ : He.DefD := ⟨("InvalidClaim", some "__init__"), "__init__", "InvalidClaim.__init__", defArgs sInvalidClaim____init__, defBody sInvalidClaim____init__, defScope sInvalidClaim____init__, [], []⟩
abbrev sInvalidSums____init__ : Stmt := inClass (top 11) 0
def dInvalidSums____init__ : He.DefD := ⟨("InvalidSums", some "__init__"), "__init__", "InvalidSums.__init__", defArgs sInvalidSums____init__, defBody sInvalidSums____init__, defScope sInvalidSums____init__, [], []⟩
abbrev sInvalidRow____init__ : Stmt := inClass (top 12) 0
def dInvalidRow____init__ : He.DefD := ⟨("InvalidRow", some "__init__"), "__init__", "InvalidRow.__init__", defArgs sInvalidRow____init__, defBody sInvalidRow____init__, defScope sInvalidRow____init__, [], []⟩
abbrev sInvalidDeed____init__ : Stmt := inClass (top 13) 0
def dInvalidDeed____init__ : He.DefD := ⟨("InvalidDeed", some "__init__"), "__init__", "InvalidDeed.__init__", defArgs sInvalidDeed____init__, defBody sInvalidDeed____init__, defScope sInvalidDeed____init__, [], []⟩
abbrev sInvalidName____init__ : Stmt := inClass (top 14) 0
def dInvalidName____init__ : He.DefD := ⟨("InvalidName", some "__init__"), "__init__", "InvalidName.__init__", defArgs sInvalidName____init__, defBody sInvalidName____init__, defScope sInvalidName____init__, [], []⟩
abbrev sInvalidText____init__ : Stmt := inClass (top 15) 0
def dInvalidText____init__ : He.DefD := ⟨("InvalidText", some "__init__"), "__init__", "InvalidText.__init__", defArgs sInvalidText____init__, defBody sInvalidText____init__, defScope sInvalidText____init__, [], []⟩
abbrev sInvalidCommand____init__ : Stmt := inClass (top 16) 0
def dInvalidCommand____init__ : He.DefD := ⟨("InvalidCommand", some "__init__"), "__init__", "InvalidCommand.__init__", defArgs sInvalidCommand____init__, defBody sInvalidCommand____init__, defScope sInvalidCommand____init__, [], []⟩
abbrev sInvalidLimit____init__ : Stmt := inClass (top 17) 0
def dInvalidLimit____init__ : He.DefD := ⟨("InvalidLimit", some "__init__"), "__init__", "InvalidLimit.__init__", defArgs sInvalidLimit____init__, defBody sInvalidLimit____init__, defScope sInvalidLimit____init__, [], []⟩
abbrev sInvalidPage____init__ : Stmt := inClass (top 18) 0
def dInvalidPage____init__ : He.DefD := ⟨("InvalidPage", some "__init__"), "__init__", "InvalidPage.__init__", defArgs sInvalidPage____init__, defBody sInvalidPage____init__, defScope sInvalidPage____init__, [], []⟩
abbrev sWrongWidth____init__ : Stmt := inClass (top 19) 0
def dWrongWidth____init__ : He.DefD := ⟨("WrongWidth", some "__init__"), "__init__", "WrongWidth.__init__", defArgs sWrongWidth____init__, defBody sWrongWidth____init__, defScope sWrongWidth____init__, [], []⟩
abbrev sWrongSchema____init__ : Stmt := inClass (top 20) 0
def dWrongSchema____init__ : He.DefD := ⟨("WrongSchema", some "__init__"), "__init__", "WrongSchema.__init__", defArgs sWrongSchema____init__, defBody sWrongSchema____init__, defScope sWrongSchema____init__, [], []⟩
abbrev sWrongKind____init__ : Stmt := inClass (top 21) 0
def dWrongKind____init__ : He.DefD := ⟨("WrongKind", some "__init__"), "__init__", "WrongKind.__init__", defArgs sWrongKind____init__, defBody sWrongKind____init__, defScope sWrongKind____init__, [], []⟩
abbrev sTooMany____init__ : Stmt := inClass (top 22) 0
def dTooMany____init__ : He.DefD := ⟨("TooMany", some "__init__"), "__init__", "TooMany.__init__", defArgs sTooMany____init__, defBody sTooMany____init__, defScope sTooMany____init__, [], []⟩
abbrev sTooHigh____init__ : Stmt := inClass (top 23) 0
def dTooHigh____init__ : He.DefD := ⟨("TooHigh", some "__init__"), "__init__", "TooHigh.__init__", defArgs sTooHigh____init__, defBody sTooHigh____init__, defScope sTooHigh____init__, [], []⟩
abbrev sEqualSums____init__ : Stmt := inClass (top 24) 0
def dEqualSums____init__ : He.DefD := ⟨("EqualSums", some "__init__"), "__init__", "EqualSums.__init__", defArgs sEqualSums____init__, defBody sEqualSums____init__, defScope sEqualSums____init__, [], []⟩
abbrev sTight____init__ : Stmt := inClass (top 25) 0
def dTight____init__ : He.DefD := ⟨("Tight", some "__init__"), "__init__", "Tight.__init__", defArgs sTight____init__, defBody sTight____init__, defScope sTight____init__, [], []⟩
abbrev sBoundless____init__ : Stmt := inClass (top 26) 0
def dBoundless____init__ : He.DefD := ⟨("Boundless", some "__init__"), "__init__", "Boundless.__init__", defArgs sBoundless____init__, defBody sBoundless____init__, defScope sBoundless____init__, [], []⟩
abbrev sNoTable____init__ : Stmt := inClass (top 27) 0
def dNoTable____init__ : He.DefD := ⟨("NoTable", some "__init__"), "__init__", "NoTable.__init__", defArgs sNoTable____init__, defBody sNoTable____init__, defScope sNoTable____init__, [], []⟩
abbrev sNotThere____init__ : Stmt := inClass (top 28) 0
def dNotThere____init__ : He.DefD := ⟨("NotThere", some "__init__"), "__init__", "NotThere.__init__", defArgs sNotThere____init__, defBody sNotThere____init__, defScope sNotThere____init__, [], []⟩
abbrev sBrokenClaim____init__ : Stmt := inClass (top 29) 0
def dBrokenClaim____init__ : He.DefD := ⟨("BrokenClaim", some "__init__"), "__init__", "BrokenClaim.__init__", defArgs sBrokenClaim____init__, defBody sBrokenClaim____init__, defScope sBrokenClaim____init__, [], []⟩
abbrev sDuplicateName____init__ : Stmt := inClass (top 30) 0
def dDuplicateName____init__ : He.DefD := ⟨("DuplicateName", some "__init__"), "__init__", "DuplicateName.__init__", defArgs sDuplicateName____init__, defBody sDuplicateName____init__, defScope sDuplicateName____init__, [], []⟩
abbrev sFull____init__ : Stmt := inClass (top 31) 0
def dFull____init__ : He.DefD := ⟨("Full", some "__init__"), "__init__", "Full.__init__", defArgs sFull____init__, defBody sFull____init__, defScope sFull____init__, [], []⟩
abbrev sEmpty____init__ : Stmt := inClass (top 32) 0
def dEmpty____init__ : He.DefD := ⟨("Empty", some "__init__"), "__init__", "Empty.__init__", defArgs sEmpty____init__, defBody sEmpty____init__, defScope sEmpty____init__, [], []⟩
abbrev sUnknownName____init__ : Stmt := inClass (top 33) 0
def dUnknownName____init__ : He.DefD := ⟨("UnknownName", some "__init__"), "__init__", "UnknownName.__init__", defArgs sUnknownName____init__, defBody sUnknownName____init__, defScope sUnknownName____init__, [], []⟩
abbrev sNothingLeft____init__ : Stmt := inClass (top 34) 0
def dNothingLeft____init__ : He.DefD := ⟨("NothingLeft", some "__init__"), "__init__", "NothingLeft.__init__", defArgs sNothingLeft____init__, defBody sNothingLeft____init__, defScope sNothingLeft____init__, [], []⟩
abbrev sL_open : Stmt := top 36
def dL_open : He.DefD := ⟨("_law_open", none), "_law_open", "_law_open", defArgs sL_open, defBody sL_open, defScope sL_open, [], []⟩
abbrev sL_take : Stmt := top 37
def dL_take : He.DefD := ⟨("_law_take", none), "_law_take", "_law_take", defArgs sL_take, defBody sL_take, defScope sL_take, [], []⟩
abbrev sL_one : Stmt := top 38
def dL_one : He.DefD := ⟨("_law_one", none), "_law_one", "_law_one", defArgs sL_one, defBody sL_one, defScope sL_one, [], []⟩
abbrev sL_kind : Stmt := top 39
def dL_kind : He.DefD := ⟨("_law_kind", none), "_law_kind", "_law_kind", defArgs sL_kind, defBody sL_kind, defScope sL_kind, [], []⟩
abbrev sL_same : Stmt := top 40
def dL_same : He.DefD := ⟨("_law_same", none), "_law_same", "_law_same", defArgs sL_same, defBody sL_same, defScope sL_same, [], []⟩
abbrev sL_field : Stmt := top 41
def dL_field : He.DefD := ⟨("_law_field", none), "_law_field", "_law_field", defArgs sL_field, defBody sL_field, defScope sL_field, [], []⟩
abbrev sL_odd : Stmt := top 42
def dL_odd : He.DefD := ⟨("_law_odd", none), "_law_odd", "_law_odd", defArgs sL_odd, defBody sL_odd, defScope sL_odd, [], []⟩
abbrev sL_kinds : Stmt := top 43
def dL_kinds : He.DefD := ⟨("_law_kinds", none), "_law_kinds", "_law_kinds", defArgs sL_kinds, defBody sL_kinds, defScope sL_kinds, [], []⟩
abbrev sL_made_errors : Stmt := top 44
def dL_made_errors : He.DefD := ⟨("_law_made_errors", none), "_law_made_errors", "_law_made_errors", defArgs sL_made_errors, defBody sL_made_errors, defScope sL_made_errors, [], []⟩
abbrev sL_named_errors : Stmt := top 45
def dL_named_errors : He.DefD := ⟨("_law_named_errors", none), "_law_named_errors", "_law_named_errors", defArgs sL_named_errors, defBody sL_named_errors, defScope sL_named_errors, [], []⟩
abbrev sL_kept_in : Stmt := top 46
def dL_kept_in : He.DefD := ⟨("_law_kept_in", none), "_law_kept_in", "_law_kept_in", defArgs sL_kept_in, defBody sL_kept_in, defScope sL_kept_in, [], []⟩
abbrev slaw : Stmt := top 47
def dlaw : He.DefD := ⟨("law", none), "law", "law", defArgs slaw, defBody slaw, defScope slaw, [], []⟩
def fn : List He.DefD := [dInvalidNumber____init__, dInvalidSystem____init__, dInvalidColumns____init__, dInvalidFact____init__, dInvalidExponent____init__, dInvalidFactor____init__, dInvalidGroup____init__, dInvalidClaim____init__, dInvalidSums____init__, dInvalidRow____init__, dInvalidDeed____init__, dInvalidName____init__, dInvalidText____init__, dInvalidCommand____init__, dInvalidLimit____init__, dInvalidPage____init__, dWrongWidth____init__, dWrongSchema____init__, dWrongKind____init__, dTooMany____init__, dTooHigh____init__, dEqualSums____init__, dTight____init__, dBoundless____init__, dNoTable____init__, dNotThere____init__, dBrokenClaim____init__, dDuplicateName____init__, dFull____init__, dEmpty____init__, dUnknownName____init__, dNothingLeft____init__, dL_open, dL_take, dL_one, dL_kind, dL_same, dL_field, dL_odd, dL_kinds, dL_made_errors, dL_named_errors, dL_kept_in, dlaw]
def pn : List He.DefD := []
def sn : List He.DefD := []
def cnL : List Str := ["InvalidNumber", "InvalidSystem", "InvalidColumns", "InvalidFact", "InvalidExponent", "InvalidFactor", "InvalidGroup", "InvalidClaim", "InvalidSums", "InvalidRow", "InvalidDeed", "InvalidName", "InvalidCommand", "InvalidLimit", "InvalidPage", "WrongWidth", "WrongSchema", "WrongKind", "TooMany", "TooHigh", "EqualSums", "Tight", "BrokenClaim", "DuplicateName", "Full", "UnknownName", "InvalidText", "Boundless", "NoTable", "NotThere", "Empty", "NothingLeft"]
def anL : List Str := ["given", "at", "given", "at", "given", "at", "at", "at", "at", "given", "at", "name", "at", "given", "line", "width", "at", "name", "most", "at", "at", "paper", "broken", "name", "limit", "name"]
def veL : List Value := [.type "ValueError", .type "Exception", .type "BaseException", .type "object"]
def leL : List Value := [.type "LookupError", .type "Exception", .type "BaseException", .type "object"]
def ieL : List Value := [.type "IndexError", .type "LookupError", .type "Exception", .type "BaseException", .type "object"]
/-- the built-in base of the i-th error: its mro, its maker -/
def bsM (i : Nat) : List Value := if i = 25 then leL else if i = 31 then ieL else veL
def bsN (i : Nat) : String := if i = 25 then "LookupError.__new__" else if i = 31 then "IndexError.__new__" else "ValueError.__new__"
def cn (i : Nat) : Str := cnL.getD i ""
def an (i : Nat) : Str := anL.getD i ""
def cA (K : PySem.W.Frag) (i : Nat) : Addr := He.ga K (cn i)
def fI (K : PySem.W.Frag) (i : Nat) : Addr := He.fAd K (cn i, some "__init__")
/-- what isinstance says of the i-th one and the bases DealError, ValueError, Missing, IndexError, LookupError -/
def supB (i : Nat) : List Bool := if i = 25 then [false, false, true, false, true] else if i = 31 then [false, false, false, true, true] else [true, true, false, false, false]
def fa : List He.Fa := [.glo "_law_open", .glo "_law_take", .glo "_law_one", .glo "_law_kind", .glo "_law_same", .glo "_law_field", .glo "_law_odd", .glo "_law_kinds", .glo "_law_made_errors", .glo "_law_named_errors", .glo "_law_kept_in", .glo "law", .glo "DealError", .glo "Missing", .glo "InvalidNumber", .glo "InvalidSystem", .glo "InvalidColumns", .glo "InvalidFact", .glo "InvalidExponent", .glo "InvalidFactor", .glo "InvalidGroup", .glo "InvalidClaim", .glo "InvalidSums", .glo "InvalidRow", .glo "InvalidDeed", .glo "InvalidName", .glo "InvalidCommand", .glo "InvalidLimit", .glo "InvalidPage", .glo "WrongWidth", .glo "WrongSchema", .glo "WrongKind", .glo "TooMany", .glo "TooHigh", .glo "EqualSums", .glo "Tight", .glo "BrokenClaim", .glo "DuplicateName", .glo "Full", .glo "UnknownName", .glo "InvalidText", .glo "Boundless", .glo "NoTable", .glo "NotThere", .glo "Empty", .glo "NothingLeft", .free "isinstance", .free "bool", .free "int", .free "str", .free "list", .free "tuple", .free "len", .free "all", .free "zip", .free "range", .free "ValueError", .free "IndexError", .free "LookupError"]
def nm0 : List PySem.Str := ["__name__", "DealError", "Missing", "InvalidNumber", "InvalidSystem", "InvalidColumns", "InvalidFact", "InvalidExponent", "InvalidFactor", "InvalidGroup", "InvalidClaim", "InvalidSums", "InvalidRow", "InvalidDeed", "InvalidName", "InvalidText", "InvalidCommand", "InvalidLimit", "InvalidPage", "WrongWidth", "WrongSchema", "WrongKind", "TooMany", "TooHigh", "EqualSums", "Tight", "Boundless", "NoTable", "NotThere", "BrokenClaim"]
def nm1 : List PySem.Str := ["DuplicateName", "Full", "Empty", "UnknownName", "NothingLeft", "_law_open", "_law_take", "_law_one", "_law_kind", "_law_same", "_law_field", "_law_odd", "_law_kinds", "_law_made_errors", "_law_named_errors", "_law_kept_in"]
def nms : List PySem.Str := nm0 ++ nm1
def ex : PySem.W.Frag → Bool := fun K => ((List.range 26).all fun i => Y.oexGB K (cA K i) (bsM i) (bsN i) && Y.errGB K (cA K i) (fI K i) (an i)) && (((List.range 6).all fun j => Y.oexGB K (cA K (26 + j)) (bsM (26 + j)) (bsN (26 + j)) && Y.errGB0 K (cA K (26 + j)) (fI K (26 + j))) && (((List.range 32).all fun i => (List.range 32).all fun j => decide (PySem.W.kitOne K (.ref (cA K i)) (.ref (cA K j)) = some (decide (i = j)))) && (((List.range 32).all fun i => decide ([PySem.W.kitOne K (.ref (cA K i)) (.ref (He.ga K "DealError")), PySem.W.kitOne K (.ref (cA K i)) (.type "ValueError"), PySem.W.kitOne K (.ref (cA K i)) (.ref (He.ga K "Missing")), PySem.W.kitOne K (.ref (cA K i)) (.type "IndexError"), PySem.W.kitOne K (.ref (cA K i)) (.type "LookupError")] = (supB i).map some)) && (He.eqO (PySem.W.specialIn K (.builtin "object.__class__") "__get__") (some (some (.builtin "getset_descriptor.__get__"))) && (decide (PySem.W.takesIn K (.builtin "object.__class__") = some true))))))
abbrev R : PySem.W.OpenRow := PySem.W.OpenLaw.row PySem.Challenge.rw_dealtpowers_k01_errors_by_themselves
def tf : List He.Defn := []
abbrev hk : PySem.W.Hook := hookG 5 fa fn pn sn tf ex
def ob (s : PySem.W.SharedT) : AlP := obsG 5 fa fn pn sn tf ex (HandSHeadRun.getT s)
theorem ob_eq (s : PySem.W.SharedT) : ob s = hk.obs s.abs := obsG_eq (HandSHeadRun.getT_eq s)
theorem run (w : World) : HandSHeadRun.RunEq R (PySem.W.view R.prog [47]) hk ob 20000 nms w := by
  intro os
  kernel_rfl
end K01
namespace Z
open PySem PySem.Spec PyProof.Rows L2
/-! ## 1. judgements by the best reading -/
def HE (X : Cx) (e : Expr) (σ : L2.St) (H : Hp) (Q : VK) : Prop := ∀ (pins : List (Addr × Obj)) (s : Shared), Inv X pins σ H s → wpAny (model X.prog X.w) X.A (eval e X.env) (EP X pins σ Q) X.xe s
def HT (X : Cx) (e : Expr) (σ : L2.St) (H : Hp) (Q : Bool → Hp → Prop) : Prop := ∀ (pins : List (Addr × Obj)) (s : Shared), Inv X pins σ H s → wpAny (model X.prog X.w) X.A (isTrue e X.env (eval e X.env)) (TP X pins σ Q) X.xe s
def HW (X : Cx) (e : Expr) (σ : L2.St) (H : Hp) (Q : Bool → Hp → Prop) : Prop := ∀ (whole : Sem Value) (pins : List (Addr × Obj)) (s : Shared), Inv X pins σ H s → wpAny (model X.prog X.w) X.A (isTrue e X.env whole) (TP X pins σ Q) X.xe s
def HA (X : Cx) (es : List Expr) (σ : L2.St) (H : Hp) (Q : List V → Hp → Prop) : Prop := ∀ (pos : Pos) (pins : List (Addr × Obj)) (s : Shared), Inv X pins σ H s → wpAny (model X.prog X.w) X.A (spliced (backTo pos (starEach es X.env))) (AP X pins σ Q) X.xe s
def HS (X : Cx) (D : Ends) (st : List Stmt) (σ : L2.St) (H : Hp) : Prop := ∀ (pins : List (Addr × Obj)) (s : Shared), Inv X pins σ H s → wpAny (model X.prog X.w) X.A (execs st X.env) (SP X pins D) X.xe s
def HG (X : Cx) (tg : Expr) (v : V) (σ : L2.St) (H : Hp) (Q : L2.St → Hp → Prop) : Prop := ∀ (pins : List (Addr × Obj)) (s : Shared) (u : Value), Inv X pins σ H s → RelV v u →
    wpAny (model X.prog X.w) X.A (assign tg X.env u) (fun _ s' => ∃ σ' H', Inv X pins σ' H' s' ∧ Q σ' H') X.xe s
def HI (X : Cx) (tg iter : Expr) (σ : L2.St) (H : Hp) (R : It → Hp → Prop) : Prop := ∀ (pins : List (Addr × Obj)) (s : Shared), Inv X pins σ H s →
    wpAny (model X.prog X.w) X.A (eval iter X.env) (fun v s1 => wpAny (model X.prog X.w) X.A (pyIter v) (PIE X pins σ tg R) X.xe s1) X.xe s
def bE (X : Cx) (e : Expr) : TE := fun σ H Q => HE X e σ H Q
def bT (X : Cx) (e : Expr) : TT := fun σ H Q => HT X e σ H Q
def bW (X : Cx) (e : Expr) : TT := fun σ H Q => HW X e σ H Q
def bA (X : Cx) (es : List Expr) : TA := fun σ H Q => HA X es σ H Q
def bS (X : Cx) (st : List Stmt) : TS := fun D σ H => HS X D st σ H
def bG (X : Cx) (tg : Expr) : TG := fun v σ H Q => HG X tg v σ H Q
def bI (X : Cx) (tg iter : Expr) : TI := fun σ H R => HI X tg iter σ H R
section
variable {X : Cx} {e : Expr} {σ : L2.St} {H : Hp}
theorem peb : PE X e (bE X e) := ⟨fun pins s _ _ _ I h => h pins s I⟩
theorem ptb : PT X e (bT X e) := ⟨fun pins s _ _ _ I h => h pins s I⟩
theorem pwb : PW X e (bW X e) := ⟨fun whole pins s _ _ _ I h => h whole pins s I⟩
theorem pab {es : List Expr} : PA X es (bA X es) := ⟨fun pos pins s _ _ _ I h => h pos pins s I⟩
theorem psb {st : List Stmt} : PSs X st (bS X st) := ⟨fun pins s _ _ _ I h => h pins s I⟩
theorem pgb {tg : Expr} : PG X tg (bG X tg) := ⟨fun pins s _ _ _ u _ I r h => h pins s u I r⟩
theorem pib {tg iter : Expr} : PI X tg iter (bI X tg iter) := ⟨fun pins s _ _ _ I h => h pins s I⟩
theorem he_of {t : TE} {Q : VK} (h : PE X e t) (q : t σ H Q) : HE X e σ H Q := fun pins s I => h.run pins s σ H Q I q
theorem ht_of {t : TT} {Q : Bool → Hp → Prop} (h : PT X e t) (q : t σ H Q) : HT X e σ H Q := fun pins s I => h.run pins s σ H Q I q
theorem hw_of {t : TT} {Q : Bool → Hp → Prop} (h : PW X e t) (q : t σ H Q) : HW X e σ H Q := fun whole pins s I => h.run whole pins s σ H Q I q
theorem ha_of {es : List Expr} {t : TA} {Q : List V → Hp → Prop} (h : PA X es t) (q : t σ H Q) : HA X es σ H Q := fun pos pins s I => h.run pos pins s σ H Q I q
theorem hs_of {st : List Stmt} {t : TS} {D : Ends} (h : PSs X st t) (q : t D σ H) : HS X D st σ H := fun pins s I => h.run pins s σ H D I q
theorem hg_of {tg : Expr} {t : TG} {v : V} {Q : L2.St → Hp → Prop} (h : PG X tg t) (q : t v σ H Q) : HG X tg v σ H Q := fun pins s u I r => h.run pins s σ H v u Q I r q
theorem hi_of {tg iter : Expr} {t : TI} {R : It → Hp → Prop} (h : PI X tg iter t) (q : t σ H R) : HI X tg iter σ H R := fun pins s I => h.run pins s σ H R I q
end
/-! ## 2. what stays under growth -/
class Mn (P : V → Hp → Prop) : Prop where
  up : ∀ {v : V} {H H' : Hp}, Same H H' → P v H → P v H'
theorem Same.new {H : Hp} {p : Addr} {o : HO} (h : H p = none) : Same H (upd H p o) := fun a u e => by
  rw [upd_ne (ne_of_none e h)]
  exact e
/-- an object that H does not know may change -/
theorem Same.mut {H H' : Hp} {p : Addr} {o : HO} (e : Same H H') (h : H p = none) : Same H (upd H' p o) := fun a u ha => by
  rw [upd_ne (ne_of_none ha h)]
  exact e a u ha
theorem same_rd {H H' : Hp} {a : Addr} {u : HO} (e : Same H H') (h : Rd H a u) : Rd H' a u := by
  rcases h with h | ⟨o, h⟩
  · exact Or.inl (e a _ h)
  · exact Or.inr ⟨o, e a _ h⟩
theorem sql_up {K : PySem.W.Frag} {H H' : Hp} {a : Addr} {xs : List V} (e : Same H H') (h : SqL K H a xs) : SqL K H' a xs := by
  rcases h with h | h
  · exact Or.inl (same_rd e h)
  · exact Or.inr h
theorem sqt_up {K : PySem.W.Frag} {H H' : Hp} {a : Addr} {xs : List V} (e : Same H H') (h : SqT K H a xs) : SqT K H' a xs := by
  rcases h with h | h
  · exact Or.inl (same_rd e h)
  · exact Or.inr h
theorem sql_of {K : PySem.W.Frag} {H : Hp} {a : Addr} {xs : List V} (h : H a = some (.lst xs)) : SqL K H a xs := Or.inl (Or.inl h)
theorem sqt_of {K : PySem.W.Frag} {H : Hp} {a : Addr} {xs : List V} (h : H a = some (.tup xs)) : SqT K H a xs := Or.inl (Or.inl h)
/-! ## 3. data -/
/-- a tuple of the heap; the empty one may stand in K -/
def TuS (K : PySem.W.Frag) (H : Hp) (a : Addr) (xs : List V) : Prop := H a = some (.tup xs) ∨ (xs = [] ∧ SqT K H a xs)
theorem TuS.sq {K : PySem.W.Frag} {H : Hp} {a : Addr} {xs : List V} (h : TuS K H a xs) : SqT K H a xs := h.elim sqt_of fun z => z.2
theorem TuS.up {K : PySem.W.Frag} {H H' : Hp} {a : Addr} {xs : List V} (e : Same H H') (h : TuS K H a xs) : TuS K H' a xs := h.elim (fun z => .inl (e _ _ z)) fun z => .inr ⟨z.1, sqt_up e z.2⟩
theorem tus_of {K : PySem.W.Frag} {H : Hp} {a : Addr} {xs : List V} (h : H a = some (.tup xs)) : TuS K H a xs := .inl h
/-- a value that is data: None, bools, ints, texts, lists that are tracked, tuples -/
inductive Dt (K : PySem.W.Frag) : PyData → V → Hp → Prop
  | non {H : Hp} : Dt K .none .non H
  | bl {H : Hp} (b : Bool) : Dt K (.bool b) (.bl b) H
  | int {H : Hp} (i : Int) : Dt K (.int i) (.int i) H
  | str {H : Hp} (x : Str) : Dt K (.str x) (.str x) H
  | lst {H : Hp} {a : Addr} {xs : List V} {ds : List PyData} : H a = some (.lst xs) → xs.length = ds.length → xs.length ≤ sizeLine → (∀ (i : Nat) (x : V) (d : PyData), xs[i]? = some x → ds[i]? = some d → Dt K d x H) → Dt K (.list ds) (.ref a) H
  | tup {H : Hp} {a : Addr} {xs : List V} {ds : List PyData} : TuS K H a xs → xs.length = ds.length → xs.length ≤ sizeLine → (∀ (i : Nat) (x : V) (d : PyData), xs[i]? = some x → ds[i]? = some d → Dt K d x H) → Dt K (.tuple ds) (.ref a) H
theorem Dt.up {K : PySem.W.Frag} {d : PyData} {v : V} {H H' : Hp} (e : Same H H') (h : Dt K d v H) : Dt K d v H' := by
  induction h with
  | non => exact .non
  | bl b => exact .bl b
  | int i => exact .int i
  | str x => exact .str x
  | lst h l z _ ih => exact .lst (e _ _ h) l z fun i x d hx hd => ih i x d hx hd e
  | tup h l z _ ih => exact .tup (h.up e) l z fun i x d hx hd => ih i x d hx hd e
instance {K : PySem.W.Frag} {d : PyData} : Mn (Dt K d) := ⟨fun e h => h.up e⟩
/-- the values of a sequence's items -/
def Dts (K : PySem.W.Frag) (ds : List PyData) (xs : List V) (H : Hp) : Prop := xs.length = ds.length ∧ ∀ (i : Nat) (x : V) (d : PyData), xs[i]? = some x → ds[i]? = some d → Dt K d x H
theorem Dts.up {K : PySem.W.Frag} {ds : List PyData} {xs : List V} {H H' : Hp} (e : Same H H') (h : Dts K ds xs H) : Dts K ds xs H' := ⟨h.1, fun i x d hx hd => (h.2 i x d hx hd).up e⟩
theorem Dts.nil {K : PySem.W.Frag} {H : Hp} : Dts K [] [] H := ⟨rfl, fun i x d hx _ => by simp at hx⟩
theorem Dts.cons {K : PySem.W.Frag} {d : PyData} {ds : List PyData} {x : V} {xs : List V} {H : Hp} (h : Dt K d x H) (r : Dts K ds xs H) : Dts K (d :: ds) (x :: xs) H := by
  refine ⟨by simp [r.1], fun i y e hy he => ?_⟩
  cases i with
  | zero => simp at hy he; subst hy; subst he; exact h
  | succ i => exact r.2 i y e (by simpa using hy) (by simpa using he)
theorem Dts.get {K : PySem.W.Frag} {ds : List PyData} {xs : List V} {H : Hp} (h : Dts K ds xs H) {i : Nat} {d : PyData} (e : ds[i]? = some d) : ∃ x, xs[i]? = some x ∧ Dt K d x H := by
  have hi : i < xs.length := by rw [h.1]; exact (List.getElem?_eq_some_iff.mp e).1
  exact ⟨xs[i], List.getElem?_eq_getElem hi, h.2 i _ d (List.getElem?_eq_getElem hi) e⟩
theorem Dts.append {K : PySem.W.Frag} {ds es : List PyData} {xs ys : List V} {H : Hp} (h : Dts K ds xs H) (g : Dts K es ys H) : Dts K (ds ++ es) (xs ++ ys) H := by
  refine ⟨by simp [h.1, g.1], fun i y e hy he => ?_⟩
  by_cases hi : i < xs.length
  · rw [List.getElem?_append_left hi] at hy
    rw [List.getElem?_append_left (by rw [← h.1]; exact hi)] at he
    exact h.2 i y e hy he
  · rw [List.getElem?_append_right (by omega)] at hy
    rw [List.getElem?_append_right (by rw [← h.1]; omega), ← h.1] at he
    exact g.2 _ y e hy he
theorem Dts.snoc {K : PySem.W.Frag} {ds : List PyData} {xs : List V} {H : Hp} {d : PyData} {x : V} (h : Dts K ds xs H) (g : Dt K d x H) : Dts K (ds ++ [d]) (xs ++ [x]) H := h.append (Dts.cons g .nil)
theorem Dts.dp {K : PySem.W.Frag} {H : Hp} : ∀ {ds : List PyData} {xs : List V}, xs.length = ds.length → (∀ (i : Nat) (x : V) (d : PyData), xs[i]? = some x → ds[i]? = some d → Dp K H x d) → DpAll K H xs ds
  | [], [], _, _ => .nil
  | [], _ :: _, h, _ => by simp at h
  | _ :: _, [], h, _ => by simp at h
  | d :: ds, x :: xs, h, f => .cons (f 0 x d rfl rfl) (Dts.dp (by simpa using h) fun i y e hy he => f (i + 1) y e (by simpa using hy) (by simpa using he))
theorem Dt.dp {K : PySem.W.Frag} {d : PyData} {v : V} {H : Hp} (h : Dt K d v H) : Dp K H v d := by
  induction h with
  | non => exact .non
  | bl b => exact .bl b
  | int i => exact .int i
  | str x => exact .str x
  | lst h l z _ ih => exact .lst (sql_of h) (Dts.dp l fun i x d hx hd => ih i x d hx hd)
  | tup h l z _ ih => exact .tup h.sq (Dts.dp l fun i x d hx hd => ih i x d hx hd)
theorem Dt.int_inv {K : PySem.W.Frag} {i : Int} {v : V} {H : Hp} (h : Dt K (.int i) v H) : v = .int i := by cases h; rfl
theorem Dt.bl_inv {K : PySem.W.Frag} {b : Bool} {v : V} {H : Hp} (h : Dt K (.bool b) v H) : v = .bl b := by cases h; rfl
theorem Dt.str_inv {K : PySem.W.Frag} {x : Str} {v : V} {H : Hp} (h : Dt K (.str x) v H) : v = .str x := by cases h; rfl
theorem Dt.lst_inv {K : PySem.W.Frag} {ds : List PyData} {v : V} {H : Hp} (h : Dt K (.list ds) v H) : ∃ a xs, v = .ref a ∧ H a = some (.lst xs) ∧ Dts K ds xs H ∧ xs.length ≤ sizeLine := by
  cases h with
  | lst h l z f => exact ⟨_, _, rfl, h, ⟨l, f⟩, z⟩
theorem Dt.tup_inv {K : PySem.W.Frag} {ds : List PyData} {v : V} {H : Hp} (h : Dt K (.tuple ds) v H) : ∃ a xs, v = .ref a ∧ SqT K H a xs ∧ Dts K ds xs H ∧ xs.length ≤ sizeLine := by
  cases h with
  | tup h l z f => exact ⟨_, _, rfl, h.sq, ⟨l, f⟩, z⟩
theorem Dt.lst_mk {K : PySem.W.Frag} {ds : List PyData} {a : Addr} {xs : List V} {H : Hp} (h : H a = some (.lst xs)) (g : Dts K ds xs H) (z : xs.length ≤ sizeLine) : Dt K (.list ds) (.ref a) H := .lst h g.1 z g.2
theorem Dt.tup_mk {K : PySem.W.Frag} {ds : List PyData} {a : Addr} {xs : List V} {H : Hp} (h : TuS K H a xs) (g : Dts K ds xs H) (z : xs.length ≤ sizeLine) : Dt K (.tuple ds) (.ref a) H := .tup h g.1 z g.2
/-! ## 4. growth: S what is known to stay, H the whole -/
def NT (o : HO) : Prop := ∀ xs, o ≠ .tup xs
structure Gr (S H S' H' : Hp) : Prop where
  st : Same S S'
  sub : Same S' H'
  hh : Same H H'
  old : ∀ a o, H a = some o → NT o → S' a = S a
theorem Gr.refl {S H : Hp} (s : Same S H) : Gr S H S H := ⟨Same.refl S, s, Same.refl H, fun _ _ _ _ => rfl⟩
theorem Gr.trans {S H S1 H1 S2 H2 : Hp} (a : Gr S H S1 H1) (b : Gr S1 H1 S2 H2) : Gr S H S2 H2 :=
  ⟨a.st.trans b.st, b.sub, a.hh.trans b.hh, fun x o h n => (b.old x o (a.hh x o h) n).trans (a.old x o h n)⟩
theorem Gr.new {S H : Hp} {p : Addr} {o : HO} (s : Same S H) (h : H p = none) : Gr S H (upd S p o) (upd H p o) := by
  refine ⟨Same.new (s.free h), fun a u e => ?_, Same.new h, fun a u e _ => upd_ne (ne_of_none e h)⟩
  by_cases ha : a = p
  · subst ha; rw [upd_same] at e ⊢; exact e
  · rw [upd_ne ha] at e ⊢; exact s a u e
/-- S grown by T -/
def uniS (S T : Hp) : Hp := fun a => match S a with
  | some o => some o
  | none => T a
theorem uni_l {S T : Hp} : Same S (uniS S T) := fun a o h => by unfold uniS; rw [h]
/-- from a smaller S to a greater one -/
theorem Gr.uni {S T H S' H' : Hp} (st : Same S T) (th : Same T H) (g : Gr S H S' H') : Gr T H (uniS S' T) H' := by
  have key : ∀ a o, H a = some o → NT o → uniS S' T a = T a := fun a o h n => by
    have e := g.old a o h n
    unfold uniS
    rw [e]
    cases q : S a with
    | none => rfl
    | some u => rw [st a u q]
  have key2 : ∀ a o, T a = some o → uniS S' T a = some o := fun a o h => by
    unfold uniS
    cases q : S' a with
    | none => exact h
    | some u =>
      have e1 := g.sub a u q
      rw [g.hh a o (th a o h)] at e1
      exact e1.symm
  refine ⟨key2, fun a o h => ?_, g.hh, key⟩
  unfold uniS at h
  cases q : S' a with
  | some u => rw [q] at h; cases h; exact g.sub a _ q
  | none => rw [q] at h; exact g.hh a o (th a o h)
/-! ## 5. pure evaluation: e gives a P, and all that stood stands -/
def EE (X : Cx) (σ : L2.St) (S : Hp) (e : Expr) (P : V → Hp → Prop) : Prop := ∀ H, Same S H → ∀ Q : VK, (∀ v S' H', Gr S H S' H' → P v S' → Q v H') → HE X e σ H Q
def ET (X : Cx) (σ : L2.St) (S : Hp) (e : Expr) (b : Bool) : Prop := ∀ H, Same S H → ∀ Q : Bool → Hp → Prop, (∀ S' H', Gr S H S' H' → Q b H') → HT X e σ H Q
def EW (X : Cx) (σ : L2.St) (S : Hp) (e : Expr) (b : Bool) : Prop := ∀ H, Same S H → ∀ Q : Bool → Hp → Prop, (∀ S' H', Gr S H S' H' → Q b H') → HW X e σ H Q
/-- the values vs have the Ps, one by one -/
inductive Al : List (V → Hp → Prop) → List V → Hp → Prop
  | nil {H : Hp} : Al [] [] H
  | cons {P : V → Hp → Prop} {Ps : List (V → Hp → Prop)} {v : V} {vs : List V} {H : Hp} : P v H → Al Ps vs H → Al (P :: Ps) (v :: vs) H
inductive Mns : List (V → Hp → Prop) → Prop
  | nil : Mns []
  | cons {P : V → Hp → Prop} {Ps : List (V → Hp → Prop)} : Mn P → Mns Ps → Mns (P :: Ps)
theorem Al.up {Ps : List (V → Hp → Prop)} {vs : List V} {H H' : Hp} (m : Mns Ps) (s : Same H H') (h : Al Ps vs H) : Al Ps vs H' := by
  induction h with
  | nil => exact .nil
  | cons p _ ih => cases m with
    | cons m1 m2 => exact .cons (m1.up s p) (ih m2 s)
def EA (X : Cx) (σ : L2.St) (S : Hp) (es : List Expr) (Ps : List (V → Hp → Prop)) : Prop := Mns Ps ∧ ∀ H, Same S H → ∀ Q : List V → Hp → Prop, (∀ vs S' H', Gr S H S' H' → Al Ps vs S' → Q vs H') → HA X es σ H Q
section
variable {X : Cx} {σ : L2.St} {S S' : Hp} {e a b c : Expr} {P P' : V → Hp → Prop} {pos : Pos}
theorem EE.up [Mn P] (s : Same S S') (h : EE X σ S e P) : EE X σ S' e P := fun H a Q q => h H (s.trans a) Q fun v S2 H2 g p => q v (uniS S2 S') H2 (g.uni s a) (Mn.up uni_l p)
theorem ET.up {k : Bool} (s : Same S S') (h : ET X σ S e k) : ET X σ S' e k := fun H a Q q => h H (s.trans a) Q fun S2 H2 g => q (uniS S2 S') H2 (g.uni s a)
theorem EW.up {k : Bool} (s : Same S S') (h : EW X σ S e k) : EW X σ S' e k := fun H a Q q => h H (s.trans a) Q fun S2 H2 g => q (uniS S2 S') H2 (g.uni s a)
theorem EA.up {es : List Expr} {Ps : List (V → Hp → Prop)} (s : Same S S') (h : EA X σ S es Ps) : EA X σ S' es Ps := ⟨h.1, fun H a Q q => h.2 H (s.trans a) Q fun v S2 H2 g p => q v (uniS S2 S') H2 (g.uni s a) (p.up h.1 uni_l)⟩
theorem EE.imp (h : EE X σ S e P) (f : ∀ v H', P v H' → P' v H') : EE X σ S e P' := fun H1 s Q q => h H1 s Q fun v S2 H2 s2 p => q v S2 H2 s2 (f v S2 p)
theorem EE.is (h : EE X σ S e P) (f : P = P') : EE X σ S e P' := f ▸ h
theorem ET.is {k k' : Bool} (h : ET X σ S e k) (f : k = k') : ET X σ S e k' := f ▸ h
theorem ea_nil : EA X σ S [] [] := ⟨.nil, fun H1 s Q q => ha_of pa_nil (q [] S H1 (Gr.refl s) .nil)⟩
theorem ea_cons [m : Mn P] {es : List Expr} {Ps : List (V → Hp → Prop)} (h : EE X σ S e P) (r : EA X σ S es Ps) (hs : starEach (e :: es) X.env = (false, eval e X.env) :: starEach es X.env := by rfl) : EA X σ S (e :: es) (P :: Ps) := ⟨.cons m r.1, fun H1 s Q q => by
  refine ha_of (pa_cons (te := bE X e) (t := bA X es) peb pab hs) ?_
  refine h H1 s _ fun v S2 H2 g2 p => ?_
  exact (r.up g2.st).2 H2 g2.sub _ fun vs S3 H3 g3 al => q (v :: vs) S3 H3 (g2.trans g3) (.cons (Mn.up g3.st p) al)⟩
end
end Z
namespace Z
open PySem PySem.Spec PyProof.Rows L2
/-! ## 6. expressions -/
section
variable {X : Cx} {σ : L2.St} {S S' : Hp} {e a b c : Expr} {P Pa Pb R : V → Hp → Prop} {pos p : Pos} {i j : Int} {d d1 d2 : PyData} {k k1 k2 : Bool}
theorem EE.isd {d' : PyData} (h : EE X σ S e (Dt X.K d)) (f : d = d') : EE X σ S e (Dt X.K d') := f ▸ h
theorem ee_var (i : Nat) {x : Str} {v : V} (hv : σ[i]? = some (some v)) (h : P v S) (hN : X.N[i]? = some x := by rfl) (hvis : Vis X.env.scope x := by first | exact Or.inl rfl | exact Or.inr (Or.inl rfl) | exact Or.inr (Or.inr rfl)) (hd : (x == ("__debug__" : Str)) = false := by decide)
    (hcd : (x == ("__classdict__" : Str)) = false := by decide) : EE X σ S (.Name x pos) P := fun H s Q q => he_of (pv i hN hvis hd hcd) ⟨v, hv, q v S H (Gr.refl s) h⟩
theorem ee_cst {v : V} (he : PE X e (tC v)) (h : P v S) : EE X σ S e P := fun H s Q q => he_of he (q v S H (Gr.refl s) h)
theorem ee_int {n} : EE X σ S (.Constant (.int i) n pos) (Dt X.K (.int i)) := ee_cst pe_int (.int i)
theorem ee_bl {n} : EE X σ S (.Constant (.bool k) n pos) (Dt X.K (.bool k)) := ee_cst pe_bl (.bl k)
theorem ee_non {n} : EE X σ S (.Constant .none n pos) (Dt X.K .none) := ee_cst pe_non .non
theorem ee_str {x n} : EE X σ S (.Constant (.str x) n pos) (Dt X.K (.str x)) := ee_cst pe_str (.str x)
theorem ee_glob {x : Str} {v : V} {u : Value} (hm : X.mg x = some u) (r : RelV v u) (h : P v S) (hg : Gl X x := by rfl) (hd : (x == ("__debug__" : Str)) = false := by decide) : EE X σ S (.Name x pos) P := ee_cst (pe_glob hg hm r hd) h
theorem ee_bltn {x : Str} {v : V} {u : Value} (hm : X.mg x = none) (hv : bootBuiltins x = some u) (r : RelV v u) (h : P v S) (hg : Gl X x := by rfl) (hn : x ≠ "__name__" := by decide) (hd : (x == ("__debug__" : Str)) = false := by decide) : EE X σ S (.Name x pos) P := ee_cst (pe_bltn hg hm hv r hn hd) h
/-- what a two-place operation gives -/
def OpE (r : R2) (S : Hp) (Pa Pb R : V → Hp → Prop) : Prop := ∀ x y S1 H1, Same S S1 → Same S1 H1 → Pa x S1 → Pb y S1 → ∀ Q : VK, (∀ v S2 H2, Gr S1 H1 S2 H2 → R v S2 → Q v H2) → r x y H1 Q
theorem ee_2 {t : R2} [Mn Pa] [Mn Pb] (hp : PE X e (tOp t (bE X a) (bE X b))) (ha : EE X σ S a Pa) (hb : EE X σ S b Pb) (hr : OpE t S Pa Pb R) : EE X σ S e R := fun H s Q q =>
  he_of hp (ha H s _ fun x S1 H1 g1 px => (hb.up g1.st) H1 g1.sub _ fun y S2 H2 g2 py => hr x y S2 H2 (g1.st.trans g2.st) g2.sub (Mn.up g2.st px) py Q fun v S3 H3 g3 rv => q v S3 H3 ((g1.trans g2).trans g3) rv)
theorem ee_op {op : Operator} {t : R2} [Mn Pa] [Mn Pb] (ho : OpR X (binaryOp op) t) (ha : EE X σ S a Pa) (hb : EE X σ S b Pb) (hr : OpE t S Pa Pb R) : EE X σ S (.BinOp a op b pos) R := ee_2 (pe_op ho peb peb) ha hb hr
theorem ee_cmp {op : CmpOp} {t : R2} [Mn Pa] [Mn Pb] (ho : OpR X (compareOp op) t) (ha : EE X σ S a Pa) (hb : EE X σ S b Pb) (hr : OpE t S Pa Pb R) (hm : behindInMarks op b = false) : EE X σ S (.Compare a [op] [b] pos) R := ee_2 (pe_cmpR ho peb peb hm) ha hb hr
theorem opE_I0 {K : PySem.W.Frag} {g : Int → Int → V} {d : PyData} (h : ∀ S, Dt K d (g i j) S) : OpE (rI0 g) S (Dt K (.int i)) (Dt K (.int j)) (Dt K d) := fun x y S1 H1 _ s px py Q q => by
  cases px; cases py
  exact ⟨i, j, rfl, rfl, q _ S1 H1 (Gr.refl s) (h S1)⟩
theorem opE_I {K : PySem.W.Frag} {C : Int → Int → Prop} {g : Int → Int → V} {d : PyData} (hc : C i j) (h : ∀ S, Dt K d (g i j) S) : OpE (rI C g) S (Dt K (.int i)) (Dt K (.int j)) (Dt K d) := fun x y S1 H1 _ s px py Q q => by
  cases px; cases py
  exact ⟨i, j, rfl, rfl, hc, q _ S1 H1 (Gr.refl s) (h S1)⟩
theorem ee_add (ha : EE X σ S a (Dt X.K (.int i))) (hb : EE X σ S b (Dt X.K (.int j))) : EE X σ S (.BinOp a .Add b pos) (Dt X.K (.int (i + j))) := ee_op op_add ha hb (opE_I0 fun _ => .int _)
theorem ee_fdiv (hc : CDivW i j) (ha : EE X σ S a (Dt X.K (.int i))) (hb : EE X σ S b (Dt X.K (.int j))) : EE X σ S (.BinOp a .FloorDiv b pos) (Dt X.K (.int (i / j))) := ee_op op_fdivW ha hb (opE_I hc fun _ => .int _)
theorem ee_mod (hc : 0 < j) (ha : EE X σ S a (Dt X.K (.int i))) (hb : EE X σ S b (Dt X.K (.int j))) : EE X σ S (.BinOp a .Mod b pos) (Dt X.K (.int (i % j))) := ee_op op_mod ha hb (opE_I hc fun _ => .int _)
theorem ee_pow (hc : CPow i j) (ha : EE X σ S a (Dt X.K (.int i))) (hb : EE X σ S b (Dt X.K (.int j))) : EE X σ S (.BinOp a .Pow b pos) (Dt X.K (.int (i ^ j.toNat))) := ee_op op_pow ha hb (opE_I hc fun _ => .int _)
/-- == and != of data -/
theorem ee_eq {u : Nat} (hr : Room u X.A) (h1 : SeqAt.shaped d1 = true) (h2 : SeqAt.shaped d2 = true) (ha : EE X σ S a (Dt X.K d1)) (hb : EE X σ S b (Dt X.K d2)) : EE X σ S (.Compare a [.Eq] [b] pos) (Dt X.K (.bool (PyData.eqv d1 d2))) :=
  ee_cmp (op_eqD hr.units) ha hb (fun x y S1 H1 _ s px py Q q => ⟨d1, d2, (px.up s).dp, (py.up s).dp, h1, h2, q _ S1 H1 (Gr.refl s) (.bl _)⟩) (nomark _)
/-- == of two ints, of two texts -/
theorem ee_eqI (ha : EE X σ S a (Dt X.K (.int i))) (hb : EE X σ S b (Dt X.K (.int j))) : EE X σ S (.Compare a [.Eq] [b] pos) (Dt X.K (.bool (decide (i = j)))) :=
  ee_cmp op_eq ha hb (fun x y S1 H1 _ s px py Q q => by
    cases px; cases py
    refine ⟨rfl, ?_⟩
    have e : decide (V.int i = V.int j) = decide (i = j) := by simp
    rw [e]
    exact q _ S1 H1 (Gr.refl s) (.bl _)) (nomark _)
theorem ee_eqS {x y : Str} (ha : EE X σ S a (Dt X.K (.str x))) (hb : EE X σ S b (Dt X.K (.str y))) : EE X σ S (.Compare a [.Eq] [b] pos) (Dt X.K (.bool (decide (x = y)))) :=
  ee_cmp op_eq ha hb (fun v w S1 H1 _ s px py Q q => by
    cases px; cases py
    refine ⟨rfl, ?_⟩
    have e : decide (V.str x = V.str y) = decide (x = y) := by simp
    rw [e]
    exact q _ S1 H1 (Gr.refl s) (.bl _)) (nomark _)
/-- x is None -/
theorem ee_isN {v : V} (ha : EE X σ S a (fun w _ => w = v)) {n p2} : EE X σ S (.Compare a [.Is] [.Constant .none n p2] pos) (Dt X.K (.bool (decide (v = .non)))) := by
  haveI : Mn (fun (w : V) (_ : Hp) => w = v) := ⟨fun _ h => h⟩
  exact ee_cmp op_isN ha (ee_non (n := n) (pos := p2)) (fun x y S1 H1 _ s px py Q q => by
    cases py
    subst px
    exact ⟨rfl, q _ S1 H1 (Gr.refl s) (.bl _)⟩) (nomark _)
theorem ee_neg (ha : EE X σ S a (Dt X.K (.int i))) : EE X σ S (.UnaryOp .USub a pos) (Dt X.K (.int (-i))) := fun H s Q q =>
  he_of (pe_un un_neg peb) (ha H s _ fun x S1 H1 g1 px => by cases px; exact ⟨i, rfl, q _ S1 H1 g1 (.int _)⟩)
/-! ### and, or, not, if -/
theorem ee_not (ha : EE X σ S a (Dt X.K (.bool k))) : EE X σ S (.UnaryOp .Not a pos) (Dt X.K (.bool (!k))) := fun H s Q q =>
  he_of (pe_not peb) (ha H s _ fun x S1 H1 g1 px => by cases px; exact ⟨k, rfl, q _ S1 H1 g1 (.bl _)⟩)
theorem ee_one {op} (ha : EE X σ S a P) : EE X σ S (.BoolOp op [a] pos) P := fun H s Q q => he_of (pe_one peb) (ha H s Q q)
theorem ee_and {rest : List Expr} (ha : EE X σ S a (Dt X.K (.bool k1))) (hb : k1 = true → EE X σ S (.BoolOp .And (b :: rest) pos) (Dt X.K (.bool k2))) : EE X σ S (.BoolOp .And (a :: b :: rest) pos) (Dt X.K (.bool (k1 && k2))) := fun H s Q q =>
  he_of (pe_and peb peb) (ha H s _ fun x S1 H1 g1 px => by
    cases px
    refine ⟨k1, rfl, ?_⟩
    cases k1 with
    | false => exact iteF (q _ S1 H1 g1 (.bl _))
    | true => exact iteT (((hb rfl).up g1.st) H1 g1.sub _ fun y S2 H2 g2 py => q y S2 H2 (g1.trans g2) py))
theorem ee_or {rest : List Expr} (ha : EE X σ S a (Dt X.K (.bool k1))) (hb : k1 = false → EE X σ S (.BoolOp .Or (b :: rest) pos) (Dt X.K (.bool k2))) : EE X σ S (.BoolOp .Or (a :: b :: rest) pos) (Dt X.K (.bool (k1 || k2))) := fun H s Q q =>
  he_of (pe_or peb peb) (ha H s _ fun x S1 H1 g1 px => by
    cases px
    refine ⟨k1, rfl, ?_⟩
    cases k1 with
    | true => exact iteT (q _ S1 H1 g1 (.bl _))
    | false => exact iteF (((hb rfl).up g1.st) H1 g1.sub _ fun y S2 H2 g2 py => q y S2 H2 (g1.trans g2) py))
/-- tests -/
theorem et_val (ha : EE X σ S e (Dt X.K (.bool k))) (he : ∀ whole, isTrue e X.env whole = (do let v ← whole; standAt e.pos; holding [v] (truthy v)) := by intro _; rfl) : ET X σ S e k := fun H s Q q =>
  ht_of (pt_val peb he) (ha H s _ fun x S1 H1 g1 px => by cases px; exact ⟨k, rfl, q S1 H1 g1⟩)
theorem et_cmp {op : CmpOp} {t : R2} [Mn Pa] [Mn Pb] (ho : OpR X (compareOp op) t) (ha : EE X σ S a Pa) (hb : EE X σ S b Pb) (hr : OpE t S Pa Pb (Dt X.K (.bool k))) (hm : behindInMarks op b = false) : ET X σ S (.Compare a [op] [b] pos) k := fun H s Q q =>
  ht_of (pt_cmpR ho peb peb hm) (ha H s _ fun x S1 H1 g1 px => (hb.up g1.st) H1 g1.sub _ fun y S2 H2 g2 py => hr x y S2 H2 (g1.st.trans g2.st) g2.sub (Mn.up g2.st px) py _ fun v S3 H3 g3 rv => by
    cases rv; exact ⟨k, rfl, q S3 H3 ((g1.trans g2).trans g3)⟩)
theorem et_lt (ha : EE X σ S a (Dt X.K (.int i))) (hb : EE X σ S b (Dt X.K (.int j))) : ET X σ S (.Compare a [.Lt] [b] pos) (decide (i < j)) := et_cmp op_lt ha hb (opE_I0 fun _ => .bl _) (nomark _)
theorem et_gt (ha : EE X σ S a (Dt X.K (.int i))) (hb : EE X σ S b (Dt X.K (.int j))) : ET X σ S (.Compare a [.Gt] [b] pos) (decide (j < i)) := et_cmp op_gt ha hb (opE_I0 fun _ => .bl _) (nomark _)
theorem et_ge (ha : EE X σ S a (Dt X.K (.int i))) (hb : EE X σ S b (Dt X.K (.int j))) : ET X σ S (.Compare a [.GtE] [b] pos) (decide (j ≤ i)) := et_cmp op_ge ha hb (opE_I0 fun _ => .bl _) (nomark _)
theorem et_eqI (ha : EE X σ S a (Dt X.K (.int i))) (hb : EE X σ S b (Dt X.K (.int j))) : ET X σ S (.Compare a [.Eq] [b] pos) (decide (i = j)) :=
  et_cmp op_eq ha hb (fun x y S1 H1 _ s px py Q q => by
    cases px; cases py
    refine ⟨rfl, ?_⟩
    have e : decide (V.int i = V.int j) = decide (i = j) := by simp
    rw [e]
    exact q _ S1 H1 (Gr.refl s) (.bl _)) (nomark _)
theorem et_neI (ha : EE X σ S a (Dt X.K (.int i))) (hb : EE X σ S b (Dt X.K (.int j))) : ET X σ S (.Compare a [.NotEq] [b] pos) (!decide (i = j)) :=
  et_cmp op_ne ha hb (fun x y S1 H1 _ s px py Q q => by
    cases px; cases py
    refine ⟨rfl, ?_⟩
    have e : decide (V.int i = V.int j) = decide (i = j) := by simp
    rw [e]
    exact q _ S1 H1 (Gr.refl s) (.bl _)) (nomark _)
theorem et_eqS {x y : Str} (ha : EE X σ S a (Dt X.K (.str x))) (hb : EE X σ S b (Dt X.K (.str y))) : ET X σ S (.Compare a [.Eq] [b] pos) (decide (x = y)) :=
  et_cmp op_eq ha hb (fun v w S1 H1 _ s px py Q q => by
    cases px; cases py
    refine ⟨rfl, ?_⟩
    have e : decide (V.str x = V.str y) = decide (x = y) := by simp
    rw [e]
    exact q _ S1 H1 (Gr.refl s) (.bl _)) (nomark _)
theorem et_ne {u : Nat} (hr : Room u X.A) (h1 : SeqAt.shaped d1 = true) (h2 : SeqAt.shaped d2 = true) (ha : EE X σ S a (Dt X.K d1)) (hb : EE X σ S b (Dt X.K d2)) : ET X σ S (.Compare a [.NotEq] [b] pos) (!PyData.eqv d1 d2) :=
  et_cmp (op_neD hr.units) ha hb (fun x y S1 H1 _ s px py Q q => ⟨d1, d2, (px.up s).dp, (py.up s).dp, h1, h2, q _ S1 H1 (Gr.refl s) (.bl _)⟩) (nomark _)
theorem et_not (ha : ET X σ S a k) : ET X σ S (.UnaryOp .Not a pos) (!k) := fun H s Q q => ht_of (pt_not ptb) (ha H s _ fun S1 H1 g1 => q S1 H1 g1)
theorem et_w (ha : EW X σ S a k) : ET X σ S a k := fun H s Q q => ht_of (PW.pt pwb) (ha H s Q q)
theorem ew_and1 (ha : ET X σ S a k) : EW X σ S (.BoolOp .And [a] pos) k := fun H s Q q => hw_of (pw_and1 ptb) (ha H s Q q)
theorem ew_or1 (ha : ET X σ S a k) : EW X σ S (.BoolOp .Or [a] pos) k := fun H s Q q => hw_of (pw_or1 ptb) (ha H s Q q)
theorem ew_and {rest : List Expr} (ha : ET X σ S a k1) (hb : k1 = true → EW X σ S (.BoolOp .And (b :: rest) pos) k2) : EW X σ S (.BoolOp .And (a :: b :: rest) pos) (k1 && k2) := fun H s Q q =>
  hw_of (pw_and ptb pwb) (ha H s _ fun S1 H1 g1 => by
    cases k1 with
    | false => exact iteF (q S1 H1 g1)
    | true => exact iteT (((hb rfl).up g1.st) H1 g1.sub _ fun S2 H2 g2 => q S2 H2 (g1.trans g2)))
theorem ew_or {rest : List Expr} (ha : ET X σ S a k1) (hb : k1 = false → EW X σ S (.BoolOp .Or (b :: rest) pos) k2) : EW X σ S (.BoolOp .Or (a :: b :: rest) pos) (k1 || k2) := fun H s Q q =>
  hw_of (pw_or ptb pwb) (ha H s _ fun S1 H1 g1 => by
    cases k1 with
    | true => exact iteT (q S1 H1 g1)
    | false => exact iteF (((hb rfl).up g1.st) H1 g1.sub _ fun S2 H2 g2 => q S2 H2 (g1.trans g2)))
theorem ee_if {Q' : V → Hp → Prop} [Mn Q'] (hc : ET X σ S c k) (ha : k = true → EE X σ S a Q') (hb : k = false → EE X σ S b Q') : EE X σ S (.IfExp c a b pos) Q' := fun H s Q q =>
  he_of (pe_ifExp ptb peb peb) (hc H s _ fun S1 H1 g1 => by
    cases k with
    | false => exact iteF (((hb rfl).up g1.st) H1 g1.sub _ fun y S2 H2 g2 py => q y S2 H2 (g1.trans g2) py)
    | true => exact iteT (((ha rfl).up g1.st) H1 g1.sub _ fun y S2 H2 g2 py => q y S2 H2 (g1.trans g2) py))
/-- truth of a value -/
def truD : PyData → Bool
  | .none => false
  | .bool b => b
  | .int i => i != 0
  | .str x => (x.length : Int) != 0
  | .list xs => !xs.isEmpty
  | .tuple xs => !xs.isEmpty
  | .dict kvs => !kvs.isEmpty
theorem isEmpty_len {α β : Type} {xs : List α} {ys : List β} (h : xs.length = ys.length) : xs.isEmpty = ys.isEmpty := by
  cases xs <;> cases ys <;> simp_all
theorem truV_of {K : PySem.W.Frag} {v : V} {H : Hp} (h : Dt K d v H) (hs : ∀ x, d = .str x → x.length ≤ sizeLine) : TruV K v H (truD d) := by
  cases h with
  | non => rfl
  | bl b => rfl
  | int i => rfl
  | str x => exact ⟨hs x rfl, rfl⟩
  | lst h l z f => exact .inl ⟨_, sql_of h, by show (!_) = _; rw [isEmpty_len l]⟩
  | tup h l z f => exact .inr (.inl ⟨_, h.sq, by show (!_) = _; rw [isEmpty_len l]⟩)
theorem et_tru (ha : EE X σ S a (Dt X.K d)) (hs : ∀ x, d = .str x → x.length ≤ sizeLine) (he : ∀ whole, isTrue a X.env whole = (do let v ← whole; standAt a.pos; holding [v] (truthy v)) := by intro _; rfl) : ET X σ S a (truD d) := fun H s Q q =>
  ht_of (pt_truth peb he) (ha H s _ fun x S1 H1 g1 px => ⟨_, truV_of (px.up g1.sub) hs, q S1 H1 g1⟩)
/-! ### displays -/
theorem ee_tupA {es : List Expr} {x1} {vsP : List V → Hp → Prop} (h : ∀ H, Same S H → ∀ Q : List V → Hp → Prop, (∀ vs S' H', Gr S H S' H' → vsP vs S' → Q vs H') → HA X es σ H Q) (hz : ∀ vs S', vsP vs S' → vs.length ≤ sizeLine)
    (hR : ∀ vs S' p, Same S S' → S' p = none → vsP vs S' → R (.ref p) (upd S' p (.tup vs))) : EE X σ S (.Tuple es x1 pos) R := fun H s Q q =>
  he_of (pe_tup pab) (h H s _ fun vs S1 H1 g1 al => ⟨hz vs S1 al, fun p hp => q _ _ _ (g1.trans (Gr.new g1.sub hp)) (hR vs S1 p g1.st (g1.sub.free hp) al)⟩)
theorem ee_lstA {es : List Expr} {vsP : List V → Hp → Prop} (h : ∀ H, Same S H → ∀ Q : List V → Hp → Prop, (∀ vs S' H', Gr S H S' H' → vsP vs S' → Q vs H') → HA X es σ H Q) (hz : ∀ vs S', vsP vs S' → vs.length ≤ sizeLine)
    (hR : ∀ vs S' p, Same S S' → S' p = none → vsP vs S' → R (.ref p) (upd S' p (.lst vs))) : EE X σ S (.List es pos) R := fun H s Q q =>
  he_of (pe_lst pab) (h H s _ fun vs S1 H1 g1 al => ⟨hz vs S1 al, fun p hp => q _ _ _ (g1.trans (Gr.new g1.sub hp)) (hR vs S1 p g1.st (g1.sub.free hp) al)⟩)
def Ds (K : PySem.W.Frag) (ds : List PyData) : List (V → Hp → Prop) := ds.map (Dt K)
theorem al_dts {K : PySem.W.Frag} : ∀ {ds : List PyData} {vs : List V} {H : Hp}, Al (Ds K ds) vs H → Dts K ds vs H
  | [], _, _, h => by cases h; exact .nil
  | d :: ds, _, _, h => by cases h with
    | cons p r => exact .cons p (al_dts r)
theorem dts_al {K : PySem.W.Frag} : ∀ {ds : List PyData} {vs : List V} {H : Hp}, Dts K ds vs H → Al (Ds K ds) vs H
  | [], [], _, h => .nil
  | [], _ :: _, _, h => by have := h.1; simp at this
  | _ :: _, [], _, h => by have := h.1; simp at this
  | d :: ds, v :: vs, _, h => .cons (h.2 0 v d rfl rfl) (dts_al ⟨by have := h.1; simpa using this, fun i x d hx hd => h.2 (i + 1) x d (by simpa using hx) (by simpa using hd)⟩)
theorem ee_tup {es : List Expr} {x1} {ds : List PyData} (h : EA X σ S es (Ds X.K ds)) (hz : ds.length ≤ sizeLine := by show _ ≤ 16777216; exact Nat.le_of_ble_eq_true rfl) : EE X σ S (.Tuple es x1 pos) (Dt X.K (.tuple ds)) :=
  ee_tupA (vsP := Al (Ds X.K ds)) h.2 (fun vs S' al => by rw [(al_dts al).1]; exact hz) fun vs S' p _ hp al => Dt.tup_mk (tus_of upd_same) ((al_dts al).up (Same.new hp)) (by rw [(al_dts al).1]; exact hz)
theorem ee_lst {es : List Expr} {ds : List PyData} (h : EA X σ S es (Ds X.K ds)) (hz : ds.length ≤ sizeLine := by show _ ≤ 16777216; exact Nat.le_of_ble_eq_true rfl) : EE X σ S (.List es pos) (Dt X.K (.list ds)) :=
  ee_lstA (vsP := Al (Ds X.K ds)) h.2 (fun vs S' al => by rw [(al_dts al).1]; exact hz) fun vs S' p _ hp al => Dt.lst_mk upd_same ((al_dts al).up (Same.new hp)) (by rw [(al_dts al).1]; exact hz)
end
end Z
namespace Z
open PySem PySem.Spec PyProof.Rows L2
/-! ## 7. calls of built-ins, sequences -/
theorem dts_int {K : PySem.W.Frag} : ∀ {ns : List Int} {xs : List V} {H : Hp}, Dts K (ns.map PyData.int) xs H → xs = ns.map V.int
  | [], [], _, _ => rfl
  | [], _ :: _, _, h => by have := h.1; simp at this
  | _ :: _, [], _, h => by have := h.1; simp at this
  | n :: ns, x :: xs, _, h => by
    have e1 := (h.2 0 x (.int n) rfl rfl).int_inv
    have e2 := dts_int (ns := ns) (xs := xs) ⟨by have := h.1; simpa using this, fun i y d hy hd => h.2 (i + 1) y d (by simpa using hy) (by simpa using hd)⟩
    rw [e1, e2]; rfl
theorem dts_bl {K : PySem.W.Frag} : ∀ {ns : List Bool} {xs : List V} {H : Hp}, Dts K (ns.map PyData.bool) xs H → xs = ns.map V.bl
  | [], [], _, _ => rfl
  | [], _ :: _, _, h => by have := h.1; simp at this
  | _ :: _, [], _, h => by have := h.1; simp at this
  | n :: ns, x :: xs, _, h => by
    have e1 := (h.2 0 x (.bool n) rfl rfl).bl_inv
    have e2 := dts_bl (ns := ns) (xs := xs) ⟨by have := h.1; simpa using this, fun i y d hy hd => h.2 (i + 1) y d (by simpa using hy) (by simpa using hd)⟩
    rw [e1, e2]; rfl
theorem dts_str {K : PySem.W.Frag} : ∀ {ns : List Str} {xs : List V} {H : Hp}, Dts K (ns.map PyData.str) xs H → xs = ns.map V.str
  | [], [], _, _ => rfl
  | [], _ :: _, _, h => by have := h.1; simp at this
  | _ :: _, [], _, h => by have := h.1; simp at this
  | n :: ns, x :: xs, _, h => by
    have e1 := (h.2 0 x (.str n) rfl rfl).str_inv
    have e2 := dts_str (ns := ns) (xs := xs) ⟨by have := h.1; simpa using this, fun i y d hy hd => h.2 (i + 1) y d (by simpa using hy) (by simpa using hd)⟩
    rw [e1, e2]; rfl
theorem int_dts {K : PySem.W.Frag} (ns : List Int) (H : Hp) : Dts K (ns.map PyData.int) (ns.map V.int) H := by
  refine ⟨by simp, fun i x d hx hd => ?_⟩
  rw [List.getElem?_map] at hx hd
  cases e : ns[i]? with
  | none => rw [e] at hx; cases hx
  | some n => rw [e] at hx hd; cases hx; cases hd; exact .int n
def tyN : PyData → String
  | .none => "NoneType"
  | .bool _ => "bool"
  | .int _ => "int"
  | .str _ => "str"
  | .list _ => "list"
  | .tuple _ => "tuple"
  | .dict _ => "dict"
theorem tyX_of {K : PySem.W.Frag} {d : PyData} {v : V} {S H : Hp} (h : Dt K d v S) (s : Same S H) : TyX K H v (.type (tyN d)) := by
  cases h with
  | non => exact .base .non
  | bl b => exact .base (.bl b)
  | int i => exact .base (.int i)
  | str x => exact .base (.str x)
  | lst h l z f => exact .base (.lst (s _ _ h))
  | tup h l z f =>
    have h := h.sq
    rcases h with (h | ⟨o, h⟩) | ⟨o, its, n, h, c, _⟩
    · exact .base (.tup (s _ _ h))
    · exact .fTuple (s _ _ h)
    · exact .kTuple h c
/-- what isinstance says of data -/
def isN (t T : String) : Bool := t == T || (t == "bool" && T == "int")
theorem kit_tab : (["NoneType", "bool", "int", "str", "list", "tuple", "dict"].all fun t => ["int", "bool", "str", "list", "tuple"].all fun T => decide (kitB t T = some (isN t T))) = true := by decide +kernel
def isD (d : PyData) (T : String) : Bool := isN (tyN d) T
theorem isD_ok (d : PyData) {T : String} (hT : T ∈ ["int", "bool", "str", "list", "tuple"]) : kitB (tyN d) T = some (isD d T) := by
  have h := List.all_eq_true.mp (List.all_eq_true.mp kit_tab (tyN d) (by cases d <;> simp [tyN])) T hT
  exact of_decide_eq_true h
section
variable {X : Cx} {σ : L2.St} {S S' : Hp} {e a b c : Expr} {es : List Expr} {P Pa Pb R : V → Hp → Prop} {Ps : List (V → Hp → Prop)} {pos p : Pos} {i j : Int} {d d1 d2 : PyData} {ds ds1 ds2 : List PyData} {k : Bool} {x : Str} {id T : String}
def ClE (r : List V → Hp → VK → Prop) (S : Hp) (Ps : List (V → Hp → Prop)) (R : V → Hp → Prop) : Prop := ∀ vs S1 H1, Same S S1 → Same S1 H1 → Al Ps vs S1 → ∀ Q : VK, (∀ v S2 H2, Gr S1 H1 S2 H2 → R v S2 → Q v H2) → r vs H1 Q
theorem ee_callA {t : List V → Hp → VK → Prop} (hp : PE X e (tCB t (bA X es))) (ha : EA X σ S es Ps) (hr : ClE t S Ps R) : EE X σ S e R := fun H s Q q =>
  he_of hp (ha.2 H s _ fun vs S1 H1 g1 al => hr vs S1 H1 g1.st g1.sub al Q fun v S2 H2 g2 rv => q v S2 H2 (g1.trans g2) rv)
theorem ee_callB {t : List V → Hp → VK → Prop} (hc : CallR X (.builtin id) t) (hm : X.mg x = none) (hv : bootBuiltins x = some (.builtin id)) (ha : EA X σ S (e :: es) Ps) (hr : ClE t S Ps R) (hg : Gl X x := by rfl) (hn : x ≠ "__name__" := by decide) (hdb : (x == ("__debug__" : Str)) = false := by decide)
    (he : starEach (e :: es) X.env = (false, eval e X.env) :: starEach es X.env := by rfl) (hpl : (backTo pos (starEach es X.env)).any (·.1) = false := by rfl) : EE X σ S (.Call (.Name x p) (e :: es) [] pos) R :=
  ee_callA (pe_callB hc hg hm hv pab hn hdb he hpl) ha hr
theorem ee_callTy {t : List V → Hp → VK → Prop} (hc : CallR X (.type T) t) (hm : X.mg x = none) (hv : bootBuiltins x = some (.type T)) (ha : EA X σ S (e :: es) Ps) (hr : ClE t S Ps R) (hg : Gl X x := by rfl) (hn : x ≠ "__name__" := by decide) (hdb : (x == ("__debug__" : Str)) = false := by decide)
    (he : starEach (e :: es) X.env = (false, eval e X.env) :: starEach es X.env := by rfl) (hpl : (backTo pos (starEach es X.env)).any (·.1) = false := by rfl) : EE X σ S (.Call (.Name x p) (e :: es) [] pos) R :=
  ee_callA (pe_callTy hc hg hm hv pab hn hdb he hpl) ha hr
theorem ea_1 [Mn P] (h : EE X σ S e P) (hs : starEach [e] X.env = (false, eval e X.env) :: starEach [] X.env := by rfl) : EA X σ S [e] [P] := ea_cons h ea_nil hs
theorem ea_2 [Mn Pa] [Mn Pb] (h : EE X σ S a Pa) (h2 : EE X σ S b Pb) (hs : starEach [a, b] X.env = (false, eval a X.env) :: starEach [b] X.env := by rfl) (hs2 : starEach [b] X.env = (false, eval b X.env) :: starEach [] X.env := by rfl) : EA X σ S [a, b] [Pa, Pb] := ea_cons h (ea_cons h2 ea_nil hs2) hs
theorem Al.one {Pa : V → Hp → Prop} {vs : List V} {H : Hp} (h : Al [Pa] vs H) : ∃ v, vs = [v] ∧ Pa v H := by
  cases h with
  | cons p r => cases r; exact ⟨_, rfl, p⟩
theorem Al.two {Pa Pb : V → Hp → Prop} {vs : List V} {H : Hp} (h : Al [Pa, Pb] vs H) : ∃ v w, vs = [v, w] ∧ Pa v H ∧ Pb w H := by
  cases h with
  | cons p r => cases r with
    | cons p2 r2 => cases r2; exact ⟨_, _, rfl, p, p2⟩
theorem ee_isi {cn : Str} {T : String} (hk : kitB (tyN d) T = some k) (hm : X.mg "isinstance" = none) (hmT : X.mg cn = none) (hv : bootBuiltins cn = some (.type T)) (ha : EE X σ S a (Dt X.K d)) {p2 : Pos} (hg : Gl X "isinstance" := by rfl) (hgT : Gl X cn := by rfl) (hn : cn ≠ "__name__" := by decide) (hdb : (cn == ("__debug__" : Str)) = false := by decide)
    (hs : starEach [a, .Name cn p2] X.env = (false, eval a X.env) :: starEach [.Name cn p2] X.env := by rfl) : EE X σ S (.Call (.Name "isinstance" p) [a, .Name cn p2] [] pos) (Dt X.K (.bool k)) := by
  haveI : Mn (fun (w : V) (_ : Hp) => w = .ty T) := ⟨fun _ h => h⟩
  refine ee_callB call_isi hm boot_isinstance (ea_2 ha (ee_bltn (P := fun w _ => w = .ty T) (v := .ty T) (u := .type T) hmT hv rfl rfl hgT hn hdb) hs rfl) (fun vs S1 H1 _ s al Q q => ?_) hg (he := hs) (hpl := by rfl)
  obtain ⟨v, w, rfl, pv, pw⟩ := al.two
  subst pw
  exact ⟨v, .ty T, .type (tyN d), .type T, k, rfl, .ty T, tyX_of pv s, kit_ty hk, q _ S1 H1 (Gr.refl s) (.bl k)⟩
/-- len -/
def lenD : PyData → Option Nat
  | .str x => some x.length
  | .list xs => some xs.length
  | .tuple xs => some xs.length
  | _ => none
theorem ee_len {n : Nat} (hm : X.mg "len" = none) (hl : lenD d = some n) (ha : EE X σ S a (Dt X.K d)) (hz : ∀ x, d = .str x → x.length ≤ sizeLine := by intro _ h; cases h) (hg : Gl X "len" := by rfl)
    (hs : starEach [a] X.env = (false, eval a X.env) :: starEach [] X.env := by rfl) : EE X σ S (.Call (.Name "len" p) [a] [] pos) (Dt X.K (.int n)) :=
  ee_callB call_len hm boot_len (ea_1 ha hs) (fun vs S1 H1 _ s al Q q => by
    obtain ⟨v, rfl, pv⟩ := al.one
    refine ⟨v, n, rfl, ?_, q _ S1 H1 (Gr.refl s) (.int _)⟩
    cases pv with
    | non => cases hl
    | bl b => cases hl
    | int i => cases hl
    | str x => cases hl; exact ⟨hz x rfl, rfl⟩
    | lst h l z f => cases hl; exact .inl ⟨_, sql_of (s _ _ h), l.symm⟩
    | tup h l z f => cases hl; exact .inr ⟨_, sqt_up s h.sq, l.symm⟩) hg (he := hs) (hpl := by rfl)
theorem ee_all {bs : List Bool} (hc : X.calm = true) (hm : X.mg "all" = none) (ha : EE X σ S a (Dt X.K (.list (bs.map .bool)))) (hg : Gl X "all" := by rfl)
    (hs : starEach [a] X.env = (false, eval a X.env) :: starEach [] X.env := by rfl) : EE X σ S (.Call (.Name "all" p) [a] [] pos) (Dt X.K (.bool (bs.all fun b => b))) :=
  ee_callB (cr_all hc) hm boot_all (ea_1 ha hs) (fun vs S1 H1 _ s al Q q => by
    obtain ⟨v, rfl, pv⟩ := al.one
    obtain ⟨l, xs, rfl, hl, hx, z⟩ := pv.lst_inv
    rw [dts_bl hx] at hl
    exact ⟨l, bs, rfl, sql_of (s _ _ hl), q _ S1 H1 (Gr.refl s) (.bl _)⟩) hg (he := hs) (hpl := by rfl)
theorem ee_intOf (hm : X.mg "int" = none) (ha : EE X σ S a (Dt X.K (.int i))) (hg : Gl X "int" := by rfl)
    (hs : starEach [a] X.env = (false, eval a X.env) :: starEach [] X.env := by rfl) : EE X σ S (.Call (.Name "int" p) [a] [] pos) (Dt X.K (.int i)) :=
  ee_callTy call_int1 hm boot_int (ea_1 ha hs) (fun vs S1 H1 _ s al Q q => by
    obtain ⟨v, rfl, pv⟩ := al.one
    cases pv
    exact .inl ⟨i, rfl, q _ S1 H1 (Gr.refl s) (.int _)⟩) hg (he := hs) (hpl := by rfl)
/-! ### subscripts -/
theorem atI_dts {K : PySem.W.Frag} {xs : List V} {H : Hp} (h : Dts K ds xs H) (e : atI ds i = some d) : ∃ x, atI xs i = some x ∧ Dt K d x H := by
  unfold atI at e ⊢
  rw [h.1]
  cases q : ixN ds.length i with
  | none => rw [q] at e; cases e
  | some k =>
    rw [q] at e
    exact h.get (i := k) e
theorem ee_ixL (he : atI ds i = some d) (ha : EE X σ S a (Dt X.K (.list ds))) (hb : EE X σ S b (Dt X.K (.int i))) (hs : PlainIx b := by exact fun _ _ => rfl) : EE X σ S (.Subscript a b pos) (Dt X.K d) :=
  ee_2 (pe_ix ix_list peb peb hs) ha hb fun x y S1 H1 _ s px py Q q => by
    cases py
    obtain ⟨l, xs, rfl, hl, hx, z⟩ := px.lst_inv
    obtain ⟨x, h1, h2⟩ := atI_dts hx he
    exact ⟨l, xs, i, x, rfl, rfl, sql_of (s _ _ hl), h1, q _ S1 H1 (Gr.refl s) h2⟩
/-- slices -/
def EO (X : Cx) (σ : L2.St) (S : Hp) (e : Option Expr) (o : Option Int) : Prop := ∀ H, Same S H → ∀ Q : Option Int → Hp → Prop, (∀ S' H', Gr S H S' H' → Q o H') → ∃ t, PO X e t ∧ t σ H Q
theorem EO.up {o : Option Int} {oe : Option Expr} (s : Same S S') (h : EO X σ S oe o) : EO X σ S' oe o := fun H a Q q => h H (s.trans a) Q fun S2 H2 g => q (uniS S2 S') H2 (g.uni s a)
/-! ### + and * of sequences -/
theorem ee_catL (hz : ds1.length + ds2.length ≤ sizeLine) (ha : EE X σ S a (Dt X.K (.list ds1))) (hb : EE X σ S b (Dt X.K (.list ds2))) : EE X σ S (.BinOp a .Add b pos) (Dt X.K (.list (ds1 ++ ds2))) :=
  ee_op op_cat ha hb fun x y S1 H1 _ s px py Q q => by
    obtain ⟨l, xs, rfl, hl, hx, _⟩ := px.lst_inv
    obtain ⟨m, ys, rfl, hm, hy, _⟩ := py.lst_inv
    have hz' : xs.length + ys.length ≤ sizeLine := by rw [hx.1, hy.1]; exact hz
    exact ⟨l, m, xs, ys, rfl, rfl, s _ _ hl, s _ _ hm, hz', fun t ht => q _ _ _ (Gr.new s ht) (Dt.lst_mk upd_same ((hx.append hy).up (Same.new (s.free ht))) (by rw [List.length_append]; exact hz'))⟩
theorem flat_dts {K : PySem.W.Frag} {xs : List V} {H : Hp} (f : List.replicate 0 d = []) (h : Dts K ds xs H) : ∀ (n : Nat), Dts K (List.replicate n ds).flatten (List.replicate n xs).flatten H
  | 0 => .nil
  | n + 1 => by
    rw [List.replicate_succ, List.flatten_cons, List.replicate_succ, List.flatten_cons]
    exact h.append (flat_dts f h n)
theorem flatten_len {α : Type} (xs : List α) : ∀ n : Nat, (List.replicate n xs).flatten.length = xs.length * n
  | 0 => by simp
  | n + 1 => by rw [List.replicate_succ, List.flatten_cons, List.length_append, flatten_len xs n, Nat.mul_succ]; omega
theorem ee_repL (h1 : -(2 ^ 63) ≤ i) (h2 : i < 2 ^ 63) (hz : ds.length * i.toNat ≤ sizeLine) (ha : EE X σ S a (Dt X.K (.list ds))) (hb : EE X σ S b (Dt X.K (.int i))) : EE X σ S (.BinOp a .Mult b pos) (Dt X.K (.list (List.replicate i.toNat ds).flatten)) :=
  ee_op op_rep ha hb fun x y S1 H1 _ s px py Q q => by
    cases py
    obtain ⟨l, xs, rfl, hl, hx, _⟩ := px.lst_inv
    have hz' : xs.length * i.toNat ≤ sizeLine := by rw [hx.1]; exact hz
    exact ⟨l, i, xs, rfl, rfl, s _ _ hl, h1, h2, hz', fun t ht => q _ _ _ (Gr.new s ht) (Dt.lst_mk upd_same ((flat_dts (d := .none) rfl hx _).up (Same.new (s.free ht))) (by rw [flatten_len]; exact hz'))⟩
end
end Z
namespace Z
open PySem PySem.Spec PyProof.Rows L2
/-! ## 8. what is walked -/
/-- an iterator that gives, one by one, values that have the Ps; while B stands -/
def ItP (J : It) (B : Hp) (Ps : List (V → Hp → Prop)) : Prop := Walk J Ps.length (fun H => Same B H) (fun i H x H' => ∀ S, Same B S → Same S H → ∃ S', Gr S H S' H' ∧ ∃ P, Ps[i]? = some P ∧ P x S')
def EI (X : Cx) (σ : L2.St) (S : Hp) (tg iter : Expr) (Ps : List (V → Hp → Prop)) : Prop := ∀ H, Same S H → ∀ R : It → Hp → Prop, (∀ J S' H', Gr S H S' H' → ItP J S' Ps → R J H') → HI X tg iter σ H R
section
variable {X : Cx} {σ : L2.St} {S S' : Hp} {e a b tg : Expr} {pos p : Pos} {d d1 d2 : PyData} {ds ds1 ds2 : List PyData}
theorem EI.up {Ps : List (V → Hp → Prop)} {it : Expr} (s : Same S S') (h : EI X σ S tg it Ps) : EI X σ S' tg it Ps := fun H a R q => h H (s.trans a) R fun J S2 H2 g w => q J (uniS S2 S') H2 (g.uni s a)
  ⟨fun i H hi hs => w.goes i H hi (uni_l.trans hs), fun H hs => w.stops H (uni_l.trans hs), fun i H x H' hi hs y T st th => w.yields i H x H' hi (uni_l.trans hs) y T (uni_l.trans st) th⟩
theorem ds_get {K : PySem.W.Frag} {i : Nat} (h : ds[i]? = some d) : (Ds K ds)[i]? = some (Dt K d) := by unfold Ds; rw [List.getElem?_map, h]; rfl
theorem ds_len {K : PySem.W.Frag} : (Ds K ds).length = ds.length := by unfold Ds; simp
theorem ei_list (ha : EE X σ S e (Dt X.K (.list ds))) : EI X σ S tg e (Ds X.K ds) := fun H s R q =>
  hi_of (pi_list peb) (ha H s _ fun v S1 H1 g1 pv => by
    obtain ⟨l, xs, rfl, hl, hx, z⟩ := pv.lst_inv
    refine ⟨l, rfl, ⟨xs, sql_of (g1.sub _ _ hl)⟩, q _ S1 H1 g1 ⟨fun i H hi hs => ?_, fun H hs => ?_, fun i H x H' hi hs y T st th => ?_⟩⟩
    · rw [ds_len, ← hx.1] at hi
      exact (walk_list (K := X.K) (a := l) (xs := xs)).goes i H hi (sql_of (hs _ _ hl))
    · rw [ds_len, ← hx.1]
      exact (walk_list (K := X.K) (a := l) (xs := xs)).stops H (sql_of (hs _ _ hl))
    · rw [ds_len, ← hx.1] at hi
      obtain ⟨rfl, hy⟩ := (walk_list (K := X.K) (a := l) (xs := xs)).yields i H x H' hi (sql_of (hs _ _ hl)) y
      have hi2 : i < ds.length := by rw [← hx.1]; exact hi
      exact ⟨T, Gr.refl th, _, ds_get (List.getElem?_eq_getElem hi2), (hx.2 i x _ hy (List.getElem?_eq_getElem hi2)).up st⟩)
/-- pairs -/
def zipD (xs ys : List PyData) : List PyData := List.zipWith (fun x y => .tuple [x, y]) xs ys
theorem zipD_get {i : Nat} {x y : PyData} (h1 : ds1[i]? = some x) (h2 : ds2[i]? = some y) : (zipD ds1 ds2)[i]? = some (.tuple [x, y]) := by
  unfold zipD
  rw [List.getElem?_zipWith, h1, h2]
theorem pair_new {K : PySem.W.Frag} {T H : Hp} {x y : V} {t : Addr} (th : Same T H) (ht : H t = none) (h1 : Dt K d1 x T) (h2 : Dt K d2 y T) : Dt K (.tuple [d1, d2]) (.ref t) (upd T t (.tup [x, y])) :=
  Dt.tup_mk (tus_of upd_same) ((Dts.cons h1 (Dts.cons h2 .nil)).up (Same.new (th.free ht))) (by show 2 ≤ 16777216; decide)
theorem ei_zipT {elts : List Expr} {kk : Nat} {tpos : Pos} (hm : X.mg "zip" = none) (ha : EE X σ S a (Dt X.K (.tuple ds1))) (hb : EE X σ S b (Dt X.K (.tuple ds2))) (hg : Gl X "zip" := by rfl)
    (hs : starEach [a, b] X.env = (false, eval a X.env) :: starEach [b] X.env := by rfl) (hs2 : starEach [b] X.env = (false, eval b X.env) :: starEach [] X.env := by rfl) (hpl : (backTo pos (starEach [b] X.env)).any (·.1) = false := by rfl) :
    EI X σ S (.Tuple elts kk tpos) (.Call (.Name "zip" p) [a, b] [] pos) (Ds X.K (zipD ds1 ds2)) := fun H s R q =>
  hi_of (RZ.pi_zipA hg hm pab hs hpl) ((ea_2 ha hb hs hs2).2 H s _ fun vs S1 H1 g1 al => by
    obtain ⟨v, w, rfl, pv, pw⟩ := al.two
    obtain ⟨l, xs, rfl, hl, hx, _⟩ := pv.tup_inv
    obtain ⟨m, ys, rfl, hm, hy, _⟩ := pw.tup_inv
    have hlen : (Ds X.K (zipD ds1 ds2)).length = min xs.length ys.length := by rw [ds_len]; unfold zipD; rw [List.length_zipWith, hx.1, hy.1]
    refine ⟨l, m, xs, ys, rfl, .inr ⟨sqt_up g1.sub hl, sqt_up g1.sub hm, q _ S1 H1 g1 ⟨fun i H hi hs => ?_, fun H hs => ?_, fun i H x H' hi hs y T st th => ?_⟩⟩⟩
    · rw [hlen] at hi
      exact ⟨xs, ys, xs[i]'(by omega), ys[i]'(by omega), sqt_up hs hl, sqt_up hs hm, by simp [show i < xs.length by omega], by simp [show i < ys.length by omega]⟩
    · rw [hlen]
      exact ⟨xs, ys, sqt_up hs hl, sqt_up hs hm, by omega⟩
    · rw [hlen] at hi
      obtain ⟨t, x1, y1, rfl, ht, rfl, k1, k2⟩ := y
      have i1 : i < ds1.length := by rw [← hx.1]; omega
      have i2 : i < ds2.length := by rw [← hy.1]; omega
      exact ⟨_, Gr.new th ht, _, ds_get (zipD_get (List.getElem?_eq_getElem i1) (List.getElem?_eq_getElem i2)), pair_new th ht ((hx.2 i _ _ (k1 xs (sqt_up hs hl)) (List.getElem?_eq_getElem i1)).up st) ((hy.2 i _ _ (k2 ys (sqt_up hs hm)) (List.getElem?_eq_getElem i2)).up st)⟩)
theorem ei_zipL {elts : List Expr} {kk : Nat} {tpos : Pos} (hm : X.mg "zip" = none) (ha : EE X σ S a (Dt X.K (.list ds1))) (hb : EE X σ S b (Dt X.K (.list ds2))) (hg : Gl X "zip" := by rfl)
    (hs : starEach [a, b] X.env = (false, eval a X.env) :: starEach [b] X.env := by rfl) (hs2 : starEach [b] X.env = (false, eval b X.env) :: starEach [] X.env := by rfl) (hpl : (backTo pos (starEach [b] X.env)).any (·.1) = false := by rfl) :
    EI X σ S (.Tuple elts kk tpos) (.Call (.Name "zip" p) [a, b] [] pos) (Ds X.K (zipD ds1 ds2)) := fun H s R q =>
  hi_of (RZ.pi_zipA hg hm pab hs hpl) ((ea_2 ha hb hs hs2).2 H s _ fun vs S1 H1 g1 al => by
    obtain ⟨v, w, rfl, pv, pw⟩ := al.two
    obtain ⟨l, xs, rfl, hl, hx, _⟩ := pv.lst_inv
    obtain ⟨m, ys, rfl, hm, hy, _⟩ := pw.lst_inv
    have hlen : (Ds X.K (zipD ds1 ds2)).length = min xs.length ys.length := by rw [ds_len]; unfold zipD; rw [List.length_zipWith, hx.1, hy.1]
    refine ⟨l, m, xs, ys, rfl, .inl ⟨sql_of (g1.sub _ _ hl), sql_of (g1.sub _ _ hm), q _ S1 H1 g1 ⟨fun i H hi hs => ?_, fun H hs => ?_, fun i H x H' hi hs y T st th => ?_⟩⟩⟩
    · rw [hlen] at hi
      exact ⟨xs, ys, xs[i]'(by omega), ys[i]'(by omega), sql_of (hs _ _ hl), sql_of (hs _ _ hm), by simp [show i < xs.length by omega], by simp [show i < ys.length by omega]⟩
    · rw [hlen]
      exact ⟨xs, ys, sql_of (hs _ _ hl), sql_of (hs _ _ hm), by omega⟩
    · rw [hlen] at hi
      obtain ⟨t, x1, y1, rfl, ht, rfl, k1, k2⟩ := y
      have i1 : i < ds1.length := by rw [← hx.1]; omega
      have i2 : i < ds2.length := by rw [← hy.1]; omega
      exact ⟨_, Gr.new th ht, _, ds_get (zipD_get (List.getElem?_eq_getElem i1) (List.getElem?_eq_getElem i2)), pair_new th ht ((hx.2 i _ _ (k1 xs (sql_of (hs _ _ hl))) (List.getElem?_eq_getElem i1)).up st) ((hy.2 i _ _ (k2 ys (sql_of (hs _ _ hm))) (List.getElem?_eq_getElem i2)).up st)⟩)
end
/-! ## 9. list comprehensions -/
def Ex (K : PySem.W.Frag) (F : PyData → Prop) : V → Hp → Prop := fun v S => ∃ d, F d ∧ Dt K d v S
instance {K : PySem.W.Frag} {F : PyData → Prop} : Mn (Ex K F) := ⟨fun s ⟨d, f, h⟩ => ⟨d, f, h.up s⟩⟩
def HTs (X : Cx) (ifs : List Expr) (σ : L2.St) (H : Hp) (Q : Bool → Hp → Prop) : Prop := ∀ (pins : List (Addr × Obj)) (s : Shared), Inv X pins σ H s →
    wpAny (model X.prog X.w) X.A (forIn ifs true fun c r => if r = true then do let ok ← isTrue c X.env (eval c X.env); pure (ForInStep.yield ok) else pure (ForInStep.yield r)) (TP X pins σ Q) X.xe s
def ETs (X : Cx) (σ : L2.St) (S : Hp) (ifs : List Expr) (b : Bool) : Prop := ∀ H, Same S H → ∀ Q : Bool → Hp → Prop, (∀ S' H', Gr S H S' H' → Q b H') → HTs X ifs σ H Q
theorem ets_nil {X : Cx} {σ : L2.St} {S : Hp} : ETs X σ S [] true := fun H s Q q pins sh I => pts_nil.run pins sh σ H Q I (q S H (Gr.refl s))
theorem ets_one {X : Cx} {σ : L2.St} {S : Hp} {c : Expr} {b : Bool} (h : ET X σ S c b) : ETs X σ S [c] b := fun H s Q q pins sh I => (pts_one ptb).run pins sh σ H Q I (h H s Q q)
/-- a target that takes the value: the slots behind -/
def EG (X : Cx) (S : Hp) (tg : Expr) (v : V) (σ τ : L2.St) : Prop := ∀ H, Same S H → ∀ Q : L2.St → Hp → Prop, Q τ H → HG X tg v σ H Q
theorem eg_name {X : Cx} {S : Hp} {v : V} {σ : L2.St} {i : Nat} {x : Str} {pos : Pos} (hN : X.N.Nodup) (hi : X.N[i]? = some x) (hx : Loc X.env.scope x) (hf : X.fn x = true ∨ X.env.scope.names.lookup x = some .local := by first | exact .inl rfl | exact .inr rfl | assumption) : EG X S (.Name x pos) v σ (σ.set i (some v)) := fun H _ Q q => hg_of (pg_name hN hi hx hf) q
theorem paired_snoc {α β : Type} {G : α → β → Prop} : ∀ {l : List α} {r : List β} {x : α} {y : β}, Paired G l r → G x y → Paired G (l ++ [x]) (r ++ [y])
  | _, _, _, _, .nil, h => .cons h .nil
  | _, _, _, _, .cons g t, h => .cons g (paired_snoc t h)
theorem paired_map {α β : Type} {f : α → β} : ∀ {l : List α} {r : List β}, Paired (fun a b => b = f a) l r → r = l.map f
  | _, _, .nil => rfl
  | _, _, .cons g t => by rw [g, paired_map t]; rfl
theorem take_snoc {α : Type} {l : List α} {i : Nat} {x : α} (h : l[i]? = some x) : l.take (i + 1) = l.take i ++ [x] := by
  rw [List.take_add_one, h]
  rfl
def gBlk (X : Cx) (scope : Scope) (tg : Expr) : TG := fun v σ' H' Q' => ∀ (s : Shared) (H0 : Hp) (C : Addr) (cl : List (Str × Addr)) (fp : List Addr), HG (X.blk s H0 scope (compEnvC scope cl C X.env) fp) tg v σ' H' Q'
def tBlk (X : Cx) (scope : Scope) (ifs : List Expr) : TT := fun σ' H' Q' => ∀ (s : Shared) (H0 : Hp) (C : Addr) (cl : List (Str × Addr)) (fp : List Addr), HTs (X.blk s H0 scope (compEnvC scope cl C X.env) fp) ifs σ' H' Q'
def eBlk (X : Cx) (scope : Scope) (e : Expr) : TE := fun σ' H' Q' => ∀ (s : Shared) (H0 : Hp) (C : Addr) (cl : List (Str × Addr)) (fp : List Addr), HE (X.blk s H0 scope (compEnvC scope cl C X.env) fp) e σ' H' Q'
section
variable {X : Cx} {σ : L2.St} {S : Hp} {elt tg iter : Expr} {ifs : List Expr} {scope : Scope} {own : List (Str × Nat)} {pos : Pos} {ds : List PyData} {p : PyData → Bool} {G : PyData → PyData → Prop}
theorem lc_loopG (hz : ds.length ≤ sizeLine)
    (hel : ∀ d ∈ ds, ∀ v S', Same S S' → Dt X.K d v S' → ∃ τ, wipe τ (own.map (·.2)) = wipe σ (own.map (·.2)) ∧ ∀ (s : Shared) (H0 : Hp) (C : Addr) (cl : List (Str × Addr)) (fp : List Addr),
      EG (X.blk s H0 scope (compEnvC scope cl C X.env) fp) S' tg v (wipe σ (own.map (·.2))) τ ∧ ETs (X.blk s H0 scope (compEnvC scope cl C X.env) fp) τ S' ifs (p d) ∧ (p d = true → EE (X.blk s H0 scope (compEnvC scope cl C X.env) fp) τ S' elt (Ex X.K (G d)))) {H : Hp} (Q : VK) (q : ∀ v S' H', Gr S H S' H' → (∃ rs, Paired G (ds.filter p) rs ∧ Dt X.K (.list rs) v S') → Q v H') {J : It} {S1 H1 : Hp} (g1 : Gr S H S1 H1) (it : ItP J S1 (Ds X.K ds)) :
    ∀ D, H1 D = none → ∃ W : Nat → Nat → Hp → Prop, (∃ m, W 0 m (upd H1 D (.lst []))) ∧ ∀ i m H, W i m H →
      (J.stop i H ∧ Q (.ref D) H) ∨ (J.go i H ∧ ∃ Nx : Hp → Prop, (∀ H', Nx H' → ∃ m', m' < m ∧ W (i + 1) m' H') ∧ ∀ x H', J.yld i H x H' → gBlk X scope tg x (wipe σ (own.map (·.2))) H' fun σ2 H2 => wipe σ2 (own.map (·.2)) = wipe σ (own.map (·.2)) ∧ tBlk X scope ifs σ2 H2 fun b H3 =>
        if b = true then eBlk X scope elt σ2 H3 fun y H4 => ∃ acc, H4 D = some (.lst acc) ∧ acc.length < sizeLine ∧ Nx (upd H4 D (.lst (acc ++ [y]))) else Nx H3) := by
  intro D hD
  have hD1 : S1 D = none := g1.sub.free hD
  have hlen : (Ds X.K ds).length = ds.length := ds_len
  refine lc_it (g := gBlk X scope tg) (tt := tBlk X scope ifs) (te := eBlk X scope elt) (vs := own.map (·.2)) (σ := σ) (Qd := Q (.ref D)) it (fun i H' => ∃ S' xs rs, Same S1 S' ∧ Same S' H' ∧ Same H1 H' ∧ (∀ a o, H1 a = some o → NT o → S' a = S1 a) ∧ S' D = none ∧ H' D = some (.lst xs) ∧ Paired G ((ds.take i).filter p) rs ∧ Dts X.K rs xs S' ∧ xs.length ≤ i)
    ⟨S1, [], [], Same.refl _, Same.mut g1.sub hD1, Same.new hD, fun _ _ _ _ => rfl, hD1, upd_same, .nil, .nil, Nat.le_refl _⟩ (fun i H' _ ⟨S', _, _, a, b, _⟩ => a.trans b) ?_ ?_
  · intro i x H2 H3 hi2 ⟨S2, xs, rs, k1, k2, k3, k4, k5, k6, k7, k8, k9⟩ y
    rw [hlen] at hi2
    obtain ⟨S3, g3, P, hP, px⟩ := y S2 k1 k2
    obtain ⟨d, hd⟩ : ∃ d, ds[i]? = some d := ⟨ds[i], List.getElem?_eq_getElem hi2⟩
    rw [ds_get hd] at hP
    obtain rfl := Option.some.inj hP
    have sS3 : Same S S3 := g1.st.trans (k1.trans g3.st)
    obtain ⟨τ, hw, hb⟩ := hel d (List.mem_of_getElem? hd) x S3 sS3 px
    have hf : ∀ q, p d = q → (ds.take (i + 1)).filter p = (ds.take i).filter p ++ (if q = true then [d] else []) := fun q hq => by
      rw [take_snoc hd, List.filter_append]
      cases q with
      | true => simp [hq]
      | false => simp [hq]
    intro sh H0 C cl fp
    refine (hb sh H0 C cl fp).1 H3 g3.sub _ ⟨hw, ?_⟩
    intro sh' H0' C' cl' fp'
    refine (hb sh' H0' C' cl' fp').2.1 H3 g3.sub _ fun S4 H4 g4 => ?_
    have g34 := g3.trans g4
    cases hpd : p d with
    | false =>
      refine iteF ⟨S4, xs, rs, k1.trans g34.st, g34.sub, k3.trans g34.hh, fun a o h n => (g34.old a o (k3 a o h) n).trans (k4 a o h n), (g34.old D _ k6 (fun _ z => nomatch z)).trans k5, g34.hh _ _ k6, ?_, k8.up g34.st, by omega⟩
      rw [hf false hpd]
      simpa using k7
    | true =>
      refine iteT ?_
      intro sh'' H0'' C'' cl'' fp''
      refine ((hb sh'' H0'' C'' cl'' fp'').2.2 hpd).up g4.st H4 g4.sub _ fun w S5 H5 g5 ⟨r, hr, hrw⟩ => ?_
      have g := g34.trans g5
      have hD5 : S5 D = none := (g.old D _ k6 (fun _ z => nomatch z)).trans k5
      refine ⟨xs, g.hh _ _ k6, Nat.lt_of_le_of_lt k9 (Nat.lt_of_lt_of_le hi2 hz), S5, xs ++ [w], rs ++ [r], k1.trans g.st, Same.mut g.sub hD5, fun a o h => ?_, fun a o h n => (g.old a o (k3 a o h) n).trans (k4 a o h n), hD5, upd_same, ?_, (k8.up g.st).snoc hrw, by rw [List.length_append]; show xs.length + 1 ≤ i + 1; omega⟩
      · rw [upd_ne (ne_of_none h hD)]; exact g.hh _ _ (k3 a o h)
      · rw [hf true hpd]
        exact paired_snoc k7 hr
  · intro H2 ⟨S2, xs, rs, k1, k2, k3, k4, k5, k6, k7, k8, k9⟩
    rw [hlen] at k7 k9
    rw [List.take_length] at k7
    refine q _ (upd S2 D (.lst xs)) H2 (g1.trans ⟨k1.trans (Same.new k5), fun a o h => ?_, k3, fun a o h n => by rw [upd_ne (ne_of_none h hD)]; exact k4 a o h n⟩) ⟨rs, k7, Dt.lst_mk upd_same (k8.up (Same.new k5)) (Nat.le_trans k9 hz)⟩
    by_cases ha : a = D
    · subst ha; rw [upd_same] at h; rw [k6]; exact h
    · rw [upd_ne ha] at h; exact k2 a o h
theorem lc_readG (hi : EI X σ S tg iter (Ds X.K ds)) (hz : ds.length ≤ sizeLine)
    (hel : ∀ d ∈ ds, ∀ v S', Same S S' → Dt X.K d v S' → ∃ τ, wipe τ (own.map (·.2)) = wipe σ (own.map (·.2)) ∧ ∀ (s : Shared) (H0 : Hp) (C : Addr) (cl : List (Str × Addr)) (fp : List Addr),
      EG (X.blk s H0 scope (compEnvC scope cl C X.env) fp) S' tg v (wipe σ (own.map (·.2))) τ ∧ ETs (X.blk s H0 scope (compEnvC scope cl C X.env) fp) τ S' ifs (p d) ∧ (p d = true → EE (X.blk s H0 scope (compEnvC scope cl C X.env) fp) τ S' elt (Ex X.K (G d)))) {H : Hp} (s : Same S H) (Q : VK) (q : ∀ v S' H', Gr S H S' H' → (∃ rs, Paired G (ds.filter p) rs ∧ Dt X.K (.list rs) v S') → Q v H') :
    tLc (bI X tg iter) (gBlk X scope tg) (tBlk X scope ifs) (eBlk X scope elt) (own.map (·.2)) σ H Q := hi H s _ fun J S1 H1 g1 it => lc_loopG hz hel Q q g1 it
theorem ee_lcG (hc : X.calm = true) (hN : X.N.Nodup) (ok : BlkOk X.N X.env.scope scope own) (hi : EI X σ S tg iter (Ds X.K ds)) (hz : ds.length ≤ sizeLine)
    (hel : ∀ d ∈ ds, ∀ v S', Same S S' → Dt X.K d v S' → ∃ τ, wipe τ (own.map (·.2)) = wipe σ (own.map (·.2)) ∧ ∀ (s : Shared) (H0 : Hp) (C : Addr) (cl : List (Str × Addr)) (fp : List Addr),
      EG (X.blk s H0 scope (compEnvC scope cl C X.env) fp) S' tg v (wipe σ (own.map (·.2))) τ ∧ ETs (X.blk s H0 scope (compEnvC scope cl C X.env) fp) τ S' ifs (p d) ∧ (p d = true → EE (X.blk s H0 scope (compEnvC scope cl C X.env) fp) τ S' elt (Ex X.K (G d))))
    (hs : ∀ x, foldedSetIterable iter X.env x = pure x := by intro _; rfl) :
    EE X σ S (.ListComp elt [⟨tg, iter, ifs, 0⟩] scope pos) (fun v S' => ∃ rs, Paired G (ds.filter p) rs ∧ Dt X.K (.list rs) v S') := fun H s Q q =>
  he_of (pe_lc (own := own) (wi := bI X tg iter) (g := gBlk X scope tg) (tt := tBlk X scope ifs) (te := eBlk X scope elt) hc hN pib ok
    (fun s H0 C cl fp => ⟨fun pins sh σ' H' v u Q' I r h => h s H0 C cl fp pins sh u I r⟩) (fun s H0 C cl fp => ⟨fun pins sh σ' H' Q' I h => h s H0 C cl fp pins sh I⟩) (fun s H0 C cl fp => ⟨fun pins sh σ' H' Q' I h => h s H0 C cl fp pins sh I⟩) hs) (lc_readG hi hz hel s Q q)
/-- each item by a function, under a test -/
theorem fun_of_G {f : PyData → PyData} {v : V} {S' : Hp} {K : PySem.W.Frag} (h : ∃ rs, Paired (fun d r => r = f d) (ds.filter p) rs ∧ Dt K (.list rs) v S') : Dt K (.list ((ds.filter p).map f)) v S' := by
  obtain ⟨rs, h1, h2⟩ := h
  rw [paired_map h1] at h2
  exact h2
end
end Z
namespace Z
open PySem PySem.Spec PyProof.Rows L2
/-! ## 10. statements -/
section
variable {X : Cx} {σ : L2.St} {S H : Hp} {e a b c : Expr} {P : V → Hp → Prop} {pos p : Pos} {D : Ends} {rest body orelse : List Stmt} {k : Bool} {st : Stmt} {d d1 d2 : PyData} {ds : List PyData}
theorem hs_cons {t : TS} (h : PS X st t) (q : t { D with nx := fun σ' H' => HS X D rest σ' H' } σ H) : HS X D (st :: rest) σ H := hs_of (pss_cons h psb) q
theorem hs_nil (q : D.nx σ H) : HS X D [] σ H := hs_of pss_nil q
theorem hs_set {i : Nat} {x : Str} {pos' : Pos} (h : EE X σ S e P) (s : Same S H) (hN : X.N.Nodup) (q : ∀ v S' H', Gr S H S' H' → P v S' → HS X D rest (σ.set i (some v)) H') (hi : X.N[i]? = some x := by rfl) (hx : Loc X.env.scope x := by first | exact Or.inl rfl | exact Or.inr rfl)
    (hs : swapsWith e (some (.Name x pos')) pos.line X.env = pure false := by rfl) (hf : X.fn x = true ∨ X.env.scope.names.lookup x = some .local := by first | exact .inl rfl | exact .inr rfl | assumption) : HS X D (.Assign [.Name x pos'] e pos :: rest) σ H :=
  hs_cons (ps_set hN hi hx peb hs hf) (h H s _ fun v S' H' g pv => q v S' H' g pv)
theorem hs_ret (h : EE X σ S e P) (s : Same S H) (q : ∀ v S' H', Gr S H S' H' → P v S' → D.rt v H') : HS X D (.Return (some e) pos :: rest) σ H := hs_cons (ps_ret peb) (h H s _ q)
/-- the ends of a block that stands ahead of rest -/
def Dn (X : Cx) (D : Ends) (rest : List Stmt) : Ends := { D with nx := fun σ' H' => HS X D rest σ' H' }
theorem hs_if (h : ET X σ S c k) (s : Same S H) (qt : k = true → ∀ S' H', Gr S H S' H' → HS X (Dn X D rest) body σ H') (qf : k = false → ∀ S' H', Gr S H S' H' → HS X (Dn X D rest) orelse σ H') : HS X D (.If c body orelse pos :: rest) σ H :=
  hs_cons (ps_if ptb psb psb) (h H s _ fun S' H' g => by
    cases k with
    | true => exact iteT (qt rfl S' H' g)
    | false => exact iteF (qf rfl S' H' g))
/-- not taken, and there is no else -/
theorem hs_ifN (h : ET X σ S c false) (s : Same S H) (q : ∀ S' H', Gr S H S' H' → HS X D rest σ H') : HS X D (.If c body [] pos :: rest) σ H := hs_if h s (fun z => nomatch z) (fun _ S' H' g => hs_nil (q S' H' g))
theorem mn_eq {v : V} : Mn (fun (w : V) (_ : Hp) => w = v) := ⟨fun _ h => h⟩
/-- a, b = x, y with plain names -/
theorem hs_par {i j : Nat} {x y : Str} {Pa Pb : V → Hp → Prop} [Mn Pa] [Mn Pb] {px py pt : Pos} {kt k2 pt2} (hc : X.calm = true) (hN : X.N.Nodup) (ha : EE X σ S a Pa) (hb : EE X σ S b Pb) (s : Same S H)
    (hw : swappedStores [.Tuple [.Name x px, .Name y py] kt pt] (.Tuple [a, b] k2 pt2) X.env = pure (some [x, y]))
    (q : ∀ v w S' H', Gr S H S' H' → Pa v S' → Pb w S' → HS X D rest ((σ.set i (some v)).set j (some w)) H')
    (hi : X.N[i]? = some x := by rfl) (hj : X.N[j]? = some y := by rfl) (hij : i ≠ j := by decide) (hx : X.env.scope.names.lookup x = some .local := by rfl) (hy : X.env.scope.names.lookup y = some .local := by rfl)
    (hs : starEach [a, b] X.env = (false, eval a X.env) :: starEach [b] X.env := by rfl) (hs2 : starEach [b] X.env = (false, eval b X.env) :: starEach [] X.env := by rfl)
    (hss : swapsWithSole [.Tuple [.Name x px, .Name y py] kt pt] (.Tuple [a, b] k2 pt2) pos.line X.env = pure false := by rfl) : HS X D (.Assign [.Tuple [.Name x px, .Name y py] kt pt] (.Tuple [a, b] k2 pt2) pos :: rest) σ H :=
  hs_cons (ps_par hc hN hi hj hij hx hy pab hw hss) ((ea_2 ha hb hs hs2).2 H s _ fun vs S' H' g al => by
    obtain ⟨v, w, rfl, p1, p2⟩ := al.two
    exact ⟨v, w, rfl, q v w S' H' g p1 p2⟩)
theorem hs_mono {D' : Ends} {st : List Stmt} (h : HS X D st σ H) (h1 : ∀ σ H, D.nx σ H → D'.nx σ H) (h2 : ∀ v H, D.rt v H → D'.rt v H) (h3 : ∀ σ H, D.bk σ H → D'.bk σ H) (h4 : ∀ σ H, D.ct σ H → D'.ct σ H) : HS X D' st σ H := fun pins s I => thn (h pins s I) fun f s' q => by
  cases f with
  | next => obtain ⟨σ', H', I', z⟩ := q; exact ⟨σ', H', I', h1 _ _ z⟩
  | brk => obtain ⟨σ', H', I', z⟩ := q; exact ⟨σ', H', I', h3 _ _ z⟩
  | cont => obtain ⟨σ', H', I', z⟩ := q; exact ⟨σ', H', I', h4 _ _ z⟩
  | ret u => obtain ⟨v, σ', H', I', r, z⟩ := q; exact ⟨v, σ', H', I', r, h2 _ _ z⟩
end
/-! ## 11. defs -/
/-- a def that is known: where it stands, what it promises (no exception leaves it) -/
structure KD (P : Program) (w : World) (K : PySem.W.Frag) (mg : Str → Option Value) (base : Heap) (x : Str) (k : Nat) (sp : Sp) : Prop where
  ex : ∃ f fd ps, FnOk P w K mg base CX0 k f fd ps sp ∧ mg x = some (.ref f) ∧ PySem.W.keepIn K (.ref f) = true ∧ Binds K fd ps []
theorem KD.mono {P : Program} {w : World} {K : PySem.W.Frag} {mg : Str → Option Value} {base : Heap} {x : Str} {j k : Nat} {sp : Sp} (h : KD P w K mg base x j sp) (hk : j ≤ k) : KD P w K mg base x k sp := by
  obtain ⟨f, fd, ps, F, r⟩ := h.ex
  exact ⟨f, fd, ps, F.mono hk, r⟩
section
variable {X : Cx} {σ : L2.St} {S S' : Hp} {e a b c : Expr} {es : List Expr} {P R : V → Hp → Prop} {Ps : List (V → Hp → Prop)} {pos p : Pos} {k : Nat} {x : Str} {sp : Sp} {d : PyData} {ds : List PyData}
def SpE (sp : Sp) (S : Hp) (Ps : List (V → Hp → Prop)) (R : V → Hp → Prop) : Prop := ∀ vs S1 H1, Same S S1 → Same S1 H1 → Al Ps vs S1 → ∀ Q : VK, (∀ v S2 H2, Gr S1 H1 S2 H2 → R v S2 → Q v H2) → sp vs H1 Q E0
theorem ee_call (D : KD X.prog X.w X.K X.mg X.base x k sp) (hr : Room k X.A) (ha : EA X σ S (e :: es) Ps) (hsp : SpE sp S Ps R) (hg : Gl X x := by rfl) (hdb : (x == ("__debug__" : Str)) = false := by decide)
    (he : starEach (e :: es) X.env = (false, eval e X.env) :: starEach es X.env := by rfl) (hpl : (backTo pos (starEach es X.env)).any (·.1) = false := by rfl) : EE X σ S (.Call (.Name x p) (e :: es) [] pos) R := fun H s Q q => by
  obtain ⟨f, fd, ps, F, hm, hk, hb⟩ := D.ex
  refine he_of (pe_call F hr hg hm hk hb .nil pass0 pab hdb he hpl) (ha.2 H s _ fun vs S1 H1 g1 al => ?_)
  rw [List.append_nil]
  exact hsp vs S1 H1 g1.st g1.sub al Q fun v S2 H2 g2 rv => q v S2 H2 (g1.trans g2) rv
/-- a def of data: F tells what it gives -/
def spD (K : PySem.W.Frag) (F : List PyData → PyData → Prop) : Sp := fun vs H Q _ => ∃ S ds d, Same S H ∧ Dts K ds vs S ∧ F ds d ∧ ∀ v S' H', Gr S H S' H' → Dt K d v S' → Q v H'
theorem spD_E {F : List PyData → PyData → Prop} (hF : F ds d) : SpE (spD X.K F) S (Ds X.K ds) (Dt X.K d) := fun vs S1 H1 _ s al Q q => ⟨S1, ds, d, s, al_dts al, hF, q⟩
theorem ee_callD {F : List PyData → PyData → Prop} (D : KD X.prog X.w X.K X.mg X.base x k (spD X.K F)) (hr : Room k X.A) (hF : F ds d) (ha : EA X σ S (e :: es) (Ds X.K ds)) (hg : Gl X x := by rfl) (hdb : (x == ("__debug__" : Str)) = false := by decide)
    (he : starEach (e :: es) X.env = (false, eval e X.env) :: starEach es X.env := by rfl) (hpl : (backTo pos (starEach es X.env)).any (·.1) = false := by rfl) : EE X σ S (.Call (.Name x p) (e :: es) [] pos) (Dt X.K d) :=
  ee_call D hr ha (spD_E hF) hg hdb he hpl
end
section
variable {P : Program} {w : World} {K : PySem.W.Frag} {mg : Str → Option Value} {base : Heap} {x qual : Str} {params : Arguments} {body : List Stmt} {scope : Scope} {dvs : List V} {kws : List (Str × V)} {f : Addr} {fd : FuncData} {N ps : List Str} {k : Nat} {sp : Sp}
/-- a def by its body -/
theorem fn_hs (F : FunD K x qual params body scope dvs kws f fd) (Sc : FnScope N ps scope) (len : ∀ vs H Q E, sp vs H Q E → vs.length = ps.length)
    (hb : ∀ (cdv : Value) (A : Around) (outer : List Env) (s : Shared) (H : Hp) (vs : List V) (Q : VK) (E : XK), Room k (A.deeper (envOfC qual scope s.heap.objs.size f cdv)) → sp vs H Q E →
      HS (cxOf CX0 P w K mg base N qual scope f cdv A outer s H E).nox { nx := fun _ H' => Q .non H', rt := Q } body (start N vs) H) : FnOk P w K mg base CX0 (k + 1) f fd ps sp :=
  F.ok Sc len fun cdv A outer s H vs Q E hr h => ⟨_, PSs.nox psb, hb cdv A outer s H vs Q E hr h⟩
theorem kd_mk (F : FunD K x qual params body scope [] kws f fd) (G : FnOk P w K mg base CX0 k f fd ps sp) (hm : mg x = some (.ref f)) (hb : Binds K fd ps []) : KD P w K mg base x k sp := ⟨f, fd, ps, G, hm, F.kp, hb⟩
end
end Z
namespace Z
open PySem PySem.Spec PyProof.Rows L2
theorem Dts.one {K : PySem.W.Frag} {d : PyData} {vs : List V} {S : Hp} (h : Dts K [d] vs S) : ∃ v, vs = [v] ∧ Dt K d v S := (dts_al h).one
theorem Dts.two {K : PySem.W.Frag} {d e : PyData} {vs : List V} {S : Hp} (h : Dts K [d, e] vs S) : ∃ v w, vs = [v, w] ∧ Dt K d v S ∧ Dt K e w S := (dts_al h).two
end Z
namespace Z
open PySem PySem.Spec PyProof.Rows L2
/-! ## 12. comprehensions in short -/
def tupP (q : PyData × PyData) : PyData := .tuple [q.1, q.2]
theorem zipD_eq (xs ys : List PyData) : zipD xs ys = (xs.zip ys).map tupP := by
  unfold zipD
  rw [List.zip_eq_zipWith, List.map_zipWith]
  rfl
section
variable {X : Cx} {σ : L2.St} {S : Hp} {elt iter : Expr} {ifs : List Expr} {scope : Scope} {pos px py tp : Pos} {ds : List PyData} {ps : List (PyData × PyData)} {α : Type} {enc : α → PyData} {i j kk : Nat} {x y : Str}
theorem wipe1 {σ : L2.St} {i : Nat} {v : Option V} : wipe ((wipe σ [i]).set i v) [i] = wipe σ [i] := by
  show (((σ.set i none).set i v).set i none) = σ.set i none
  rw [List.set_set, List.set_set]
theorem filter_true {α : Type} (l : List α) : l.filter (fun _ => true) = l := by
  induction l with
  | nil => rfl
  | cons a l ih => rw [List.filter_cons]; simp
theorem wipe2 {σ : L2.St} {i j : Nat} {v w : Option V} (hij : i ≠ j) : wipe (((wipe σ [i, j]).set i v).set j w) [i, j] = wipe σ [i, j] := by
  show ((((((σ.set j none).set i none).set i v).set j w).set j none).set i none) = ((σ.set j none).set i none)
  rw [List.set_set, List.set_set, List.set_comm _ _ hij, List.set_set, List.set_set]
/-- [elt for x, y in iter if t] -/
theorem ee_lc2f {p : PyData × PyData → Bool} {f : PyData × PyData → α} (hc : X.calm = true) (hN : X.N.Nodup) (ok : BlkOk X.N X.env.scope scope [(x, i), (y, j)]) (hi : EI X σ S (.Tuple [.Name x px, .Name y py] kk tp) iter (Ds X.K (ps.map tupP))) (hz : ps.length ≤ sizeLine)
    (hel : ∀ q ∈ ps, ∀ v w S', Same S S' → Dt X.K q.1 v S' → Dt X.K q.2 w S' → ∀ (s : Shared) (H0 : Hp) (C : Addr) (cl : List (Str × Addr)) (fp : List Addr),
      ETs (X.blk s H0 scope (compEnvC scope cl C X.env) fp) (((wipe σ [i, j]).set i (some v)).set j (some w)) S' ifs (p q) ∧ (p q = true → EE (X.blk s H0 scope (compEnvC scope cl C X.env) fp) (((wipe σ [i, j]).set i (some v)).set j (some w)) S' elt (Dt X.K (enc (f q)))))
    (hij : i ≠ j := by decide) (hix : X.N[i]? = some x := by rfl) (hjy : X.N[j]? = some y := by rfl) (hx : ∀ (s : Shared) (H0 : Hp) (C : Addr) (cl : List (Str × Addr)) (fp : List Addr), (Loc (X.blk s H0 scope (compEnvC scope cl C X.env) fp).env.scope x ∧ ((X.blk s H0 scope (compEnvC scope cl C X.env) fp).fn x = true ∨ (X.blk s H0 scope (compEnvC scope cl C X.env) fp).env.scope.names.lookup x = some .local)) ∧
      (Loc (X.blk s H0 scope (compEnvC scope cl C X.env) fp).env.scope y ∧ ((X.blk s H0 scope (compEnvC scope cl C X.env) fp).fn y = true ∨ (X.blk s H0 scope (compEnvC scope cl C X.env) fp).env.scope.names.lookup y = some .local)) := by
      intros; exact ⟨⟨by first | exact Or.inl rfl | exact Or.inr rfl, by first | exact .inl rfl | exact .inr rfl⟩, ⟨by first | exact Or.inl rfl | exact Or.inr rfl, by first | exact .inl rfl | exact .inr rfl⟩⟩)
    (ha : ∀ (s : Shared) (H0 : Hp) (C : Addr) (cl : List (Str × Addr)) (fp : List Addr), (assignEach [.Name x px, .Name y py] (X.blk s H0 scope (compEnvC scope cl C X.env) fp).env).length = 2 ∧ (assignEach [.Name x px, .Name y py] (X.blk s H0 scope (compEnvC scope cl C X.env) fp).env).findIdx? (·.1) = none ∧
      (assignEach [.Name x px, .Name y py] (X.blk s H0 scope (compEnvC scope cl C X.env) fp).env).map (·.2) = assign (.Name x px) (X.blk s H0 scope (compEnvC scope cl C X.env) fp).env :: (assignEach [.Name y py] (X.blk s H0 scope (compEnvC scope cl C X.env) fp).env).map (·.2) ∧ (assignEach [.Name y py] (X.blk s H0 scope (compEnvC scope cl C X.env) fp).env).map (·.2) = assign (.Name y py) (X.blk s H0 scope (compEnvC scope cl C X.env) fp).env :: (assignEach [] (X.blk s H0 scope (compEnvC scope cl C X.env) fp).env).map (·.2) := by intros; exact ⟨rfl, rfl, rfl, rfl⟩)
    (hs : ∀ x, foldedSetIterable iter X.env x = pure x := by intro _; rfl) :
    EE X σ S (.ListComp elt [⟨.Tuple [.Name x px, .Name y py] kk tp, iter, ifs, 0⟩] scope pos) (Dt X.K (.list (((ps.filter p).map f).map enc))) := by
  have e0 : ∀ q ∈ ps.map tupP, ∃ r ∈ ps, q = tupP r := fun q hq => by
    obtain ⟨r, h1, h2⟩ := List.mem_map.mp hq
    exact ⟨r, h1, h2.symm⟩
  let un : PyData → PyData × PyData := fun d => match d with
    | .tuple [a, b] => (a, b)
    | _ => (.none, .none)
  have un_t : ∀ q, un (tupP q) = q := fun q => rfl
  refine (ee_lcG (own := [(x, i), (y, j)]) (p := fun d => p (un d)) (G := fun d r => r = enc (f (un d))) hc hN ok hi (by rw [List.length_map]; exact hz) (fun d hd v S' s hv => ?_) hs).imp fun v S' h => ?_
  · obtain ⟨q, hq, rfl⟩ := e0 d hd
    obtain ⟨l, xs, rfl, hl, hx', _⟩ := hv.tup_inv
    obtain ⟨v1, e1, p1⟩ := hx'.get (i := 0) (d := q.1) rfl
    obtain ⟨v2, e2, p2⟩ := hx'.get (i := 1) (d := q.2) rfl
    have hxs : xs = [v1, v2] := by
      have hl2 := hx'.1
      match xs, hl2 with
      | [u, w], _ => simp at e1 e2; rw [e1, e2]
    subst hxs
    refine ⟨((wipe σ [i, j]).set i (some v1)).set j (some v2), wipe2 hij, fun sh H0 C cl fp => ?_⟩
    obtain ⟨h1, h2⟩ := hel q hq v1 v2 S' s p1 p2 sh H0 C cl fp
    obtain ⟨⟨k1, k2⟩, ⟨k3, k4⟩⟩ := hx sh H0 C cl fp
    obtain ⟨a1, a2, a3, a4⟩ := ha sh H0 C cl fp
    refine ⟨fun H s2 Q qq => ?_, h1, fun hp => (h2 hp).imp fun w S2 hw => ⟨_, rfl, hw⟩⟩
    exact hg_of (pg_tup hc (pgs_cons (pg_name hN hix k1 k2) (pgs_cons (pg_name hN hjy k3 k4) pgs_nil a4) a3) a1 a2) ⟨l, _, rfl, sqt_up s2 hl, rfl, _, _, rfl, _, _, rfl, rfl, qq⟩
  · have h3 := fun_of_G (f := fun d => enc (f (un d))) (p := fun d => p (un d)) h
    have e : ((ps.map tupP).filter fun d => p (un d)).map (fun d => enc (f (un d))) = ((ps.filter p).map f).map enc := by
      rw [List.filter_map, List.map_map, List.map_map]
      rfl
    rw [← e]
    exact h3
/-- [elt for x, y in iter] -/
theorem ee_lc2 {f : PyData × PyData → α} (hc : X.calm = true) (hN : X.N.Nodup) (ok : BlkOk X.N X.env.scope scope [(x, i), (y, j)]) (hi : EI X σ S (.Tuple [.Name x px, .Name y py] kk tp) iter (Ds X.K (ps.map tupP))) (hz : ps.length ≤ sizeLine)
    (hel : ∀ q ∈ ps, ∀ v w S', Same S S' → Dt X.K q.1 v S' → Dt X.K q.2 w S' → ∀ (s : Shared) (H0 : Hp) (C : Addr) (cl : List (Str × Addr)) (fp : List Addr), EE (X.blk s H0 scope (compEnvC scope cl C X.env) fp) (((wipe σ [i, j]).set i (some v)).set j (some w)) S' elt (Dt X.K (enc (f q))))
    (hij : i ≠ j := by decide) (hix : X.N[i]? = some x := by rfl) (hjy : X.N[j]? = some y := by rfl) (hx : ∀ (s : Shared) (H0 : Hp) (C : Addr) (cl : List (Str × Addr)) (fp : List Addr), (Loc (X.blk s H0 scope (compEnvC scope cl C X.env) fp).env.scope x ∧ ((X.blk s H0 scope (compEnvC scope cl C X.env) fp).fn x = true ∨ (X.blk s H0 scope (compEnvC scope cl C X.env) fp).env.scope.names.lookup x = some .local)) ∧
      (Loc (X.blk s H0 scope (compEnvC scope cl C X.env) fp).env.scope y ∧ ((X.blk s H0 scope (compEnvC scope cl C X.env) fp).fn y = true ∨ (X.blk s H0 scope (compEnvC scope cl C X.env) fp).env.scope.names.lookup y = some .local)) := by
      intros; exact ⟨⟨by first | exact Or.inl rfl | exact Or.inr rfl, by first | exact .inl rfl | exact .inr rfl⟩, ⟨by first | exact Or.inl rfl | exact Or.inr rfl, by first | exact .inl rfl | exact .inr rfl⟩⟩)
    (ha : ∀ (s : Shared) (H0 : Hp) (C : Addr) (cl : List (Str × Addr)) (fp : List Addr), (assignEach [.Name x px, .Name y py] (X.blk s H0 scope (compEnvC scope cl C X.env) fp).env).length = 2 ∧ (assignEach [.Name x px, .Name y py] (X.blk s H0 scope (compEnvC scope cl C X.env) fp).env).findIdx? (·.1) = none ∧
      (assignEach [.Name x px, .Name y py] (X.blk s H0 scope (compEnvC scope cl C X.env) fp).env).map (·.2) = assign (.Name x px) (X.blk s H0 scope (compEnvC scope cl C X.env) fp).env :: (assignEach [.Name y py] (X.blk s H0 scope (compEnvC scope cl C X.env) fp).env).map (·.2) ∧ (assignEach [.Name y py] (X.blk s H0 scope (compEnvC scope cl C X.env) fp).env).map (·.2) = assign (.Name y py) (X.blk s H0 scope (compEnvC scope cl C X.env) fp).env :: (assignEach [] (X.blk s H0 scope (compEnvC scope cl C X.env) fp).env).map (·.2) := by intros; exact ⟨rfl, rfl, rfl, rfl⟩)
    (hs : ∀ x, foldedSetIterable iter X.env x = pure x := by intro _; rfl) :
    EE X σ S (.ListComp elt [⟨.Tuple [.Name x px, .Name y py] kk tp, iter, [], 0⟩] scope pos) (Dt X.K (.list ((ps.map f).map enc))) :=
  (ee_lc2f (p := fun _ => true) hc hN ok hi hz (fun q hq v w S' s hv hw sh H0 C cl fp => ⟨ets_nil, fun _ => hel q hq v w S' s hv hw sh H0 C cl fp⟩) hij hix hjy hx ha hs).is (by rw [filter_true])
end
end Z
namespace Z
open PySem PySem.Spec PyProof.Rows L2
/-! ## 13. the law's box: an object known by what holds of it alone -/
def Stab (b : Addr) (φ : Heap → Prop) : Prop := ∀ h1 h2 : Heap, φ h1 → (∀ o, h1.get? b = some o → h2.get? b = some o) → φ h2
section
variable {P : Program} {w : World} {H : Hp} {h : Heap} {b : Addr} {φ : Heap → Prop} {xs : List V}
theorem hok_swap {o o' : HO} (x : HOk P w H h) (hb : H b = some o) (no : ∀ a, o ≠ .own a) (nt : ∀ xs, o ≠ .tup xs) (new : ObjOk P w (upd H b o') h b o') : HOk P w (upd H b o') h := fun a u e => by
  by_cases ha : a = b
  · subst ha; rw [upd_same] at e; cases e; exact new
  · rw [upd_ne ha] at e
    refine (x a u e).stay (fun _ _ _ q => q) (fun c q => ?_) fun c ys q => ?_
    · rw [upd_ne (fun z => by subst z; rw [hb] at q; exact no a (Option.some.inj q))]; exact q
    · rw [upd_ne (fun z => by subst z; rw [hb] at q; exact nt ys (Option.some.inj q))]; exact q
end
theorem un_swap {fs ex : List Addr} {H H1 H2 H3 : Hp} {h h' : Heap} (u : Un fs ex H1 H2 h h') (k1 : ∀ a, H a = none → H1 a = none) (k2 : ∀ a, H a = none → H2 a = none → H3 a = none)
    (kt : ∀ a xs, H a = some (.tup xs) → H3 a = some (.tup xs)) (kf : ∀ a o x, H a = some (.frz o x) → H3 a = some (.frz o x)) (kb : ∀ a ps, H a = some (.tbl ps) → ∃ more, H3 a = some (.tbl (ps ++ more))) : Un fs ex H H3 h h' where
  keep := fun a o q n => u.keep a o q (k1 a n)
  slot := fun a o q n => u.slot a o q (k1 a n)
  free := fun a o q n x => k2 a n (u.free a o q (k1 a n) x)
  there := u.there
  tups := kt
  frzs := kf
  tbls := kb
section
variable {P : Program} {w : World} {K : PySem.W.Frag} {mg : Str → Option Value} {base : Heap} {k : Nat} {f : Addr} {fd : FuncData} {ps : List Str} {sp0 sp : Sp}
/-- a def over the list at b, for callers that know b by φ -/
theorem FnOk.box (F : FnOk P w K mg base CX0 k f fd ps sp0) (len : ∀ vs H Q E, sp vs H Q E → vs.length = ps.length)
    (hc : ∀ vs H Q E, sp vs H Q E → ∃ (b : Addr) (φ : Heap → Prop), H b = some (.ext φ) ∧ ∀ h, φ h → ∃ xs, ObjOk P w H h b (.lst xs) ∧
      sp0 vs (upd H b (.lst xs)) (fun v H' => ∃ ys, H' b = some (.lst ys) ∧ (∀ h', ObjOk P w H' h' b (.lst ys) → φ h') ∧ (∀ a o, H a = some o → a ≠ b → H' a = some o) ∧ Q v (upd H' b (.ext φ))) E0) : FnOk P w K mg base CX0 k f fd ps sp := by
  refine ⟨len, fun A outer s H args us vs Q E hr e0 hb rv hsp => ?_⟩
  obtain ⟨b, φ, hbo, hc⟩ := hc vs H Q E hsp
  obtain ⟨p, ⟨ob, hob⟩, st⟩ := e0.hok b _ hbo
  obtain ⟨xs, hx, hs0⟩ := hc s.heap p
  have ne : ∀ a, H a = none → a ≠ b := fun a n z => by rw [z, hbo] at n; cases n
  have e1 : Env0 P w K mg base A outer s (upd H b (.lst xs)) := ⟨e0.frames, e0.mod, fun a o q => ⟨(e0.bs a o q).1, by rw [upd_ne (ne a (e0.bs a o q).2)]; exact (e0.bs a o q).2⟩, e0.bsz, e0.funs, fun a ha => by rw [upd_ne (ne a (e0.frf a ha))]; exact e0.frf a ha,
    hok_swap e0.hok hbo (fun _ z => nomatch z) (fun _ z => nomatch z) hx, e0.bare⟩
  refine codeAny_mono (F.run A outer s _ args us vs _ E0 hr e1 hb rv hs0) fun r s' hq => ?_
  cases r with
  | error e => exact hq
  | ok fl =>
    cases fl with
    | ret u =>
      obtain ⟨v, H', os, bare, un, hok, r, ys, hy, hφ, hsm, q⟩ := hq
      refine ⟨v, upd H' b (.ext φ), os, bare, ?_, ?_, r, q⟩
      · refine un_swap un (fun a n => by rw [upd_ne (ne a n)]; exact n) (fun a n n2 => by rw [upd_ne (ne a n)]; exact n2) (fun a ys e => ?_) (fun a o x e => ?_) fun a ps e => ?_
        · have hne : a ≠ b := fun z => by rw [z, hbo] at e; cases e
          rw [upd_ne hne]; exact hsm a _ e hne
        · have hne : a ≠ b := fun z => by rw [z, hbo] at e; cases e
          rw [upd_ne hne]; exact hsm a _ e hne
        · have hne : a ≠ b := fun z => by rw [z, hbo] at e; cases e
          refine ⟨#[], ?_⟩
          rw [upd_ne hne, Array.append_empty]; exact hsm a _ e hne
      · have ox := hok b _ hy
        refine hok_swap hok hy (fun _ z => nomatch z) (fun _ z => nomatch z) ⟨hφ _ ox, ?_, st⟩
        obtain ⟨_, its, n, _, e⟩ := ox
        exact ⟨_, e⟩
    | next => exact hq
    | brk => exact hq
    | cont => exact hq
/-- a def that hands back a new list, for callers that know it by φ -/
theorem FnOk.close (F : FnOk P w K mg base CX0 k f fd ps sp0) (len : ∀ vs H Q E, sp vs H Q E → vs.length = ps.length)
    (hc : ∀ vs H Q E, sp vs H Q E → sp0 vs H (fun v H' => ∃ b ys φ, H b = none ∧ H' b = some (.lst ys) ∧ Same H H' ∧ (∀ h', ObjOk P w H' h' b (.lst ys) → φ h') ∧ Stab b φ ∧ Q v (upd H' b (.ext φ))) E0) : FnOk P w K mg base CX0 k f fd ps sp := by
  refine ⟨len, fun A outer s H args us vs Q E hr e0 hb rv hsp => ?_⟩
  refine codeAny_mono (F.run A outer s _ args us vs _ E0 hr e0 hb rv (hc vs H Q E hsp)) fun r s' hq => ?_
  cases r with
  | error e => exact hq
  | ok fl =>
    cases fl with
    | ret u =>
      obtain ⟨v, H', os, bare, un, hok, r, b, ys, φ, hn, hy, hs, hφ, st, q⟩ := hq
      refine ⟨v, upd H' b (.ext φ), os, bare, ?_, ?_, r, q⟩
      · refine un_swap un (fun _ n => n) (fun a n n2 => by rw [upd_ne (fun z => by rw [z, hy] at n2; cases n2)]; exact n2) (fun a ys e => ?_) (fun a o x e => ?_) fun a ps e => ?_
        · rw [upd_ne (ne_of_none e hn)]; exact hs _ _ e
        · rw [upd_ne (ne_of_none e hn)]; exact hs _ _ e
        · refine ⟨#[], ?_⟩
          rw [upd_ne (ne_of_none e hn), Array.append_empty]; exact hs _ _ e
      · have ox := hok b _ hy
        refine hok_swap hok hy (fun _ z => nomatch z) (fun _ z => nomatch z) ⟨hφ _ ox, ?_, st⟩
        obtain ⟨_, its, n, _, e⟩ := ox
        exact ⟨_, e⟩
    | next => exact hq
    | brk => exact hq
    | cont => exact hq
end
/-- what the box holds: the cells, the place, a great rest, a mixed number, a count -/
structure BoxV (c : Addr) (xs : List V) : Prop where
  ex : ∃ i g m k : Int, xs = [.ref c, .int i, .int g, .int m, .int k] ∧ 0 ≤ i ∧ 0 ≤ g ∧ 0 ≤ m ∧ m < 2147483648 ∧ 0 ≤ k
def boxPhi (b c : Addr) : Heap → Prop := fun h => ∃ (xs : List V) (its : List Value) (n : Nat), BoxV c xs ∧ Vals xs its ∧ h.get? b = some { cls := .type "list", data := .seq its.toArray n }
theorem box_stab {b c : Addr} : Stab b (boxPhi b c) := fun h1 h2 ⟨xs, its, n, hx, r, e⟩ k => ⟨xs, its, n, hx, r, k _ e⟩
theorem box_of {P : Program} {w : World} {H : Hp} {h : Heap} {b c : Addr} {xs : List V} (hx : BoxV c xs) (o : ObjOk P w H h b (.lst xs)) : boxPhi b c h := by
  obtain ⟨_, its, n, r, e⟩ := o
  exact ⟨xs, its, n, hx, r, e⟩
theorem of_box {P : Program} {w : World} {H : Hp} {h : Heap} {b c : Addr} (p : boxPhi b c h) : ∃ xs, BoxV c xs ∧ ObjOk P w H h b (.lst xs) := by
  obtain ⟨xs, its, n, hx, r, e⟩ := p
  refine ⟨xs, hx, ?_, its, n, r, e⟩
  obtain ⟨i, g, m, k, rfl, _⟩ := hx.ex
  show 5 ≤ 16777216
  decide
/-- v is a box -/
def BX : V → Hp → Prop := fun v S => ∃ (b c : Addr) (ns : List Int), v = .ref b ∧ b ≠ c ∧ S b = some (.ext (boxPhi b c)) ∧ S c = some (.lst (ns.map V.int)) ∧ ns.length ≤ 63
instance : Mn BX := ⟨fun s ⟨b, c, ns, e, n, h1, h2, l⟩ => ⟨b, c, ns, e, n, s _ _ h1, s _ _ h2, l⟩⟩
/-- a def over the box and data: any of what G tells may come back -/
def spB (K : PySem.W.Frag) (F : List PyData → (PyData → Prop) → Prop) : Sp := fun vs H Q _ => ∃ S v ws ds G, vs = v :: ws ∧ Same S H ∧ BX v S ∧ Dts K ds ws S ∧ F ds G ∧ ∀ d, G d → ∀ u S' H', Gr S H S' H' → Dt K d u S' → Q u H'
section
variable {X : Cx} {σ : L2.St} {S S' : Hp} {e a b c : Expr} {es : List Expr} {P R : V → Hp → Prop} {Ps : List (V → Hp → Prop)} {pos p : Pos} {k : Nat} {x : Str} {sp : Sp} {d : PyData} {ds : List PyData}
theorem spB_E {F : List PyData → (PyData → Prop) → Prop} {G : PyData → Prop} (hF : F ds G) : SpE (spB X.K F) S (BX :: Ds X.K ds) (Ex X.K G) := fun vs S1 H1 _ s al Q q => by
  cases al with
  | cons p r => exact ⟨S1, _, _, ds, G, rfl, s, p, al_dts r, hF, fun d hd u S' H' g pd => q u S' H' g ⟨d, hd, pd⟩⟩
theorem ee_callBx {F : List PyData → (PyData → Prop) → Prop} {G : PyData → Prop} (D : KD X.prog X.w X.K X.mg X.base x k (spB X.K F)) (hr : Room k X.A) (hF : F ds G) (ha : EA X σ S (e :: es) (BX :: Ds X.K ds)) (hg : Gl X x := by rfl) (hdb : (x == ("__debug__" : Str)) = false := by decide)
    (he : starEach (e :: es) X.env = (false, eval e X.env) :: starEach es X.env := by rfl) (hpl : (backTo pos (starEach es X.env)).any (·.1) = false := by rfl) : EE X σ S (.Call (.Name x p) (e :: es) [] pos) (Ex X.K G) :=
  ee_call D hr ha (spB_E hF) hg hdb he hpl
/-! ### what is not fixed, taken on -/
theorem ex_imp {K : PySem.W.Frag} {F G : PyData → Prop} {v : V} {S : Hp} (h : Ex K F v S) (f : ∀ d, F d → G d) : Ex K G v S := by
  obtain ⟨d, hd, p⟩ := h
  exact ⟨d, f d hd, p⟩
theorem EE.ex {F : PyData → Prop} (h : EE X σ S e (Dt X.K d)) (f : F d) : EE X σ S e (Ex X.K F) := h.imp fun v S' p => ⟨d, f, p⟩
theorem EE.exi {F G : PyData → Prop} (h : EE X σ S e (Ex X.K F)) (f : ∀ d, F d → G d) : EE X σ S e (Ex X.K G) := h.imp fun v S' p => ex_imp p f
inductive AllF : List (PyData → Prop) → List PyData → Prop
  | nil : AllF [] []
  | cons {F : PyData → Prop} {Fs : List (PyData → Prop)} {d : PyData} {ds : List PyData} : F d → AllF Fs ds → AllF (F :: Fs) (d :: ds)
theorem AllF.len {Fs : List (PyData → Prop)} {ds : List PyData} (h : AllF Fs ds) : ds.length = Fs.length := by
  induction h with
  | nil => rfl
  | cons _ _ ih => simp [ih]
end
end Z
namespace Z
open PySem PySem.Spec PyProof.Rows L2
/-! ### lists that change -/
section
variable {X : Cx} {σ : L2.St} {S H : Hp} {e o i : Expr} {P : V → Hp → Prop} {pos pos' : Pos} {D : Ends} {rest : List Stmt} {b : Addr} {xs : List V} {k : Int} {j : Nat} {v : V}
/-- o[i] = e -/
theorem hs_setL [Mn P] (he : EE X σ H e P) (ho : EE X σ H o (fun w _ => w = .ref b)) (hi : EE X σ H i (Dt X.K (.int k))) (hb : H b = some (.lst xs)) (hk : ixN xs.length k = some j)
    (q : ∀ v H', Same H H' → P v H' → HS X D rest σ (upd H' b (.lst (xs.set j v))))
    (ha : ∀ v, assign (.Subscript o i pos') X.env v = (do
      let ov ← holding [v] (eval o X.env)
      let iv ← holding [v, ov] (eval i X.env)
      standAt pos'
      holding [v, ov, iv] (setItem ov iv v)
      release [v, ov, iv] []) := by intro _; rfl)
    (hs : swapsWithSole [.Subscript o i pos'] e pos.line X.env = pure false := by rfl) (hw : swappedStores [.Subscript o i pos'] e X.env = pure none := by rfl)
    (h1 : (assignEach [.Subscript o i pos'] X.env).map (·.2) = [assign (.Subscript o i pos') X.env] := by rfl) : HS X D (.Assign [.Subscript o i pos'] e pos :: rest) σ H :=
  hs_cons (ps_asg peb (pg_sub peb peb set_list ha) hs hw h1) (he H (Same.refl H) _ fun v S1 H1 g1 pv => ho H1 g1.hh _ fun w S2 H2 g2 pw => hi H2 (g1.hh.trans g2.hh) _ fun u S3 H3 g3 pu => by
    subst pw
    cases pu
    have s3 := (g1.hh.trans g2.hh).trans g3.hh
    exact ⟨b, xs, k, j, rfl, rfl, s3 _ _ hb, hk, q v H3 s3 (Mn.up (g1.sub.trans (g2.hh.trans g3.hh)) pv)⟩)
/-- an item of such a list -/
theorem ee_ixB (hb : S b = some (.lst xs)) (ho : EE X σ S o (fun w _ => w = .ref b)) (hi : EE X σ S i (Dt X.K (.int k))) (hx : atI xs k = some v) (hp : ∀ S', Same S S' → P v S') (hs : PlainIx i := by exact fun _ _ => rfl) : EE X σ S (.Subscript o i pos) P := by
  haveI := mn_eq (v := .ref b)
  exact ee_2 (pe_ix ix_list peb peb hs) ho hi fun x y S1 H1 s0 s px py Q q => by
    subst px
    cases py
    exact ⟨b, xs, k, v, rfl, rfl, sql_of (s _ _ (s0 _ _ hb)), hx, q _ S1 H1 (Gr.refl s) (hp S1 s0)⟩
end
end Z
namespace Z
open PySem PySem.Spec PyProof.Rows L2
/-- an if whose ways meet in M, told of the whole heap -/
theorem hs_ifR {X : Cx} {σ : L2.St} {S H : Hp} {c : Expr} {pos : Pos} {D : Ends} {rest body orelse : List Stmt} {k : Bool} (M : L2.St → Hp → Prop) (h : ET X σ S c k) (s : Same S H) (qt : k = true → ∀ S' H', Gr S H S' H' → HS X { D with nx := M } body σ H') (qf : k = false → ∀ S' H', Gr S H S' H' → HS X { D with nx := M } orelse σ H')
    (h2 : ∀ σ' H', M σ' H' → HS X D rest σ' H') : HS X D (.If c body orelse pos :: rest) σ H :=
  hs_cons (ps_if ptb psb psb) (h H s _ fun S' H' g => by
    have key : ∀ st, HS X { D with nx := M } st σ H' → HS X (Dn X D rest) st σ H' := fun st z => hs_mono z (fun σ' H2 m => h2 σ' H2 m) (fun _ _ z => z) (fun _ _ z => z) (fun _ _ z => z)
    cases k with
    | true => exact iteT (key _ (qt rfl S' H' g))
    | false => exact iteF (key _ (qf rfl S' H' g)))
theorem ee_mulS {X : Cx} {σ : L2.St} {S : Hp} {a b : Expr} {pos : Pos} {i j : Int} (hc : CMul i j) (ha : EE X σ S a (Dt X.K (.int i))) (hb : EE X σ S b (Dt X.K (.int j))) : EE X σ S (.BinOp a .Mult b pos) (Dt X.K (.int (i * j))) := ee_op op_mul ha hb (opE_I hc fun _ => .int _)
end Z
namespace Z
open PySem PySem.Spec PyProof.Rows L2
/-! ## 14. more rules -/
section
variable {X : Cx} {σ : L2.St} {S S' : Hp} {e a b c o elt tg iter : Expr} {es : List Expr} {P R : V → Hp → Prop} {Ps : List (V → Hp → Prop)} {pos p px : Pos} {k : Bool} {x y : Str} {d d1 d2 : PyData} {ds ds1 ds2 : List PyData} {i j : Nat} {n : Int} {scope : Scope} {own : List (Str × Nat)} {D : Ends} {rest : List Stmt}
/-- xs[i], i any place of the list -/
theorem atI_nat {xs : List PyData} {n : Int} (h0 : 0 ≤ n) (h1 : n < (xs.length : Int)) : ∃ d, d ∈ xs ∧ atI xs n = some d := by
  refine ⟨xs[n.toNat]'(by omega), List.getElem_mem _, ?_⟩
  unfold atI ixN
  rw [if_pos h0, if_pos h1]
  exact List.getElem?_eq_getElem _
theorem ee_ixE (ha : EE X σ S a (Dt X.K (.list ds))) (hb : EE X σ S b (Ex X.K fun d => ∃ n, d = .int n ∧ 0 ≤ n ∧ n < (ds.length : Int))) (hs : PlainIx b := by exact fun _ _ => rfl) : EE X σ S (.Subscript a b pos) (Ex X.K fun d => d ∈ ds) :=
  ee_2 (pe_ix ix_list peb peb hs) ha hb fun x y S1 H1 _ s px ⟨d, ⟨n, e, n0, n1⟩, py⟩ Q q => by
    subst e
    cases py
    obtain ⟨l, xs, rfl, hl, hx, z⟩ := px.lst_inv
    obtain ⟨d, hd, he⟩ := atI_nat n0 n1
    obtain ⟨x, h1, h2⟩ := atI_dts hx he
    exact ⟨l, xs, n, x, rfl, rfl, sql_of (s _ _ hl), h1, q _ S1 H1 (Gr.refl s) ⟨d, hd, h2⟩⟩
/-- n in (a, b, ..) -/
theorem inV_int (n : Int) : ∀ ns : List Int, inV (.int n) (ns.map V.int) = ns.contains n
  | [] => rfl
  | m :: ns => by
    unfold inV
    rw [List.map_cons, List.any_cons]
    have h := inV_int n ns
    unfold inV at h
    rw [h, List.contains_cons]
    show (m == n || _) = _
    rw [show (m == n) = (n == m) by
      by_cases e : m = n
      · rw [e]
      · rw [beq_false_of_ne e, beq_false_of_ne (Ne.symm e)]]
theorem flat_ints (ns : List Int) : (ns.map V.int).all flatV = true := by
  induction ns with
  | nil => rfl
  | cons n ns ih => rw [List.map_cons, List.all_cons, ih]; rfl
theorem opE_inT {K : PySem.W.Frag} {ns : List Int} : OpE (rIn K false) S (Dt K (.int n)) (Dt K (.tuple (ns.map .int))) (Dt K (.bool (ns.contains n))) := fun v w S1 H1 _ s pv pw Q q => by
  cases pv
  obtain ⟨l, xs, rfl, hl, hx, z⟩ := pw.tup_inv
  rw [dts_int hx] at hl
  refine ⟨l, ns.map V.int, rfl, .inr (sqt_up s hl), rfl, flat_ints ns, ?_⟩
  rw [if_neg Bool.false_ne_true, inV_int]
  exact q _ S1 H1 (Gr.refl s) (.bl _)
theorem et_inT {ns : List Int} (ha : EE X σ S a (Dt X.K (.int n))) (hb : EE X σ S b (Dt X.K (.tuple (ns.map .int)))) (hm : behindInMarks .In b = false := by rfl) : ET X σ S (.Compare a [.In] [b] pos) (ns.contains n) := et_cmp op_in_seq ha hb opE_inT hm
/-- e.index(True) of a list of bools -/
theorem ee_indexT {bs : List Bool} {j : Nat} {apos : Pos} (hj : bs[j]? = some true) (hno : ∀ m, m < j → bs[m]? = some false) (ha : EE X σ S a (Dt X.K (.list (bs.map .bool)))) (hb : EE X σ S b (Dt X.K (.bool true)))
    (hbase : attributeBase a "index" X.env (eval a X.env) = eval a X.env := by rfl)
    (hfew : ((backTo pos (starEach [b] X.env)).all (fun x => !x.1) && (backToKw pos (keywordEach [] X.env)).all (fun x => x.1.isSome) && decide (([b] : List Expr).length + ([] : List Keyword).length + (if ([] : List Keyword).isEmpty then 0 else 1) < 30)) = true := by rfl)
    (hline : (apos.endLine == pos.line) = true := by rfl) (hs : starEach [b] X.env = (false, eval b X.env) :: starEach [] X.env := by rfl) (hplain : (backTo pos (starEach [] X.env)).any (·.1) = false := by rfl) :
    EE X σ S (.Call (.Attribute a "index" apos) [b] [] pos) (Dt X.K (.int (j : Nat))) := fun H s Q q =>
  he_of (pe_bm PySem.F.plainAttrs_list PySem.F.slot_list_index PySem.F.type_list_index mt_index peb pab hbase hfew hline hs hplain) (ha H s _ fun v S1 H1 g1 pv => by
    obtain ⟨l, xs, rfl, hl, hx, z⟩ := pv.lst_inv
    have e := dts_bl hx
    subst e
    refine ⟨.inl ⟨rfl, _, sql_of (g1.sub _ _ hl)⟩, ((ea_1 hb hs).up g1.st).2 H1 g1.sub _ fun vs S2 H2 g2 al => ?_⟩
    obtain ⟨w, rfl, pw⟩ := al.one
    cases pw
    refine ⟨l, bs.map V.bl, .bl true, j, .bl true, rfl, rfl, sql_of (g2.hh _ _ (g1.sub _ _ hl)), rfl, ?_, ?_, rfl, fun m z' hm hz => ?_, q _ S2 H2 (g1.trans g2) (.int _)⟩
    · rw [List.all_map]; exact List.all_eq_true.mpr fun b _ => rfl
    · rw [List.getElem?_map, hj]; rfl
    · rw [List.getElem?_map, hno m hm] at hz
      cases hz
      rfl)
theorem AllF.one {F : PyData → Prop} {ds : List PyData} (h : AllF [F] ds) : ∃ d, ds = [d] ∧ F d := by
  cases h with
  | cons f r => cases r; exact ⟨_, rfl, f⟩
theorem AllF.two {F G : PyData → Prop} {ds : List PyData} (h : AllF [F, G] ds) : ∃ d e, ds = [d, e] ∧ F d ∧ G e := by
  cases h with
  | cons f r => obtain ⟨e, rfl, g⟩ := r.one; exact ⟨_, _, rfl, f, g⟩
end
end Z
namespace Z
open PySem PySem.Spec PyProof.Rows L2 PySem.Froz
/-! ## 15. set(text), a text of different ascii signs -/
section
end
end Z
namespace Y
open PySem PySem.Spec PyProof.Rows L2 Z
/-! ## enumerate over a tuple -/
section
end
end Y
namespace Y
open PySem PySem.Spec PyProof.Rows L2 Z
/-! ## own classes -/
/-- a known method -/
structure KM (P : Program) (w : World) (K : PySem.W.Frag) (mg : Str → Option Value) (base : Heap) (C : Addr) (m : Str) (k : Nat) (sp : Sp) : Prop where
  ex : ∃ f fd ps, FnOk P w K mg base CX0 k f fd ps sp ∧ PySem.W.findIn K (.ref C) m = some (some (.ref f)) ∧ PySem.W.isFn K (.ref f) = true ∧ PySem.W.keepIn K (.ref f) = true ∧ Binds K fd ps []
theorem KM.mono {P : Program} {w : World} {K : PySem.W.Frag} {mg : Str → Option Value} {base : Heap} {C : Addr} {m : Str} {j k : Nat} {sp : Sp} (h : KM P w K mg base C m j sp) (hk : j ≤ k) : KM P w K mg base C m k sp := by
  obtain ⟨f, fd, ps, F, r⟩ := h.ex
  exact ⟨f, fd, ps, F.mono hk, r⟩
section
end
section
open PySem.W
end
end Y
namespace Y
open PySem PySem.Spec PyProof.Rows L2 Z
section
end
/-! ## a new instance -/
structure GrI (a : Addr) (S H S' H' : Hp) : Prop where
  st : Same S S'
  sub : Same S' H'
  hh : ∀ z o, z ≠ a → H z = some o → H' z = some o
  old : ∀ z o, z ≠ a → H z = some o → NT o → S' z = S z
/-- a thing whose part at l is new -/
def NewR (R : Addr → V → Hp → Prop) (S : Hp) : V → Hp → Prop := fun v S' => ∃ l, S l = none ∧ R l v S'
instance {R : Addr → V → Hp → Prop} {S : Hp} [h : ∀ l, Mn (R l)] : Mn (NewR R S) := ⟨fun s ⟨l, a, b⟩ => ⟨l, a, (h l).up s b⟩⟩
theorem GrI.put {a : Addr} {S H S1 H1 : Hp} {o : HO} (i : GrI a S H S1 H1) (h : S a = none) : GrI a S H (upd S1 a o) (upd H1 a o) :=
  ⟨fun z u e => by
    have ne : z ≠ a := fun q => by subst q; rw [h] at e; cases e
    rw [upd_ne ne]; exact i.st z u e, fun z u e => by
    by_cases ne : z = a
    · subst ne; rw [upd_same] at e ⊢; exact e
    · rw [upd_ne ne] at e ⊢; exact i.sub z u e, fun z u n e => by rw [upd_ne n]; exact i.hh z u n e, fun z u n e m => by rw [upd_ne n]; exact i.old z u n e m⟩
section
end
end Y
namespace Y
open PySem PySem.Spec PyProof.Rows L2 Z
section
variable {X : Cx} {σ : L2.St} {S S' H : Hp} {e a b c o : Expr} {es : List Expr} {P Pa Pb P0 R : V → Hp → Prop} {Ps : List (V → Hp → Prop)} {pos p apos : Pos} {i j l : Int} {d : PyData} {ds : List PyData} {k : Bool}
/-- list(a): a new list -/
def NewL (K : PySem.W.Frag) (S : Hp) (ds : List PyData) : V → Hp → Prop := fun v S' => ∃ l xs, v = .ref l ∧ S l = none ∧ S' l = some (.lst xs) ∧ Dts K ds xs S' ∧ xs.length ≤ sizeLine
instance {K : PySem.W.Frag} {S : Hp} {ds : List PyData} : Mn (NewL K S ds) := ⟨fun s ⟨l, xs, e, h, h1, h2, z⟩ => ⟨l, xs, e, h, s _ _ h1, h2.up s, z⟩⟩
end
end Y
namespace Y
open PySem PySem.Spec PyProof.Rows L2 Z
section
variable {X : Cx} {σ : L2.St} {S S' H : Hp} {e a b c o : Expr} {es : List Expr} {P Pa Pb P0 P1 R : V → Hp → Prop} {Ps : List (V → Hp → Prop)} {pos p apos kpos : Pos} {i j l : Int} {d : PyData} {ds ds1 ds2 : List PyData} {k : Nat} {x m f kn : Str} {sp : Sp} {C dx r : Addr} {D : Ends} {rest : List Stmt}
/-! ### o.m(k = e) -/
/-! ### a def with a star parameter -/
/-! ### f-strings -/
inductive EJ (X : Cx) (σ : L2.St) (S : Hp) : List Expr → List Str → Prop
  | nil : EJ X σ S [] []
  | cons {e : Expr} {es : List Expr} {y : Str} {ys : List Str} : EE X σ S e (Dt X.K (.str y)) → EJ X σ S es ys → EJ X σ S (e :: es) (y :: ys)
theorem EJ.run {es : List Expr} {ys : List Str} (h : EJ X σ S es ys) : ∀ (acc : Str) (S1 H1 : Hp) (Q : Str → Hp → Prop), Same S S1 → Same S1 H1 → acc.length + (ys.map (·.length)).sum ≤ sizeLine → (∀ S2 H2, Gr S1 H1 S2 H2 → Q (ys.foldl (· ++ ·) acc) H2) → tJs (es.map (bE X)) acc σ H1 Q := by
  induction h with
  | nil => intro acc S1 H1 Q _ s _ q; exact q S1 H1 (Gr.refl s)
  | @cons e es y ys he _ ih =>
    intro acc S1 H1 Q st s hz q
    rw [List.map_cons, List.sum_cons] at hz
    have el : (acc ++ y).length = acc.length + y.length := by
      show (acc.cps ++ y.cps).size = _
      rw [Array.size_append]; rfl
    refine (he.up st) H1 s _ fun v S2 H2 g2 pv => ?_
    cases pv
    exact ⟨y, rfl, by rw [el]; omega, ih (acc ++ y) S2 H2 Q (st.trans g2.st) g2.sub (by rw [el]; omega) fun S3 H3 g3 => q S3 H3 (g2.trans g3)⟩
/-! ### [*a, *b] -/
/-! ### a new list is changed -/
def del (S : Hp) (l : Addr) : Hp := fun a => if a = l then none else S a
theorem del_self {S : Hp} {l : Addr} : del S l l = none := by unfold del; rw [if_pos rfl]
theorem del_ne {S : Hp} {l a : Addr} (h : a ≠ l) : del S l a = S a := by unfold del; rw [if_neg h]
theorem Gr.cut {Sb Hb S H : Hp} {l : Addr} {o : HO} (g : Gr Sb Hb S H) (sb : Same Sb Hb) (h : Hb l = none) : Gr Sb Hb (del S l) (upd H l o) := by
  have hs : Sb l = none := sb.free h
  exact ⟨fun a u e => by
    have ne : a ≠ l := fun z => by subst z; rw [hs] at e; cases e
    rw [del_ne ne]; exact g.st a u e, fun a u e => by
    by_cases ne : a = l
    · subst ne; rw [del_self] at e; cases e
    · rw [del_ne ne] at e; rw [upd_ne ne]; exact g.sub a u e, fun a u e => by
    have ne : a ≠ l := fun z => by subst z; rw [h] at e; cases e
    rw [upd_ne ne]; exact g.hh a u e, fun a u e m => by
    have ne : a ≠ l := fun z => by subst z; rw [h] at e; cases e
    rw [del_ne ne]; exact g.old a u e m⟩
end
end Y
namespace Y
open PySem PySem.Spec PyProof.Rows L2 Z
section
end
end Y
namespace Y
open PySem PySem.Spec PyProof.Rows L2 Z
end Y
namespace Y
open PySem PySem.Spec PyProof.Rows L2 Z
/-! ## own errors -/
/-- what the __init__ of an own error promises: its field, its code -/
def spXI (C : Addr) (fname code : Str) : Sp := fun vs H Q _ => ∃ a v, vs = [.ref a, v] ∧ H a = some (exo a C none) ∧ ∀ dx, H dx = none → dx ≠ a → Q .non (upd (upd (upd H dx (exd dx [(fname, v)])) a (exo a C (some dx))) dx (exd dx [("code", .str code), (fname, v)]))
section
end
end Y
namespace Y
open PySem PySem.Spec PyProof.Rows L2 Z
/-! ## try: .. except (A, B, C) as e: .. (the outline of the catch follows HandS.Exc's ps_try_as) -/
def bS (X : Cx) (st : Stmt) : TS := fun D σ H => ∀ (pins : List (Addr × Obj)) (s : Shared), Inv X pins σ H s → wpAny (model X.prog X.w) X.A (exec st X.env) (SP X pins D) X.xe s
end Y
namespace Y
open PySem PySem.Spec PyProof.Rows L2 Z
/-! ## objects shown to a call: untracked ones, told by their objects while the call runs -/
def shown (H : Hp) (a : Addr) (o : Obj) : Hp := upd H a (.frz o (.ext fun _ => True))
def shownL (H : Hp) : List (Addr × Obj) → Hp
  | [] => H
  | p :: L => shown (shownL H L) p.1 p.2
def delL (H : Hp) : List (Addr × Obj) → Hp
  | [] => H
  | p :: L => delL (L2.del H p.1) L
section
variable {P : Program} {w : World} {H H1 : Hp} {h h1 B : Heap} {a b : Addr} {o : Obj} {u : HO} {fs : List Addr}
theorem shown_same : shown H a o a = some (.frz o (.ext fun _ => True)) := upd_same
theorem shown_ne (hb : b ≠ a) : shown H a o b = H b := upd_ne hb
theorem shown_hok (x : HOk P w H h) (n : H a = none) (e : h.get? a = some o) : HOk P w (shown H a o) h := fun b v q => by
  by_cases hb : b = a
  · subst hb
    rw [shown_same] at q
    cases q
    exact ⟨e, trivial, ⟨o, e⟩, fun _ _ _ _ => trivial⟩
  · rw [shown_ne hb] at q
    exact (x b v q).stay (fun _ _ _ z => z) (fun c z => (shown_ne (ne_of_none z n)).trans z) (fun c xs z => (shown_ne (ne_of_none z n)).trans z)
end
/-- a thing that may be shown at this state -/
structure Show (base : Heap) (outer : List Env) (H : Hp) (s : Shared) (a : Addr) (o : Obj) : Prop where
  ob : s.heap.get? a = some o
  no : H a = none
  nf : a ∉ frs outer
  nb : base.get? a = none
theorem Show.skip {base : Heap} {outer : List Env} {H : Hp} {s : Shared} {a b : Addr} {o p : Obj} (x : Show base outer H s a o) (h : a ≠ b) : Show base outer (shown H b p) s a o := ⟨x.ob, (shown_ne h).trans x.no, x.nf, x.nb⟩
theorem Show.list {base : Heap} {outer : List Env} {H : Hp} {s : Shared} {a : Addr} {o : Obj} (x : Show base outer H s a o) : ∀ {L : List (Addr × Obj)}, a ∉ L.map (·.1) → Show base outer (shownL H L) s a o
  | [], _ => x
  | p :: L, h => by
    simp only [List.map_cons, List.mem_cons, not_or] at h
    exact (x.list h.2).skip h.1
section
end
section
end
end Y
namespace Y
open PySem PySem.Spec PyProof.Rows L2 Z
/-! ## the other way: shown things are taken out for a call (the cells of a closure) -/
abbrev Tr : HO := .ext fun _ => True
section
variable {P : Program} {w : World} {H H1 : Hp} {h h1 B : Heap} {a b : Addr} {o : Obj} {u : HO} {fs : List Addr}
theorem unshow_un (U : Un fs [] (L2.del H a) H1 h h1) (hH : H a = some (.frz o Tr)) : Un fs [] H (shown H1 a o) h h1 := by
  have ne : ∀ b v, H b = some v → (∀ p q, v ≠ .frz p q) → b ≠ a := fun b v e q z => by
    rw [z, hH] at e; cases e; exact q _ _ rfl
  have nn : ∀ b, H b = none → b ≠ a := fun b e z => by rw [z, hH] at e; cases e
  refine ⟨fun b ob q nb hf hx => U.keep b ob q ((L2.del_ne (nn b nb)).trans nb) hf hx, fun b ob q nb hf hx => U.slot b ob q ((L2.del_ne (nn b nb)).trans nb) hf hx, fun b ob q nb hx => (shown_ne (nn b nb)).trans (U.free b ob q ((L2.del_ne (nn b nb)).trans nb) hx), U.there, fun b xs q => ?_, fun b ob v q => ?_, fun b ps q => ?_⟩
  · have hb := ne b _ q fun _ _ z => by cases z
    exact (shown_ne hb).trans (U.tups b xs ((L2.del_ne hb).trans q))
  · by_cases hb : b = a
    · subst hb; rw [hH] at q; cases q; exact shown_same
    · exact (shown_ne hb).trans (U.frzs b ob v ((L2.del_ne hb).trans q))
  · have hb := ne b _ q fun _ _ z => by cases z
    obtain ⟨m, z⟩ := U.tbls b ps ((L2.del_ne hb).trans q)
    exact ⟨m, (shown_ne hb).trans z⟩
end
/-- a thing that is shown here -/
structure Shown (outer : List Env) (H : Hp) (s : Shared) (a : Addr) (o : Obj) : Prop where
  at_ : H a = some (.frz o Tr)
  ob : s.heap.get? a = some o
  nf : a ∉ frs outer
theorem Shown.skip {outer : List Env} {H : Hp} {s : Shared} {a b : Addr} {o : Obj} (x : Shown outer H s a o) (n : a ≠ b) : Shown outer (L2.del H b) s a o := ⟨(L2.del_ne n).trans x.at_, x.ob, x.nf⟩
/-- what leaves a call by an exception bears that a hidden thing is shown again -/
structure Bares (P : Program) (w : World) (CX : CXT) : Prop where
  mono : ∀ (outer : List Env) (H : Hp) (s : Shared) (E E' : XK) (u : Value) (s' : Shared), (∀ c d H', E c d H' → E' c d H') → CX outer H s E u s' → CX outer H s E' u s'
  show_ : ∀ (outer : List Env) (H : Hp) (a : Addr) (o : Obj) (s : Shared) (E : XK) (u : Value) (s' : Shared), Shown outer H s a o → CX outer (L2.del H a) s (fun cls d H' => H' a = none → E cls d (shown H' a o)) u s' → CX outer H s E u s'
theorem shownL_ne {b : Addr} : ∀ {L : List (Addr × Obj)} {H : Hp}, b ∉ L.map (·.1) → shownL H L b = H b
  | [], _, _ => rfl
  | p :: L, H, h => by
    rw [List.map_cons, List.mem_cons, not_or] at h
    exact (shown_ne h.1).trans (shownL_ne h.2)
section
variable {P : Program} {w : World} {K : PySem.W.Frag} {mg : Str → Option Value} {base : Heap} {A : Around} {outer : List Env} {s : Shared} {H : Hp} {a : Addr} {o : Obj} {CX : CXT} {c : Code} {Q : VK} {E : XK}
theorem bare (hd : Bares P w CX) (x : Shown outer H s a o) (h : codeAny (model P w) A c (CR CX outer P w (L2.del H a) s (fun v H' => H' a = none → Q v (shown H' a o)) (fun cls d H' => H' a = none → E cls d (shown H' a o))) s) : codeAny (model P w) A c (CR CX outer P w H s Q E) s := by
  refine codeAny_mono h fun r s' hq => ?_
  cases r with
  | error u => exact hd.show_ _ _ _ _ _ _ _ _ x hq
  | ok fl =>
    cases fl with
    | ret u =>
      obtain ⟨v, H', os, br, un, hok, r, q⟩ := hq
      have e1 : s'.heap.get? a = some o := un.keep a o x.ob L2.del_same x.nf (by simp)
      have n1 : H' a = none := un.free a o x.ob L2.del_same (by simp)
      exact ⟨v, shown H' a o, os, br, unshow_un un x.at_, shown_hok hok n1 e1, r, q n1⟩
    | next => exact False.elim hq
    | brk => exact False.elim hq
    | cont => exact False.elim hq
theorem cr_mono {Q' : VK} {E' : XK} (hd : Bares P w CX) (hQ : ∀ v H', Q v H' → Q' v H') (hE : ∀ c d H', E c d H' → E' c d H') (h : codeAny (model P w) A c (CR CX outer P w H s Q E) s) : codeAny (model P w) A c (CR CX outer P w H s Q' E') s := by
  refine codeAny_mono h fun r s' hq => ?_
  cases r with
  | error u => exact hd.mono _ _ _ _ _ _ _ hE hq
  | ok fl =>
    cases fl with
    | ret u =>
      obtain ⟨v, H', os, br, un, hok, r, q⟩ := hq
      exact ⟨v, H', os, br, un, hok, r, hQ _ _ q⟩
    | next => exact hq
    | brk => exact hq
    | cont => exact hq
theorem bareL (hd : Bares P w CX) : ∀ {L : List (Addr × Obj)} {H : Hp} {Q : VK} {E : XK}, (∀ p ∈ L, Shown outer H s p.1 p.2) → (L.map (·.1)).Nodup → codeAny (model P w) A c (CR CX outer P w (delL H L) s (fun v H' => (∀ p ∈ L, H' p.1 = none) → Q v (shownL H' L)) (fun cls d H' => (∀ p ∈ L, H' p.1 = none) → E cls d (shownL H' L))) s → codeAny (model P w) A c (CR CX outer P w H s Q E) s
  | [], _, _, _, _, _, h => cr_mono hd (fun v H' q => q (fun p hp => by cases hp)) (fun cl d H' q => q (fun p hp => by cases hp)) h
  | p :: L, H, Q, E, x, nd, h => by
    rw [List.map_cons, List.nodup_cons] at nd
    refine bare hd (x p List.mem_cons_self) (bareL hd (fun q hq => (x q (List.mem_cons_of_mem _ hq)).skip fun z => nd.1 (by rw [← z]; exact List.mem_map_of_mem hq)) nd.2 (cr_mono hd (fun v H' q q1 q2 => q fun r hr => ?_) (fun cl d H' q q1 q2 => q fun r hr => ?_) h))
    · rcases List.mem_cons.mp hr with e | e
      · rw [e]; rw [shownL_ne nd.1] at q2; exact q2
      · exact q1 r e
    · rcases List.mem_cons.mp hr with e | e
      · rw [e]; rw [shownL_ne nd.1] at q2; exact q2
      · exact q1 r e
end
section
end
end Y
namespace Y
open PySem PySem.Spec PyProof.Rows L2 Z LamX NdefX
/-! ## lambdas that are kept: what one promises, called wherever (after HandS.Nested's nok_of and HandS.Lambda's pe_act) -/
/-- a lambda: its words, the cells that it captured, its code object, its defaults' tuple -/
structure LF where
  qual : Str
  params : Arguments
  body : Expr
  scope : Scope
  cl : List (Str × Addr)
  c : Addr
  dT : Option Addr
abbrev LF.nf (F : LF) : NF := ⟨"<lambda>", F.qual, F.params, [], F.scope, F.cl, F.c⟩
abbrev LF.fd (F : LF) (pm ctv : Value) : FuncData := { PySem.W.kla_fn "<lambda>" F.qual F.params F.body F.scope F.cl pm (.ref F.c) ctv with defaults := F.dT.elim .none .ref }
/-- the object at f is the lambda F -/
def LamO (f : Addr) (F : LF) : HO := .ext fun h => ∃ (pm ctv : Value), h.get? f = some ({ cls := .type "function", data := .func (F.fd pm ctv) } : Obj)
/-- its defaults stand in H -/
def LDef (F : LF) (dvs : List V) (H : Hp) : Prop := (F.dT = none → dvs = []) ∧ ∀ T, F.dT = some T → H T = some (.tup dvs)
/-- the promise of the lambda F at f: sp ws, ws what its captured cells hold at the call -/
structure LOk (P : Program) (w : World) (K : PySem.W.Frag) (mg : Str → Option Value) (base : Heap) (CX : CXT) (k : Nat) (f : Addr) (F : LF) (fr : List Str) (dvs : List V) (sp : List (Option V) → Hp → VK → XK → Prop) : Prop where
  run : ∀ (A : Around) (outer : List Env) (s : Shared) (H : Hp) (ws : List (Option V)) (Q : VK) (E : XK), Room k A → Env0 P w K mg base A outer s H → H f = some (LamO f F) → H F.c = some (CodeO F.c F.qual) → LDef F dvs H →
    CellsAt F.cl fr ws s.heap H → sp ws H Q E → codeAny (model P w) A (.call (.ref f) ⟨[], []⟩) (CR CX outer P w H s Q E) s
section
variable {CX : CXT} {P : Program} {w : World} {K : PySem.W.Frag} {mg : Str → Option Value} {base : Heap} {N ps fr : List Str} {F : LF} {f : Addr} {k j : Nat} {dvs : List V} {sp : List (Option V) → Hp → VK → XK → Prop}
theorem LOk.mono (o : LOk P w K mg base CX j f F fr dvs sp) (h : j ≤ k) : LOk P w K mg base CX k f F fr dvs sp := ⟨fun A outer s H ws Q E hr => o.run A outer s H ws Q E (hr.mono h)⟩
end
end Y
namespace Y
open PySem PySem.Spec PyProof.Rows L2 Z LamX NdefX
/-! ## a lambda is made, with defaults or without (after KE.KLam's kla_makeTail and HandS.Nested's ndef_make, which have no defaults) -/
section
end
end Y
namespace Y
open PySem PySem.Spec PyProof.Rows L2 Z LamX NdefX
theorem lamO_ne {f : Addr} {F : LF} (ps : Array Value) : LamO f F ≠ .tbl ps := fun z => by unfold LamO at z; cases z
section
end
end Y
namespace Y
open PySem PySem.Spec PyProof.Rows L2 Z LamX NdefX
/-! ## a kept lambda is called, its cells shown here -/
theorem delL_ne {b : Addr} : ∀ {L : List (Addr × Obj)} {H : Hp}, (∀ p ∈ L, p.1 ≠ b) → delL H L b = H b
  | [], _, _ => rfl
  | p :: L, H, h => (delL_ne (L := L) (H := L2.del H p.1) fun q hq => h q (List.mem_cons_of_mem _ hq)).trans (L2.del_ne (Ne.symm (h p List.mem_cons_self)))
theorem delL_none {b : Addr} : ∀ {L : List (Addr × Obj)} {H : Hp}, H b = none → delL H L b = none
  | [], _, h => h
  | p :: L, H, h => delL_none (L := L) (H := L2.del H p.1) (by
      by_cases hb : b = p.1
      · rw [hb]; exact L2.del_same
      · exact (L2.del_ne hb).trans h)
theorem delL_mem {b : Addr} : ∀ {L : List (Addr × Obj)} {H : Hp}, b ∈ L.map (·.1) → delL H L b = none
  | p :: L, H, h => by
    rw [List.map_cons, List.mem_cons] at h
    by_cases hb : b = p.1
    · exact delL_none (L := L) (H := L2.del H p.1) (by rw [hb]; exact L2.del_same)
    · exact delL_mem (L := L) (H := L2.del H p.1) (h.resolve_left hb)
/-- the captured cells among the shown things, what they hold (ws) -/
structure CellsL (cl : List (Str × Addr)) (fr : List Str) (ws : List (Option V)) (L : List (Addr × Obj)) : Prop where
  len : ws.length = fr.length
  all : ∀ y c, cl.lookup y = some c → ∃ o v, (c, o) ∈ L ∧ o.data = .cell v
  inj : ∀ x y c, cl.lookup x = some c → cl.lookup y = some c → x = y
  has : ∀ (i : Nat) (y : Str), fr[i]? = some y → ∃ c, cl.lookup y = some c ∧ ∀ v, ws[i]? = some (some v) → ∃ u o, L2.RelV v u ∧ (c, o) ∈ L ∧ o.data = .cell (some u)
theorem CellsL.at_ {cl : List (Str × Addr)} {fr : List Str} {ws : List (Option V)} {L : List (Addr × Obj)} {h : Heap} {H : Hp} (C : CellsL cl fr ws L) (hL : ∀ p ∈ L, h.get? p.1 = some p.2) : CellsAt cl fr ws h (delL H L) := by
  refine ⟨C.len, fun y c e => ?_, C.inj, fun i y e => ?_⟩
  · obtain ⟨o, v, m, d⟩ := C.all y c e
    exact ⟨delL_mem (List.mem_map.mpr ⟨_, m, rfl⟩), v, o, hL _ m, d⟩
  · obtain ⟨c, e1, e2⟩ := C.has i y e
    refine ⟨c, e1, fun v hv => ?_⟩
    obtain ⟨u, o, r, m, d⟩ := e2 v hv
    exact ⟨u, r, o, hL _ m, d⟩
/-- a kept lambda with its cells shown: what is known of it in H -/
structure Kept (F : LF) (f : Addr) (fr : List Str) (dvs : List V) (ws : List (Option V)) (L : List (Addr × Obj)) (H : Hp) : Prop where
  lam : H f = some (LamO f F)
  code : H F.c = some (CodeO F.c F.qual)
  dfl : LDef F dvs H
  shw : ∀ p ∈ L, H p.1 = some (.frz p.2 Tr)
  nd : (L.map (·.1)).Nodup
  cells : CellsL F.cl fr ws L
theorem Kept.ext {F : LF} {f : Addr} {fr : List Str} {dvs : List V} {ws : List (Option V)} {L : List (Addr × Obj)} {H H' : Hp} (k : Kept F f fr dvs ws L H) (s : Same H H') : Kept F f fr dvs ws L H' :=
  ⟨s _ _ k.lam, s _ _ k.code, ⟨k.dfl.1, fun T e => s _ _ (k.dfl.2 T e)⟩, fun p hp => s _ _ (k.shw p hp), k.nd, k.cells⟩
section
end
end Y
namespace Y
open PySem PySem.Spec PyProof.Rows L2 Z
/-! ## a text in a list of texts; what a caught error keeps -/
theorem dts_str {K : PySem.W.Frag} {H : Hp} {ns : List Str} {xs : List V} (h : Dts K (ns.map .str) xs H) : xs = ns.map V.str := by
  refine List.ext_getElem? fun i => ?_
  cases e : ns[i]? with
  | none =>
    rw [List.getElem?_map, e]
    refine List.getElem?_eq_none ?_
    rw [h.1, List.length_map]
    exact List.getElem?_eq_none_iff.mp e
  | some n =>
    obtain ⟨hi, _⟩ := List.getElem?_eq_some_iff.mp e
    have hx : i < xs.length := by rw [h.1, List.length_map]; exact hi
    have q := h.2 i xs[i] (.str n) (List.getElem?_eq_getElem hx) (by rw [List.getElem?_map, e]; rfl)
    rw [List.getElem?_map, e, List.getElem?_eq_getElem hx]
    cases hq : xs[i] with
    | str m => rw [hq] at q; cases q; rfl
    | _ => rw [hq] at q; cases q
theorem inV_str (n : Str) : ∀ ns : List Str, inV (.str n) (ns.map V.str) = ns.any fun m => decide (m = n)
  | [] => rfl
  | m :: ns => by
    have h := inV_str n ns
    unfold inV at h ⊢
    rw [List.map_cons, List.any_cons, h, List.any_cons]
    congr 1
theorem flat_strs (ns : List Str) : (ns.map V.str).all flatV = true := by
  induction ns with
  | nil => rfl
  | cons n ns ih => rw [List.map_cons, List.all_cons, ih]; rfl
section
variable {X : Cx} {σ : L2.St} {S : Hp} {a b : Expr} {pos : Pos} {n : Str} {ns : List Str}
theorem opE_inLs {K : PySem.W.Frag} : OpE (rIn K false) S (Dt K (.str n)) (Dt K (.list (ns.map .str))) (Dt K (.bool (ns.any fun m => decide (m = n)))) := fun v w S1 H1 _ s pv pw Q q => by
  cases pv
  obtain ⟨l, xs, rfl, hl, hx, z⟩ := pw.lst_inv
  rw [dts_str hx] at hl
  refine ⟨l, ns.map V.str, rfl, .inl (sql_of (s _ _ hl)), rfl, flat_strs ns, ?_⟩
  rw [if_neg Bool.false_ne_true, inV_str]
  exact q _ S1 H1 (Gr.refl s) (.bl _)
theorem et_inLs (ha : EE X σ S a (Dt X.K (.str n))) (hb : EE X σ S b (Dt X.K (.list (ns.map .str)))) (hm : behindInMarks .In b = false := by rfl) : ET X σ S (.Compare a [.In] [b] pos) (ns.any fun m => decide (m = n)) := et_cmp op_in_seq ha hb opE_inLs hm
end
/-- a shown own error, its code, the attribute n -/
def ExcAt (C : Addr) (code n : Str) (v : V) (w : V) (S : Hp) : Prop := ∃ (a : Addr) (oe : Obj) (dd : Addr) (fs : List (Str × V)), w = .ref a ∧ S a = some (.frz oe Tr) ∧ oe.cls = .ref C ∧ oe.dict = some dd ∧ (∃ vs, oe.data = .fields vs) ∧ S dd = some (.xd fs) ∧ fs.lookup ("code" : Str) = some (V.str code) ∧ fs.lookup n = some v
instance {C : Addr} {code n : Str} {v : V} : Mn (ExcAt C code n v) := ⟨fun s ⟨a, oe, dd, fs, h1, h2, h3, h4, h5, h6, h7, h8⟩ => ⟨a, oe, dd, fs, h1, s _ _ h2, h3, h4, h5, s _ _ h6, h7, h8⟩⟩
section
end
end Y
namespace Y
open PySem PySem.Spec PyProof.Rows L2 Z
/-- shown things put back on top -/
theorem Gr.shownL {S H S1 H1 : Hp} {L : List (Addr × Obj)} (g : Gr S (delL H L) S1 H1) (hL : ∀ p ∈ L, H1 p.1 = none) (hk : ∀ p ∈ L, H p.1 = some (.frz p.2 Tr)) (nd : (L.map (·.1)).Nodup) : Gr S H S1 (shownL H1 L) := by
  have atL : ∀ {L : List (Addr × Obj)} {p : Addr × Obj}, p ∈ L → (L.map (·.1)).Nodup → Y.shownL H1 L p.1 = some (.frz p.2 Tr) := by
    intro L
    induction L with
    | nil => intro p hp; cases hp
    | cons q L ih =>
      intro p hp nd
      rw [List.map_cons, List.nodup_cons] at nd
      rcases List.mem_cons.mp hp with e | e
      · rw [e]; exact shown_same
      · exact (shown_ne fun z => nd.1 (by rw [← z]; exact List.mem_map_of_mem e)).trans (ih e nd.2)
  have top : Same H1 (Y.shownL H1 L) := fun b o e => by
    have hb : b ∉ L.map (·.1) := fun z => by
      obtain ⟨p, hp, rfl⟩ := List.mem_map.mp z
      rw [hL p hp] at e; cases e
    exact (shownL_ne hb).trans e
  refine ⟨g.st, g.sub.trans top, fun b o e => ?_, fun b o e m => ?_⟩
  · by_cases hb : b ∈ L.map (·.1)
    · obtain ⟨p, hp, rfl⟩ := List.mem_map.mp hb
      rw [hk p hp] at e
      rw [atL hp nd]; exact e
    · exact top b o (g.hh b o ((delL_ne fun p hp z => hb (by rw [← z]; exact List.mem_map_of_mem hp)).trans e))
  · by_cases hb : b ∈ L.map (·.1)
    · obtain ⟨p, hp, rfl⟩ := List.mem_map.mp hb
      have n1 : S1 p.1 = none := g.sub.free (hL p hp)
      rw [n1, g.st.free n1]
    · exact g.old b o ((delL_ne fun p hp z => hb (by rw [← z]; exact List.mem_map_of_mem hp)).trans e) m
end Y
namespace Y
open PySem PySem.Spec PyProof.Rows L2 L2H Z
/-! ## a def called within an except suite, the caught exception pinned; it raises nothing there (after HandS.HotCalls, without its wish on the exception's context) -/
section
end
end Y
namespace Y
open PySem PySem.Spec PyProof.Rows L2 L2H Z
/-! ## attributes of the pinned exception -/
/-- the exception p: its class, its code, the value of its attribute n -/
def ExcP (C : Addr) (code n : Str) (v : V) (p : Addr × Obj) (S : Hp) : Prop := ∃ (dd : Addr) (fs : List (Str × V)), p.2.cls = .ref C ∧ p.2.dict = some dd ∧ (∃ vs, p.2.data = .fields vs) ∧ S dd = some (.xd fs) ∧ fs.lookup ("code" : Str) = some (V.str code) ∧ fs.lookup n = some v
theorem ExcP.up {C : Addr} {code n : Str} {v : V} {p : Addr × Obj} {S S' : Hp} (h : ExcP C code n v p S) (s : Same S S') : ExcP C code n v p S' := by
  obtain ⟨dd, fs, h1, h2, h3, h4, h5, h6⟩ := h
  exact ⟨dd, fs, h1, h2, h3, s _ _ h4, h5, h6⟩
section
end
end Y
namespace Y
open PySem PySem.Spec PyProof.Rows L2 Z
section
end
end Y
namespace Y
open PySem PySem.Spec PyProof.Rows L2 Z
/-! ## a list comprehension over things of any kind (Z3's ee_lcG with predicates for the items) -/
section
variable {α : Type} {R : α → V → Hp → Prop} {X : Cx} {σ : L2.St} {S : Hp} {elt tg iter : Expr} {ifs : List Expr} {scope : Scope} {own : List (Str × Nat)} {pos : Pos} {ds : List α} {p : α → Bool} {G : α → PyData → Prop}
theorem lc_loopA (hz : ds.length ≤ sizeLine)
    (hel : ∀ d ∈ ds, ∀ v S', Same S S' → R d v S' → ∃ τ, wipe τ (own.map (·.2)) = wipe σ (own.map (·.2)) ∧ ∀ (s : Shared) (H0 : Hp) (C : Addr) (cl : List (Str × Addr)) (fp : List Addr),
      EG (X.blk s H0 scope (compEnvC scope cl C X.env) fp) S' tg v (wipe σ (own.map (·.2))) τ ∧ ETs (X.blk s H0 scope (compEnvC scope cl C X.env) fp) τ S' ifs (p d) ∧ (p d = true → EE (X.blk s H0 scope (compEnvC scope cl C X.env) fp) τ S' elt (Ex X.K (G d)))) {H : Hp} (Q : VK) (q : ∀ v S' H', Gr S H S' H' → (∃ rs, Paired G (ds.filter p) rs ∧ Dt X.K (.list rs) v S') → Q v H') {J : It} {S1 H1 : Hp} (g1 : Gr S H S1 H1) (it : ItP J S1 (ds.map R)) :
    ∀ D, H1 D = none → ∃ W : Nat → Nat → Hp → Prop, (∃ m, W 0 m (upd H1 D (.lst []))) ∧ ∀ i m H, W i m H →
      (J.stop i H ∧ Q (.ref D) H) ∨ (J.go i H ∧ ∃ Nx : Hp → Prop, (∀ H', Nx H' → ∃ m', m' < m ∧ W (i + 1) m' H') ∧ ∀ x H', J.yld i H x H' → gBlk X scope tg x (wipe σ (own.map (·.2))) H' fun σ2 H2 => wipe σ2 (own.map (·.2)) = wipe σ (own.map (·.2)) ∧ tBlk X scope ifs σ2 H2 fun b H3 =>
        if b = true then eBlk X scope elt σ2 H3 fun y H4 => ∃ acc, H4 D = some (.lst acc) ∧ acc.length < sizeLine ∧ Nx (upd H4 D (.lst (acc ++ [y]))) else Nx H3) := by
  intro D hD
  have hD1 : S1 D = none := g1.sub.free hD
  have hlen : (List.map R ds).length = ds.length := List.length_map ..
  refine lc_it (g := gBlk X scope tg) (tt := tBlk X scope ifs) (te := eBlk X scope elt) (vs := own.map (·.2)) (σ := σ) (Qd := Q (.ref D)) it (fun i H' => ∃ S' xs rs, Same S1 S' ∧ Same S' H' ∧ Same H1 H' ∧ (∀ a o, H1 a = some o → NT o → S' a = S1 a) ∧ S' D = none ∧ H' D = some (.lst xs) ∧ Paired G ((ds.take i).filter p) rs ∧ Dts X.K rs xs S' ∧ xs.length ≤ i)
    ⟨S1, [], [], Same.refl _, Same.mut g1.sub hD1, Same.new hD, fun _ _ _ _ => rfl, hD1, upd_same, .nil, .nil, Nat.le_refl _⟩ (fun i H' _ ⟨S', _, _, a, b, _⟩ => a.trans b) ?_ ?_
  · intro i x H2 H3 hi2 ⟨S2, xs, rs, k1, k2, k3, k4, k5, k6, k7, k8, k9⟩ y
    rw [hlen] at hi2
    obtain ⟨S3, g3, P, hP, px⟩ := y S2 k1 k2
    obtain ⟨d, hd⟩ : ∃ d, ds[i]? = some d := ⟨ds[i], List.getElem?_eq_getElem hi2⟩
    rw [List.getElem?_map, hd] at hP
    obtain rfl := Option.some.inj hP
    have sS3 : Same S S3 := g1.st.trans (k1.trans g3.st)
    obtain ⟨τ, hw, hb⟩ := hel d (List.mem_of_getElem? hd) x S3 sS3 px
    have hf : ∀ q, p d = q → (ds.take (i + 1)).filter p = (ds.take i).filter p ++ (if q = true then [d] else []) := fun q hq => by
      rw [take_snoc hd, List.filter_append]
      cases q with
      | true => simp [hq]
      | false => simp [hq]
    intro sh H0 C cl fp
    refine (hb sh H0 C cl fp).1 H3 g3.sub _ ⟨hw, ?_⟩
    intro sh' H0' C' cl' fp'
    refine (hb sh' H0' C' cl' fp').2.1 H3 g3.sub _ fun S4 H4 g4 => ?_
    have g34 := g3.trans g4
    cases hpd : p d with
    | false =>
      refine iteF ⟨S4, xs, rs, k1.trans g34.st, g34.sub, k3.trans g34.hh, fun a o h n => (g34.old a o (k3 a o h) n).trans (k4 a o h n), (g34.old D _ k6 (fun _ z => nomatch z)).trans k5, g34.hh _ _ k6, ?_, k8.up g34.st, by omega⟩
      rw [hf false hpd]
      simpa using k7
    | true =>
      refine iteT ?_
      intro sh'' H0'' C'' cl'' fp''
      refine ((hb sh'' H0'' C'' cl'' fp'').2.2 hpd).up g4.st H4 g4.sub _ fun w S5 H5 g5 ⟨r, hr, hrw⟩ => ?_
      have g := g34.trans g5
      have hD5 : S5 D = none := (g.old D _ k6 (fun _ z => nomatch z)).trans k5
      refine ⟨xs, g.hh _ _ k6, Nat.lt_of_le_of_lt k9 (Nat.lt_of_lt_of_le hi2 hz), S5, xs ++ [w], rs ++ [r], k1.trans g.st, Same.mut g.sub hD5, fun a o h => ?_, fun a o h n => (g.old a o (k3 a o h) n).trans (k4 a o h n), hD5, upd_same, ?_, (k8.up g.st).snoc hrw, by rw [List.length_append]; show xs.length + 1 ≤ i + 1; omega⟩
      · rw [upd_ne (ne_of_none h hD)]; exact g.hh _ _ (k3 a o h)
      · rw [hf true hpd]
        exact paired_snoc k7 hr
  · intro H2 ⟨S2, xs, rs, k1, k2, k3, k4, k5, k6, k7, k8, k9⟩
    rw [hlen] at k7 k9
    rw [List.take_length] at k7
    refine q _ (upd S2 D (.lst xs)) H2 (g1.trans ⟨k1.trans (Same.new k5), fun a o h => ?_, k3, fun a o h n => by rw [upd_ne (ne_of_none h hD)]; exact k4 a o h n⟩) ⟨rs, k7, Dt.lst_mk upd_same (k8.up (Same.new k5)) (Nat.le_trans k9 hz)⟩
    by_cases ha : a = D
    · subst ha; rw [upd_same] at h; rw [k6]; exact h
    · rw [upd_ne ha] at h; exact k2 a o h
theorem lc_readA (hi : EI X σ S tg iter (ds.map R)) (hz : ds.length ≤ sizeLine)
    (hel : ∀ d ∈ ds, ∀ v S', Same S S' → R d v S' → ∃ τ, wipe τ (own.map (·.2)) = wipe σ (own.map (·.2)) ∧ ∀ (s : Shared) (H0 : Hp) (C : Addr) (cl : List (Str × Addr)) (fp : List Addr),
      EG (X.blk s H0 scope (compEnvC scope cl C X.env) fp) S' tg v (wipe σ (own.map (·.2))) τ ∧ ETs (X.blk s H0 scope (compEnvC scope cl C X.env) fp) τ S' ifs (p d) ∧ (p d = true → EE (X.blk s H0 scope (compEnvC scope cl C X.env) fp) τ S' elt (Ex X.K (G d)))) {H : Hp} (s : Same S H) (Q : VK) (q : ∀ v S' H', Gr S H S' H' → (∃ rs, Paired G (ds.filter p) rs ∧ Dt X.K (.list rs) v S') → Q v H') :
    tLc (bI X tg iter) (gBlk X scope tg) (tBlk X scope ifs) (eBlk X scope elt) (own.map (·.2)) σ H Q := hi H s _ fun J S1 H1 g1 it => lc_loopA hz hel Q q g1 it
theorem ee_lcA (hc : X.calm = true) (hN : X.N.Nodup) (ok : BlkOk X.N X.env.scope scope own) (hi : EI X σ S tg iter (ds.map R)) (hz : ds.length ≤ sizeLine)
    (hel : ∀ d ∈ ds, ∀ v S', Same S S' → R d v S' → ∃ τ, wipe τ (own.map (·.2)) = wipe σ (own.map (·.2)) ∧ ∀ (s : Shared) (H0 : Hp) (C : Addr) (cl : List (Str × Addr)) (fp : List Addr),
      EG (X.blk s H0 scope (compEnvC scope cl C X.env) fp) S' tg v (wipe σ (own.map (·.2))) τ ∧ ETs (X.blk s H0 scope (compEnvC scope cl C X.env) fp) τ S' ifs (p d) ∧ (p d = true → EE (X.blk s H0 scope (compEnvC scope cl C X.env) fp) τ S' elt (Ex X.K (G d))))
    (hs : ∀ x, foldedSetIterable iter X.env x = pure x := by intro _; rfl) :
    EE X σ S (.ListComp elt [⟨tg, iter, ifs, 0⟩] scope pos) (fun v S' => ∃ rs, Paired G (ds.filter p) rs ∧ Dt X.K (.list rs) v S') := fun H s Q q =>
  he_of (pe_lc (own := own) (wi := bI X tg iter) (g := gBlk X scope tg) (tt := tBlk X scope ifs) (te := eBlk X scope elt) hc hN pib ok
    (fun s H0 C cl fp => ⟨fun pins sh σ' H' v u Q' I r h => h s H0 C cl fp pins sh u I r⟩) (fun s H0 C cl fp => ⟨fun pins sh σ' H' Q' I h => h s H0 C cl fp pins sh I⟩) (fun s H0 C cl fp => ⟨fun pins sh σ' H' Q' I h => h s H0 C cl fp pins sh I⟩) hs) (lc_readA hi hz hel s Q q)
end
end Y
namespace Y
open PySem PySem.Spec PyProof.Rows L2 Z
/-- a list whose items have the Ps -/
def LstP (Ps : List (V → Hp → Prop)) (v : V) (S : Hp) : Prop := ∃ l xs, v = .ref l ∧ S l = some (.lst xs) ∧ Al Ps xs S
theorem al_len {Ps : List (V → Hp → Prop)} {xs : List V} {H : Hp} (h : Al Ps xs H) : xs.length = Ps.length := by
  induction h with
  | nil => rfl
  | cons _ _ ih => rw [List.length_cons, List.length_cons, ih]
theorem al_get {Ps : List (V → Hp → Prop)} {xs : List V} {H : Hp} (h : Al Ps xs H) : ∀ {i : Nat} {x : V}, xs[i]? = some x → ∃ P, Ps[i]? = some P ∧ P x H := by
  induction h with
  | nil => intro i x e; cases e
  | cons p _ ih =>
    intro i x e
    cases i with
    | zero => cases e; exact ⟨_, rfl, p⟩
    | succ i => exact ih e
section
variable {X : Cx} {σ : L2.St} {S : Hp} {e tg : Expr} {Ps : List (V → Hp → Prop)}
theorem ei_lstP (hP : ∀ P ∈ Ps, Mn P) (ha : EE X σ S e (LstP Ps)) : EI X σ S tg e Ps := fun H s R q =>
  hi_of (pi_list peb) (ha H s _ fun v S1 H1 g1 pv => by
    obtain ⟨l, xs, rfl, hl, hx⟩ := pv
    have hlen := al_len hx
    refine ⟨l, rfl, ⟨xs, sql_of (g1.sub _ _ hl)⟩, q _ S1 H1 g1 ⟨fun i H hi hs => ?_, fun H hs => ?_, fun i H x H' hi hs y T st th => ?_⟩⟩
    · rw [← hlen] at hi
      exact (walk_list (K := X.K) (a := l) (xs := xs)).goes i H hi (sql_of (hs _ _ hl))
    · rw [← hlen]
      exact (walk_list (K := X.K) (a := l) (xs := xs)).stops H (sql_of (hs _ _ hl))
    · rw [← hlen] at hi
      obtain ⟨rfl, hy⟩ := (walk_list (K := X.K) (a := l) (xs := xs)).yields i H x H' hi (sql_of (hs _ _ hl)) y
      obtain ⟨P, e1, e2⟩ := al_get hx hy
      have m := hP P (List.mem_of_getElem? e1)
      exact ⟨T, Gr.refl th, P, e1, m.up st e2⟩)
end
/-- a closure's promise seen from the state with the cells: the state without them, and back -/
theorem Gr.under {S H S1 H1 : Hp} {L : List (Addr × Obj)} (s : Same S H) (hS : ∀ p ∈ L, S p.1 = some (.frz p.2 Tr)) (nd : (L.map (·.1)).Nodup) (g : Gr (delL S L) H S1 H1) : Gr S H (Y.shownL S1 L) H1 := by
  have atL : ∀ {L : List (Addr × Obj)} {p : Addr × Obj}, p ∈ L → (L.map (·.1)).Nodup → Y.shownL S1 L p.1 = some (.frz p.2 Tr) := by
    intro L
    induction L with
    | nil => intro p hp; cases hp
    | cons q L ih =>
      intro p hp nd
      rw [List.map_cons, List.nodup_cons] at nd
      rcases List.mem_cons.mp hp with e | e
      · rw [e]; exact shown_same
      · exact (shown_ne fun z => nd.1 (by rw [← z]; exact List.mem_map_of_mem e)).trans (ih e nd.2)
  have off : ∀ b, b ∉ L.map (·.1) → delL S L b = S b := fun b hb => delL_ne fun p hp z => hb (by rw [← z]; exact List.mem_map_of_mem hp)
  refine ⟨fun b o e => ?_, fun b o e => ?_, g.hh, fun b o e m => ?_⟩
  · by_cases hb : b ∈ L.map (·.1)
    · obtain ⟨p, hp, rfl⟩ := List.mem_map.mp hb
      rw [atL hp nd, ← hS p hp]; exact e
    · rw [shownL_ne hb]
      exact g.st b o ((off b hb).trans e)
  · by_cases hb : b ∈ L.map (·.1)
    · obtain ⟨p, hp, rfl⟩ := List.mem_map.mp hb
      rw [atL hp nd] at e
      rw [← e]
      exact g.hh _ _ (s _ _ (hS p hp))
    · rw [shownL_ne hb] at e
      exact g.sub b o e
  · by_cases hb : b ∈ L.map (·.1)
    · obtain ⟨p, hp, rfl⟩ := List.mem_map.mp hb
      rw [atL hp nd, hS p hp]
    · rw [shownL_ne hb]
      exact (g.old b o e m).trans (off b hb)
end Y
namespace Y
open PySem PySem.Spec PyProof.Rows L2 Z
section
variable {α : Type} {R : α → V → Hp → Prop} {X : Cx} {σ : L2.St} {S : Hp} {elt iter : Expr} {scope : Scope} {pos px : Pos} {x : Str} {i : Nat} {ds : List α} {f : α → PyData}
/-- [elt for x in iter], items of any kind, each element fixed by its item -/
theorem ee_lcQ (hc : X.calm = true) (hN : X.N.Nodup) (ok : BlkOk X.N X.env.scope scope [(x, i)]) (hi : EI X σ S (.Name x px) iter (ds.map R)) (hz : ds.length ≤ sizeLine)
    (hel : ∀ d ∈ ds, ∀ v S', Same S S' → R d v S' → ∀ (s : Shared) (H0 : Hp) (C : Addr) (cl : List (Str × Addr)) (fp : List Addr), EE (X.blk s H0 scope (compEnvC scope cl C X.env) fp) ((wipe σ [i]).set i (some v)) S' elt (Dt X.K (f d)))
    (hix : X.N[i]? = some x := by rfl) (hx : ∀ (s : Shared) (H0 : Hp) (C : Addr) (cl : List (Str × Addr)) (fp : List Addr), Loc (X.blk s H0 scope (compEnvC scope cl C X.env) fp).env.scope x ∧ ((X.blk s H0 scope (compEnvC scope cl C X.env) fp).fn x = true ∨ (X.blk s H0 scope (compEnvC scope cl C X.env) fp).env.scope.names.lookup x = some .local) := by
      intros; exact ⟨by first | exact Or.inl rfl | exact Or.inr rfl, by first | exact .inl rfl | exact .inr rfl⟩)
    (hs : ∀ x, foldedSetIterable iter X.env x = pure x := by intro _; rfl) :
    EE X σ S (.ListComp elt [⟨.Name x px, iter, [], 0⟩] scope pos) (Dt X.K (.list (ds.map f))) := by
  refine (ee_lcA (R := R) (own := [(x, i)]) (p := fun _ => true) (G := fun d r => r = f d) hc hN ok hi hz (fun d hd v S' s hv => ⟨(wipe σ [i]).set i (some v), wipe1, fun sh H0 C cl fp => ?_⟩) hs).imp fun v S' h => ?_
  · obtain ⟨k1, k2⟩ := hx sh H0 C cl fp
    exact ⟨eg_name hN hix k1 k2, ets_nil, fun _ => (hel d hd v S' s hv sh H0 C cl fp).imp fun w S2 hw => ⟨_, rfl, hw⟩⟩
  · obtain ⟨rs, h1, h2⟩ := h
    rw [filter_true] at h1
    rw [← paired_map h1]
    exact h2
end
end Y
namespace Y
open PySem PySem.Spec PyProof.Rows L2 Z
end Y
namespace Y
open PySem PySem.Spec PyProof.Rows L2 Z LamX NdefX
/-! ## the running frame's cells, shown to a call -/
section
end
section
end
/-! ## what is known without the tables -/
end Y
namespace Y
open PySem PySem.Spec PyProof.Rows L2 Z
section
variable {X : Cx} {σ : L2.St} {S S' H : Hp} {a b c e d0 tg : Expr} {pos p : Pos} {i j l m : Int} {b1 b2 b3 : Bool} {g1 g2 : Int → Int → V} {D : Ends} {rest body : List Stmt} {x : Str} {k n : Nat}
/-- for .. in range(n): what is kept is told of the whole heap -/
theorem hs_forR {n : Nat} (Iv : Nat → L2.St → Hp → Prop) (hp : PassesOwn (model X.prog X.w) X.A X.env X.xe) (hc : X.calm = true) (hm : X.mg "range" = none) (hn : (n : Int) < 2 ^ 62) (ha : EE X σ S a (Dt X.K (.int (n : Nat)))) (s : Same S H) (h0 : ∀ S' H', Gr S H S' H' → Iv 0 σ H')
    (step : ∀ i σ1 H1, i < n → Iv i σ1 H1 → HG X tg (.int (i : Nat)) σ1 H1 fun σ3 H3 => HS X { D with nx := Iv (i + 1), ct := Iv (i + 1), bk := fun σ' H' => HS X D rest σ' H' } body σ3 H3)
    (done : ∀ σ1 H1, Iv n σ1 H1 → HS X D rest σ1 H1) (hg : Gl X "range" := by rfl) (hs1 : starEach [a] X.env = [(false, eval a X.env)] := by rfl) (hs : ∀ x, foldedSetIterable (.Call (.Name "range" p) [a] [] pos) X.env x = pure x := by intro _; rfl) {pos2 : Pos} :
    HS X D (.For tg (.Call (.Name "range" p) [a] [] pos) body [] pos2 :: rest) σ H :=
  hs_cons (ps_for hp hc (pi_range1 hg hm pab hs1) pgb psb hs) ((ea_1 ha (by rw [hs1]; rfl)).2 H s _ fun vs S1 H1 g1 al => by
    obtain ⟨v, rfl, pv⟩ := al.one
    cases pv
    refine ⟨(n : Int), rfl, by omega, hn, for_it (G := fun _ => True) (Y := fun i H x H' => H' = H ∧ x = .int (0 + (i : Int))) (n := n) ⟨fun i H hi _ => ?_, fun H _ => ?_, fun i H x H' _ _ y => y⟩ Iv (h0 S1 H1 g1) (fun _ _ _ _ _ => trivial) (fun i x σ' H2 H3 hi iv y => ?_) done⟩
    · show i < ((n : Int)).toNat
      omega
    · show ((n : Int)).toNat ≤ n
      omega
    · obtain ⟨rfl, rfl⟩ := y
      rw [Int.zero_add]
      exact step i σ' H3 hi iv)
end
section
end
end Y
namespace Y
open PySem PySem.Spec PyProof.Rows L2 Z
/-! ## an own error of the ValueErrors, told by one Bool -/
end Y
namespace Y
open PySem PySem.Spec PyProof.Rows L2 Z
/-! ## dicts whose keys are tuples of ints, whose values are ints -/
abbrev MapI := List (List Int × Int)
def kI (k : List Int) : List L2.Key := k.map Sum.inl
def kvM (m : MapI) : List (List L2.Key × V) := m.map fun q => (kI q.1, V.int q.2)
/-- v is a tuple of these ints -/
def KyP (k : List Int) (w : V) (S : Hp) : Prop := ∃ b, w = .ref b ∧ S b = some (.tup (k.map V.int))
instance {k : List Int} : Mn (KyP k) := ⟨fun s ⟨b, e, h⟩ => ⟨b, e, s _ _ h⟩⟩
section
end
end Y
namespace Y
open PySem PySem.Spec PyProof.Rows L2 Z
/-! ## sorted, of data -/
section
end
section
end
end Y
namespace Y
open PySem PySem.Spec PyProof.Rows L2 Z
/-! ## sorted(d), d a dict with tuple keys -/
section
end
end Y
namespace Y
open PySem PySem.Spec PyProof.Rows L2 Z
/-! ## sorted(d) as an expression; sums of tuples -/
section
end
end Y
namespace Y
open PySem PySem.Spec PyProof.Rows L2 Z
section
variable {X : Cx} {σ : L2.St} {S S' H : Hp} {a b c e d0 tg o i : Expr} {pos pos' p : Pos} {D : Ends} {rest body : List Stmt} {r : Addr} {m : MapI} {k : List Int} {n : Int}
/-- from a new thing b to the old one a -/
theorem GrI.under {a b : Addr} {S H S1 H1 T H' : Hp} {o : HO} (i : GrI a S H S1 H1) (hb : H1 b = none) (j : GrI b S1 (upd H1 b o) T H') : GrI a S H T H' :=
  ⟨i.st.trans j.st, j.sub, fun z u n e => by
    have e1 := i.hh z u n e
    have nz : z ≠ b := fun q => by subst q; rw [hb] at e1; cases e1
    exact j.hh z u nz (by rw [upd_ne nz]; exact e1), fun z u n e m => by
    have e1 := i.hh z u n e
    have nz : z ≠ b := fun q => by subst q; rw [hb] at e1; cases e1
    exact (j.old z u nz (by rw [upd_ne nz]; exact e1) m).trans (i.old z u n e m)⟩
end
end Y
namespace Y
open PySem PySem.Spec PyProof.Rows L2 Z
/-! ## a list comprehension, its list told as new (after Z3's ee_lcG) -/
section
end
section
variable {X : Cx} {σ : L2.St} {S : Hp} {elt iter : Expr} {scope : Scope} {pos px : Pos} {ds : List PyData} {α : Type} {enc : α → PyData} {i : Nat} {x : Str}
theorem NewL.is {K : PySem.W.Frag} {S S' : Hp} {ds ds' : List PyData} {v : V} (h : NewL K S ds v S') (e : ds = ds') : NewL K S ds' v S' := e ▸ h
end
end Y
namespace Y
open PySem PySem.Spec PyProof.Rows L2 Z
/-! ## name = [elt for x, y in iter] on one line, the name a local; the same for one target -/
section
end
end Y
namespace Y
open PySem PySem.Spec PyProof.Rows L2 Z
/-! ## own == with a list on the right -/
section
end
end Y
namespace Y
open PySem PySem.Spec PyProof.Rows L2 Z
/-! ## dict([]), list(d) of a dict with tuple keys -/
section
end
end Y
namespace Y
open PySem PySem.Spec PyProof.Rows L2 Z
section
end
end Y
namespace Y
open PySem PySem.Spec PyProof.Rows L2 Z
/-! ## own + and * of two things of one class -/
section
end
end Y
namespace Y
open PySem PySem.Spec PyProof.Rows L2 Z
/-! ## own ** with an int on the right -/
section
open PySem.W
end
section
end
end Y
namespace Y
open PySem PySem.Spec PyProof.Rows L2 Z
/-! ## a list comprehension with two clauses, the second list the same for each item of the first -/
section
end
end Y
namespace Y
open PySem PySem.Spec PyProof.Rows L2 Z LamX NdefX
/-! ## sorted(e, key=lambda x: x[1]) -/
/-- an item that is a tuple, its second part the key k -/
def PairKey (h : Heap) (v : Value) (k : PyData) : Prop := ∃ t its u, v = .ref t ∧ IsTup h t its ∧ its[1]? = some u ∧ Reads h u k []
theorem PairKey.keeps {h h' : Heap} {v : Value} {k : PyData} (p : PairKey h v k) (hk : ∀ b o, h.get? b = some o → h'.get? b = some o) : PairKey h' v k := by
  obtain ⟨t, its, u, e, ht, hu, hr⟩ := p
  exact ⟨t, its, u, e, ht.keeps hk, hu, PyProof.Rows.Reads.keeps hk hr⟩
section
end
end Y
namespace Y
open PySem PySem.Spec PyProof.Rows L2 Z
/-! ## a dict comprehension whose store is told by a rule (after HandS.DictComp's dc_core, which is for keys that are ints or texts) -/
section
end
end Y
namespace Y
open PySem PySem.Spec PyProof.Rows L2 Z
/-! ## a dict with tuple keys that is not changed any more: locked; what is read of it -/
def DcO (m : MapI) (d : Addr) (S : Hp) : Prop := ∃ o, S d = some (.frz o (.dT (kvM m)))
theorem DcO.up {m : MapI} {d : Addr} {S S' : Hp} (h : DcO m d S) (s : Same S S') : DcO m d S' := h.elim fun o e => ⟨o, s _ _ e⟩
def DcV (m : MapI) (v : V) (S : Hp) : Prop := ∃ d, v = .ref d ∧ DcO m d S
instance {m : MapI} : Mn (DcV m) := ⟨fun s ⟨d, e, h⟩ => ⟨d, e, h.up s⟩⟩
section
end
/-! ### for a, b in o.items() -/
section
end
section
end
end Y
namespace Y
open PySem PySem.Spec PyProof.Rows L2 Z
/-! ## o.items() as a value; list of it; a display of two -/
/-- S, all that is new in T, the tuples of H -/
def grown (S H T : Hp) : Hp := fun a => match S a with
  | some o => some o
  | none => match H a with
    | none => T a
    | some (.tup xs) => some (.tup xs)
    | some _ => none
theorem grown_S {S H T : Hp} {a : Addr} {o : HO} (h : S a = some o) : grown S H T a = some o := by unfold grown; rw [h]
theorem Gr.all {S H T : Hp} (s : Same S H) (st : Same H T) : Gr S H (grown S H T) T := by
  refine ⟨fun a o h => grown_S h, fun a o h => ?_, st, fun a o h n => ?_⟩
  · unfold grown at h
    cases e : S a with
    | some u => rw [e] at h; cases h; exact st a _ (s a _ e)
    | none =>
      rw [e] at h
      cases q : H a with
      | none => simp only [q] at h; exact h
      | some u =>
        cases u <;> simp only [q] at h <;> first | cases h | skip
        exact st a _ q
  · unfold grown
    cases e : S a with
    | some u => rfl
    | none =>
      cases q : H a with
      | none => rw [q] at h; cases h
      | some u =>
        rw [q] at h
        cases h
        cases o <;> first | rfl | exact absurd rfl (n _)
/-- the items view at p of the locked dict at d -/
def ItV (m : MapI) (v : V) (S : Hp) : Prop := ∃ p d, v = .ref p ∧ S p = some (L2.DX.itemsO p d) ∧ DcO m d S
instance {m : MapI} : Mn (ItV m) := ⟨fun s ⟨p, d, e, h, q⟩ => ⟨p, d, e, s _ _ h, q.up s⟩⟩
section
end
end Y
namespace Y
open PySem PySem.Spec PyProof.Rows L2 Z
/-! ## {kx: vx for x in iter}, keys tuples of ints, values ints -/
section
end
end Y
namespace Y
open PySem PySem.Spec PyProof.Rows L2 Z
/-! ## == of two dicts with tuple keys and ints as values -/
section
end
section
end
end Y
namespace Y
open PySem PySem.Spec PyProof.Rows L2 Z
/-! ## len(o), bool(o) of an own thing -/
section
end
/-! ## a staticmethod def m(*xs, kn=d), called through its class -/
section
end
end Y
namespace Y
open PySem PySem.Spec PyProof.Rows L2 Z
/-! ## a def m(*xs, kn=d) by its body -/
section
end
end Y
namespace Y
open PySem PySem.Spec PyProof.Rows L2 Z
section
end
end Y
namespace Y
open PySem PySem.Spec PyProof.Rows L2 Z LamX NdefX
/-! ## expressions and statements that may raise an own error -/
/-- a kind of own error: its class, its code, the attribute that it keeps -/
structure EK where
  C : Addr
  code : Str
  fn : Option Str
/-- E is met by an error of the kind k that keeps g -/
def XErr (K : PySem.W.Frag) (k : EK) (g : PyData) (S H : Hp) (E : XK) : Prop := ∀ d fs S3 H3, Gr S H S3 H3 → H d = none → S3 d = some (.xd fs) → fs.lookup ("code" : Str) = some (V.str k.code) → (k.fn = none → g = .none) → (∀ x, k.fn = some x → ∃ v, fs.lookup x = some v ∧ Dt K g v S3) → E (.ref k.C) (some d) H3
theorem XErr.up {K : PySem.W.Frag} {k : EK} {g : PyData} {S H S1 H1 : Hp} {E : XK} (h : XErr K k g S H E) (gr : Gr S H S1 H1) : XErr K k g S1 H1 E := fun d fs S3 H3 g3 hd hx hc hn hf => h d fs S3 H3 (gr.trans g3) (gr.hh.free hd) hx hc hn hf
/-- e gives P, or raises as O -/
def ER (X : Cx) (E : XK) (σ : L2.St) (S : Hp) (e : Expr) (P : V → Hp → Prop) (O : EK → PyData → Prop) : Prop := ∀ H, Same S H → (∀ k g, O k g → XErr X.K k g S H E) → ∀ Q : VK, (∀ v S1 H1, Gr S H S1 H1 → P v S1 → Q v H1) → HE X e σ H Q
section
variable {X : Cx} {σ : L2.St} {S S' H : Hp} {e a b c o : Expr} {es : List Expr} {P Pa Pb P0 P1 R : V → Hp → Prop} {Ps : List (V → Hp → Prop)} {pos p apos pos2 kpos : Pos} {k : Nat} {x m f kn : Str} {sp : Sp} {C : Addr} {D : Ends} {rest : List Stmt} {O : EK → PyData → Prop} {E : XK} {op : Operator}
theorem ER.imp (h : ER X E σ S e P O) (f : ∀ v S', P v S' → R v S') : ER X E σ S e R O := fun H s hx Q q => h H s hx Q fun v S1 H1 g p => q v S1 H1 g (f v S1 p)
theorem ER.up (h : ER X E σ S e P O) (s : Same S S') (hk : ∀ H, Same S' H → (∀ k g, O k g → XErr X.K k g S' H E) → ∀ k g, O k g → XErr X.K k g S H E) (hq : ∀ v S1 H1 H, Same S' H → Gr S H S1 H1 → P v S1 → ∃ S2, Gr S' H S2 H1 ∧ P v S2) : ER X E σ S' e P O := fun H s' hx Q q => h H (s.trans s') (hk H s' hx) Q fun v S1 H1 g p => let ⟨S2, g2, p2⟩ := hq v S1 H1 H s' g p; q v S2 H1 g2 p2
/-! ### statements -/
end
/-! ### kept lambdas that may raise -/
end Y
namespace Y
open PySem PySem.Spec PyProof.Rows L2 Z
/-! ## staticmethods that may raise (after Y45, Y46) -/
section
end
section
end
end Y
namespace Y
open PySem PySem.Spec PyProof.Rows L2 L2H Z LamX NdefX
/-! ## what a caught error keeps: any kind -/
def fldAt : List Str := ["InvalidSystem", "InvalidFact", "InvalidFactor", "InvalidGroup", "InvalidClaim", "InvalidSums", "InvalidDeed", "InvalidCommand", "WrongSchema", "TooHigh", "EqualSums"]
def fldNm : List Str := ["InvalidName", "WrongKind", "DuplicateName", "UnknownName"]
def fldNo : List Str := ["InvalidText", "Boundless", "NoTable", "NotThere", "Empty", "NothingLeft"]
/-- the attribute that is read of an error with a code -/
def fieldOf (c : Str) : Option Str := if (fldAt.any fun m => decide (m = c)) = true then some "at" else if (fldNm.any fun m => decide (m = c)) = true then some "name" else if (fldNo.any fun m => decide (m = c)) = true then none else if decide (c = "InvalidPage") = true then some "line" else if decide (c = "WrongWidth") = true then some "width" else if decide (c = "TooMany") = true then some "most" else if decide (c = "Full") = true then some "limit" else some "given"
/-- what a kind of error must tell to be caught and read -/
structure KOk (K : PySem.W.Frag) (tup : List Value) (k : EK) : Prop where
  T : XfC K k.C
  cd : PySem.W.findIn K (.ref k.C) "code" = some none
  at_ : ∀ x, k.fn = some x → PySem.W.findIn K (.ref k.C) x = some none
  ex : PySem.W.exmAny K (.ref k.C) tup = some true
  fld : k.fn = fieldOf k.code
  nt : decide (k.code = "Tight") = false
  nb : decide (k.code = "BrokenClaim") = false
/-- the pinned exception is of the kind k, and keeps g -/
def ExcG (K : PySem.W.Frag) (k : EK) (g : PyData) (p : Addr × Obj) (S : Hp) : Prop := ∃ (dd : Addr) (fs : List (Str × V)), p.2.cls = .ref k.C ∧ p.2.dict = some dd ∧ (∃ vs, p.2.data = .fields vs) ∧ S dd = some (.xd fs) ∧ fs.lookup ("code" : Str) = some (V.str k.code) ∧ (k.fn = none → g = .none) ∧ ∀ x, k.fn = some x → ∃ v, fs.lookup x = some v ∧ Dt K g v S
theorem ExcG.up {K : PySem.W.Frag} {k : EK} {g : PyData} {p : Addr × Obj} {S S' : Hp} (h : ExcG K k g p S) (s : Same S S') : ExcG K k g p S' := by
  obtain ⟨dd, fs, h1, h2, h3, h4, h5, h6, h7⟩ := h
  exact ⟨dd, fs, h1, h2, h3, s _ _ h4, h5, h6, fun x hx => let ⟨v, a, b⟩ := h7 x hx; ⟨v, a, b.up s⟩⟩
section
end
section
variable {P : Program} {w : World} {K : PySem.W.Frag} {mg : Str → Option Value} {base : Heap}
/-- an ask: a kept lambda with what it may answer -/
structure AskI (P : Program) (w : World) (K : PySem.W.Frag) (mg : Str → Option Value) (base : Heap) (tup : List Value) (k : Nat) where
  Od : PyData → Prop
  O : EK → PyData → Prop
  f : Addr
  F : LF
  fr : List Str
  dvs : List V
  ws : List (Option V)
  L : List (Addr × Obj)
  sp : List (Option V) → Hp → VK → XK → Prop
  S0 : Hp
  lok : LOk P w K mg base (L2.CX P w) k f F fr dvs sp
  ok : ∀ e g, O e g → KOk K tup e
  hR : ∀ S2 H2 Q' E', Same S0 S2 → Same S2 H2 → (∀ v S1 H1, Gr S2 H2 S1 H1 → Ex K Od v S1 → Q' v H1) → (∀ e g, O e g → XErr K e g S2 H2 E') → sp ws H2 Q' E'
def AskJ {tup : List Value} {k : Nat} (it : AskI P w K mg base tup k) (v : V) (S : Hp) : Prop := v = .ref it.f ∧ Kept it.F it.f it.fr it.dvs it.ws it.L S ∧ Same it.S0 (delL S it.L)
theorem delL_mono : ∀ {L : List (Addr × Obj)} {S S' : Hp}, Same S S' → Same (delL S L) (delL S' L)
  | [], _, _, s => s
  | p :: L, S, S', s => delL_mono (L := L) (S := L2.del S p.1) (S' := L2.del S' p.1) fun b o e => by
      by_cases hb : b = p.1
      · rw [hb, L2.del_same] at e; cases e
      · rw [L2.del_ne hb] at e ⊢; exact s b o e
instance askMn {tup : List Value} {k : Nat} {it : AskI P w K mg base tup k} : Mn (AskJ it) := ⟨fun s ⟨h1, h2, h3⟩ => ⟨h1, h2.ext s, h3.trans (delL_mono s)⟩⟩
end
/-! ## lambdas in a list -/
def LamF (e : Expr) (qual : Str) (cells : List (Str × Addr)) (c : Addr) (dT : Option Addr) : LF := match e with
  | .Lambda params body scope _ => ⟨qual, params, body, scope, cloFrom cells scope.names [], c, dT⟩
  | e => ⟨qual, default, e, default, [], c, dT⟩
/-- the lambda at f, in a state -/
def AskS (F : LF) (f : Addr) (dvs : List V) (S : Hp) : Prop := S f = some (LamO f F) ∧ S F.c = some (CodeO F.c F.qual) ∧ LDef F dvs S
theorem AskS.up {F : LF} {f : Addr} {dvs : List V} {S S' : Hp} (h : AskS F f dvs S) (s : Same S S') : AskS F f dvs S' := ⟨s _ _ h.1, s _ _ h.2.1, ⟨h.2.2.1, fun T e => s _ _ (h.2.2.2 T e)⟩⟩
theorem codeO_ne' {c : Addr} {q : Str} (ps : Array Value) : CodeO c q ≠ .tbl ps := fun z => by unfold CodeO at z; cases z
theorem AskS.ext {F : LF} {f : Addr} {dvs : List V} {H H' : Hp} (h : AskS F f dvs H) (s : ExtN H H') : AskS F f dvs H' := ⟨s _ _ h.1 lamO_ne, s _ _ h.2.1 codeO_ne', ⟨h.2.2.1, fun T e => s _ _ (h.2.2.2 T e) (fun _ z => nomatch z)⟩⟩
/-- v is the lambda e (b: it has a default) -/
def AskE (cells : List (Str × Addr)) (q : Str) (e : Expr) (b : Bool) (v : V) (S : Hp) : Prop := ∃ f c dT, v = .ref f ∧ (b = false → dT = none) ∧ (b = true → ∃ T, dT = some T) ∧ AskS (LamF e q cells c dT) f (if b = true then [.int 0] else []) S
theorem AskE.ext {cells : List (Str × Addr)} {q : Str} {e : Expr} {b : Bool} {v : V} {H H' : Hp} (h : AskE cells q e b v H) (s : ExtN H H') : AskE cells q e b v H' := let ⟨f, c, dT, h1, h2, h3, h4⟩ := h; ⟨f, c, dT, h1, h2, h3, h4.ext s⟩
instance {cells : List (Str × Addr)} {q : Str} {e : Expr} {b : Bool} : Mn (AskE cells q e b) := ⟨fun s ⟨f, c, dT, h1, h2, h3, h4⟩ => ⟨f, c, dT, h1, h2, h3, h4.up s⟩⟩
theorem al_app {Ps Qs : List (V → Hp → Prop)} {vs ws : List V} {S : Hp} (h : Al Ps vs S) (g : Al Qs ws S) : Al (Ps ++ Qs) (vs ++ ws) S := by
  induction h with
  | nil => exact g
  | cons p _ ih => exact .cons p (ih g)
section
end
/-! ## a call to which the running frame's cells are shown -/
section
end
section
end
end Y
namespace Y
open PySem PySem.Spec PyProof.Rows L2 Z
/-! ## staticmethods def m(a, b, ..) of plain parameters, called x.m(e, ..) -/
section
end
end Y
namespace Y
open PySem PySem.Spec PyProof.Rows L2 L2H Z LamX NdefX
/-! ## what stays when cells and tables are hidden -/
def NF (o : HO) : Prop := (∀ x, o ≠ .frz x Tr) ∧ ∀ ps, o ≠ .tbl ps
def Les (S S' : Hp) : Prop := ∀ a o, S a = some o → NF o → S' a = some o
class Rb (P : V → Hp → Prop) : Prop where
  rb : ∀ {v : V} {S S' : Hp}, Les S S' → P v S → P v S'
theorem dt_rb {K : PySem.W.Frag} {d : PyData} {v : V} {S S' : Hp} (h : Dt K d v S) (e : Les S S') : Dt K d v S' := by
  induction h with
  | non => exact .non
  | bl b => exact .bl b
  | int i => exact .int i
  | str x => exact .str x
  | lst h l z _ ih => exact .lst (e _ _ h ⟨(fun _ z => nomatch z), (fun _ z => nomatch z)⟩) l z fun i x d hx hd => ih i x d hx hd e
  | tup h l z _ ih =>
    refine .tup ?_ l z fun i x d hx hd => ih i x d hx hd e
    rcases h with h | ⟨e0, (h | ⟨o', h⟩) | h⟩
    · exact .inl (e _ _ h ⟨(fun _ z => nomatch z), (fun _ z => nomatch z)⟩)
    · exact .inl (e _ _ h ⟨(fun _ z => nomatch z), (fun _ z => nomatch z)⟩)
    · exact .inr ⟨e0, .inl (.inr ⟨o', (e _ _ h ⟨(fun _ z => nomatch z), (fun _ z => nomatch z)⟩)⟩)⟩
    · exact .inr ⟨e0, .inr h⟩
instance {K : PySem.W.Frag} {d : PyData} : Rb (Dt K d) := ⟨fun e h => dt_rb h e⟩
instance {K : PySem.W.Frag} {F : PyData → Prop} : Rb (Ex K F) := ⟨fun e ⟨d, hd, h⟩ => ⟨d, hd, dt_rb h e⟩⟩
def NoV : V → Hp → Prop := fun _ _ => False
instance : Rb NoV := ⟨fun _ h => h⟩
instance : Mn NoV := ⟨fun _ h => h⟩
/-! ## asks whose answers need not be data -/
section
variable {P : Program} {w : World} {K : PySem.W.Frag} {mg : Str → Option Value} {base : Heap}
/-- an ask: a kept lambda with what it may answer -/
structure AskIV (P : Program) (w : World) (K : PySem.W.Frag) (mg : Str → Option Value) (base : Heap) (tup : List Value) (k : Nat) where
  R : V → Hp → Prop
  rb : Rb R
  O : EK → PyData → Prop
  f : Addr
  F : LF
  fr : List Str
  dvs : List V
  ws : List (Option V)
  L : List (Addr × Obj)
  sp : List (Option V) → Hp → VK → XK → Prop
  S0 : Hp
  lok : LOk P w K mg base (L2.CX P w) k f F fr dvs sp
  ok : ∀ e g, O e g → KOk K tup e
  hR : ∀ S2 H2 Q' E', Same S0 S2 → Same S2 H2 → (∀ v S1 H1, Gr S2 H2 S1 H1 → R v S1 → Q' v H1) → (∀ e g, O e g → XErr K e g S2 H2 E') → sp ws H2 Q' E'
def AskJV {tup : List Value} {k : Nat} (it : AskIV P w K mg base tup k) (v : V) (S : Hp) : Prop := v = .ref it.f ∧ Kept it.F it.f it.fr it.dvs it.ws it.L S ∧ Same it.S0 (delL S it.L)
instance askMnV {tup : List Value} {k : Nat} {it : AskIV P w K mg base tup k} : Mn (AskJV it) := ⟨fun s ⟨h1, h2, h3⟩ => ⟨h1, h2.ext s, h3.trans (delL_mono s)⟩⟩
end
/-! ## a list comprehension whose elements are of any kind -/
section
end
/-! ## a call to which the running frame's cells are shown -/
section
end
section
end
end Y
namespace Y
open PySem PySem.Spec PyProof.Rows L2 L2H Z LamX NdefX
/-! ## pairs of things of any kind -/
class Mn2 (P : V → V → Hp → Prop) : Prop where
  up : ∀ {v u : V} {H H' : Hp}, Same H H' → P v u H → P v u H'
/-- a pair whose parts are as P says -/
def PrP (P : V → V → Hp → Prop) (v : V) (S : Hp) : Prop := ∃ l a b, v = .ref l ∧ S l = some (.tup [a, b]) ∧ P a b S
instance {P : V → V → Hp → Prop} [m : Mn2 P] : Mn (PrP P) := ⟨fun s ⟨l, a, b, h1, h2, h3⟩ => ⟨l, a, b, h1, s _ _ h2, m.up s h3⟩⟩
section
variable {X : Cx} {σ : L2.St} {S : Hp} {a b e : Expr} {p pos : Pos} {Rs : List (V → V → Hp → Prop)} {l m : Addr} {xs ys : List V}
/-! ## displays of things of any kind -/
theorem ee_lstP {es : List Expr} {Ps : List (V → Hp → Prop)} (h : EA X σ S es Ps) (hz : Ps.length ≤ sizeLine := by show _ ≤ 16777216; exact Nat.le_of_ble_eq_true rfl) : EE X σ S (.List es pos) (LstP Ps) :=
  ee_lstA (vsP := Al Ps) h.2 (fun vs S' al => by rw [al_len al]; exact hz) fun vs S' p _ hp al => ⟨p, vs, rfl, upd_same, al.up h.1 (Same.new hp)⟩
/-- len of a list or a tuple of any things -/
theorem ee_lenLP {n : Nat} {Pa : V → Hp → Prop} [Mn Pa] (hm : X.mg "len" = none) (ha : EE X σ S a Pa) (hl : ∀ v S1, Pa v S1 → ∃ l xs, v = .ref l ∧ (S1 l = some (.lst xs) ∨ S1 l = some (.tup xs)) ∧ xs.length = n) (hg : Gl X "len" := by rfl)
    (hs : starEach [a] X.env = (false, eval a X.env) :: starEach [] X.env := by rfl) : EE X σ S (.Call (.Name "len" p) [a] [] pos) (Dt X.K (.int n)) :=
  ee_callB call_len hm boot_len (ea_1 ha hs) (fun vs S1 H1 _ s al Q q => by
    obtain ⟨v, rfl, pv⟩ := al.one
    obtain ⟨l, xs, rfl, h | h, rfl⟩ := hl _ _ pv
    · exact ⟨_, xs.length, rfl, .inl ⟨_, sql_of (s _ _ h), rfl⟩, q _ S1 H1 (Gr.refl s) (.int _)⟩
    · exact ⟨_, xs.length, rfl, .inr ⟨_, sqt_of (s _ _ h), rfl⟩, q _ S1 H1 (Gr.refl s) (.int _)⟩) hg (he := hs) (hpl := by rfl)
end
end Y
namespace Y
open PySem PySem.Spec PyProof.Rows L2 L2H Z LamX NdefX
theorem al_mn {Ps : List (V → Hp → Prop)} (h : ∀ P ∈ Ps, Mn P) {xs : List V} {S S' : Hp} (s : Same S S') (a : Al Ps xs S) : Al Ps xs S' := by
  induction a with
  | nil => exact .nil
  | cons p _ ih => exact .cons ((h _ List.mem_cons_self).up s p) (ih (fun P hP => h P (List.mem_cons_of_mem _ hP)) s)
theorem lstP_mn {Ps : List (V → Hp → Prop)} (h : ∀ P ∈ Ps, Mn P) : Mn (LstP Ps) := ⟨fun s ⟨l, xs, a, b, c⟩ => ⟨l, xs, a, s _ _ b, al_mn h s c⟩⟩
section
variable {X : Cx} {σ : L2.St} {S H : Hp} {a b e tg : Expr} {p pos : Pos} {D : Ends} {rest : List Stmt}
/-- ls[i] of a list of things of any kind -/
theorem ee_ixLP {Ps : List (V → Hp → Prop)} {P : V → Hp → Prop} {i : Nat} (hM : ∀ P ∈ Ps, Mn P) (he : Ps[i]? = some P) (ha : EE X σ S a (LstP Ps)) (hb : EE X σ S b (Dt X.K (.int (i : Nat)))) (hs : PlainIx b := by exact fun _ _ => rfl) : EE X σ S (.Subscript a b pos) P := by
  haveI := lstP_mn hM
  exact ee_2 (pe_ix ix_list peb peb hs) ha hb fun x y S1 H1 _ s px py Q q => by
    cases py
    obtain ⟨l, xs, rfl, hl, al⟩ := px
    have hlen := al_len al
    have hi : i < Ps.length := by
      rcases Nat.lt_or_ge i Ps.length with h | h
      · exact h
      · rw [List.getElem?_eq_none h] at he; cases he
    have hx : i < xs.length := by omega
    obtain ⟨P', e1, e2⟩ := al_get al (List.getElem?_eq_getElem hx)
    rw [he] at e1
    obtain rfl := Option.some.inj e1
    exact ⟨l, xs, i, xs[i], rfl, rfl, sql_of (s _ _ hl), L2.atI_nat (List.getElem?_eq_getElem hx), q _ S1 H1 (Gr.refl s) e2⟩
end
end Y
namespace Y
open PySem PySem.Spec PyProof.Rows L2 L2H Z LamX NdefX
/-! ## lambdas where several code tables are told -/
section
end
end Y
namespace Y
open PySem PySem.Spec PyProof.Rows L2 L2H Z
section
end
end Y
namespace Y
open PySem PySem.Spec PyProof.Rows L2 L2H Z LamX NdefX PySem.W
section
end
end Y
namespace L2
open PySem PySem.Spec PyProof.Rows
section
end
end L2
namespace Y
open PySem PySem.Spec PyProof.Rows L2 Z
/-! ## own errors without an attribute -/
def spXI0 (C : Addr) (code : Str) : Sp := fun vs H Q _ => ∃ a, vs = [.ref a] ∧ H a = some (exo a C none) ∧ ∀ dx, H dx = none → dx ≠ a → Q .non (upd (upd H dx (exd dx [("code", .str code)])) a (exo a C (some dx)))
section
/-! ## methods def m(self, *xs) that raise -/
end
end Y
namespace Y
open PySem PySem.Spec PyProof.Rows L2 Z
/-! ## texts: count, partition, split, index -/
section
end
end Y
noncomputable section
namespace Y
open PySem PySem.Spec PyProof.Rows L2 PySem.Froz Z
/-! ## set(text), a text of ascii signs, equal ones among them -/
section
end
section
end
section
end
end Y
namespace Y
open PySem PySem.Spec PyProof.Rows L2 Z
/-! ## zip(text, list), zip(text, tuple) -/
end Y
namespace Y
open PySem PySem.Spec PyProof.Rows L2 L2H Z
section
end
end Y
namespace Y
open PySem PySem.Spec PyProof.Rows L2 Z
/-! ## name = [elt for x, y in iter if t] on one line, the name a local -/
section
end
end Y
namespace Y
open PySem PySem.Spec PyProof.Rows L2 Z
section
end
end Y
namespace Y
open PySem PySem.Spec PyProof.Rows L2 Z
section
end
end Y
namespace Y
open PySem PySem.Spec PyProof.Rows L2 Z
section
end
end Y
namespace Y
open PySem PySem.Spec PyProof.Rows L2 Z
section
end
end Y
namespace Y
open PySem PySem.Spec PyProof.Rows L2 L2H Z
section
end
end Y
namespace Y
open PySem PySem.Spec PyProof.Rows L2 Z
/-- a list l that grows: H knows it, S does not; all else that is known is S -/
structure Acc (K : PySem.W.Frag) (Sb Hb : Hp) (l : Addr) (ds : List PyData) (S H : Hp) : Prop where
  g : Gr Sb Hb S H
  n : S l = none
  sb : Same Sb Hb
  nb : Hb l = none
  ex : ∃ xs, H l = some (.lst xs) ∧ Dts K ds xs S ∧ xs.length ≤ sizeLine
section
variable {X : Cx} {σ : L2.St} {S H Sb Hb : Hp} {e o : Expr} {pos p apos : Pos} {D : Ends} {rest body : List Stmt} {l : Addr} {ds : List PyData} {d : PyData}
theorem Acc.put {K : PySem.W.Frag} {xs : List V} {es : List PyData} {ys : List V} (a : Acc K Sb Hb l ds S H) (hl : H l = some (.lst xs)) (hd : Dts K es ys S) (hz : xs.length + ys.length ≤ sizeLine) : Acc K Sb Hb l (ds ++ es) S (upd H l (.lst (xs ++ ys))) := by
  obtain ⟨xs', h1, h2, h3⟩ := a.ex
  rw [hl] at h1
  cases h1
  have G2 := Gr.cut (o := .lst (xs ++ ys)) a.g a.sb a.nb
  have e : del S l = S := by
    funext b
    by_cases hb : b = l
    · subst hb; rw [del_self, a.n]
    · rw [del_ne hb]
  rw [e] at G2
  exact ⟨G2, a.n, a.sb, a.nb, _, upd_same, h2.append hd, by rw [List.length_append]; exact hz⟩
end
end Y
namespace Y
open PySem PySem.Spec PyProof.Rows L2 Z
/-! ## a staticmethod of plain parameters, called x.m(k1=e1, k2=e2, k3=e3) in reversed order -/
section
end
end Y
namespace Y
open PySem PySem.Spec PyProof.Rows L2 Z
/-! ## name = [elt for x in iter if ..] on one line, the name a local -/
section
end
end Y
namespace Y
open PySem PySem.Spec PyProof.Rows L2 Z
/-! ## a new instance of a class whose __init__ takes things -/
section
end
/-! ## o(e), o an instance with an own __call__ -/
section
end
end Y
namespace Y
open PySem PySem.Spec PyProof.Rows L2 Z
section
end
end Y
namespace Y
open PySem PySem.Spec PyProof.Rows L2 Z
section
end
end Y
namespace Y
open PySem PySem.Spec PyProof.Rows L2 Z
/-! ## (e0)(e): e0 any expression that answers an instance with an own __call__; C(e1, e2, ..) whose e2 raises -/
section
end
end Y
namespace Y
open PySem PySem.Spec PyProof.Rows L2 Z
section
end
end Y
namespace Y
open PySem PySem.W PySem.Spec PyProof.Rows
open Builtin Builtin.ObjectAttr
/-! ## stores on an exception whose class is over any built-in one (as HandS.Exc's exc_osa and HandS.ExcInit's osa_old are over ValueError) -/
section
variable {prog : Program} {w : World} {A : Around} {R : Result → Shared → Prop} {hp : Heap} {g : Array GenState} {d : Drawn} {t : Nat} {os : OsState} {B : String} {bmB : List Value}
theorem osaG_new {K : W.Frag} {name : Str} {tk : Tok} {v : Value} {x C : Addr} {fv : Array Value} {cd : ClassData} (SB : StoreFacts B bmB "object.__setattr__" "object")
    (X : K.In hp) (hx : hp.get? x = some { cls := .ref C, data := .fields fv }) (hcd : W.clsIn K C = some cd) (hm : excTail bmB cd.mro = true) (hh : cd.hasDict = true) (ha : W.findIn K (.ref C) name = some none)
    (hq : ∀ h' tk' dx, (∀ b o, b ≠ x → hp.get? b = some o → h'.get? b = some o) → hp.objs.size ≤ dx → dx ≠ x → h'.get? x = some { cls := .ref C, dict := some dx, data := .fields fv } →
      h'.Ns1 dx (fun y => if y = name then some v else none) → R (.ok (.ret .none)) ⟨h', g, d, tk', os⟩) :
    codeAny (model prog w) A (.call (.builtin "object.__setattr__") ⟨[.ref x, .str name tk, v], []⟩) R ⟨hp, g, d, t, os⟩ := by
  have I : W.InstAt hp x { cls := .ref C, data := .fields fv } C none := ⟨hx, rfl, rfl, trivial⟩
  have SF := F.store_object
  have hob : cd.mro.contains (.type "object") = true := (excTail_contains "object" _ hm).trans SB.hasOwner
  have ne : cd.mro.isEmpty = false := by
    cases hl : cd.mro with
    | nil => rw [hl] at hob; cases hob
    | cons _ _ => rfl
  have hxs : x ≠ hp.objs.size := Nat.ne_of_lt (Heap.lt_size hx)
  have sub : W.Looks (model prog w) hp (isInstance (.ref x) (.type "object")) true := I.type.andThen (W.looks_mroIn X (by unfold W.mroIn; rw [hcd, Option.bind_some, if_neg (by rw [ne]; decide), hob]))
  refine codeAny_call_builtin SF.slot.plain SF.entry (@W.check_slot (model prog w) _ _ ⟨hp, g, d, t, os⟩ "object.__setattr__" "object" "__setattr__" (.ref x) [.str name tk, v] [] _ SF.kind SF.split sub (SF.args (.ref x) (.str name tk) v) ?_)
  have hmr : W.Looks (model prog w) hp (mroOf (.ref C)) cd.mro := (W.looks_clsIn X hcd).andThen .now
  have L3 : W.Looks (model prog w) hp (storeTaker? none) none := .now
  have hcls : W.Looks (model prog w) hp (classData C) cd := W.looks_clsIn X hcd
  rw [W.osa_eq, refuse_eq]
  refine wpAny_bind (wpAny_bind (I.type.at (wpAny_bind (hmr.at ?_))))
  rw [excTail_pass _ (SB.passes _) _ hm]
  refine wpAny_pure (wpAny_bind (I.type.at (wpAny_bind ((W.looks_findIn X ha).at (wpAny_bind (L3.at ?_))))))
  show wpAny _ _ (storeInOwnDict (.ref x) (.ref C) (.str name tk) name v false) _ _ _
  obtain ⟨nm, bs, mro, ns, qn, hd, sn, sb, ab, col, del⟩ := cd
  dsimp only at hh
  subst hh
  unfold storeInOwnDict ownDictForStores
  repeat (first | with_reducible refine PySem.HandSPX.store_in_new ?_ ?_ | with_reducible refine wpAny_loadPart_at hx ?_ | with_reducible refine hcls.at ?_ | wp_step)
  · exact ⟨_, #[], _, (Heap.get?_update_ne _ _ _ _ hxs.symm).trans (Heap.get?_push_at rfl rfl), rfl, fun e he => absurd he (by simp), fun _ => rfl⟩
  · intro h' tk' hn' hs
    have hx₁ : (hp.push { cls := .type "dict", data := .dict #[] }).get? x = some { cls := .ref C, data := .fields fv } := Heap.get?_push_of_some _ hx
    refine hq h' tk' hp.objs.size (fun b o hb ho => ?_) (Nat.le_refl _) hxs.symm ?_ hn'
    · exact (hs.2 b (Nat.ne_of_lt (Heap.lt_size ho))).trans ((Heap.get?_update_ne _ _ _ _ hb).trans (Heap.get?_push_of_some _ ho))
    · exact (hs.2 x hxs).trans (Heap.get?_update_self _ hx₁ rfl)
theorem osaG_old {K : W.Frag} {name : Str} {tk : Tok} {v : Value} {x C dx : Addr} {fv : Array Value} {cd : ClassData} {m0 : Str → Option Value} {nl : List Str} (SB : StoreFacts B bmB "object.__setattr__" "object")
    (X : K.In hp) (hx : hp.get? x = some { cls := .ref C, dict := some dx, data := .fields fv }) (hns : hp.Ns1 dx m0) (hw : Within m0 nl) (hz : nl.length ≤ 1000) (hcd : W.clsIn K C = some cd) (hm : excTail bmB cd.mro = true) (hh : cd.hasDict = true)
    (ha : W.findIn K (.ref C) name = some none)
    (hq : ∀ h' tk', (∀ b o, b ≠ dx → hp.get? b = some o → h'.get? b = some o) → h'.Ns1 dx (fun y => if y = name then some v else m0 y) → R (.ok (.ret .none)) ⟨h', g, d, tk', os⟩) :
    codeAny (model prog w) A (.call (.builtin "object.__setattr__") ⟨[.ref x, .str name tk, v], []⟩) R ⟨hp, g, d, t, os⟩ := by
  obtain ⟨oD, esD, epD, hoD, hdD, _⟩ := hns.count hw
  have I : W.InstAt hp x { cls := .ref C, dict := some dx, data := .fields fv } C (some oD) := ⟨hx, rfl, rfl, hoD⟩
  have SF := F.store_object
  have hob : cd.mro.contains (.type "object") = true := (excTail_contains "object" _ hm).trans SB.hasOwner
  have ne : cd.mro.isEmpty = false := by
    cases hl : cd.mro with
    | nil => rw [hl] at hob; cases hob
    | cons _ _ => rfl
  have sub : W.Looks (model prog w) hp (isInstance (.ref x) (.type "object")) true := I.type.andThen (W.looks_mroIn X (by unfold W.mroIn; rw [hcd, Option.bind_some, if_neg (by rw [ne]; decide), hob]))
  refine codeAny_call_builtin SF.slot.plain SF.entry (@W.check_slot (model prog w) _ _ ⟨hp, g, d, t, os⟩ "object.__setattr__" "object" "__setattr__" (.ref x) [.str name tk, v] [] _ SF.kind SF.split sub (SF.args (.ref x) (.str name tk) v) ?_)
  have hmr : W.Looks (model prog w) hp (mroOf (.ref C)) cd.mro := (W.looks_clsIn X hcd).andThen .now
  have L3 : W.Looks (model prog w) hp (storeTaker? none) none := .now
  have hcls : W.Looks (model prog w) hp (classData C) cd := W.looks_clsIn X hcd
  rw [W.osa_eq, refuse_eq]
  refine wpAny_bind (wpAny_bind (I.type.at (wpAny_bind (hmr.at ?_))))
  rw [excTail_pass _ (SB.passes _) _ hm]
  refine wpAny_pure (wpAny_bind (I.type.at (wpAny_bind ((W.looks_findIn X ha).at (wpAny_bind (L3.at ?_))))))
  show wpAny _ _ (storeInOwnDict (.ref x) (.ref C) (.str name tk) name v false) _ _ _
  obtain ⟨nm, bs, mro, ns, qn, hd, sn, sb, ab, col, del⟩ := cd
  dsimp only at hh
  subst hh
  unfold storeInOwnDict ownDictForStores
  repeat (first | with_reducible refine PySem.OEX.store_in_old hns hw hz ?_ | with_reducible refine wpAny_loadPart_at hx ?_ | with_reducible refine hcls.at ?_ | wp_step)
  intro h' tk' hn' hs
  exact hq h' tk' (fun b o hb ho => (hs.2 b hb).trans ho) hn'
end
end Y
namespace Y
open PySem PySem.Spec PyProof.Rows L2 Z
/-- an own exception class over the built-in B, its instances to be made and read -/
structure OexG (K : PySem.W.Frag) (C : Addr) : Prop where
  ex : ∃ (B newId initId : String) (bmB : List Value), ExcBaseFacts B newId initId bmB ∧ StoreFacts B bmB "object.__setattr__" "object" ∧ PySem.W.excInitIn K C bmB newId = true ∧ PySem.W.excOver K C bmB = true
  sa : PySem.W.findIn K (.ref C) "__setattr__" = some (some (.builtin "object.__setattr__"))
  xf : XfC K C
  kC : PySem.W.keepIn K (.ref C) = true
  ha : PySem.W.findIn K (.ref C) "__class__" = some (some (.builtin "object.__class__"))
  om : PySem.W.mroIn K C (.type "object") = some true
theorem OexG.over {K : PySem.W.Frag} {C : Addr} {bmB : List Value} (h : PySem.W.excOver K C bmB = true) : ∃ cd, PySem.W.clsIn K C = some cd ∧ PySem.W.excTail bmB cd.mro = true := by
  obtain ⟨cd, hc, ho⟩ := PySem.W.any_some h
  refine ⟨cd, hc, ?_⟩
  split at ho
  · rename_i C' bm hm
    rw [Bool.and_eq_true] at ho
    rw [hm]
    exact ho.2
  · cases ho
theorem OexG.dict {K : PySem.W.Frag} {C : Addr} (T : XfC K C) {cd : ClassData} (h : PySem.W.clsIn K C = some cd) : cd.hasDict = true := by
  obtain ⟨cd', hc, ho⟩ := PySem.W.any_some T.hdC
  rw [hc] at h
  cases h
  exact ho
section
variable {X : Cx} {pins : List (Addr × Obj)} {σ : L2.St} {H : Hp} {s : Shared} {a C dx : Addr} {f : Str} {y : V} {u : Value} {fs : List (Str × V)} {Q : Unit → Shared → Prop} {E : Value → Shared → Prop} {A : Around}
theorem ostG_new (T : OexG X.K C) (I : Inv X pins σ H s) (e : H a = some (exo a C none)) (hno : PySem.W.findIn X.K (.ref C) f = some none) (ry : RelV y u)
    (h : ∀ dx s', H dx = none → dx ≠ a → Inv X pins σ (upd (upd H dx (exd dx [(f, y)])) a (exo a C (some dx))) s' → Q () s') : wpAny (model X.prog X.w) A (setAttr (.ref a) f u) Q E s := by
  obtain ⟨B, newId, initId, bmB, FB, SB, _, hov⟩ := T.ex
  obtain ⟨cd, hcl, hm⟩ := OexG.over hov
  obtain ⟨t1, ho⟩ := exo_at I.hok e
  obtain ⟨hp, g, d, t, os⟩ := s
  refine PySem.W.set_plain I.kIn (ox := { cls := .ref C, dict := none, data := .fields #[.ref t1, .none, .none, .none, .bool false, .none] }) (od := none) ⟨ho, rfl, rfl, trivial⟩ T.sa ?_
  refine osaG_new SB I.kIn ho hcl hm (OexG.dict T.xf hcl) hno (fun h' tk' dx k dn dne hx hn => ?_)
  have hnd : H dx = none := I.hok.fresh dn
  have nd : ∀ {b : Addr} {o : Obj}, hp.get? b = some o → b ≠ dx := fun {b o} q => Nat.ne_of_lt (Nat.lt_of_lt_of_le (Heap.lt_size q) dn)
  have na : ∀ {b : Addr}, H b = none → b ≠ a := fun {b} n z => by
    rw [z, e] at n
    cases n
  have Un1 : Un X.fs [] H (upd (upd H dx (exd dx [(f, y)])) a (exo a C (some dx))) hp h' := {
    keep := fun b o q n _ _ => k b o (na n) q
    slot := fun b o q n _ _ => ⟨o.slots, k b o (na n) q⟩
    free := fun b o q n _ => by rw [upd_ne (na n), upd_ne (nd q)]; exact n
    there := fun b o q _ => by
      by_cases hb : b = a
      · exact ⟨_, by rw [hb]; exact hx⟩
      · exact ⟨o, k b o hb q⟩
    tups := fun b xs q => by rw [upd_ne (at_ne e q exo_tup), upd_ne (ne_of_none q hnd)]; exact q
    frzs := fun b o v q => by rw [upd_ne (at_ne e q exo_frz), upd_ne (ne_of_none q hnd)]; exact q
    tbls := fun b ps q => ⟨#[], by rw [upd_ne (at_ne e q exo_tbl), upd_ne (ne_of_none q hnd), q]; simp⟩ }
  refine h dx _ hnd dne (I.un (t' := tk') Un1 fun b o q => ?_)
  by_cases hb : b = a
  · subst hb
    rw [upd_same] at q
    cases q
    exact exo_ok hx
  · rw [upd_ne hb] at q
    by_cases hd : b = dx
    · subst hd
      rw [upd_same] at q
      cases q
      exact exd_ok hn (relO_put (fs := []) ry fun g => True.intro)
    · rw [upd_ne hd] at q
      exact (I.hok b o q).stay (fun c v hc z => k c v (by
          rcases hc with hc | hc
          · rw [hc]
            exact hb
          · exact at_ne e hc exo_own) z)
        (fun c hc => by rw [upd_ne (at_ne e hc exo_own), upd_ne (ne_of_none hc hnd)]; exact hc) (fun c xs hc => by rw [upd_ne (at_ne e hc exo_tup), upd_ne (ne_of_none hc hnd)]; exact hc)
theorem ostG_old (T : OexG X.K C) (I : Inv X pins σ H s) (e : H a = some (exo a C (some dx))) (ed : H dx = some (exd dx fs)) (hl : fs.length ≤ 900) (hno : PySem.W.findIn X.K (.ref C) f = some none) (ry : RelV y u)
    (h : ∀ s', Inv X pins σ (upd H dx (exd dx ((f, y) :: fs))) s' → Q () s') : wpAny (model X.prog X.w) A (setAttr (.ref a) f u) Q E s := by
  obtain ⟨B, newId, initId, bmB, FB, SB, _, hov⟩ := T.ex
  obtain ⟨cd, hcl, hm⟩ := OexG.over hov
  obtain ⟨t1, ho⟩ := exo_at I.hok e
  obtain ⟨mA, hns, rel⟩ := exd_at I.hok ed
  have hw := within_of rel
  obtain ⟨hp, g, d, t, os⟩ := s
  obtain ⟨oD, _, _, hoD, _, _⟩ := hns.count hw
  refine PySem.W.set_plain I.kIn (ox := { cls := .ref C, dict := some dx, data := .fields #[.ref t1, .none, .none, .none, .bool false, .none] }) (od := some oD) ⟨ho, rfl, rfl, hoD⟩ T.sa ?_
  refine osaG_old SB I.kIn ho hns hw (by rw [List.length_map]; omega) hcl hm (OexG.dict T.xf hcl) hno (fun h' tk' k hn => ?_)
  have hd : ∃ o, h'.get? dx = some o := by
    obtain ⟨o, _, _, e', _⟩ := hn
    exact ⟨o, e'⟩
  exact h _ (I.write (t' := tk') (x := dx) (e := dx) (o := exd dx ((f, y) :: fs)) (by rw [ed]; exact True.intro) (.inl rfl) k hd (exd_ok hn (relO_put ry rel)))
end
/-- self.f = e -/
def tOsG (K : PySem.W.Frag) (f : Str) (to te : TE) : TS := fun D σ H => te σ H fun y H1 => to σ H1 fun x H2 => ∃ a C : Addr, x = .ref a ∧ OexG K C ∧ PySem.W.findIn K (.ref C) f = some none ∧
  ((H2 a = some (exo a C none) ∧ ∀ dx, H2 dx = none → dx ≠ a → D.nx σ (upd (upd H2 dx (exd dx [(f, y)])) a (exo a C (some dx)))) ∨
    ∃ (dx : Addr) (fs : List (Str × V)), H2 a = some (exo a C (some dx)) ∧ H2 dx = some (exd dx fs) ∧ fs.length ≤ 900 ∧ D.nx σ (upd H2 dx (exd dx ((f, y) :: fs))))
/-- C(e, ..) as a value -/
def tMkG (C : Addr) (sp : Sp) (dvs : List V) (ta : TA) : TE := fun σ H Q => ta σ H fun vs H1 => vs.length ≤ 1000 ∧ ∀ a, H1 a = none → sp (.ref a :: (vs ++ dvs)) (upd H1 a (exo a C none)) (fun v H2 => v = .non ∧ Q (.ref a) H2) (fun _ _ _ => False)
section
variable {X : Cx} {o e : Expr} {es : List Expr} {to te : TE} {ta : TA} {f : Str} {p p' p1 p2 pos : Pos}
theorem ps_osG (ho : PE X o to) (he : PE X e te) (hs : swapsWith e (some (.Attribute o f p')) pos.line X.env = pure false := by rfl) : PS X (.Assign [.Attribute o f p'] e pos) (tOsG X.K f to te) := by
  refine ⟨fun pins s σ H D I h => ?_⟩
  refine plainObj_wpAny_Assign_Attribute (thn (he.run pins s σ H _ I h) fun v s1 ⟨y, H1, I1, r1, q1⟩ => thn (ho.run pins s1 σ H1 _ I1 q1) fun u s2 ⟨x, H2, I2, r2, a, C, ex, T, hno, q⟩ => ?_) hs
  subst ex
  obtain rfl : u = Value.ref a := r2
  rcases q with ⟨ea, q⟩ | ⟨dx, fs, ea, ed, hl, q⟩
  · exact ostG_new T I2 ea hno r1 fun dx s' n ne J => ⟨σ, _, J, q dx n ne⟩
  · exact ostG_old T I2 ea ed hl hno r1 fun s' J => ⟨σ, _, J, q⟩
theorem run_mkG {CX : CXT} {C fI : Addr} {k : Nat} {fd : FuncData} {ps : List Str} {sp : Sp} {ds : List Value} {dvs : List V} {pins : List (Addr × Obj)} {σ : L2.St} {H : Hp} {s : Shared} {Q : VK} {us : List Value} {vs : List V} (T : OexG X.K C) (iC : PySem.W.findIn X.K (.ref C) "__init__" = some (some (.ref fI))) (tI : PySem.W.typeIn X.K (.ref fI) = some (.type "function"))
    (F1 : FnOk X.prog X.w X.K X.mg X.base CX k fI fd ps sp) (hr : Room (k + 1) X.A) (hb : Binds X.K fd ps ds) (hd : Vals dvs ds) (hx : Passes CX X (fun _ _ _ => False)) (I1 : Inv X pins σ H s) (r1 : Vals vs us) (hz : vs.length ≤ 1000)
    (q1 : ∀ a, H a = none → sp (.ref a :: (vs ++ dvs)) (upd H a (exo a C none)) (fun v H2 => v = .non ∧ Q (.ref a) H2) (fun _ _ _ => False)) :
    wpAny (model X.prog X.w) X.A (call (.ref C) us) (EP X pins σ Q) X.xe s := by
  obtain ⟨B, newId, initId, bmB, FB, SB, hin, hov⟩ := T.ex
  obtain ⟨nm, N, qn, bs, bm, hdct, sn, sub, ab, col, dd, k0, k1, k2, k3, k5, hC, hbm⟩ := PySem.W.excInit_of I1.kIn hin
  obtain ⟨hp, g, dr, tk, os⟩ := s
  have hsz : hp.objs.size ≤ hp.objs.size + 1 := Nat.le_succ _
  have hn : H (hp.objs.size + 1) = none := I1.hok.fresh hsz
  have hq := q1 (hp.objs.size + 1) hn
  have kk : ∀ b o, hp.get? b = some o → ((hp.push (PySem.W.kdv_tup us)).push (PySem.HandSPX.excO C hp.objs.size)).get? b = some o := fun b o e => Heap.get?_push_of_some _ (Heap.get?_push_of_some _ e)
  have hget : ((hp.push (PySem.W.kdv_tup us)).push (PySem.HandSPX.excO C hp.objs.size)).get? (hp.objs.size + 1) = some (PySem.HandSPX.excO C hp.objs.size) := by heap_get
  have I2 : Inv X pins σ (upd H (hp.objs.size + 1) (exo (hp.objs.size + 1) C none)) ⟨(hp.push (PySem.W.kdv_tup us)).push (PySem.HandSPX.excO C hp.objs.size), g, dr, tk, os⟩ :=
    I1.laid (t' := tk) (a := hp.objs.size + 1) (o := exo (hp.objs.size + 1) C none) (h' := (hp.push (PySem.W.kdv_tup us)).push (PySem.HandSPX.excO C hp.objs.size)) kk hsz (exo_ok hget)
  have r2 : Vals (V.ref (hp.objs.size + 1) :: (vs ++ dvs)) (Value.ref (hp.objs.size + 1) :: (us ++ ds)) := .cons rfl (r1.append hd)
  have hl : (Value.ref (hp.objs.size + 1) :: us ++ ds).length = ps.length := by
    have e := r2.length
    rw [F1.len _ _ _ _ hq] at e
    exact e.symm
  have hus : us.length ≤ sizeLine := by
    rw [← Paired.length r1, sizeLine_eq]
    omega
  refine wpAny_call (PySem.HandSPX.call_own FB hbm hC (PySem.W.looks_findIn I1.kIn iC) (fun self => PySem.W.bind_fn I1.kIn self tI) hus
    (codeAny_mono (F1.run _ X.stack _ _ ⟨Value.ref (hp.objs.size + 1) :: us, []⟩ (Value.ref (hp.objs.size + 1) :: (us ++ ds)) _ _ (fun _ _ _ => False) (hr.make C us []) (I2.env0.make C us []) (hb _ (Value.ref (hp.objs.size + 1) :: us) I2.kIn hl) r2 hq) fun r s' hq' => ?_))
  cases r with
  | error er => exact hx pins σ _ _ er s' I2 hq'
  | ok fl =>
    cases fl with
    | ret u =>
      obtain ⟨v, H', I3, rv, ev, q3⟩ := I2.after hq'
      subst ev
      exact ⟨rv, ⟨V.ref (hp.objs.size + 1), H', I3, rfl, q3⟩⟩
    | next => exact False.elim hq'
    | brk => exact False.elim hq'
    | cont => exact False.elim hq'
theorem pe_mkG {CX : CXT} {x : Str} {C fI : Addr} {k : Nat} {fd : FuncData} {ps : List Str} {sp : Sp} {ds : List Value} {dvs : List V} (T : OexG X.K C) (iC : PySem.W.findIn X.K (.ref C) "__init__" = some (some (.ref fI))) (tI : PySem.W.typeIn X.K (.ref fI) = some (.type "function"))
    (F1 : FnOk X.prog X.w X.K X.mg X.base CX k fI fd ps sp) (hr : Room (k + 1) X.A) (hb : Binds X.K fd ps ds) (hd : Vals dvs ds) (hx : Passes CX X (fun _ _ _ => False)) (hg : Gl X x) (hm : X.mg x = some (.ref C)) (ha : PA X (e :: es) ta)
    (hdb : (x == ("__debug__" : Str)) = false := by decide) (he : starEach (e :: es) X.env = (false, eval e X.env) :: starEach es X.env := by rfl) (hpl : (backTo pos (starEach es X.env)).any (·.1) = false := by rfl) :
    PE X (.Call (.Name x p) (e :: es) [] pos) (tMkG C sp dvs ta) := by
  refine ⟨fun pins s σ H Q I h => ?_⟩
  refine wpAny_Call_Name_kw (ld_glob I hg hm ?_ hdb)
  refine PySem.W.callWith_K (h₀ := X.base) I.ok.mod.kin T.kC (thn (ha.run pos pins s σ H _ I h) fun us s1 ⟨vs, H1, I1, r1, hz, q1⟩ => ⟨I1.kIn, ?_⟩) he hpl
  exact run_mkG T iC tI F1 hr hb hd hx I1 r1 hz q1
theorem pe_mkG0 {CX : CXT} {x : Str} {C fI : Addr} {k : Nat} {fd : FuncData} {ps : List Str} {sp : Sp} {ds : List Value} {dvs : List V} (T : OexG X.K C) (iC : PySem.W.findIn X.K (.ref C) "__init__" = some (some (.ref fI))) (tI : PySem.W.typeIn X.K (.ref fI) = some (.type "function"))
    (F1 : FnOk X.prog X.w X.K X.mg X.base CX k fI fd ps sp) (hr : Room (k + 1) X.A) (hb : Binds X.K fd ps ds) (hd : Vals dvs ds) (hx : Passes CX X (fun _ _ _ => False)) (hg : Gl X x) (hm : X.mg x = some (.ref C)) (hdb : (x == ("__debug__" : Str)) = false := by decide) :
    PE X (.Call (.Name x p) [] [] pos) (tMkG C sp dvs tNil) := by
  refine ⟨fun pins s σ H Q I h => ?_⟩
  refine wpAny_Call_Name_kw (ld_glob I hg hm ?_ hdb)
  obtain ⟨hz, q1⟩ := h
  exact PySem.W.callWith_K0 I.kIn T.kC (run_mkG (us := []) (vs := []) T iC tI F1 hr hb hd hx I .nil hz q1)
end
end Y
namespace PySem
namespace HandSPX
open PySem.W PySem.Calls PyProof.Rows
/-! ### an own exception class called with keywords (as call_own and what it rests on, there without) -/
section
variable {M : Model} {A : Around} {E : Value → Shared → Prop} {h : Heap} {g : Array GenState} {d : Drawn} {t : Nat} {os : OsState}
variable {nm q : Str} {C N : Addr} {bs bm bmB : List Value} {hdct : Bool} {sn : List Str} {sub : List Value} {ab : Bool} {col : Option Bool} {dd : Option Addr} {k0 k1 k2 k3 k5 : Option Value} {B newId initId : String}
theorem check_new_ownK (F : ExcBaseFacts B newId initId bmB) (hT : ∀ X : String, bm.contains (.type X) = bmB.contains (.type X)) {rest : List Value} {kw : List (Str × Value)} {Q : Unit → Shared → Prop}
    (hC : h.get? C = some (excClassObj nm q C N bs bm hdct sn sub ab col dd k0 k1 k2 k3 k5 newId)) (hq : Q () ⟨h, g, d, t, os⟩) : wpAny M A (checkBuiltinCall newId ⟨.ref C :: rest, kw⟩) Q E ⟨h, g, d, t, os⟩ := by
  have hcont : (Value.ref C :: bm).contains (.type B) = true := by rw [List.contains_cons, hT, F.hasB, Bool.or_true]
  have hstar := F.noStar
  simp only [checkBuiltinCall, F.newKind, F.newSplit, F.newRow]
  repeat (first | refine wpAny_loadPart_at hC ?_ | (refine wpAny_isSubtype_exc hC ?_; rw [hcont]) | refine wpAny_staticBase_exc hC ?_ | refine wpAny_madeBy_exc hC ?_ | simp only [bne_self_eq_false, Bool.false_eq_true, if_false] | wp_step)
  exact hq
end
section
variable {prog : Program} {w : World} {A : Around} {E : Value → Shared → Prop} {R : Result → Shared → Prop} {h : Heap} {g : Array GenState} {d : Drawn} {t : Nat} {os : OsState}
variable {nm q : Str} {C N : Addr} {bs bm bmB : List Value} {hdct : Bool} {sn : List Str} {sub : List Value} {ab : Bool} {col : Option Bool} {dd : Option Addr} {k0 k1 k2 k3 k5 : Option Value} {B newId initId : String}
theorem new_ownK (F : ExcBaseFacts B newId initId bmB) (hT : ∀ X : String, bm.contains (.type X) = bmB.contains (.type X)) {rest : List Value} {kw : List (Str × Value)}
    (hC : h.get? C = some (excClassObj nm q C N bs bm hdct sn sub ab col dd k0 k1 k2 k3 k5 newId))
    (hq : R (.ok (.ret (.ref (h.objs.size + 1)))) ⟨(h.push { cls := .type "tuple", data := .seq rest.toArray }).push
      { cls := .ref C, data := .fields #[.ref h.objs.size, .none, .none, .none, .bool false, .none] }, g, d, t, os⟩) (hrest : rest.length ≤ sizeLine) :
    codeAny (model prog w) A (.builtin newId ⟨.ref C :: rest, kw⟩) R ⟨h, g, d, t, os⟩ := by
  have hends := F.ends
  have hcB : (Value.ref C :: bm).contains (.type B) = true := by rw [List.contains_cons, hT, F.hasB, Bool.or_true]
  have hcA : (Value.ref C :: bm).contains (.type "AttributeError") = false := by rw [List.contains_cons, hT, F.noAttr]; rfl
  have hcN : (Value.ref C :: bm).contains (.type "NameError") = false := by rw [List.contains_cons, hT, F.noName]; rfl
  refine codeAny_builtinAt F.entry ?_
  unfold Builtin.«BaseException.__new__»
  refine wpAt_bind ?_
  show wpAt _ _ _ (stack >>= _) _ _ _
  refine wpAt_bind (wpAt_stack fun p below => wpAt_of_wpAny ?_)
  wp_walk
  refine wpAt_of_wpAny ?_
  rw [F.owner]
  repeat (first | with_reducible refine wpAny_madeHere_exc F.canon hC ?_ | with_reducible refine wpAny_loadPart_at hC ?_ | (with_reducible refine wpAny_isSubtype_exc hC ?_; first | rw [hcB] | rw [hcA] | rw [hcN]) | wp_step)
  show R _ _
  rw [Heap.size_push]
  exact hq
theorem type_call_ownK (F : ExcBaseFacts B newId initId bmB) (hT : ∀ X : String, bm.contains (.type X) = bmB.contains (.type X)) {rest : List Value} {kw : List (Str × Value)} {fI : Addr} {Q : Fin → Shared → Prop}
    (hC : h.get? C = some (excClassObj nm q C N bs bm hdct sn sub ab col dd k0 k1 k2 k3 k5 newId))
    (hi : W.Looks (model prog w) h (typeLookup (.ref C) "__init__") (some (.ref fI))) (hb : ∀ self, W.Looks (model prog w) h (bindSpecial (.ref fI) self) (.ref fI, [self])) (hrest : rest.length ≤ sizeLine)
    (hq : codeAny (model prog w) A (.call (.ref fI) ⟨.ref (h.objs.size + 1) :: rest, kw⟩)
      (fun r s' => match r with | .ok (.ret v) => v = .none ∧ Q (.done (.ret (.ref (h.objs.size + 1)))) s' | .ok _ => False | .error e => E e s')
      ⟨(h.push (W.kdv_tup rest)).push (excO C h.objs.size), g, d, t, os⟩) :
    wpAny (model prog w) A (Builtin.«type.__call__» ⟨.ref C :: rest, kw⟩) Q E ⟨h, g, d, t, os⟩ := by
  repeat (first | with_reducible refine wpAny_loadPart_at hC ?_ | with_reducible refine wpAny_madeBy_exc hC ?_ | wp_step)
  refine codeAny_call_builtin_code (Code.quiet_builtin _ F.quiet) (check_new_ownK F hT hC ?_)
  refine new_ownK F hT hC ?_ hrest
  show wpAny _ _ _ _ _ _
  have k : ∀ b o, h.get? b = some o → ((h.push (W.kdv_tup rest)).push (excO C h.objs.size)).get? b = some o := fun b o e => Heap.get?_push_of_some _ (Heap.get?_push_of_some _ e)
  have hC₁ := k _ _ hC
  have hget : ((h.push (W.kdv_tup rest)).push (excO C h.objs.size)).get? (h.objs.size + 1) = some (excO C h.objs.size) := by heap_get
  have hcC : (Value.ref C :: bm).contains (.ref C) = true := by simp
  have i1 := hi.keeps k
  have b1 := (hb (.ref (h.objs.size + 1))).keeps k
  unfold isInstance
  repeat (first | with_reducible refine wpAny_loadPart_at hget ?_ | (with_reducible refine wpAny_isSubtype_exc hC₁ ?_; rw [hcC]) | wp_step)
  show wpAny _ _ (typeLookup (.ref C) _) _ _ _
  refine i1.at ?_
  refine wpAny_holding (wpAny_bind (b1.at ?_))
  refine wpAny_bind (wpAny_call (codeAny_mono hq fun r s' z => ?_))
  rcases r with e | (v | _ | _ | _) <;> first | exact z | exact z.elim | skip
  obtain ⟨rfl, z⟩ := z
  first
    | exact wpAny_pure (wpAny_pure z)
    | (wp_walk; exact z)
theorem call_ownK (F : ExcBaseFacts B newId initId bmB) (hT : ∀ X : String, bm.contains (.type X) = bmB.contains (.type X)) {rest : List Value} {kw : List (Str × Value)} {fI : Addr}
    (hC : h.get? C = some (excClassObj nm q C N bs bm hdct sn sub ab col dd k0 k1 k2 k3 k5 newId))
    (hi : W.Looks (model prog w) h (typeLookup (.ref C) "__init__") (some (.ref fI))) (hb : ∀ self, W.Looks (model prog w) h (bindSpecial (.ref fI) self) (.ref fI, [self])) (hrest : rest.length ≤ sizeLine)
    (hq : codeAny (model prog w) (A.under (.builtin "type.__call__" ⟨.ref C :: rest, kw⟩)) (.call (.ref fI) ⟨.ref (h.objs.size + 1) :: rest, kw⟩) (W.InitBack (h.objs.size + 1) R)
      ⟨(h.push (W.kdv_tup rest)).push (excO C h.objs.size), g, d, t, os⟩) :
    codeAny (model prog w) A (.call (.ref C) ⟨rest, kw⟩) R ⟨h, g, d, t, os⟩ := by
  have f1 := tc_lookup
  have f2 := tc_bind (.ref C)
  have hTy : (⟨h, g, d, t, os⟩ : Shared).TypeIs (.ref C) "type" := ⟨_, hC, rfl⟩
  refine codeAny_of_tree ?_
  show wpAny _ _ (callAny (.ref C) _) _ _ _
  repeat (any_goals (first | assumption | with_reducible refine wpAny_loadPart_at hC ?_ | wp_step))
  refine ⟨rfl, ?_⟩
  refine codeAny_call_builtin_at (Code.quiet_builtin _ (by decide +kernel)) entry_typeCall (wpAny_check_type_call_sub hC (type_call_ownK F hT hC hi hb hrest ?_))
  refine codeAny_mono hq fun r s' z => ?_
  rcases r with e | (v | _ | _ | _) <;> exact z
end
end HandSPX
end PySem
namespace Y
open PySem PySem.Spec PyProof.Rows L2 Z
/-- C(k = e) as a value -/
def tMkGK (C : Addr) (sp : Sp) (gV : List V → List V → List V) (m : Nat) (tk : TA) : TE := fun σ H Q => tk σ H fun zs H1 => zs.length = m ∧ ∀ a, H1 a = none → sp (gV [.ref a] zs) (upd H1 a (exo a C none)) (fun v H2 => v = .non ∧ Q (.ref a) H2) (fun _ _ _ => False)
section
variable {X : Cx} {p pos : Pos} {kws : List Keyword} {tk : TA}
theorem pe_mkGK {CX : CXT} {x : Str} {C fI : Addr} {k : Nat} {fd : FuncData} {ps ks : List Str} {sp : Sp} {g : List Value → List Value → List Value} {gV : List V → List V → List V} (T : OexG X.K C) (iC : PySem.W.findIn X.K (.ref C) "__init__" = some (some (.ref fI))) (tI : PySem.W.typeIn X.K (.ref fI) = some (.type "function"))
    (F1 : FnOk X.prog X.w X.K X.mg X.base CX k fI fd ps sp) (hr : Room (k + 1) X.A) (hb : KBn X.K fd ps 1 ks g gV) (hx : Passes CX X (fun _ _ _ => False)) (hg : Gl X x) (hm : X.mg x = some (.ref C)) (hkw : PK X kws tk)
    (hall : (backToKw pos (keywordEach kws X.env)).all (·.1.isSome) = true := by rfl) (hks : (backToKw pos (keywordEach kws X.env)).filterMap (·.1) = ks := by rfl) (hdb : (x == ("__debug__" : Str)) = false := by decide)
    (hpl : ((backTo pos (starEach [] X.env)).any (·.1) || (backToKw pos (keywordEach kws X.env)).any (·.1.isNone)) = false := by rfl) :
    PE X (.Call (.Name x p) [] kws pos) (tMkGK C sp gV ks.length tk) := by
  refine ⟨fun pins s σ H Q I h => ?_⟩
  refine wpAny_Call_Name_kw (ld_glob I hg hm ?_ hdb)
  refine PySem.W.callWith_KW0 (h₀ := X.base) I.ok.mod.kin T.kC hall ?_ hpl
  refine thn (hkw.run pos pins s σ H _ I h) fun ws s2 ⟨zs, H2, I2, rz, l2, q2⟩ => ⟨I2.kIn, ?_⟩
  rw [hks]
  obtain ⟨B, newId, initId, bmB, FB, SB, hin, hov⟩ := T.ex
  obtain ⟨nm, N, qn, bs, bm, hdct, sn, sub, ab, col, dd, k0, k1, k2, k3, k5, hC, hbm⟩ := PySem.W.excInit_of I2.kIn hin
  obtain ⟨hp, g', dr, tk, os⟩ := s2
  have hsz : hp.objs.size ≤ hp.objs.size + 1 := Nat.le_succ _
  have hn : H2 (hp.objs.size + 1) = none := I2.hok.fresh hsz
  have hq := q2 (hp.objs.size + 1) hn
  have kk : ∀ b o, hp.get? b = some o → ((hp.push (PySem.W.kdv_tup [])).push (PySem.HandSPX.excO C hp.objs.size)).get? b = some o := fun b o e => Heap.get?_push_of_some _ (Heap.get?_push_of_some _ e)
  have hget : ((hp.push (PySem.W.kdv_tup [])).push (PySem.HandSPX.excO C hp.objs.size)).get? (hp.objs.size + 1) = some (PySem.HandSPX.excO C hp.objs.size) := by heap_get
  have I3 : Inv X pins σ (upd H2 (hp.objs.size + 1) (exo (hp.objs.size + 1) C none)) ⟨(hp.push (PySem.W.kdv_tup [])).push (PySem.HandSPX.excO C hp.objs.size), g', dr, tk, os⟩ :=
    I2.laid (t' := tk) (a := hp.objs.size + 1) (o := exo (hp.objs.size + 1) C none) (h' := (hp.push (PySem.W.kdv_tup [])).push (PySem.HandSPX.excO C hp.objs.size)) kk hsz (exo_ok hget)
  have r1 : Vals [V.ref (hp.objs.size + 1)] [Value.ref (hp.objs.size + 1)] := .cons rfl .nil
  have r2 := hb.rel r1 rz
  have e2 : ws.length = ks.length := rz.length.symm.trans l2
  refine wpAny_call (PySem.HandSPX.call_ownK FB hbm hC (PySem.W.looks_findIn I2.kIn iC) (fun self => PySem.W.bind_fn I2.kIn self tI) (by rw [sizeLine_eq]; show 0 ≤ _; omega)
    (codeAny_mono (F1.run _ X.stack _ _ ⟨[Value.ref (hp.objs.size + 1)], ks.zip ws⟩ (g [Value.ref (hp.objs.size + 1)] ws) _ _ (fun _ _ _ => False) (hr.make C [] (ks.zip ws)) (I3.env0.make C [] (ks.zip ws)) (hb.to _ [Value.ref (hp.objs.size + 1)] ws I3.kIn rfl e2) r2 hq) fun r s' hq' => ?_))
  cases r with
  | error er => exact hx pins σ _ _ er s' I3 hq'
  | ok fl =>
    cases fl with
    | ret u =>
      obtain ⟨v, H', I4, rv, ev, q3⟩ := I3.after hq'
      subst ev
      exact ⟨rv, ⟨V.ref (hp.objs.size + 1), H', I4, rfl, q3⟩⟩
    | next => exact False.elim hq'
    | brk => exact False.elim hq'
    | cont => exact False.elim hq'
end
/-- a made error of the kind k that keeps g -/
def ErV (K : PySem.W.Frag) (k : EK) (g : PyData) (v : V) (S : Hp) : Prop := ∃ a dx fs, v = .ref a ∧ S a = some (exo a k.C (some dx)) ∧ S dx = some (exd dx fs) ∧ fs.lookup ("code" : Str) = some (V.str k.code) ∧ ∀ x, k.fn = some x → ∃ w, fs.lookup x = some w ∧ Dt K g w S
instance {K : PySem.W.Frag} {k : EK} {g : PyData} : Mn (ErV K k g) := ⟨fun s ⟨a, dx, fs, h1, h2, h3, h4, h5⟩ => ⟨a, dx, fs, h1, s _ _ h2, s _ _ h3, h4, fun x hx => let ⟨w, e, d⟩ := h5 x hx; ⟨w, e, d.up s⟩⟩⟩
/-- an own error that keeps its argument as fname, ready to be made -/
structure ErrG (P : Program) (w : World) (K : PySem.W.Frag) (mg : Str → Option Value) (base : Heap) (x fname : Str) (k : EK) : Prop where
  T : OexG K k.C
  fn : k.fn = some fname
  ne : fname ≠ "code"
  gl : mg x = some (.ref k.C)
  n1 : PySem.W.findIn K (.ref k.C) fname = some none
  n2 : PySem.W.findIn K (.ref k.C) "code" = some none
  ex : ∃ fI fd ps, PySem.W.findIn K (.ref k.C) "__init__" = some (some (.ref fI)) ∧ PySem.W.typeIn K (.ref fI) = some (.type "function") ∧ FnOk P w K mg base CX0 1 fI fd ps (spXI k.C fname k.code) ∧ Binds K fd ps [] ∧ KBn K fd ps 1 [fname] (fun us ws => us ++ ws) (fun vs zs => vs ++ zs)
structure ErrG0 (P : Program) (w : World) (K : PySem.W.Frag) (mg : Str → Option Value) (base : Heap) (x : Str) (k : EK) : Prop where
  T : OexG K k.C
  fn : k.fn = none
  gl : mg x = some (.ref k.C)
  n2 : PySem.W.findIn K (.ref k.C) "code" = some none
  ex : ∃ fI fd ps, PySem.W.findIn K (.ref k.C) "__init__" = some (some (.ref fI)) ∧ PySem.W.typeIn K (.ref fI) = some (.type "function") ∧ FnOk P w K mg base CX0 1 fI fd ps (spXI0 k.C k.code) ∧ Binds K fd ps []
theorem mk_upd {H : Hp} {a dx : Addr} {o1 o2 o3 o4 : HO} (h : dx ≠ a) : upd (upd (upd (upd H a o1) dx o2) a o3) dx o4 = upd (upd H a o3) dx o4 := by
  funext b
  by_cases h1 : b = dx
  · subst h1; rw [upd_same, upd_same]
  · rw [upd_ne h1, upd_ne h1]
    by_cases h2 : b = a
    · subst h2; rw [upd_same, upd_same]
    · rw [upd_ne h2, upd_ne h2, upd_ne h1, upd_ne h2]
theorem mk_upd0 {H : Hp} {a dx : Addr} {o1 o2 o3 : HO} (h : dx ≠ a) : upd (upd (upd H a o1) dx o2) a o3 = upd (upd H dx o2) a o3 := by
  funext b
  by_cases h2 : b = a
  · subst h2; rw [upd_same, upd_same]
  · rw [upd_ne h2, upd_ne h2]
    by_cases h1 : b = dx
    · subst h1; rw [upd_same, upd_same]
    · rw [upd_ne h1, upd_ne h1, upd_ne h2]
section
variable {X : Cx} {σ : L2.St} {S S' H : Hp} {e e1 o a b : Expr} {P P0 : V → Hp → Prop} {pos p pos2 q1 : Pos} {x fname n : Str} {k : EK} {g : PyData}
theorem mk_errV {H : Hp} {S1 H1 : Hp} {v : V} {Q : VK} (hne : fname ≠ "code") (hf : k.fn = some fname) (s : Same S1 H1) (pv : Dt X.K g v S1) (q : ∀ v S' H', Gr S1 H1 S' H' → ErV X.K k g v S' → Q v H') (a0 : Addr) (ha0 : H1 a0 = none) :
    spXI k.C fname k.code [.ref a0, v] (upd H1 a0 (exo a0 k.C none)) (fun w H2 => w = .non ∧ Q (.ref a0) H2) (fun _ _ _ => False) := by
  refine ⟨a0, v, rfl, upd_same, fun dx hdx hne2 => ⟨rfl, ?_⟩⟩
  rw [upd_ne hne2] at hdx
  rw [mk_upd hne2]
  have h1 := Gr.new (o := exo a0 k.C (some dx)) s ha0
  have hd2 : upd H1 a0 (exo a0 k.C (some dx)) dx = none := by rw [upd_ne hne2]; exact hdx
  have h2 := Gr.new (o := exd dx [("code", .str k.code), (fname, v)]) h1.sub hd2
  refine q _ _ _ (h1.trans h2) ⟨a0, dx, _, rfl, ?_, upd_same, rfl, fun y hy => ?_⟩
  · rw [upd_ne (Ne.symm hne2), upd_same]
  · rw [hf] at hy
    cases hy
    refine ⟨v, ?_, (pv.up h1.st).up h2.st⟩
    have e : (fname == ("code" : Str)) = false := by simpa using hne
    simp [List.lookup, e]
/-- C(e), an own error as a value -/
theorem ee_mkE (R : ErrG X.prog X.w X.K X.mg X.base x fname k) (hr : Room 2 X.A) (ha : EE X σ S e (Dt X.K g)) (hg : Gl X x := by rfl) (hdb : (x == ("__debug__" : Str)) = false := by decide)
    (he : starEach [e] X.env = (false, eval e X.env) :: starEach [] X.env := by rfl) (hpl : (backTo pos (starEach [] X.env)).any (·.1) = false := by rfl) : EE X σ S (.Call (.Name x p) [e] [] pos) (ErV X.K k g) := fun H s Q q => by
  obtain ⟨fI, fd, ps, iC, tI, F1, hb, _⟩ := R.ex
  refine he_of (pe_mkG R.T iC tI F1 hr hb .nil pass0 hg R.gl (pa_cons (te := bE X e) (t := tNil) peb pa_nil he) hdb he hpl) (ha H s _ fun v S1 H1 g1 pv => ?_)
  exact ⟨by show 1 ≤ 1000; decide, fun a0 ha0 => mk_errV (X := X) (H := H) R.ne R.fn g1.sub pv (fun v S' H' g2 r => q v S' H' (g1.trans g2) r) a0 ha0⟩
theorem ee_mkEK (R : ErrG X.prog X.w X.K X.mg X.base x fname k) (hr : Room 2 X.A) (ha : EE X σ S e (Dt X.K g)) (hg : Gl X x := by rfl) (hdb : (x == ("__debug__" : Str)) = false := by decide)
    (hall : (backToKw pos (keywordEach [⟨some fname, e, q1⟩] X.env)).all (·.1.isSome) = true := by rfl) (hks : (backToKw pos (keywordEach [⟨some fname, e, q1⟩] X.env)).filterMap (·.1) = [fname] := by rfl)
    (hpl : ((backTo pos (starEach [] X.env)).any (·.1) || (backToKw pos (keywordEach [⟨some fname, e, q1⟩] X.env)).any (·.1.isNone)) = false := by rfl) : EE X σ S (.Call (.Name x p) [] [⟨some fname, e, q1⟩] pos) (ErV X.K k g) := fun H s Q q => by
  obtain ⟨fI, fd, ps, iC, tI, F1, _, hb⟩ := R.ex
  refine he_of (pe_mkGK R.T iC tI F1 hr hb pass0 hg R.gl (pk_cons (te := bE X e) (t := tNil) peb pk_nil) hall hks hdb hpl) (ha H s _ fun v S1 H1 g1 pv => ?_)
  exact ⟨rfl, fun a0 ha0 => mk_errV (X := X) (H := H) R.ne R.fn g1.sub pv (fun v S' H' g2 r => q v S' H' (g1.trans g2) r) a0 ha0⟩
theorem ee_mkE0 (R : ErrG0 X.prog X.w X.K X.mg X.base x k) (hr : Room 2 X.A) (hg : Gl X x := by rfl) (hdb : (x == ("__debug__" : Str)) = false := by decide) : EE X σ S (.Call (.Name x p) [] [] pos) (ErV X.K k g) := fun H s Q q => by
  obtain ⟨fI, fd, ps, iC, tI, F1, hb⟩ := R.ex
  refine he_of (pe_mkG0 R.T iC tI F1 hr hb .nil pass0 hg R.gl hdb) ⟨by show 0 ≤ 1000; decide, fun a0 ha0 => ⟨a0, rfl, upd_same, fun dx hdx hne2 => ⟨rfl, ?_⟩⟩⟩
  rw [upd_ne hne2] at hdx
  rw [mk_upd0 hne2]
  have h1 := Gr.new (o := exd dx [("code", .str k.code)]) s hdx
  have hd2 : upd H dx (exd dx [("code", .str k.code)]) a0 = none := by rw [upd_ne (Ne.symm hne2)]; exact ha0
  have h2 := Gr.new (o := exo a0 k.C (some dx)) h1.sub hd2
  refine q _ _ _ (h1.trans h2) ⟨a0, dx, [("code", .str k.code)], rfl, upd_same, ?_, rfl, fun y hy => ?_⟩
  · rw [upd_ne hne2, upd_same]
  · rw [R.fn] at hy; cases hy
/-- o.n, an attribute of a made error -/
theorem ee_exv {C : Addr} (T : OexG X.K C) (hno : PySem.W.findIn X.K (.ref C) n = some none) (ho : EE X σ S o P0) (hP : ∀ w S1, P0 w S1 → ∃ a dx fs v, w = .ref a ∧ S1 a = some (exo a C (some dx)) ∧ S1 dx = some (exd dx fs) ∧ fs.lookup n = some v ∧ P v S1) (hb : attributeBase o n X.env (eval o X.env) = eval o X.env := by rfl) : EE X σ S (.Attribute o n pos) P := fun H s Q q pins sh I => by
  refine attr_of hb (thn (ho H s (fun w H1 => ∃ S1, Gr S H S1 H1 ∧ P0 w S1) (fun v S1 H1 g pv => ⟨S1, g, pv⟩) pins sh I) fun u s1 hh => ?_)
  obtain ⟨w, H1, I1, rx, S1, g, pw⟩ := hh
  obtain ⟨a, dx, fs, v, rfl, ha, hd, l, pv⟩ := hP w S1 pw
  obtain rfl : u = Value.ref a := rx
  obtain ⟨t1, hobj⟩ := exo_at I1.hok (g.sub _ _ ha)
  obtain ⟨mA, hns, hr⟩ := exd_at I1.hok (g.sub _ _ hd)
  obtain ⟨od, hod, hl⟩ := lookIn_ns hns
  obtain ⟨u', hu, ru⟩ := RelO.some_of (v := v) (o := mA n) (by rw [← l]; exact hr n)
  have J : PySem.W.InstAt s1.heap a { cls := .ref C, dict := some dx, data := .fields #[.ref t1, .none, .none, .none, .bool false, .none] } C (some od) := ⟨hobj, rfl, rfl, hod⟩
  exact HandSPX.exc_get I1.kIn J T.xf.ga T.xf.gg T.xf.exC (PySem.W.findObj_own T.xf.hdC hno rfl (by rw [hl, hu])) (handed_of ru) ⟨v, H1, I1.tok _, ru, q v S1 H1 g pv⟩
theorem ErV.code {K : PySem.W.Frag} {w : V} {S1 : Hp} (h : ErV K k g w S1) : ∃ a dx fs v, w = .ref a ∧ S1 a = some (exo a k.C (some dx)) ∧ S1 dx = some (exd dx fs) ∧ fs.lookup ("code" : Str) = some v ∧ Dt K (.str k.code) v S1 := by
  obtain ⟨a, dx, fs, h1, h2, h3, h4, _⟩ := h
  exact ⟨a, dx, fs, _, h1, h2, h3, h4, .str _⟩
theorem ErV.kept {K : PySem.W.Frag} {w : V} {S1 : Hp} (hf : k.fn = some n) (h : ErV K k g w S1) : ∃ a dx fs v, w = .ref a ∧ S1 a = some (exo a k.C (some dx)) ∧ S1 dx = some (exd dx fs) ∧ fs.lookup n = some v ∧ Dt K g v S1 := by
  obtain ⟨a, dx, fs, h1, h2, h3, _, h5⟩ := h
  obtain ⟨v, e, pv⟩ := h5 n hf
  exact ⟨a, dx, fs, v, h1, h2, h3, e, pv⟩
/-- isinstance(e, c) of a made error -/
def rIsG (K : PySem.W.Frag) : List V → Hp → VK → Prop := fun xs H Q => ∃ (a D dx : Addr) (fs : List (Str × V)) (c : V) (cv : Value) (b : Bool), xs = [.ref a, c] ∧ OexG K D ∧ H a = some (exo a D (some dx)) ∧ H dx = some (exd dx fs) ∧ (∀ u, RelV c u → u = cv) ∧ PySem.W.kitOne K (.ref D) cv = some b ∧ Q (.bl b) H
theorem call_isG (hn : PySem.W.specialIn X.K (.builtin "object.__class__") "__get__" = some (some (.builtin "getset_descriptor.__get__"))) (ht : PySem.W.takesIn X.K (.builtin "object.__class__") = some true) : CallR X (.builtin "isinstance") (rIsG X.K) := by
  intro pins s σ H xs us Q I r h
  obtain ⟨a, D, dx, fs, c, cv, b, rfl, T, ha, hd, hcv, e, q⟩ := h
  cases r with
  | cons rx rr =>
    cases rr with
    | cons rt rr =>
      cases rr
      cases rx
      have ec := hcv _ rt
      subst ec
      obtain ⟨t1, hobj⟩ := exo_at I.hok ha
      obtain ⟨mA, hns, hr⟩ := exd_at I.hok hd
      obtain ⟨od, hod, hl⟩ := lookIn_ns hns
      have J : PySem.W.InstAt s.heap a { cls := .ref D, dict := some dx, data := .fields #[.ref t1, .none, .none, .none, .bool false, .none] } D (some od) := ⟨hobj, rfl, rfl, hod⟩
      have hcl : (PySem.W.clsIn X.K D).isSome = true := by
        obtain ⟨cd, hc, _⟩ := PySem.W.any_some T.xf.hdC
        rw [hc]; rfl
      exact PySem.W.kia_one (PySem.W.kitx_exc hcl T.xf.ga T.xf.gg T.xf.exC T.ha hn ht T.om) I.kIn J e (fun z => nomatch z) fun tk => ⟨.bl b, H, I.kept (t' := tk) fun _ _ z => z, rfl, q⟩
theorem ee_isG {c : Expr} {cV : V} {cv : Value} {bb : Bool} (hn : PySem.W.specialIn X.K (.builtin "object.__class__") "__get__" = some (some (.builtin "getset_descriptor.__get__"))) (ht : PySem.W.takesIn X.K (.builtin "object.__class__") = some true) (T : OexG X.K k.C)
    (hm : X.mg "isinstance" = none) (ha : EE X σ S a (ErV X.K k g)) (hc : ∀ S1, Same S S1 → EE X σ S1 c (fun w _ => w = cV)) (hcv : ∀ u, RelV cV u → u = cv) (e : PySem.W.kitOne X.K (.ref k.C) cv = some bb) (hg : Gl X "isinstance" := by rfl)
    (hs : starEach [a, c] X.env = (false, eval a X.env) :: starEach [c] X.env := by rfl) (hs2 : starEach [c] X.env = (false, eval c X.env) :: starEach [] X.env := by rfl) (hpl : (backTo pos (starEach [c] X.env)).any (·.1) = false := by rfl) : EE X σ S (.Call (.Name "isinstance" p) [a, c] [] pos) (Dt X.K (.bool bb)) := by
  haveI : Mn (fun (w : V) (_ : Hp) => w = cV) := ⟨fun _ h => h⟩
  refine ee_callB (call_isG hn ht) hm boot_isinstance (ea_2 ha (hc S (Same.refl S)) hs hs2) (fun vs S1 H1 _ s al Q q => ?_) hg (he := hs) (hpl := hpl)
  obtain ⟨v, w, rfl, pv, pw⟩ := al.two
  subst pw
  obtain ⟨a0, dx, fs, rfl, h2, h3, _, _⟩ := pv
  exact ⟨a0, k.C, dx, fs, _, cv, bb, rfl, T, s _ _ h2, s _ _ h3, hcv, e, q _ S1 H1 (Gr.refl s) (.bl bb)⟩
end
end Y
namespace Y
open PySem PySem.Spec PyProof.Rows L2 Z
/-! ## lists of things, put together -/
theorem mns_of : ∀ {Ps : List (V → Hp → Prop)}, (∀ P ∈ Ps, Mn P) → Mns Ps
  | [], _ => .nil
  | _ :: _, h => .cons (h _ List.mem_cons_self) (mns_of fun P hp => h P (List.mem_cons_of_mem _ hp))
section
variable {X : Cx} {σ : L2.St} {S : Hp} {a b : Expr} {Ps Qs : List (V → Hp → Prop)} {pos : Pos}
theorem ee_catLP (hM : ∀ P ∈ Ps, Mn P) (hM2 : ∀ P ∈ Qs, Mn P) (hz : Ps.length + Qs.length ≤ sizeLine) (ha : EE X σ S a (LstP Ps)) (hb : EE X σ S b (LstP Qs)) : EE X σ S (.BinOp a .Add b pos) (LstP (Ps ++ Qs)) := by
  haveI := lstP_mn hM
  haveI := lstP_mn hM2
  refine ee_op op_cat ha hb fun x y S1 H1 _ s px py Q q => ?_
  obtain ⟨l, xs, rfl, hl, al⟩ := px
  obtain ⟨m, ys, rfl, hm, am⟩ := py
  have hz' : xs.length + ys.length ≤ sizeLine := by rw [al_len al, al_len am]; exact hz
  exact ⟨l, m, xs, ys, rfl, rfl, s _ _ hl, s _ _ hm, hz', fun t ht => q _ _ _ (Gr.new s ht) ⟨t, _, rfl, upd_same, al_app (al.up (mns_of hM) (Same.new (s.free ht))) (am.up (mns_of hM2) (Same.new (s.free ht)))⟩⟩
end
/-! ## an own error to be made, told by Bools -/
theorem oexGB_ok {K : PySem.W.Frag} {C : Addr} {B newId initId : String} {bmB : List Value} (FB : ExcBaseFacts B newId initId bmB) (SB : StoreFacts B bmB "object.__setattr__" "object") (h : oexGB K C bmB newId = true) : OexG K C := by
  unfold oexGB at h
  simp only [Bool.and_eq_true, decide_eq_true_eq] at h
  obtain ⟨h1, h2, h3, h4, h5, h6, h7⟩ := h
  exact ⟨⟨B, newId, initId, bmB, FB, SB, h1, h2⟩, He.eqO_ok h3, xfB_ok h4, h5, He.eqO_ok h6, h7⟩
theorem errGB_ok {K : PySem.W.Frag} {C fI : Addr} {f : Str} (h : errGB K C fI f = true) : PySem.W.findIn K (.ref C) f = some none ∧ PySem.W.findIn K (.ref C) "code" = some none ∧ PySem.W.findIn K (.ref C) "__init__" = some (some (.ref fI)) ∧ PySem.W.typeIn K (.ref fI) = some (.type "function") := by
  unfold errGB at h
  simp only [Bool.and_eq_true, decide_eq_true_eq] at h
  exact ⟨He.eqO_ok h.1, He.eqO_ok h.2.1, He.eqO_ok h.2.2.1, h.2.2.2⟩
theorem errGB0_ok {K : PySem.W.Frag} {C fI : Addr} (h : errGB0 K C fI = true) : PySem.W.findIn K (.ref C) "code" = some none ∧ PySem.W.findIn K (.ref C) "__init__" = some (some (.ref fI)) ∧ PySem.W.typeIn K (.ref fI) = some (.type "function") := by
  unfold errGB0 at h
  simp only [Bool.and_eq_true, decide_eq_true_eq] at h
  exact ⟨He.eqO_ok h.1, He.eqO_ok h.2.1, h.2.2⟩
end Y
namespace K01
open PySem PySem.Spec PyProof.Rows L2 Z Y
abbrev FnT (K : PySem.W.Frag) (x : Str) (st : Stmt) (f : Addr) (fd : FuncData) : Prop := FunD K x x (defArgs st) (defBody st) (defScope st) [] [] f fd
/-! ## data in short -/
def lI (l : List Int) : PyData := .list (l.map .int)
def kindN : PyData → Nat
  | .none => 0
  | .bool _ => 1
  | .int _ => 2
  | .str _ => 3
  | .list _ => 4
  | .tuple _ => 5
  | .dict _ => 6
def marksL (d : PyData) : List Bool := [decide (kindN d = 0), isD d "bool", isD d "int", isD d "str"] ++ [isD d "list", isD d "tuple", true]
theorem marks_at (d : PyData) : (marksL d)[kindN d]? = some true := by cases d <;> rfl
theorem marks_no (d : PyData) : ∀ m, m < kindN d → (marksL d)[m]? = some false := by
  cases d with
  | none => exact fun m h => absurd h (Nat.not_lt_zero _)
  | bool b => exact fun
    | 0, _ => rfl
    | m + 1, h => absurd (show m + 1 < 1 from h) (by omega)
  | int b => exact fun
    | 0, _ => rfl
    | 1, _ => rfl
    | m + 2, h => absurd (show m + 2 < 2 from h) (by omega)
  | str b => exact fun
    | 0, _ => rfl
    | 1, _ => rfl
    | 2, _ => rfl
    | m + 3, h => absurd (show m + 3 < 3 from h) (by omega)
  | list b => exact fun
    | 0, _ => rfl
    | 1, _ => rfl
    | 2, _ => rfl
    | 3, _ => rfl
    | m + 4, h => absurd (show m + 4 < 4 from h) (by omega)
  | tuple b => exact fun
    | 0, _ => rfl
    | 1, _ => rfl
    | 2, _ => rfl
    | 3, _ => rfl
    | 4, _ => rfl
    | m + 5, h => absurd (show m + 5 < 5 from h) (by omega)
  | dict b => exact fun
    | 0, _ => rfl
    | 1, _ => rfl
    | 2, _ => rfl
    | 3, _ => rfl
    | 4, _ => rfl
    | 5, _ => rfl
    | m + 6, h => absurd (show m + 6 < 6 from h) (by omega)
theorem dt_non {K : PySem.W.Frag} {d : PyData} {v : V} {S : Hp} (h : Dt K d v S) : decide (v = .non) = decide (kindN d = 0) := by
  cases h <;> rfl
/-- data without dicts, at most n deep -/
def Bd : Nat → PyData → Prop
  | _, .none => True
  | _, .bool _ => True
  | _, .int _ => True
  | _, .str _ => True
  | 0, .list _ => False
  | 0, .tuple _ => False
  | n + 1, .list xs => ∀ x ∈ xs, Bd n x
  | n + 1, .tuple xs => ∀ x ∈ xs, Bd n x
  | _, .dict _ => False
theorem zip_self (xs : List PyData) : xs.zip xs = xs.map fun x => (x, x) := by
  induction xs with
  | nil => rfl
  | cons a l ih => simp [ih]
section
variable {P : Program} {w : World} {K : PySem.W.Frag} {mg : Str → Option Value} {base : Heap} {f : Addr} {fd : FuncData}
def spOpen0 (K : PySem.W.Frag) : Sp := fun vs H Q _ => ∃ (a : Addr) (ns : List Int), vs = [.ref a] ∧ SqL K H a (ns.map V.int) ∧ ns.length ≤ 63 ∧ ∀ (b c : Addr) (ms : List Int) (k : Int) (H' : Hp), H b = none → H c = none → b ≠ c → Same H H' → ms.length ≤ 63 → 0 ≤ k → k < 100000 →
  H' c = some (.lst (ms.map V.int)) → H' b = some (.lst [.ref c, .int 0, .int 0, .int k, .int 0]) → Q (.ref b) H'
def spOpen (K : PySem.W.Frag) : Sp := fun vs H Q _ => ∃ (a : Addr) (ns : List Int), vs = [.ref a] ∧ SqL K H a (ns.map V.int) ∧ ns.length ≤ 63 ∧ ∀ v H', Same H H' → BX v H' → Q v H'
theorem scL_open : FnScope ["_law_script"] ["_law_script"] (defScope sL_open) := ⟨rfl, rfl, rfl, by decide +kernel, rfl, by decide +kernel, by decide +kernel⟩
theorem cut_ints (ns : List Int) (k : Nat) : cutV (ns.map V.int) none (some (k : Int)) = (ns.take k).map V.int := by
  unfold cutV
  rw [HT.sIx_none, HT.sIx_nat, List.drop_zero, List.map_take, Nat.sub_zero]
  by_cases h : k ≤ (ns.map V.int).length
  · rw [Nat.min_eq_left h]
  · rw [Nat.min_eq_right (by omega), List.take_of_length_le (Nat.le_refl _), List.take_of_length_le (by omega)]
theorem ok_L_open0 (F : FnT K "_law_open" sL_open f fd) (g1 : mg "list" = none) (g2 : mg "len" = none) : FnOk P w K mg base CX0 1 f fd ["_law_script"] (spOpen0 K) := by
  refine fn_hs F scL_open (fun vs H Q E h => ?_) (fun cdv A outer sh H vs Q E hr h => ?_)
  · obtain ⟨a, ns, rfl, _⟩ := h
    rfl
  · obtain ⟨a, ns, rfl, hS, hl, q⟩ := h
    refine hs_cons (ps_ret (pe_lst (pa_cons (pe_callTy call_list_of (by rfl) g1 boot_list (pa_cons (pe_slice sl_list (pv 0) po_none (po_some pe_int)) pa_nil)) (pa_cons pe_int (pa_cons pe_int (pa_cons (pe_op op_add pe_int (pe_op op_mul pe_int (pe_callB call_len_seq (by rfl) g2 PySem.boot_len (pa_cons (pv 0) pa_nil)))) (pa_cons pe_int pa_nil))))))) ?_
    refine ⟨_, rfl, _, rfl, a, _, rfl, hS, fun p hp => ⟨p, _, rfl, .inl (sql_of upd_same), fun c hc => ?_⟩⟩
    have s1 : Same H (upd H p (.lst (cutV (ns.map V.int) none (some 63)))) := Same.new hp
    have hcp : p ≠ c := ne_of_none upd_same hc
    have hc0 : H c = none := s1.free hc
    have s2 := s1.trans (Same.new (o := .lst (cutV (ns.map V.int) none (some 63))) hc)
    refine ⟨_, rfl, a, _, rfl, .inl (sql_up s2 hS), 7, ((ns.map V.int).length : Int), rfl, rfl, .inl (by decide), 12016, 7 * ((ns.map V.int).length : Int), rfl, rfl, (by show 5 ≤ 16777216; decide), fun b hb => ?_⟩
    have hbc : b ≠ c := (ne_of_none upd_same hb).symm
    rw [List.length_map]
    refine q b c (ns.take 63) _ _ (s2.free hb) hc0 hbc (s2.trans (Same.new hb)) (by rw [List.length_take]; omega) (by omega) (by omega) ?_ upd_same
    rw [upd_ne hbc.symm, upd_same]
    exact congrArg (fun l => some (HO.lst l)) (cut_ints ns 63)
theorem ok_L_open (F : FnT K "_law_open" sL_open f fd) (g1 : mg "list" = none) (g2 : mg "len" = none) : FnOk P w K mg base CX0 1 f fd ["_law_script"] (spOpen K) := by
  refine FnOk.close (ok_L_open0 F g1 g2) (fun vs H Q E h => by obtain ⟨a, ns, rfl, _⟩ := h; rfl) fun vs H Q E h => ?_
  obtain ⟨a, ns, rfl, hS, hl, q⟩ := h
  refine ⟨a, ns, rfl, hS, hl, fun b c ms k H' nb nc nbc sm hm k0 k1 hc hb => ⟨b, _, boxPhi b c, nb, hb, sm, fun h' o => box_of ⟨0, 0, k, 0, rfl, by omega, by omega, k0, by omega, by omega⟩ o, box_stab, ?_⟩⟩
  refine q _ _ (fun x o e => by rw [upd_ne (ne_of_none e nb)]; exact sm _ _ e) ⟨b, c, ms, rfl, nbc, upd_same, by rw [upd_ne nbc.symm]; exact hc, hm⟩
def spTake0 : Sp := fun vs H Q _ => ∃ (b c : Addr) (ns : List Int) (sz : Int) (xs : List V), vs = [.ref b, .int sz] ∧ b ≠ c ∧ H b = some (.lst xs) ∧ BoxV c xs ∧ H c = some (.lst (ns.map V.int)) ∧ ns.length ≤ 63 ∧ 0 < sz ∧ sz < 1073741824 ∧
  ∀ (n : Int) (H' : Hp) (ys : List V), 0 ≤ n → n < sz → (∀ a o, H a = some o → a ≠ b → H' a = some o) → H' b = some (.lst ys) → BoxV c ys → Q (.int n) H'
def Ftake : List PyData → (PyData → Prop) → Prop := fun ds G => ∃ sz, ds = [.int sz] ∧ 0 < sz ∧ sz < 1073741824 ∧ G = fun d => ∃ n, d = .int n ∧ 0 ≤ n ∧ n < sz
theorem scL_take : FnScope ["_law_box", "_law_size", "_law_cell", "_law_digit", "_law_seed"] ["_law_box", "_law_size"] (defScope sL_take) := ⟨rfl, rfl, rfl, by decide +kernel, rfl, by decide +kernel, by decide +kernel⟩
theorem bound_mod {x y : Int} (h : 0 < y) : 0 ≤ x % y ∧ x % y < y := ⟨Int.emod_nonneg x (by omega), Int.emod_lt_of_pos x h⟩
/-- the box at b in H', all else as in H -/
structure TkI (H : Hp) (b c : Addr) (H' : Hp) (i g m k : Int) : Prop where
  hb : H' b = some (.lst [.ref c, .int i, .int g, .int m, .int k])
  ot : ∀ a o, H a = some o → a ≠ b → H' a = some o
  i0 : 0 ≤ i
  g0 : 0 ≤ g
  m0 : 0 ≤ m
  m1 : m < 2147483648
  k0 : 0 ≤ k
theorem TkI.up {H : Hp} {b c : Addr} {H1 H2 : Hp} {i g m k : Int} (t : TkI H b c H1 i g m k) (s : Same H1 H2) : TkI H b c H2 i g m k := ⟨s _ _ t.hb, fun a o h n => s _ _ (t.ot a o h n), t.i0, t.g0, t.m0, t.m1, t.k0⟩
theorem TkI.put {H : Hp} {b c : Addr} {H1 : Hp} {i g m k i' g' m' k' : Int} (t : TkI H b c H1 i g m k) (xs : List V) (e : xs = [.ref c, .int i', .int g', .int m', .int k']) (a0 : 0 ≤ i') (a1 : 0 ≤ g') (a2 : 0 ≤ m') (a3 : m' < 2147483648) (a4 : 0 ≤ k') : TkI H b c (upd H1 b (.lst xs)) i' g' m' k' := by
  subst e
  exact ⟨upd_same, fun a o h n => by rw [upd_ne n]; exact t.ot a o h n, a0, a1, a2, a3, a4⟩
theorem small64' {z : Int} (h0 : 0 ≤ z) (h : z < 2147483648) : -(2 ^ 64) < z ∧ z < 2 ^ 64 := by
  have e : (2 : Int) ^ 64 = 18446744073709551616 := by decide
  omega
theorem ok_L_take0 (F : FnT K "_law_take" sL_take f fd) (g1 : mg "len" = none) (g2 : mg "int" = none) : FnOk P w K mg base CX0 1 f fd ["_law_box", "_law_size"] spTake0 := by
  refine fn_hs F scL_take (fun vs H Q E h => ?_) (fun cdv A outer sh H vs Q E hr h => ?_)
  · obtain ⟨b, c, ns, sz, xs, rfl, _⟩ := h
    rfl
  · obtain ⟨b, c, ns, sz, xs, rfl, hbc, hb, hx, hc, hl, z0, z1, q⟩ := h
    obtain ⟨i, g, m, k, rfl, i0, g0, m0, m1, k0⟩ := hx.ex
    have T0 : TkI H b c H i g m k := ⟨hb, fun a o h _ => h, i0, g0, m0, m1, k0⟩
    have eb : ∀ {σ : L2.St} {S : Hp} {pos : Pos}, σ[0]? = some (some (V.ref b)) → EE (cxOf CX0 P w K mg base ["_law_box", "_law_size", "_law_cell", "_law_digit", "_law_seed"] "_law_take" (defScope sL_take) f cdv A outer sh H E).nox σ S (.Name "_law_box" pos) (fun w _ => w = .ref b) := fun h => ee_var 0 h rfl
    have hnz : ns.length ≤ sizeLine := Nat.le_trans hl (by decide)
    have ec : ∀ {S : Hp} {i g m k : Int} {σ : L2.St} {p1 p2 p3 : Pos} {n : Nat}, TkI H b c S i g m k → σ[0]? = some (some (V.ref b)) → EE (cxOf CX0 P w K mg base ["_law_box", "_law_size", "_law_cell", "_law_digit", "_law_seed"] "_law_take" (defScope sL_take) f cdv A outer sh H E).nox σ S (.Subscript (.Name "_law_box" p1) (.Constant (.int 0) n p2) p3) (Dt K (lI ns)) := fun {S i g m k} _ _ _ _ _ T h =>
      ee_ixB T.hb (eb h) ee_int (v := .ref c) rfl fun S' s => Dt.lst_mk (s _ _ (T.ot _ _ hc hbc.symm)) (int_dts ns S') (by rw [List.length_map]; exact hnz)
    refine hs_ifR (S := H) (fun σ' H' => ∃ (v : Option V) (i g m k : Int), σ' = [some (.ref b), some (.int sz), v, none, none] ∧ TkI H b c H' i g m k)
      (et_w (ew_and (et_eqI (ee_ixB hb (eb rfl) ee_int (v := .int g) rfl fun _ _ => .int g) ee_int) fun _ => ew_and1 (et_lt (ee_ixB hb (eb rfl) ee_int (v := .int i) rfl fun _ _ => .int i) (ee_len g1 (n := ns.length) (by simp [lI, lenD]) (ec T0 rfl))))) (Same.refl H) (fun hk S1 H1 g1' => ?_) (fun hk S1 H1 g1' => hs_nil ⟨none, i, g, m, k, rfl, T0.up g1'.hh⟩) ?_
    · -- a cell is taken
      have hi : i < (ns.length : Int) := by
        have h2 := (Bool.and_eq_true_iff.mp hk).2
        exact of_decide_eq_true h2
      have T1 := T0.up g1'.hh
      have hget : atI (ns.map PyData.int) i = some (.int (ns[i.toNat]'(by omega))) := by
        unfold atI ixN
        rw [if_pos i0, List.length_map, if_pos hi]
        show (ns.map PyData.int)[i.toNat]? = _
        rw [List.getElem?_map, List.getElem?_eq_getElem (by omega)]
        rfl
      refine hs_set (S := H1) (i := 2) (ee_ixL hget (ec T1 rfl) (ee_ixB T1.hb (eb rfl) ee_int (v := .int i) rfl fun _ _ => .int i)) (Same.refl _) scL_take.nd fun v S2 H2 g2' pv => ?_
      cases pv
      have T2 := T1.up g2'.hh
      refine hs_setL (ee_add (ee_ixB T2.hb (eb rfl) ee_int (v := .int i) rfl fun _ _ => .int i) ee_int) (eb rfl) ee_int T2.hb (j := 1) rfl fun v H3 s3 pv => ?_
      cases pv
      have T3 := (T2.up s3).put ([.ref c, .int i, .int g, .int m, .int k].set 1 (.int (i + 1))) rfl (by omega) g0 m0 m1 k0
      refine hs_if (S := _) (et_ge (ee_var 2 rfl (Dt.int (K := K) _)) (ee_pow (by exact ⟨by decide, by decide, by decide⟩) ee_int ee_int)) (Same.refl _) (fun hk4 S4 H4 g4 => ?_) (fun hk4 S4 H4 g4 => ?_)
      · have T4 := T3.up g4.hh
        have hge := of_decide_eq_true hk4
        refine hs_setL (ee_var 2 rfl (Dt.int (K := K) _)) (eb rfl) ee_int T4.hb (j := 2) rfl fun v H5 s5 pv => hs_nil (hs_nil ?_)
        cases pv
        have e18 : (0 : Int) ≤ 10 ^ (18 : Int).toNat := by decide
        exact ⟨_, i + 1, _, m, k, rfl, (T4.up s5).put _ rfl (by omega) (by omega) m0 m1 k0⟩
      · have T4 := T3.up g4.hh
        have b1 := @bound_mod (ns[i.toNat]'(by omega)) 2147483497 (by decide)
        refine hs_setL (ee_mod (by decide) (ee_intOf g2 (ee_add (ee_add (ee_mulS (.inr (by decide)) (ee_ixB T4.hb (eb rfl) ee_int (v := .int m) rfl fun _ _ => .int m) ee_int) (ee_mulS (.inr (by decide)) (ee_mod (by decide) (ee_intOf g2 (ee_var 2 rfl (Dt.int (K := K) _))) ee_int) ee_int)) ee_int)) ee_int) (eb rfl) ee_int T4.hb (j := 3) rfl fun v H5 s5 pv => hs_nil (hs_nil ?_)
        cases pv
        have b2 := @bound_mod (m * 39119 + ns[i.toNat]'(by omega) % 2147483497 * 6143 + 53) 2147483563 (by decide)
        exact ⟨_, i + 1, g, _, k, rfl, (T4.up s5).put _ rfl (by omega) g0 b2.1 (by omega) k0⟩
    · rintro σ' H2 ⟨v, i, g, m, k, rfl, T2⟩
      have g0 := T2.g0
      have m0 := T2.m0
      refine hs_if (S := H2) (et_gt (ee_ixB T2.hb (eb rfl) ee_int (v := .int g) rfl fun _ _ => .int g) ee_int) (Same.refl _) (fun hk S3 H3 g3 => ?_) (fun hk S3 H3 g3 => hs_nil ?_)
      · have T3 := T2.up g3.hh
        refine hs_set (S := H3) (i := 3) (ee_mod z0 (ee_intOf g2 (ee_ixB T3.hb (eb rfl) ee_int (v := .int g) rfl fun _ _ => .int g)) (ee_var 1 rfl (Dt.int (K := K) sz))) (Same.refl _) scL_take.nd fun v S4 H4 g4 pv => ?_
        cases pv
        have T4 := T3.up g4.hh
        have b3 := @bound_mod g sz z0
        refine hs_setL (ee_fdiv (wide_div (b := 31) z0 (by omega) (by decide) (by decide)) (ee_ixB T4.hb (eb rfl) ee_int (v := .int g) rfl fun _ _ => .int g) (ee_var 1 rfl (Dt.int (K := K) sz))) (eb rfl) ee_int T4.hb (j := 2) rfl fun v H5 s5 pv => ?_
        cases pv
        have T5 := (T4.up s5).put ([.ref c, .int i, .int g, .int m, .int k].set 2 (.int (g / sz))) rfl T2.i0 (Int.ediv_nonneg g0 (by omega)) T2.m0 T2.m1 T2.k0
        refine hs_ret (S := _) (ee_var 3 rfl (Dt.int (K := K) _)) (Same.refl _) fun v S6 H6 g6 pv => ?_
        cases pv
        have T6 := T5.up g6.hh
        exact q _ H6 _ b3.1 b3.2 T6.ot T6.hb ⟨i, g / sz, m, k, rfl, T6.i0, T6.g0, T6.m0, T6.m1, T6.k0⟩
      · have T3 := T2.up g3.hh
        refine hs_setL (ee_add (ee_ixB T3.hb (eb rfl) ee_int (v := .int k) rfl fun _ _ => .int k) ee_int) (eb rfl) ee_int T3.hb (j := 4) rfl fun v H4 s4 pv => ?_
        cases pv
        have k0 := T3.k0
        have T4 := (T3.up s4).put ([.ref c, .int i, .int g, .int m, .int k].set 4 (.int (k + 1))) rfl T3.i0 T3.g0 T3.m0 T3.m1 (by omega)
        refine hs_set (S := _) (i := 4) (ee_ixB (P := Dt K (.int m)) T4.hb (eb rfl) ee_int (v := .int m) rfl fun _ _ => .int m) (Same.refl _) scL_take.nd fun v S5 H5 g5 pv => ?_
        cases pv
        have T5 := T4.up g5.hh
        refine hs_setL (ee_mod (by decide) (ee_intOf g2 (ee_add (ee_add (ee_add (ee_mulS (.inl (small64' m0 T2.m1)) (ee_var 4 rfl (Dt.int (K := K) m)) (ee_var 4 rfl (Dt.int (K := K) m))) (ee_mulS (.inr (by decide)) (ee_var 4 rfl (Dt.int (K := K) m)) ee_int)) (ee_mulS (.inr (by decide)) (ee_ixB T5.hb (eb rfl) ee_int (v := .int (k + 1)) rfl fun _ _ => .int (k + 1)) ee_int)) ee_int)) ee_int) (eb rfl) ee_int T5.hb (j := 3) rfl fun v H6 s6 pv => ?_
        cases pv
        have b2 := @bound_mod (m * m + m * 28411 + (k + 1) * 1500007 + 90001) 2147483587 (by decide)
        have T6 := (T5.up s6).put ([.ref c, .int i, .int g, .int m, .int (k + 1)].set 3 (.int ((m * m + m * 28411 + (k + 1) * 1500007 + 90001) % 2147483587))) rfl T5.i0 T5.g0 b2.1 (by omega) (by omega)
        refine hs_ret (S := _) (ee_mod z0 (ee_intOf g2 (ee_add (ee_fdiv (wide_div (b := 31) (by decide) (by decide) (by decide) (by decide)) (ee_ixB T6.hb (eb rfl) ee_int (P := Dt K (.int ((m * m + m * 28411 + (k + 1) * 1500007 + 90001) % 2147483587))) (v := .int ((m * m + m * 28411 + (k + 1) * 1500007 + 90001) % 2147483587)) rfl fun _ _ => .int _) ee_int) (ee_mulS (.inr (by decide)) (ee_mod (by decide) (ee_intOf g2 (ee_ixB T6.hb (eb rfl) ee_int (P := Dt K (.int ((m * m + m * 28411 + (k + 1) * 1500007 + 90001) % 2147483587))) (v := .int ((m * m + m * 28411 + (k + 1) * 1500007 + 90001) % 2147483587)) rfl fun _ _ => .int _)) ee_int) ee_int))) (ee_var 1 rfl (Dt.int (K := K) sz))) (Same.refl _) fun v S7 H7 g7 pv => ?_
        cases pv
        have T7 := T6.up g7.hh
        exact q _ H7 _ (bound_mod z0).1 (bound_mod z0).2 T7.ot T7.hb ⟨_, _, _, _, rfl, T7.i0, T7.g0, T7.m0, T7.m1, T7.k0⟩
theorem ok_L_take (F : FnT K "_law_take" sL_take f fd) (g1 : mg "len" = none) (g2 : mg "int" = none) : FnOk P w K mg base CX0 1 f fd ["_law_box", "_law_size"] (spB K Ftake) := by
  refine FnOk.box (ok_L_take0 F g1 g2) (fun vs H Q E h => ?_) fun vs H Q E h => ?_
  · obtain ⟨S, v, ws, ds, G, rfl, _, _, hd, ⟨sz, rfl, _⟩, _⟩ := h
    have := hd.1
    simp at this
    simp [this]
  · obtain ⟨S, v, ws, ds, G, rfl, s, ⟨b, c, ns, rfl, hbc, hb, hc, hl⟩, hd, ⟨sz, rfl, z0, z1, rfl⟩, q⟩ := h
    obtain ⟨u, rfl, pu⟩ := hd.one
    cases pu
    refine ⟨b, boxPhi b c, s _ _ hb, fun h p => ?_⟩
    obtain ⟨xs, hx, ox⟩ := of_box (P := P) (w := w) (H := H) p
    refine ⟨xs, ox, b, c, ns, sz, xs, rfl, hbc, upd_same, hx, by rw [upd_ne hbc.symm]; exact s _ _ hc, hl, z0, z1, fun n H' ys n0 n1 ot hy hys => ⟨ys, hy, fun h' o => box_of hys o, fun a o e ne => ot a o (by rw [upd_ne ne]; exact e) ne, ?_⟩⟩
    have sm : Same H (upd H' b (.ext (boxPhi b c))) := fun a o e => by
      by_cases ha : a = b
      · subst ha; rw [upd_same]; rw [s _ _ hb] at e; exact e
      · rw [upd_ne ha]; exact ot a o (by rw [upd_ne ha]; exact e) ha
    exact q (.int n) ⟨n, rfl, n0, n1⟩ _ S _ ⟨Same.refl S, s.trans sm, sm, fun _ _ _ _ => rfl⟩ (Dt.int n)
def Fone : List PyData → (PyData → Prop) → Prop := fun ds G => ∃ xs, ds = [.list xs] ∧ 0 < xs.length ∧ xs.length < 1073741824 ∧ G = fun d => d ∈ xs
theorem scL_one : FnScope ["_law_box", "_law_some"] ["_law_box", "_law_some"] (defScope sL_one) := ⟨rfl, rfl, rfl, by decide +kernel, rfl, by decide +kernel, by decide +kernel⟩
theorem ok_L_one (F : FnT K "_law_one" sL_one f fd) (D1 : KD P w K mg base "_law_take" 1 (spB K Ftake)) (g1 : mg "len" = none) : FnOk P w K mg base CX0 2 f fd ["_law_box", "_law_some"] (spB K Fone) := by
  refine fn_hs F scL_one (fun vs H Q E h => ?_) (fun cdv A outer sh H vs Q E hr h => ?_)
  · obtain ⟨S, v, ws, ds, G, rfl, _, _, hd, ⟨xs, rfl, _⟩, _⟩ := h
    have := hd.1
    simp at this
    simp [this]
  · obtain ⟨S, v, ws, ds, G, rfl, s, hb, hd, ⟨xs, rfl, z0, z1, rfl⟩, q⟩ := h
    obtain ⟨u, rfl, pu⟩ := hd.one
    refine hs_ret (ee_ixE (ee_var 1 rfl pu) ((ee_callBx D1 hr ⟨xs.length, rfl, by omega, by omega, rfl⟩ (ea_2 (ee_var 0 rfl hb) (ee_len g1 rfl (ee_var 1 rfl pu)))).exi fun d ⟨n, e, n0, n1⟩ => ⟨n, e, n0, n1⟩)) s ?_
    rintro v S' H' g ⟨d, hd, pd⟩
    exact q d hd v S' H' g pd
def oddL : List PyData := [.none, .bool true, .bool false, .str "", .str "Q7", .int (-1), .tuple [.int 1, .str "a"], .list [.int 1], .tuple [], .list [.str "a"], .tuple [.bool true]]
def Fodd : List PyData → (PyData → Prop) → Prop := fun ds G => ∃ xs, ds = [.list xs] ∧ xs.length ≤ 1000 ∧ G = fun d => d ∈ oddL ++ xs
theorem scL_odd : FnScope ["_law_box", "_law_more"] ["_law_box", "_law_more"] (defScope sL_odd) := ⟨rfl, rfl, rfl, by decide +kernel, rfl, by decide +kernel, by decide +kernel⟩
theorem ok_L_odd (F : FnT K "_law_odd" sL_odd f fd) (D1 : KD P w K mg base "_law_one" 2 (spB K Fone)) : FnOk P w K mg base CX0 3 f fd ["_law_box", "_law_more"] (spB K Fodd) := by
  refine fn_hs F scL_odd (fun vs H Q E h => ?_) (fun cdv A outer sh H vs Q E hr h => ?_)
  · obtain ⟨S, v, ws, ds, G, rfl, _, _, hd, ⟨xs, rfl, _⟩, _⟩ := h
    have := hd.1
    simp at this
    simp [this]
  · obtain ⟨S, v, ws, ds, G, rfl, s, hb, hd, ⟨xs, rfl, z1, rfl⟩, q⟩ := h
    obtain ⟨u, rfl, pu⟩ := hd.one
    have l11 : oddL.length = 11 := rfl
    refine hs_ret (ee_callBx D1 hr ⟨oddL ++ xs, rfl, by rw [List.length_append, l11]; omega, by rw [List.length_append, l11]; omega, rfl⟩ (ea_2 (ee_var 0 rfl hb) (ee_catL (by rw [l11]; show _ ≤ 16777216; omega)
      (ee_lst (ds := oddL) (ea_cons ee_non (ea_cons ee_bl (ea_cons ee_bl (ea_cons ee_str (ea_cons ee_str (ea_cons (ee_neg ee_int) (ea_cons (ee_tup (ds := [.int 1, .str "a"]) (ea_2 ee_int ee_str)) (ea_cons (ee_lst (ds := [.int 1]) (ea_1 ee_int)) (ea_cons (ee_tup (ds := []) ea_nil) (ea_cons (ee_lst (ds := [.str "a"]) (ea_1 ee_str)) (ea_cons (ee_tup (ds := [.bool true]) (ea_1 ee_bl)) ea_nil)))))))))))) (ee_var 1 rfl pu)))) s ?_
    rintro v S' H' g ⟨d, hd, pd⟩
    exact q d hd v S' H' g pd
def Fkind : List PyData → PyData → Prop := fun ds r => ∃ d, ds = [d] ∧ r = .int (kindN d : Nat)
theorem scL_kind : FnScope ["_law_thing", "_law_marks"] ["_law_thing"] (defScope sL_kind) := ⟨rfl, rfl, rfl, by decide +kernel, rfl, by decide +kernel, by decide +kernel⟩
theorem ok_L_kind (F : FnT K "_law_kind" sL_kind f fd) (g1 : mg "isinstance" = none) (g2 : mg "bool" = none) (g3 : mg "int" = none) (g4 : mg "str" = none) (g5 : mg "list" = none) (g6 : mg "tuple" = none) : FnOk P w K mg base CX0 1 f fd ["_law_thing"] (spD K Fkind) := by
  refine fn_hs F scL_kind (fun vs H Q E h => ?_) (fun cdv A outer sh H vs Q E hr h => ?_)
  · obtain ⟨S, ds, d, _, hd, ⟨_, rfl, _⟩, _⟩ := h
    exact hd.1
  · obtain ⟨S, ds, r, s, hd, ⟨d, rfl, rfl⟩, q⟩ := h
    obtain ⟨v, rfl, p⟩ := hd.one
    refine hs_set (i := 1) (ee_lst (ds := [.bool (decide (kindN d = 0)), .bool (isD d "bool"), .bool (isD d "int"), .bool (isD d "str")]) (ea_cons (by rw [← dt_non p]; exact ee_isN (ee_var 0 rfl rfl)) (ea_cons (ee_isi (isD_ok d (T := "bool") (by simp)) g1 g2 boot_bool (ee_var 0 rfl p)) (ea_cons (ee_isi (isD_ok d (T := "int") (by simp)) g1 g3 boot_int (ee_var 0 rfl p)) (ea_cons (ee_isi (isD_ok d (T := "str") (by simp)) g1 g4 boot_str (ee_var 0 rfl p)) ea_nil))))) s scL_kind.nd fun m1 S1 H1 gr1 pm1 => ?_
    have p1 := p.up gr1.st
    refine hs_set (i := 1) (ee_catL (by show _ ≤ 16777216; exact Nat.le_of_ble_eq_true rfl) (ee_var 1 rfl pm1) (ee_lst (ds := [.bool (isD d "list"), .bool (isD d "tuple"), .bool true]) (ea_cons (ee_isi (isD_ok d (T := "list") (by simp)) g1 g5 boot_list (ee_var 0 rfl p1)) (ea_cons (ee_isi (isD_ok d (T := "tuple") (by simp)) g1 g6 boot_tuple (ee_var 0 rfl p1)) (ea_cons ee_bl ea_nil))))) gr1.sub scL_kind.nd fun m2 S2 H2 gr2 pm2 => ?_
    exact hs_ret (ee_indexT (bs := marksL d) (marks_at d) (marks_no d) (ee_var 1 rfl pm2) ee_bl) gr2.sub fun v S3 H3 gr3 pv => q v S3 H3 (gr1.trans (gr2.trans gr3)) pv
def Fsame (n : Nat) : List PyData → PyData → Prop := fun ds r => ∃ d, ds = [d, d] ∧ Bd n d ∧ r = .bool true
theorem scL_same : FnScope ["_law_found", "_law_due", "_law_a", "_law_b"] ["_law_found", "_law_due"] (defScope sL_same) := ⟨rfl, rfl, rfl, by decide +kernel, rfl, by decide +kernel, by decide +kernel⟩
theorem okL_same_all (xs : List PyData) : ((xs.zip xs).map fun _ => true).all (fun b => b) = true := by
  rw [List.all_eq_true]
  intro b hb
  obtain ⟨_, _, rfl⟩ := List.mem_map.mp hb
  rfl
theorem ok_L_same (F : FnT K "_law_same" sL_same f fd) (hm : mg "_law_same" = some (.ref f)) (hb : Binds K fd ["_law_found", "_law_due"] []) (D1 : KD P w K mg base "_law_kind" 1 (spD K Fkind)) (g1 : mg "len" = none) (g2 : mg "all" = none) (g3 : mg "zip" = none) : ∀ n : Nat, FnOk P w K mg base CX0 (n + 2) f fd ["_law_found", "_law_due"] (spD K (Fsame n)) := by
  have step : ∀ n : Nat, (∀ m, n = m + 1 → FnOk P w K mg base CX0 (m + 2) f fd ["_law_found", "_law_due"] (spD K (Fsame m))) → FnOk P w K mg base CX0 (n + 2) f fd ["_law_found", "_law_due"] (spD K (Fsame n)) := fun n ih => by
    refine fn_hs F scL_same (fun vs H Q E h => ?_) (fun cdv A outer sh H vs Q E hr h => ?_)
    · obtain ⟨S, ds, d, _, hd, ⟨_, rfl, _⟩, _⟩ := h
      exact hd.1
    · obtain ⟨S, ds, r, s, hd, ⟨d, rfl, hbd, rfl⟩, q⟩ := h
      obtain ⟨v1, v2, rfl, p1, p2⟩ := hd.two
      refine hs_ifN ((et_neI (ee_callD D1 (hr.mono (by omega)) ⟨d, rfl, rfl⟩ (ea_1 (ee_var 0 rfl p1))) (ee_callD D1 (hr.mono (by omega)) ⟨d, rfl, rfl⟩ (ea_1 (ee_var 1 rfl p2)))).is (by simp)) s fun S1 H1 g4 => ?_
      have p1 := p1.up g4.st
      have p2 := p2.up g4.st
      refine hs_if (et_inT (ns := [4, 5]) (ee_callD D1 (hr.mono (by omega)) ⟨d, rfl, rfl⟩ (ea_1 (ee_var 1 rfl p2))) (ee_tup (ds := [.int 4, .int 5]) (ea_2 ee_int ee_int))) g4.sub (fun hk S2 H2 g5 => ?_) (fun hk S2 H2 g5 => hs_nil ?_)
      · have p1 := p1.up g5.st
        have p2 := p2.up g5.st
        obtain ⟨m, rfl⟩ : ∃ m, n = m + 1 := by
          cases n with
          | zero => exfalso; cases d <;> first | (simp [kindN] at hk; done) | exact hbd
          | succ m => exact ⟨m, rfl⟩
        have D2 : KD P w K mg base "_law_same" (m + 2) (spD K (Fsame m)) := ⟨f, fd, _, ih m rfl, hm, F.kp, hb⟩
        cases d with
        | list xs =>
          have hz : xs.length ≤ sizeLine := by obtain ⟨l, ys, _, _, hx, z⟩ := p1.lst_inv; rw [← hx.1]; exact z
          refine hs_ret ((ee_and (ee_eqI (ee_len g1 rfl (ee_var 0 rfl p1)) (ee_len g1 rfl (ee_var 1 rfl p2))) fun _ => ee_one (ee_all (bs := (xs.zip xs).map fun _ => true) rfl g2
            (ee_lc2 (i := 2) (j := 3) (enc := .bool) (f := fun _ => true) rfl scL_same.nd (blkOk_by (N := ["_law_found", "_law_due", "_law_a", "_law_b"]) (sc := defScope sL_same) (by decide +kernel)) (by rw [← zipD_eq]; exact ei_zipL g3 (ee_var 0 rfl p1) (ee_var 1 rfl p2)) (by rw [zip_self, List.length_map]; exact hz) ?_))).isd ?_) g5.sub fun v S3 H3 g6 pv => q v S3 H3 (g4.trans (g5.trans g6)) pv
          · intro p hp v u S2 s2 pv pu sh' H0 C cl fp
            rw [zip_self] at hp
            obtain ⟨x, hx, rfl⟩ := List.mem_map.mp hp
            exact ee_callD D2 (hr.mono (by omega)) ⟨x, rfl, hbd x hx, rfl⟩ (ea_2 (ee_var 2 rfl pv) (ee_var 3 rfl pu))
          · rw [okL_same_all]; simp
        | tuple xs =>
          have hz : xs.length ≤ sizeLine := by obtain ⟨l, ys, _, _, hx, z⟩ := p1.tup_inv; rw [← hx.1]; exact z
          refine hs_ret ((ee_and (ee_eqI (ee_len g1 rfl (ee_var 0 rfl p1)) (ee_len g1 rfl (ee_var 1 rfl p2))) fun _ => ee_one (ee_all (bs := (xs.zip xs).map fun _ => true) rfl g2
            (ee_lc2 (i := 2) (j := 3) (enc := .bool) (f := fun _ => true) rfl scL_same.nd (blkOk_by (N := ["_law_found", "_law_due", "_law_a", "_law_b"]) (sc := defScope sL_same) (by decide +kernel)) (by rw [← zipD_eq]; exact ei_zipT g3 (ee_var 0 rfl p1) (ee_var 1 rfl p2)) (by rw [zip_self, List.length_map]; exact hz) ?_))).isd ?_) g5.sub fun v S3 H3 g6 pv => q v S3 H3 (g4.trans (g5.trans g6)) pv
          · intro p hp v u S2 s2 pv pu sh' H0 C cl fp
            rw [zip_self] at hp
            obtain ⟨x, hx, rfl⟩ := List.mem_map.mp hp
            exact ee_callD D2 (hr.mono (by omega)) ⟨x, rfl, hbd x hx, rfl⟩ (ea_2 (ee_var 2 rfl pv) (ee_var 3 rfl pu))
          · rw [okL_same_all]; simp
        | _ => exfalso; simp [kindN] at hk; done
      · have p1 := p1.up g5.st
        have p2 := p2.up g5.st
        have fin : ∀ b : Bool, b = true → ∀ v S3 H3, Gr S2 H2 S3 H3 → Dt K (.bool b) v S3 → Q v H3 := fun b hb v S3 H3 g6 pv => q v S3 H3 (g4.trans (g5.trans g6)) (hb ▸ pv)
        cases d with
        | none => exact hs_ret (ee_eq hr (by decide +kernel) (by decide +kernel) (ee_var 0 rfl p1) (ee_var 1 rfl p2)) g5.sub (fin _ rfl)
        | bool b => exact hs_ret (ee_eq hr (by cases b <;> decide +kernel) (by cases b <;> decide +kernel) (ee_var 0 rfl p1) (ee_var 1 rfl p2)) g5.sub (fin _ (by cases b <;> rfl))
        | int i => exact hs_ret (ee_eqI (ee_var 0 rfl p1) (ee_var 1 rfl p2)) g5.sub (fin _ (by simp))
        | str x => exact hs_ret (ee_eqS (ee_var 0 rfl p1) (ee_var 1 rfl p2)) g5.sub (fin _ (by simp))
        | list xs => exfalso; simp [kindN] at hk; done
        | tuple xs => exfalso; simp [kindN] at hk; done
        | dict xs => exfalso; cases n <;> exact hbd
  intro n
  induction n with
  | zero => exact step 0 fun m h => nomatch h
  | succ n ih => exact step (n + 1) fun m h => by cases h; exact ih
end
end K01
namespace K01
open PySem PySem.Spec PyProof.Rows L2 Z Y
/-! ## the errors, by number -/
/-- the kind of the i-th error -/
def ek (K : PySem.W.Frag) (i : Nat) : EK := ⟨cA K i, cn i, if i < 26 then some (an i) else none⟩
theorem ek_fn {K : PySem.W.Frag} {i : Nat} (h : i < 26) : (ek K i).fn = some (an i) := if_pos h
/-- what _law_field tells -/
def fieldD (i : Nat) (g : PyData) : PyData := if i = 21 then .str "paper" else if i < 26 then g else .none
/-- what _law_kept_in tells -/
def keptD (i : Nat) (g : PyData) : PyData := if i < 26 then g else .none
def fldAt1 : List Str := ["InvalidSystem", "InvalidFact", "InvalidFactor", "InvalidGroup", "InvalidClaim", "InvalidSums", "InvalidDeed", "InvalidCommand", "WrongSchema", "TooHigh", "EqualSums"]
def fldNm1 : List Str := ["InvalidName", "WrongKind", "DuplicateName", "UnknownName"]
def fldNo1 : List Str := ["InvalidText", "Boundless", "NoTable", "NotThere", "Empty", "NothingLeft"]
def inB (l : List Str) (i : Nat) : Bool := l.any fun m => decide (m = cn i)
/-- the order in which _law_kinds asks -/
def kOrd : List Nat := [0, 1, 2, 3, 4, 5, 6, 7, 8, 9, 10] ++ [11, 26, 12, 13, 14, 15, 16, 17, 18, 19, 20] ++ [21, 27, 28, 29, 22, 23, 24, 30, 25, 31]
def kindsD (i : Nat) : List PyData := kOrd.map fun j => .bool (decide (i = j))
theorem fld_at : ∀ i, i < 32 → inB fldAt1 i = true → i < 26 ∧ i ≠ 21 ∧ an i = "at" := by decide +kernel
theorem fld_nm : ∀ i, i < 32 → inB fldNm1 i = true → i < 26 ∧ i ≠ 21 ∧ an i = "name" := by decide +kernel
theorem fld_no : ∀ i, i < 32 → inB fldNo1 i = true → ¬ i < 26 := by decide +kernel
theorem fld_pg : ∀ i, i < 32 → cn i = "InvalidPage" → i < 26 ∧ i ≠ 21 ∧ an i = "line" := by decide +kernel
theorem fld_ww : ∀ i, i < 32 → cn i = "WrongWidth" → i < 26 ∧ i ≠ 21 ∧ an i = "width" := by decide +kernel
theorem fld_tm : ∀ i, i < 32 → cn i = "TooMany" → i < 26 ∧ i ≠ 21 ∧ an i = "most" := by decide +kernel
theorem fld_ti : ∀ i, i < 32 → cn i = "Tight" → i = 21 := by decide +kernel
theorem fld_bc : ∀ i, i < 32 → cn i = "BrokenClaim" → i < 26 ∧ i ≠ 21 ∧ an i = "broken" := by decide +kernel
theorem fld_fu : ∀ i, i < 32 → cn i = "Full" → i < 26 ∧ i ≠ 21 ∧ an i = "limit" := by decide +kernel
theorem fld_gi0 : ∀ i, i < 32 → (inB fldAt1 i || inB fldNm1 i || inB fldNo1 i || decide (cn i = "InvalidPage") || decide (cn i = "WrongWidth") || decide (cn i = "TooMany") || decide (cn i = "Tight") || decide (cn i = "BrokenClaim") || decide (cn i = "Full")) = false → i < 26 ∧ i ≠ 21 ∧ an i = "given" := by decide +kernel
theorem fld_gi (i : Nat) (hi : i < 32) (h1 : inB fldAt1 i = false) (h2 : inB fldNm1 i = false) (h3 : inB fldNo1 i = false) (h4 : cn i ≠ "InvalidPage") (h5 : cn i ≠ "WrongWidth") (h6 : cn i ≠ "TooMany") (h7 : cn i ≠ "Tight") (h8 : cn i ≠ "BrokenClaim") (h9 : cn i ≠ "Full") : i < 26 ∧ i ≠ 21 ∧ an i = "given" := fld_gi0 i hi (by simp only [h1, h2, h3, decide_eq_false h4, decide_eq_false h5, decide_eq_false h6, decide_eq_false h7, decide_eq_false h8, decide_eq_false h9, Bool.or_false])
theorem fld_21 : cn 21 = "Tight" ∧ an 21 = "paper" := by decide +kernel
theorem fieldD_of {i : Nat} {g : PyData} (h : i < 26 ∧ i ≠ 21) : fieldD i g = g := by unfold fieldD; rw [if_neg h.2, if_pos h.1]
theorem kinds_one : ∀ i, i < 32 → (kOrd.map fun j => decide (i = j)).filter (fun b => b) = [true] := by decide +kernel
section
variable {P : Program} {w : World} {K : PySem.W.Frag} {mg : Str → Option Value} {base : Heap} {f : Addr} {fd : FuncData}
abbrev RE (K : PySem.W.Frag) (g : PyData) (i : Nat) : V → Hp → Prop := ErV K (ek K i) g
/-- what stands around -/
structure LE0 (P : Program) (w : World) (K : PySem.W.Frag) (mg : Str → Option Value) (base : Heap) : Prop where
  T : ∀ i, i < 32 → OexG K (cA K i)
  e1 : ∀ i, i < 26 → ErrG P w K mg base (cn i) (an i) (ek K i)
  e0 : ∀ i, 26 ≤ i → i < 32 → ErrG0 P w K mg base (cn i) (ek K i)
  gl : ∀ i, i < 32 → mg (cn i) = some (.ref (cA K i))
  nc : ∀ i, i < 32 → PySem.W.findIn K (.ref (cA K i)) "code" = some none
  kit : ∀ i j, i < 32 → j < 32 → PySem.W.kitOne K (.ref (cA K i)) (.ref (cA K j)) = some (decide (i = j))
  sup : ∀ i, i < 32 → [PySem.W.kitOne K (.ref (cA K i)) (.ref (He.ga K "DealError")), PySem.W.kitOne K (.ref (cA K i)) (.type "ValueError"), PySem.W.kitOne K (.ref (cA K i)) (.ref (He.ga K "Missing")), PySem.W.kitOne K (.ref (cA K i)) (.type "IndexError"), PySem.W.kitOne K (.ref (cA K i)) (.type "LookupError")] = (supB i).map some
  sp : PySem.W.specialIn K (.builtin "object.__class__") "__get__" = some (some (.builtin "getset_descriptor.__get__"))
  tk : PySem.W.takesIn K (.builtin "object.__class__") = some true
  gD : mg "DealError" = some (.ref (He.ga K "DealError"))
  gM : mg "Missing" = some (.ref (He.ga K "Missing"))
  isi : mg "isinstance" = none
theorem LE0.n1 (L : LE0 P w K mg base) {i : Nat} (h : i < 26) : PySem.W.findIn K (.ref (cA K i)) (an i) = some none := (L.e1 i h).n1
section
variable {X : Cx} {σ : L2.St} {S : Hp} {o : Expr} {pos : Pos} {g : PyData} {i : Nat}
/-- e.code, e.f -/
theorem ee_cd (L : LE0 X.prog X.w X.K X.mg X.base) (hi : i < 32) (ho : EE X σ S o (RE X.K g i)) (hb : attributeBase o "code" X.env (eval o X.env) = eval o X.env := by rfl) : EE X σ S (.Attribute o "code" pos) (Dt X.K (.str (cn i))) :=
  ee_exv (C := cA X.K i) (L.T i hi) (L.nc i hi) ho (fun w S1 h => ErV.code h) hb
theorem ee_fl {n : Str} (L : LE0 X.prog X.w X.K X.mg X.base) (hi : i < 26) (hn : an i = n) (ho : EE X σ S o (RE X.K g i)) (hb : attributeBase o n X.env (eval o X.env) = eval o X.env := by rfl) : EE X σ S (.Attribute o n pos) (Dt X.K g) :=
  ee_exv (C := cA X.K i) (L.T i (by omega)) (by rw [← hn]; exact L.n1 hi) ho (fun w S1 h => ErV.kept (k := ek X.K i) (by rw [ek_fn hi, hn]) h) hb
theorem ee_ik {a : Expr} {p pos : Pos} {j : Nat} {x : Str} {p2 : Pos} (L : LE0 X.prog X.w X.K X.mg X.base) (hi : i < 32) (hj : j < 32) (hx : cn j = x) (ha : EE X σ S a (RE X.K g i)) (hg2 : Gl X x := by rfl) (hd2 : (x == ("__debug__" : Str)) = false := by decide) (hg : Gl X "isinstance" := by rfl)
    (hs : starEach [a, .Name x p2] X.env = (false, eval a X.env) :: starEach [.Name x p2] X.env := by rfl) (hs2 : starEach [.Name x p2] X.env = (false, eval (.Name x p2) X.env) :: starEach [] X.env := by rfl) (hpl : (backTo pos (starEach [.Name x p2] X.env)).any (·.1) = false := by rfl) : EE X σ S (.Call (.Name "isinstance" p) [a, .Name x p2] [] pos) (Dt X.K (.bool (decide (i = j)))) :=
  ee_isG (k := ek X.K i) (cV := .ref (cA X.K j)) L.sp L.tk (L.T i hi) L.isi ha (fun S1 _ => ee_glob (v := .ref (cA X.K j)) (by rw [← hx]; exact L.gl j hj) rfl rfl hg2 hd2) (fun u h => h) (L.kit i j hi hj) hg hs hs2 hpl
end
/-! ## the law's own defs -/
def spEr (K : PySem.W.Frag) (F : Nat → PyData → PyData) : Sp := fun vs H Q _ => ∃ S v i g, vs = [v] ∧ Same S H ∧ i < 32 ∧ RE K g i v S ∧ ∀ u S' H', Gr S H S' H' → Dt K (F i g) u S' → Q u H'
theorem spEr_E {K : PySem.W.Frag} {F : Nat → PyData → PyData} {S : Hp} {i : Nat} {g : PyData} (hi : i < 32) : SpE (spEr K F) S [RE K g i] (Dt K (F i g)) := fun vs S1 H1 st s al Q q => by
  obtain ⟨v, rfl, pv⟩ := al.one
  exact ⟨S1, v, i, g, rfl, s, hi, pv, q⟩
theorem sc_kinds : FnScope ["_law_e"] ["_law_e"] (defScope sL_kinds) := ⟨rfl, rfl, rfl, by decide +kernel, rfl, by decide +kernel, by decide +kernel⟩
theorem ok_kinds (F : FnT K "_law_kinds" sL_kinds f fd) (L : LE0 P w K mg base) : FnOk P w K mg base CX0 1 f fd ["_law_e"] (spEr K fun i _ => .list (kindsD i)) := by
  refine fn_hs F sc_kinds (fun vs H Q E h => ?_) (fun cdv A outer sh H vs Q E hr h => ?_)
  · obtain ⟨S, v, i, g, rfl, _⟩ := h; rfl
  · obtain ⟨S, v, i, g, rfl, s, hi, pe, q⟩ := h
    refine hs_ret (P := Dt K (.list (kindsD i))) ?_ s q
    refine ee_catL (by show _ ≤ 16777216; exact Nat.le_of_ble_eq_true rfl) (ee_catL (by show _ ≤ 16777216; exact Nat.le_of_ble_eq_true rfl) (ee_lst (ds := [.bool (decide (i = 0)), .bool (decide (i = 1)), .bool (decide (i = 2)), .bool (decide (i = 3)), .bool (decide (i = 4)), .bool (decide (i = 5)), .bool (decide (i = 6)), .bool (decide (i = 7)), .bool (decide (i = 8)), .bool (decide (i = 9)), .bool (decide (i = 10))]) (ea_cons (ee_ik (i := i) (j := 0) L hi (by decide) (by decide +kernel) (ee_var 0 rfl pe)) (ea_cons (ee_ik (i := i) (j := 1) L hi (by decide) (by decide +kernel) (ee_var 0 rfl pe)) (ea_cons (ee_ik (i := i) (j := 2) L hi (by decide) (by decide +kernel) (ee_var 0 rfl pe)) (ea_cons (ee_ik (i := i) (j := 3) L hi (by decide) (by decide +kernel) (ee_var 0 rfl pe)) (ea_cons (ee_ik (i := i) (j := 4) L hi (by decide) (by decide +kernel) (ee_var 0 rfl pe)) (ea_cons (ee_ik (i := i) (j := 5) L hi (by decide) (by decide +kernel) (ee_var 0 rfl pe)) (ea_cons (ee_ik (i := i) (j := 6) L hi (by decide) (by decide +kernel) (ee_var 0 rfl pe)) (ea_cons (ee_ik (i := i) (j := 7) L hi (by decide) (by decide +kernel) (ee_var 0 rfl pe)) (ea_cons (ee_ik (i := i) (j := 8) L hi (by decide) (by decide +kernel) (ee_var 0 rfl pe)) (ea_cons (ee_ik (i := i) (j := 9) L hi (by decide) (by decide +kernel) (ee_var 0 rfl pe)) (ea_cons (ee_ik (i := i) (j := 10) L hi (by decide) (by decide +kernel) (ee_var 0 rfl pe)) (ea_nil)))))))))))))
      (ee_lst (ds := [.bool (decide (i = 11)), .bool (decide (i = 26)), .bool (decide (i = 12)), .bool (decide (i = 13)), .bool (decide (i = 14)), .bool (decide (i = 15)), .bool (decide (i = 16)), .bool (decide (i = 17)), .bool (decide (i = 18)), .bool (decide (i = 19)), .bool (decide (i = 20))]) (ea_cons (ee_ik (i := i) (j := 11) L hi (by decide) (by decide +kernel) (ee_var 0 rfl pe)) (ea_cons (ee_ik (i := i) (j := 26) L hi (by decide) (by decide +kernel) (ee_var 0 rfl pe)) (ea_cons (ee_ik (i := i) (j := 12) L hi (by decide) (by decide +kernel) (ee_var 0 rfl pe)) (ea_cons (ee_ik (i := i) (j := 13) L hi (by decide) (by decide +kernel) (ee_var 0 rfl pe)) (ea_cons (ee_ik (i := i) (j := 14) L hi (by decide) (by decide +kernel) (ee_var 0 rfl pe)) (ea_cons (ee_ik (i := i) (j := 15) L hi (by decide) (by decide +kernel) (ee_var 0 rfl pe)) (ea_cons (ee_ik (i := i) (j := 16) L hi (by decide) (by decide +kernel) (ee_var 0 rfl pe)) (ea_cons (ee_ik (i := i) (j := 17) L hi (by decide) (by decide +kernel) (ee_var 0 rfl pe)) (ea_cons (ee_ik (i := i) (j := 18) L hi (by decide) (by decide +kernel) (ee_var 0 rfl pe)) (ea_cons (ee_ik (i := i) (j := 19) L hi (by decide) (by decide +kernel) (ee_var 0 rfl pe)) (ea_cons (ee_ik (i := i) (j := 20) L hi (by decide) (by decide +kernel) (ee_var 0 rfl pe)) (ea_nil))))))))))))))
      (ee_lst (ds := [.bool (decide (i = 21)), .bool (decide (i = 27)), .bool (decide (i = 28)), .bool (decide (i = 29)), .bool (decide (i = 22)), .bool (decide (i = 23)), .bool (decide (i = 24)), .bool (decide (i = 30)), .bool (decide (i = 25)), .bool (decide (i = 31))]) (ea_cons (ee_ik (i := i) (j := 21) L hi (by decide) (by decide +kernel) (ee_var 0 rfl pe)) (ea_cons (ee_ik (i := i) (j := 27) L hi (by decide) (by decide +kernel) (ee_var 0 rfl pe)) (ea_cons (ee_ik (i := i) (j := 28) L hi (by decide) (by decide +kernel) (ee_var 0 rfl pe)) (ea_cons (ee_ik (i := i) (j := 29) L hi (by decide) (by decide +kernel) (ee_var 0 rfl pe)) (ea_cons (ee_ik (i := i) (j := 22) L hi (by decide) (by decide +kernel) (ee_var 0 rfl pe)) (ea_cons (ee_ik (i := i) (j := 23) L hi (by decide) (by decide +kernel) (ee_var 0 rfl pe)) (ea_cons (ee_ik (i := i) (j := 24) L hi (by decide) (by decide +kernel) (ee_var 0 rfl pe)) (ea_cons (ee_ik (i := i) (j := 30) L hi (by decide) (by decide +kernel) (ee_var 0 rfl pe)) (ea_cons (ee_ik (i := i) (j := 25) L hi (by decide) (by decide +kernel) (ee_var 0 rfl pe)) (ea_cons (ee_ik (i := i) (j := 31) L hi (by decide) (by decide +kernel) (ee_var 0 rfl pe)) (ea_nil))))))))))))
theorem sc_field : FnScope ["_law_e"] ["_law_e"] (defScope sL_field) := ⟨rfl, rfl, rfl, by decide +kernel, rfl, by decide +kernel, by decide +kernel⟩
theorem ok_field (F : FnT K "_law_field" sL_field f fd) (L : LE0 P w K mg base) : FnOk P w K mg base CX0 1 f fd ["_law_e"] (spEr K fieldD) := by
  refine fn_hs F sc_field (fun vs H Q E h => ?_) (fun cdv A outer sh H vs Q E hr h => ?_)
  · obtain ⟨S, v, i, g, rfl, _⟩ := h; rfl
  · obtain ⟨S, v, i, g, rfl, s, hi, pe, q⟩ := h
    have fin : ∀ {S1 H1 : Hp} {v : V} {S' H' : Hp} {d : PyData}, Gr S H S1 H1 → Gr S1 H1 S' H' → d = fieldD i g → Dt K d v S' → Q v H' := fun a b e c => q _ _ _ (a.trans b) (e ▸ c)
    have up : ∀ {S1 : Hp}, Same S S1 → RE K g i v S1 := fun h => Mn.up h pe
    refine hs_if (et_inLs (ns := fldAt1) (ee_cd L hi (ee_var 0 rfl pe)) (ee_lst (ds := fldAt1.map .str) (by repeat (first | exact ea_nil | refine ea_cons ee_str ?_)))) s (fun hk S1 H1 g1 => ?_) (fun h1 S1 H1 g1 => hs_nil ?_)
    · have e := fld_at i hi hk
      exact hs_ret (ee_fl L e.1 e.2.2 (ee_var 0 rfl (up g1.st))) g1.sub fun v S' H' g' pv => fin g1 g' (fieldD_of ⟨e.1, e.2.1⟩).symm pv
    refine hs_if (et_inLs (ns := fldNm1) (ee_cd L hi (ee_var 0 rfl (up g1.st))) (ee_lst (ds := fldNm1.map .str) (by repeat (first | exact ea_nil | refine ea_cons ee_str ?_)))) g1.sub (fun hk S2 H2 g2 => ?_) (fun h2 S2 H2 g2 => hs_nil ?_)
    · have e := fld_nm i hi hk
      exact hs_ret (ee_fl L e.1 e.2.2 (ee_var 0 rfl (up (g1.st.trans g2.st)))) g2.sub fun v S' H' g' pv => fin (g1.trans g2) g' (fieldD_of ⟨e.1, e.2.1⟩).symm pv
    have g12 := g1.trans g2
    refine hs_if (et_inLs (ns := fldNo1) (ee_cd L hi (ee_var 0 rfl (up g12.st))) (ee_lst (ds := fldNo1.map .str) (by repeat (first | exact ea_nil | refine ea_cons ee_str ?_)))) g2.sub (fun hk S3 H3 g3 => ?_) (fun h3 S3 H3 g3 => hs_nil ?_)
    · have e := fld_no i hi hk
      refine hs_ret (P := Dt K .none) ee_non g3.sub fun v S' H' g' pv => fin (g12.trans g3) g' ?_ pv
      unfold fieldD; rw [if_neg (by omega), if_neg e]
    have g13 := g12.trans g3
    refine hs_if (et_eqS (ee_cd L hi (ee_var 0 rfl (up g13.st))) ee_str) g13.sub (fun hk S4 H4 g4 => ?_) (fun h4 S4 H4 g4 => hs_nil ?_)
    · have e := fld_pg i hi (of_decide_eq_true hk)
      exact hs_ret (ee_fl L e.1 e.2.2 (ee_var 0 rfl (up (g13.trans g4).st))) g4.sub fun v S' H' g' pv => fin (g13.trans g4) g' (fieldD_of ⟨e.1, e.2.1⟩).symm pv
    have g14 := g13.trans g4
    refine hs_if (et_eqS (ee_cd L hi (ee_var 0 rfl (up g14.st))) ee_str) g14.sub (fun hk S5 H5 g5 => ?_) (fun h5 S5 H5 g5 => hs_nil ?_)
    · have e := fld_ww i hi (of_decide_eq_true hk)
      exact hs_ret (ee_fl L e.1 e.2.2 (ee_var 0 rfl (up (g14.trans g5).st))) g5.sub fun v S' H' g' pv => fin (g14.trans g5) g' (fieldD_of ⟨e.1, e.2.1⟩).symm pv
    have g15 := g14.trans g5
    refine hs_if (et_eqS (ee_cd L hi (ee_var 0 rfl (up g15.st))) ee_str) g15.sub (fun hk S6 H6 g6 => ?_) (fun h6 S6 H6 g6 => hs_nil ?_)
    · have e := fld_tm i hi (of_decide_eq_true hk)
      exact hs_ret (ee_fl L e.1 e.2.2 (ee_var 0 rfl (up (g15.trans g6).st))) g6.sub fun v S' H' g' pv => fin (g15.trans g6) g' (fieldD_of ⟨e.1, e.2.1⟩).symm pv
    have g16 := g15.trans g6
    refine hs_if (et_eqS (ee_cd L hi (ee_var 0 rfl (up g16.st))) ee_str) g16.sub (fun hk S7 H7 g7 => ?_) (fun h7 S7 H7 g7 => hs_nil ?_)
    · have e := fld_ti i hi (of_decide_eq_true hk)
      refine hs_ret (P := Dt K (.str "paper")) ee_str g7.sub fun v S' H' g' pv => fin (g16.trans g7) g' ?_ pv
      unfold fieldD; rw [if_pos e]
    have g17 := g16.trans g7
    refine hs_if (et_eqS (ee_cd L hi (ee_var 0 rfl (up g17.st))) ee_str) g17.sub (fun hk S8 H8 g8 => ?_) (fun h8 S8 H8 g8 => hs_nil ?_)
    · have e := fld_bc i hi (of_decide_eq_true hk)
      exact hs_ret (ee_fl L e.1 e.2.2 (ee_var 0 rfl (up (g17.trans g8).st))) g8.sub fun v S' H' g' pv => fin (g17.trans g8) g' (fieldD_of ⟨e.1, e.2.1⟩).symm pv
    have g18 := g17.trans g8
    have fl : fieldD i g = g := fieldD_of (by
      by_cases hf : cn i = "Full"
      · have e := fld_fu i hi hf; exact ⟨e.1, e.2.1⟩
      · have e := fld_gi i hi h1 h2 h3 (of_decide_eq_false h4) (of_decide_eq_false h5) (of_decide_eq_false h6) (of_decide_eq_false h7) (of_decide_eq_false h8) hf; exact ⟨e.1, e.2.1⟩)
    refine hs_ret (ee_if (Q' := Dt K g) (et_eqS (ee_cd L hi (ee_var 0 rfl (up g18.st))) ee_str) (fun hk => ?_) fun hk => ?_) g18.sub fun v S' H' g' pv => fin g18 g' fl.symm pv
    · have e := fld_fu i hi (of_decide_eq_true hk)
      exact ee_fl L e.1 e.2.2 (ee_var 0 rfl (up g18.st))
    · have e := fld_gi i hi h1 h2 h3 (of_decide_eq_false h4) (of_decide_eq_false h5) (of_decide_eq_false h6) (of_decide_eq_false h7) (of_decide_eq_false h8) (of_decide_eq_false hk)
      exact ee_fl L e.1 e.2.2 (ee_var 0 rfl (up g18.st))
theorem sc_kept : FnScope ["_law_e"] ["_law_e"] (defScope sL_kept_in) := ⟨rfl, rfl, rfl, by decide +kernel, rfl, by decide +kernel, by decide +kernel⟩
theorem ok_kept (F : FnT K "_law_kept_in" sL_kept_in f fd) (L : LE0 P w K mg base) (D1 : KD P w K mg base "_law_field" 1 (spEr K fieldD)) : FnOk P w K mg base CX0 2 f fd ["_law_e"] (spEr K keptD) := by
  refine fn_hs F sc_kept (fun vs H Q E h => ?_) (fun cdv A outer sh H vs Q E hr h => ?_)
  · obtain ⟨S, v, i, g, rfl, _⟩ := h; rfl
  · obtain ⟨S, v, i, g, rfl, s, hi, pe, q⟩ := h
    refine hs_ret (ee_if (Q' := Dt K (keptD i g)) (et_eqS (ee_cd L hi (ee_var 0 rfl pe)) ee_str) (fun hk => ?_) fun hk => ?_) s q
    · have e := fld_ti i hi (of_decide_eq_true hk)
      subst e
      exact (ee_fl L (by decide) fld_21.2 (ee_var 0 rfl pe)).isd rfl
    · have e : i ≠ 21 := fun z => by subst z; exact of_decide_eq_false hk fld_21.1
      exact (ee_call D1 hr (ea_1 (ee_var 0 rfl pe)) (spEr_E hi)).isd (by unfold fieldD keptD; rw [if_neg e])
theorem re_mn {K : PySem.W.Frag} {g : PyData} {l : List Nat} : ∀ P ∈ l.map (RE K g), Mn P := fun P hp => by
  obtain ⟨i, _, rfl⟩ := List.mem_map.mp hp
  infer_instance
def spMk (K : PySem.W.Frag) : Sp := fun vs H Q _ => ∃ S v g, vs = [v] ∧ Same S H ∧ Dt K g v S ∧ ∀ u S' H', Gr S H S' H' → LstP ((List.range 26).map (RE K g)) u S' → Q u H'
theorem spMk_E {K : PySem.W.Frag} {S : Hp} {g : PyData} : SpE (spMk K) S [Dt K g] (LstP ((List.range 26).map (RE K g))) := fun vs S1 H1 st s al Q q => by
  obtain ⟨v, rfl, pv⟩ := al.one
  exact ⟨S1, v, g, rfl, s, pv, q⟩
theorem sc_made : FnScope ["_law_x"] ["_law_x"] (defScope sL_made_errors) := ⟨rfl, rfl, rfl, by decide +kernel, rfl, by decide +kernel, by decide +kernel⟩
theorem ok_made (F : FnT K "_law_made_errors" sL_made_errors f fd) (L : LE0 P w K mg base) : FnOk P w K mg base CX0 3 f fd ["_law_x"] (spMk K) := by
  refine fn_hs F sc_made (fun vs H Q E h => ?_) (fun cdv A outer sh H vs Q E hr h => ?_)
  · obtain ⟨S, v, g, rfl, _⟩ := h; rfl
  · obtain ⟨S, v, g, rfl, s, pv, q⟩ := h
    refine hs_ret (P := LstP ((List.range 26).map (RE K g))) ?_ s q
    exact ee_catLP (re_mn (l := [0, 1, 2, 3, 4, 5, 6, 7, 8, 9, 10, 11, 12])) (re_mn (l := [13, 14, 15, 16, 17, 18, 19, 20, 21, 22, 23, 24, 25])) (by show _ ≤ 16777216; exact Nat.le_of_ble_eq_true rfl) (ee_lstP (Ps := [RE K g 0, RE K g 1, RE K g 2, RE K g 3, RE K g 4, RE K g 5, RE K g 6, RE K g 7, RE K g 8, RE K g 9, RE K g 10, RE K g 11, RE K g 12]) (ea_cons (ee_mkE (k := ek K 0) (fname := "given") (x := "InvalidNumber") (L.e1 0 (by decide)) hr (ee_var 0 rfl pv)) (ea_cons (ee_mkE (k := ek K 1) (fname := "at") (x := "InvalidSystem") (L.e1 1 (by decide)) hr (ee_var 0 rfl pv)) (ea_cons (ee_mkE (k := ek K 2) (fname := "given") (x := "InvalidColumns") (L.e1 2 (by decide)) hr (ee_var 0 rfl pv)) (ea_cons (ee_mkE (k := ek K 3) (fname := "at") (x := "InvalidFact") (L.e1 3 (by decide)) hr (ee_var 0 rfl pv)) (ea_cons (ee_mkE (k := ek K 4) (fname := "given") (x := "InvalidExponent") (L.e1 4 (by decide)) hr (ee_var 0 rfl pv)) (ea_cons (ee_mkE (k := ek K 5) (fname := "at") (x := "InvalidFactor") (L.e1 5 (by decide)) hr (ee_var 0 rfl pv)) (ea_cons (ee_mkE (k := ek K 6) (fname := "at") (x := "InvalidGroup") (L.e1 6 (by decide)) hr (ee_var 0 rfl pv)) (ea_cons (ee_mkE (k := ek K 7) (fname := "at") (x := "InvalidClaim") (L.e1 7 (by decide)) hr (ee_var 0 rfl pv)) (ea_cons (ee_mkE (k := ek K 8) (fname := "at") (x := "InvalidSums") (L.e1 8 (by decide)) hr (ee_var 0 rfl pv)) (ea_cons (ee_mkE (k := ek K 9) (fname := "given") (x := "InvalidRow") (L.e1 9 (by decide)) hr (ee_var 0 rfl pv)) (ea_cons (ee_mkE (k := ek K 10) (fname := "at") (x := "InvalidDeed") (L.e1 10 (by decide)) hr (ee_var 0 rfl pv)) (ea_cons (ee_mkE (k := ek K 11) (fname := "name") (x := "InvalidName") (L.e1 11 (by decide)) hr (ee_var 0 rfl pv)) (ea_cons (ee_mkE (k := ek K 12) (fname := "at") (x := "InvalidCommand") (L.e1 12 (by decide)) hr (ee_var 0 rfl pv)) (ea_nil)))))))))))))))
      (ee_lstP (Ps := [RE K g 13, RE K g 14, RE K g 15, RE K g 16, RE K g 17, RE K g 18, RE K g 19, RE K g 20, RE K g 21, RE K g 22, RE K g 23, RE K g 24, RE K g 25]) (ea_cons (ee_mkE (k := ek K 13) (fname := "given") (x := "InvalidLimit") (L.e1 13 (by decide)) hr (ee_var 0 rfl pv)) (ea_cons (ee_mkE (k := ek K 14) (fname := "line") (x := "InvalidPage") (L.e1 14 (by decide)) hr (ee_var 0 rfl pv)) (ea_cons (ee_mkE (k := ek K 15) (fname := "width") (x := "WrongWidth") (L.e1 15 (by decide)) hr (ee_var 0 rfl pv)) (ea_cons (ee_mkE (k := ek K 16) (fname := "at") (x := "WrongSchema") (L.e1 16 (by decide)) hr (ee_var 0 rfl pv)) (ea_cons (ee_mkE (k := ek K 17) (fname := "name") (x := "WrongKind") (L.e1 17 (by decide)) hr (ee_var 0 rfl pv)) (ea_cons (ee_mkE (k := ek K 18) (fname := "most") (x := "TooMany") (L.e1 18 (by decide)) hr (ee_var 0 rfl pv)) (ea_cons (ee_mkE (k := ek K 19) (fname := "at") (x := "TooHigh") (L.e1 19 (by decide)) hr (ee_var 0 rfl pv)) (ea_cons (ee_mkE (k := ek K 20) (fname := "at") (x := "EqualSums") (L.e1 20 (by decide)) hr (ee_var 0 rfl pv)) (ea_cons (ee_mkE (k := ek K 21) (fname := "paper") (x := "Tight") (L.e1 21 (by decide)) hr (ee_var 0 rfl pv)) (ea_cons (ee_mkE (k := ek K 22) (fname := "broken") (x := "BrokenClaim") (L.e1 22 (by decide)) hr (ee_var 0 rfl pv)) (ea_cons (ee_mkE (k := ek K 23) (fname := "name") (x := "DuplicateName") (L.e1 23 (by decide)) hr (ee_var 0 rfl pv)) (ea_cons (ee_mkE (k := ek K 24) (fname := "limit") (x := "Full") (L.e1 24 (by decide)) hr (ee_var 0 rfl pv)) (ea_cons (ee_mkE (k := ek K 25) (fname := "name") (x := "UnknownName") (L.e1 25 (by decide)) hr (ee_var 0 rfl pv)) (ea_nil)))))))))))))))
theorem sc_named : FnScope ["_law_x"] ["_law_x"] (defScope sL_named_errors) := ⟨rfl, rfl, rfl, by decide +kernel, rfl, by decide +kernel, by decide +kernel⟩
theorem ok_named (F : FnT K "_law_named_errors" sL_named_errors f fd) (L : LE0 P w K mg base) : FnOk P w K mg base CX0 3 f fd ["_law_x"] (spMk K) := by
  refine fn_hs F sc_named (fun vs H Q E h => ?_) (fun cdv A outer sh H vs Q E hr h => ?_)
  · obtain ⟨S, v, g, rfl, _⟩ := h; rfl
  · obtain ⟨S, v, g, rfl, s, pv, q⟩ := h
    refine hs_ret (P := LstP ((List.range 26).map (RE K g))) ?_ s q
    exact ee_catLP (re_mn (l := [0, 1, 2, 3, 4, 5, 6, 7, 8, 9, 10, 11, 12, 13, 14, 15, 16, 17])) (re_mn (l := [18, 19, 20, 21, 22, 23, 24, 25])) (by show _ ≤ 16777216; exact Nat.le_of_ble_eq_true rfl) (ee_catLP (re_mn (l := [0, 1, 2, 3, 4, 5, 6, 7, 8])) (re_mn (l := [9, 10, 11, 12, 13, 14, 15, 16, 17])) (by show _ ≤ 16777216; exact Nat.le_of_ble_eq_true rfl) (ee_lstP (Ps := [RE K g 0, RE K g 1, RE K g 2, RE K g 3, RE K g 4, RE K g 5, RE K g 6, RE K g 7, RE K g 8]) (ea_cons (ee_mkEK (k := ek K 0) (fname := "given") (x := "InvalidNumber") (L.e1 0 (by decide)) hr (ee_var 0 rfl pv)) (ea_cons (ee_mkEK (k := ek K 1) (fname := "at") (x := "InvalidSystem") (L.e1 1 (by decide)) hr (ee_var 0 rfl pv)) (ea_cons (ee_mkEK (k := ek K 2) (fname := "given") (x := "InvalidColumns") (L.e1 2 (by decide)) hr (ee_var 0 rfl pv)) (ea_cons (ee_mkEK (k := ek K 3) (fname := "at") (x := "InvalidFact") (L.e1 3 (by decide)) hr (ee_var 0 rfl pv)) (ea_cons (ee_mkEK (k := ek K 4) (fname := "given") (x := "InvalidExponent") (L.e1 4 (by decide)) hr (ee_var 0 rfl pv)) (ea_cons (ee_mkEK (k := ek K 5) (fname := "at") (x := "InvalidFactor") (L.e1 5 (by decide)) hr (ee_var 0 rfl pv)) (ea_cons (ee_mkEK (k := ek K 6) (fname := "at") (x := "InvalidGroup") (L.e1 6 (by decide)) hr (ee_var 0 rfl pv)) (ea_cons (ee_mkEK (k := ek K 7) (fname := "at") (x := "InvalidClaim") (L.e1 7 (by decide)) hr (ee_var 0 rfl pv)) (ea_cons (ee_mkEK (k := ek K 8) (fname := "at") (x := "InvalidSums") (L.e1 8 (by decide)) hr (ee_var 0 rfl pv)) (ea_nil)))))))))))
      (ee_lstP (Ps := [RE K g 9, RE K g 10, RE K g 11, RE K g 12, RE K g 13, RE K g 14, RE K g 15, RE K g 16, RE K g 17]) (ea_cons (ee_mkEK (k := ek K 9) (fname := "given") (x := "InvalidRow") (L.e1 9 (by decide)) hr (ee_var 0 rfl pv)) (ea_cons (ee_mkEK (k := ek K 10) (fname := "at") (x := "InvalidDeed") (L.e1 10 (by decide)) hr (ee_var 0 rfl pv)) (ea_cons (ee_mkEK (k := ek K 11) (fname := "name") (x := "InvalidName") (L.e1 11 (by decide)) hr (ee_var 0 rfl pv)) (ea_cons (ee_mkEK (k := ek K 12) (fname := "at") (x := "InvalidCommand") (L.e1 12 (by decide)) hr (ee_var 0 rfl pv)) (ea_cons (ee_mkEK (k := ek K 13) (fname := "given") (x := "InvalidLimit") (L.e1 13 (by decide)) hr (ee_var 0 rfl pv)) (ea_cons (ee_mkEK (k := ek K 14) (fname := "line") (x := "InvalidPage") (L.e1 14 (by decide)) hr (ee_var 0 rfl pv)) (ea_cons (ee_mkEK (k := ek K 15) (fname := "width") (x := "WrongWidth") (L.e1 15 (by decide)) hr (ee_var 0 rfl pv)) (ea_cons (ee_mkEK (k := ek K 16) (fname := "at") (x := "WrongSchema") (L.e1 16 (by decide)) hr (ee_var 0 rfl pv)) (ea_cons (ee_mkEK (k := ek K 17) (fname := "name") (x := "WrongKind") (L.e1 17 (by decide)) hr (ee_var 0 rfl pv)) (ea_nil))))))))))))
      (ee_lstP (Ps := [RE K g 18, RE K g 19, RE K g 20, RE K g 21, RE K g 22, RE K g 23, RE K g 24, RE K g 25]) (ea_cons (ee_mkEK (k := ek K 18) (fname := "most") (x := "TooMany") (L.e1 18 (by decide)) hr (ee_var 0 rfl pv)) (ea_cons (ee_mkEK (k := ek K 19) (fname := "at") (x := "TooHigh") (L.e1 19 (by decide)) hr (ee_var 0 rfl pv)) (ea_cons (ee_mkEK (k := ek K 20) (fname := "at") (x := "EqualSums") (L.e1 20 (by decide)) hr (ee_var 0 rfl pv)) (ea_cons (ee_mkEK (k := ek K 21) (fname := "paper") (x := "Tight") (L.e1 21 (by decide)) hr (ee_var 0 rfl pv)) (ea_cons (ee_mkEK (k := ek K 22) (fname := "broken") (x := "BrokenClaim") (L.e1 22 (by decide)) hr (ee_var 0 rfl pv)) (ea_cons (ee_mkEK (k := ek K 23) (fname := "name") (x := "DuplicateName") (L.e1 23 (by decide)) hr (ee_var 0 rfl pv)) (ea_cons (ee_mkEK (k := ek K 24) (fname := "limit") (x := "Full") (L.e1 24 (by decide)) hr (ee_var 0 rfl pv)) (ea_cons (ee_mkEK (k := ek K 25) (fname := "name") (x := "UnknownName") (L.e1 25 (by decide)) hr (ee_var 0 rfl pv)) (ea_nil))))))))))
end
end K01
namespace K01
open PySem PySem.Spec PyProof.Rows L2 Z Y
section
variable {P : Program} {w : World} {K : PySem.W.Frag} {mg : Str → Option Value} {base : Heap} {f : Addr} {fd : FuncData}
/-! ## the law -/
abbrev NL : List Str := ["_law_script", "_law_box", "_law_x", "_law_bare", "_law_rows_z", "_law_named", "_law_words", "_law_more", "_law_e", "_law_whole", "_law_at", "_law_late", "_law_lost", "_law_told", "_law_mark"]
theorem sc_law : FnScope NL ["_law_script"] (defScope slaw) := ⟨rfl, rfl, rfl, by decide +kernel, rfl, by decide +kernel, by decide +kernel⟩
def forBody (s : Stmt) : List Stmt := match s with
  | .For _ _ b _ _ => b
  | _ => []
def stAt (l : List Stmt) (i : Nat) : Stmt := l.getD i (.Pass ⟨0, 0, 0, 0⟩)
structure LE1 (P : Program) (w : World) (K : PySem.W.Frag) (mg : Str → Option Value) (base : Heap) : Prop where
  L : LE0 P w K mg base
  openD : KD P w K mg base "_law_open" 1 (spOpen K)
  odd : KD P w K mg base "_law_odd" 3 (spB K Fodd)
  kinds : KD P w K mg base "_law_kinds" 1 (spEr K fun i _ => .list (kindsD i))
  made : KD P w K mg base "_law_made_errors" 3 (spMk K)
  named : KD P w K mg base "_law_named_errors" 3 (spMk K)
  kept : KD P w K mg base "_law_kept_in" 2 (spEr K keptD)
  same : ∀ n, KD P w K mg base "_law_same" (n + 2) (spD K (Fsame n))
  flen : mg "len" = none
  frange : mg "range" = none
  fVE : mg "ValueError" = none
  fIE : mg "IndexError" = none
  fLE : mg "LookupError" = none
abbrev LX (P : Program) (w : World) (K : PySem.W.Frag) (mg : Str → Option Value) (base : Heap) (f : Addr) (cdv : Value) (A : Around) (outer : List Env) (sh : Shared) (H0 : Hp) (E : XK) : Cx := (cxOf CX0 P w K mg base NL "law" (defScope slaw) f cdv A outer sh H0 E).nox
abbrev moreX : List PyData := [.int 3, .int (-7), .int (10 ^ 17), .str "S[x]"]
theorem odd_bd : ∀ d ∈ oddL ++ moreX, Bd 1 d := by
  intro d hd
  simp only [oddL, moreX, List.cons_append, List.nil_append, List.mem_cons, List.not_mem_nil, or_false] at hd
  rcases hd with rfl | rfl | rfl | rfl | rfl | rfl | rfl | rfl | rfl | rfl | rfl | rfl | rfl | rfl | rfl <;> simp [Bd]
abbrev bareL : List Nat := [26, 27, 28, 29, 30, 31]
def codesD (n : Nat) : List PyData := (List.range n).map fun i => .str (cn i)
theorem bd_codes (n : Nat) : Bd 1 (.list (codesD n)) := fun d hd => by
  obtain ⟨i, _, rfl⟩ := List.mem_map.mp hd
  trivial
theorem kept_all (d : PyData) : (List.range 26 ++ List.range 26).map (fun i => keptD i d) = List.replicate 52 d := by
  refine List.ext_getElem? fun i => ?_
  have h : ∀ j ∈ List.range 26 ++ List.range 26, keptD j d = d := fun j hj => by
    have : j < 26 := by
      rcases List.mem_append.mp hj with h | h <;> exact List.mem_range.mp h
    unfold keptD; rw [if_pos this]
  rw [List.map_congr_left h, List.map_const']
  rfl
theorem rep_flat (d : PyData) : (List.replicate 52 [d]).flatten = List.replicate 52 d := by
  rfl
/-- the loop's state -/
def Iv (K : PySem.W.Frag) (d : PyData) (v0 v1 v2 v3 v4 v5 v6 v7 v9 : V) : Nat → L2.St → Hp → Prop := fun _ σ H => ∃ a8 a10 a11 a12 a13 a14, σ = [some v0, some v1, some v2, some v3, some v4, some v5, some v6, some v7, a8, some v9, a10, a11, a12, a13, a14] ∧
  LstP ((List.range 32).map (RE K d)) v9 H ∧ LstP ((List.range 26).map (RE K d)) v4 H ∧ LstP ((List.range 26).map (RE K d)) v5 H ∧ LstP (bareL.map (RE K d)) v3 H
theorem filt_kinds {i : Nat} (hi : i < 32) : (kindsD i).filter truD = [.bool true] := by
  have e := kinds_one i hi
  have : (kindsD i).filter truD = ((kOrd.map fun j => decide (i = j)).filter (fun b => b)).map PyData.bool := by
    unfold kindsD
    rw [List.filter_map, List.filter_map, List.map_map]
    rfl
  rw [this, e]; rfl
theorem sup_due : ∀ i, i < 32 → supB i = [(!decide (cn i = "NothingLeft") && !decide (cn i = "UnknownName")), (!decide (cn i = "NothingLeft") && !decide (cn i = "UnknownName")), decide (cn i = "UnknownName"), decide (cn i = "NothingLeft"), (decide (cn i = "NothingLeft") || decide (cn i = "UnknownName"))] := by decide +kernel
theorem sup5 : ∀ i, i < 32 → ∃ b0 b1 b2 b3 b4, supB i = [b0, b1, b2, b3, b4] := by decide +kernel
theorem eqvAll_bools : ∀ l : List Bool, PyData.eqvAll (l.map .bool) (l.map .bool) = true
  | [] => rfl
  | b :: l => by
    rw [List.map_cons, PyData.eqvAll, eqvAll_bools l]
    cases b <;> rfl
theorem eqv_bools (l : List Bool) : PyData.eqv (.list (l.map .bool)) (.list (l.map .bool)) = true := by
  rw [PyData.eqv]; exact eqvAll_bools l
theorem shaped5 : ∀ c0 c1 c2 c3 c4 : Bool, SeqAt.shaped (.list [.bool c0, .bool c1, .bool c2, .bool c3, .bool c4]) = true := by decide +kernel
section
variable {X : Cx} {σ : L2.St} {S : Hp} {a : Expr} {i : Nat} {d : PyData} {p p2 pos : Pos}
theorem ee_ib {x : Str} {C : Addr} {b : Bool} (L : LE0 X.prog X.w X.K X.mg X.base) (hi : i < 32) (hm : X.mg x = some (.ref C)) (e : PySem.W.kitOne X.K (.ref (cA X.K i)) (.ref C) = some b) (ha : EE X σ S a (RE X.K d i)) (hg2 : Gl X x := by rfl) (hd2 : (x == ("__debug__" : Str)) = false := by decide) (hg : Gl X "isinstance" := by rfl)
    (hs : starEach [a, .Name x p2] X.env = (false, eval a X.env) :: starEach [.Name x p2] X.env := by rfl) (hs2 : starEach [.Name x p2] X.env = (false, eval (.Name x p2) X.env) :: starEach [] X.env := by rfl) (hpl : (backTo pos (starEach [.Name x p2] X.env)).any (·.1) = false := by rfl) : EE X σ S (.Call (.Name "isinstance" p) [a, .Name x p2] [] pos) (Dt X.K (.bool b)) :=
  ee_isG (k := ek X.K i) (cV := .ref C) L.sp L.tk (L.T i hi) L.isi ha (fun S1 _ => ee_glob (v := .ref C) hm rfl rfl hg2 hd2) (fun u h => h) e hg hs hs2 hpl
theorem ee_it {x : Str} {T : String} {b : Bool} (L : LE0 X.prog X.w X.K X.mg X.base) (hi : i < 32) (hm : X.mg x = none) (hv : bootBuiltins x = some (.type T)) (e : PySem.W.kitOne X.K (.ref (cA X.K i)) (.type T) = some b) (ha : EE X σ S a (RE X.K d i)) (hg2 : Gl X x := by rfl) (hn2 : x ≠ "__name__" := by decide) (hd2 : (x == ("__debug__" : Str)) = false := by decide) (hg : Gl X "isinstance" := by rfl)
    (hs : starEach [a, .Name x p2] X.env = (false, eval a X.env) :: starEach [.Name x p2] X.env := by rfl) (hs2 : starEach [.Name x p2] X.env = (false, eval (.Name x p2) X.env) :: starEach [] X.env := by rfl) (hpl : (backTo pos (starEach [.Name x p2] X.env)).any (·.1) = false := by rfl) : EE X σ S (.Call (.Name "isinstance" p) [a, .Name x p2] [] pos) (Dt X.K (.bool b)) :=
  ee_isG (k := ek X.K i) (cV := .ty T) L.sp L.tk (L.T i hi) L.isi ha (fun S1 _ => ee_bltn (v := .ty T) (u := .type T) hm hv rfl rfl hg2 hn2 hd2) (fun u h => h) e hg hs hs2 hpl
end
section
variable {cdv : Value} {A : Around} {outer : List Env} {sh : Shared} {H0 : Hp} {E : XK} {S H : Hp} {D : Ends} {rest : List Stmt} {d : PyData} {i : Nat}
def turnB : List Stmt := forBody (stAt (defBody slaw) 11)
/-- a turn of the loop -/
theorem turn (L : LE1 P w K mg base) (hr : Room 8 (LX P w K mg base f cdv A outer sh H0 E).A) (hi : i < 32) {v0 v1 v2 v3 v4 v5 v6 v7 v9 : V} {a8 a11 a12 a13 a14 : Option V} (h9 : LstP ((List.range 32).map (RE K d)) v9 H) (nx : ∀ a8 a11 a12 a13 a14 S' H', Same H S' → Same S' H' → D.nx [some v0, some v1, some v2, some v3, some v4, some v5, some v6, some v7, a8, some v9, some (.int (i : Nat)), a11, a12, a13, a14] H') :
    HS (LX P w K mg base f cdv A outer sh H0 E) D turnB [some v0, some v1, some v2, some v3, some v4, some v5, some v6, some v7, a8, some v9, some (.int (i : Nat)), a11, a12, a13, a14] H := by
  refine hs_set (i := 8) (ee_ixLP (i := i) re_mn (P := RE K d i) (by rw [List.getElem?_map, List.getElem?_range hi]; rfl) (ee_var 9 rfl h9) (ee_var 10 rfl (.int _))) (Same.refl H) sc_law.nd fun e S1 H1 g1 pe => ?_
  have up : ∀ {S2 : Hp}, Same S1 S2 → RE K d i e S2 := fun s => Mn.up s pe
  refine hs_ifN ((et_ne (d1 := .list [.bool true]) (d2 := .list [.bool true]) hr (by decide +kernel) (by decide +kernel) ?_ (ee_lst (ds := [.bool true]) (ea_1 ee_bl))).is (by decide +kernel)) g1.sub fun S2 H2 g2 => ?_
  · refine (ee_lcA (R := Dt K) (ds := kindsD i) (own := [("_law_mark", 14)]) (p := truD) (G := fun d r => r = d) rfl sc_law.nd (blkOk_by (N := NL) (sc := defScope slaw) (by decide +kernel)) (ei_list ((ee_call L.kinds (hr.mono (by decide)) (ea_1 (ee_var 8 rfl pe)) (spEr_E hi)))) (by show 32 ≤ 16777216; decide) (fun x hx v S' s hv => ⟨_, wipe1 (i := 14) (v := some v), fun sh' H0' C cl fp => ⟨eg_name sc_law.nd rfl (by first | exact Or.inl rfl | exact Or.inr rfl), ets_one (et_tru (ee_var 14 rfl hv) (fun y hy => ?_)), fun _ => (ee_var (P := Dt K x) 14 rfl hv).imp fun w S2 hw => ⟨_, rfl, hw⟩⟩⟩)).imp fun v S' h => ?_
    · subst hy
      obtain ⟨j, _, e⟩ := List.mem_map.mp hx
      cases e
    · obtain ⟨rs, h1, h2⟩ := h
      rw [filt_kinds hi] at h1
      cases h1 with
      | cons e t => cases t; subst e; exact h2
  have pe2 := up g2.st
  refine hs_par (i := 11) (j := 12) (Pa := Dt K (.bool (decide (cn i = "NothingLeft")))) (Pb := Dt K (.bool (decide (cn i = "UnknownName")))) rfl sc_law.nd (ee_eqS (ee_cd L.L hi (ee_var 8 rfl pe2)) ee_str) (ee_eqS (ee_cd L.L hi (ee_var 8 rfl pe2)) ee_str) g2.sub rfl fun b1 b2 S3 H3 g3 p1 p2 => ?_
  have pe3 : RE K d i e S3 := Mn.up g3.st pe2
  obtain ⟨c0, c1, c2, c3, c4, hsup⟩ := sup5 i hi
  have hs := L.L.sup i hi
  rw [hsup] at hs
  simp only [List.map_cons, List.map_nil, List.cons.injEq, and_true] at hs
  obtain ⟨k0, k1, k2, k3, k4⟩ := hs
  refine hs_set (i := 13) (ee_lst (ds := [.bool c0, .bool c1, .bool c2, .bool c3, .bool c4]) (ea_cons (ee_ib L.L hi L.L.gD k0 (ee_var 8 rfl pe3)) (ea_cons (ee_it L.L hi L.fVE rfl k1 (ee_var 8 rfl pe3)) (ea_cons (ee_ib L.L hi L.L.gM k2 (ee_var 8 rfl pe3)) (ea_cons (ee_it L.L hi L.fIE rfl k3 (ee_var 8 rfl pe3)) (ea_cons (ee_it L.L hi L.fLE rfl k4 (ee_var 8 rfl pe3)) ea_nil)))))) g3.sub sc_law.nd fun t S4 H4 g4 pt => ?_
  have q1 := p1.up g4.st
  have q2 := p2.up g4.st
  have hdue := sup_due i hi
  rw [hsup] at hdue
  refine hs_ifN ((et_ne (d1 := .list ([c0, c1, c2, c3, c4].map .bool)) (d2 := .list ([c0, c1, c2, c3, c4].map .bool)) hr (shaped5 _ _ _ _ _) (shaped5 _ _ _ _ _) (ee_var 13 rfl pt) ?_).is (by rw [eqv_bools]; rfl)) g4.sub fun S5 H5 g5 => hs_nil ?_
  · rw [hdue]
    exact ee_lst (ds := [_, _, _, _, _]) (ea_cons (ee_and (ee_not (ee_var 11 rfl q1)) fun _ => ee_one (ee_not (ee_var 12 rfl q2))) (ea_cons (ee_and (ee_not (ee_var 11 rfl q1)) fun _ => ee_one (ee_not (ee_var 12 rfl q2))) (ea_cons (ee_var 12 rfl q2) (ea_cons (ee_var 11 rfl q1) (ea_cons (ee_or (ee_var 11 rfl q1) fun _ => ee_one (ee_var 12 rfl q2)) ea_nil)))))
  exact nx _ _ _ _ _ S5 H5 (g1.st.trans (g2.st.trans (g3.st.trans (g4.st.trans g5.st)))) g5.sub
end
def spLaw (K : PySem.W.Frag) : Sp := fun vs H Q _ => ∃ (a : Addr) (ns : List Int), vs = [.ref a] ∧ SqL K H a (ns.map V.int) ∧ ns.length ≤ 63 ∧ ∀ H', Q (.bl true) H'
theorem ok_law (F : FnT K "law" slaw f fd) (L : LE1 P w K mg base) : FnOk P w K mg base CX0 9 f fd ["_law_script"] (spLaw K) := by
  refine fn_hs F sc_law (fun vs H Q E h => by obtain ⟨a, ns, rfl, _⟩ := h; rfl) (fun cdv A outer sh H vs Q E hr h => ?_)
  obtain ⟨a, ns, rfl, hS, hl, q⟩ := h
  obtain ⟨fo, fdo, pso, G, hm, hk, hb⟩ := L.openD.ex
  refine hs_cons (ps_set (i := 1) sc_law.nd rfl (by first | exact Or.inl rfl | exact Or.inr rfl) (pe_call G (hr.mono (by decide)) rfl hm hk hb .nil pass0 (pa_cons (pv 0) pa_nil)) rfl (by first | exact .inl rfl | exact .inr rfl)) ?_
  refine ⟨_, rfl, ?_⟩
  refine ⟨a, ns, rfl, hS, hl, fun vb H1 sm hbx => ?_⟩
  refine hs_set (i := 2) (ee_callBx L.odd (hr.mono (by decide)) ⟨moreX, rfl, by decide, rfl⟩ (ea_2 (ee_var 1 rfl hbx) (ee_lst (ds := moreX) (ea_cons ee_int (ea_cons (ee_neg ee_int) (ea_cons ((ee_pow (by exact ⟨by decide, by decide, by decide⟩) ee_int ee_int).isd rfl) (ea_cons ee_str ea_nil))))))) (Same.refl H1) sc_law.nd fun vx S2 H2 g2 px => ?_
  obtain ⟨d, hd, px⟩ := px
  have bd := odd_bd d hd
  refine hs_set (i := 3) (P := LstP (bareL.map (RE K d))) (ee_lstP (Ps := bareL.map (RE K d)) (ea_cons (ee_mkE0 (k := ek K 26) (x := "InvalidText") (L.L.e0 26 (by decide) (by decide)) (hr.mono (by decide))) (ea_cons (ee_mkE0 (k := ek K 27) (x := "Boundless") (L.L.e0 27 (by decide) (by decide)) (hr.mono (by decide))) (ea_cons (ee_mkE0 (k := ek K 28) (x := "NoTable") (L.L.e0 28 (by decide) (by decide)) (hr.mono (by decide))) (ea_cons (ee_mkE0 (k := ek K 29) (x := "NotThere") (L.L.e0 29 (by decide) (by decide)) (hr.mono (by decide))) (ea_cons (ee_mkE0 (k := ek K 30) (x := "Empty") (L.L.e0 30 (by decide) (by decide)) (hr.mono (by decide))) (ea_cons (ee_mkE0 (k := ek K 31) (x := "NothingLeft") (L.L.e0 31 (by decide) (by decide)) (hr.mono (by decide))) (ea_nil)))))))) g2.sub sc_law.nd fun v3 S3 H3 g3 p3 => ?_
  have px3 := px.up g3.st
  haveI i26 : Mn (LstP ((List.range 26).map (RE K d))) := lstP_mn re_mn
  haveI i32 : Mn (LstP ((List.range 32).map (RE K d))) := lstP_mn re_mn
  haveI i6 : Mn (LstP (bareL.map (RE K d))) := lstP_mn re_mn
  refine hs_par (i := 4) (j := 5) (Pa := LstP ((List.range 26).map (RE K d))) (Pb := LstP ((List.range 26).map (RE K d))) rfl sc_law.nd (ee_call L.made (hr.mono (by decide)) (ea_1 (ee_var 2 rfl px3)) spMk_E) (ee_call L.named (hr.mono (by decide)) (ea_1 (ee_var 2 rfl px3)) spMk_E) g3.sub rfl fun v4 v5 S4 H4 g4 p4 p5 => ?_
  refine hs_set (i := 6) (ee_lst (ds := [.str "InvalidNumber", .str "InvalidSystem", .str "InvalidColumns", .str "InvalidFact", .str "InvalidExponent", .str "InvalidFactor", .str "InvalidGroup", .str "InvalidClaim", .str "InvalidSums"]) (by repeat (first | exact ea_nil | refine ea_cons ee_str ?_))) g4.sub sc_law.nd fun v6 S5 H5 g5 p6 => ?_
  refine hs_set (i := 6) (ee_catL (by decide) (ee_var 6 rfl p6) (ee_lst (ds := [.str "InvalidRow", .str "InvalidDeed", .str "InvalidName", .str "InvalidCommand", .str "InvalidLimit", .str "InvalidPage", .str "WrongWidth", .str "WrongSchema", .str "WrongKind"]) (by repeat (first | exact ea_nil | refine ea_cons ee_str ?_)))) g5.sub sc_law.nd fun v6 S6 H6 g6 p6 => ?_
  refine hs_set (i := 6) (ee_catL (by decide) (ee_var 6 rfl p6) (ee_lst (ds := [.str "TooMany", .str "TooHigh", .str "EqualSums", .str "Tight", .str "BrokenClaim", .str "DuplicateName", .str "Full", .str "UnknownName"]) (by repeat (first | exact ea_nil | refine ea_cons ee_str ?_)))) g6.sub sc_law.nd fun v6 S7 H7 g7 p6 => ?_
  refine hs_set (i := 7) (ee_lst (ds := [.str "InvalidText", .str "Boundless", .str "NoTable", .str "NotThere", .str "Empty", .str "NothingLeft"]) (by repeat (first | exact ea_nil | refine ea_cons ee_str ?_))) g7.sub sc_law.nd fun v7 S8 H8 g8 p7 => ?_
  have s48 := g5.st.trans (g6.st.trans (g7.st.trans g8.st))
  have s38 := g4.st.trans s48
  have h3 : LstP (bareL.map (RE K d)) v3 S8 := Mn.up s38 p3
  have h4 : LstP ((List.range 26).map (RE K d)) v4 S8 := Mn.up s48 p4
  have h5 : LstP ((List.range 26).map (RE K d)) v5 S8 := Mn.up s48 p5
  have hx := px3.up s38
  have w8 : Dt K (.list (codesD 26)) v6 S8 := p6.up g8.st
  have hcat : ∀ {σ : L2.St} {S : Hp} {a b : Expr} {pos : Pos}, EE (LX P w K mg base f cdv A outer sh H E) σ S a (LstP ((List.range 26).map (RE K d))) → EE (LX P w K mg base f cdv A outer sh H E) σ S b (LstP (bareL.map (RE K d))) → EE (LX P w K mg base f cdv A outer sh H E) σ S (.BinOp a .Add b pos) (LstP ((List.range 32).map (RE K d))) := fun h1 h2 => ee_catLP (Ps := (List.range 26).map (RE K d)) (Qs := bareL.map (RE K d)) re_mn re_mn (by show 32 ≤ 16777216; decide) h1 h2
  refine hs_ifN ((et_w (ew_or (k1 := false) (et_not (et_val (k := true) (ee_callD (ds := [.list (codesD 32), .list (codesD 32)]) (L.same 1) (hr.mono (by decide)) ⟨_, rfl, bd_codes 32, rfl⟩ (ea_2 ?c1 ?c2)))) fun _ => ew_or1 (k := false) (et_not (et_val (k := true) (ee_callD (ds := [.list (codesD 26), .list (codesD 26)]) (L.same 1) (hr.mono (by decide)) ⟨_, rfl, bd_codes 26, rfl⟩ (ea_2 ?c3 (ee_var 6 rfl w8)))))))) g8.sub fun S9 H9 g9 => ?_
  case c1 => exact ee_lcQ (R := RE K d) (ds := List.range 32) (f := fun i => .str (cn i)) (i := 8) rfl sc_law.nd (blkOk_by (N := NL) (sc := defScope slaw) (by decide +kernel)) (ei_lstP re_mn (hcat (ee_var 4 rfl h4) (ee_var 3 rfl h3))) (by decide) fun i hi v S' s hv sh' H0' C cl fp => ee_cd L.L (List.mem_range.mp hi) (ee_var 8 rfl hv)
  case c2 => exact EE.isd (ee_catL (ds1 := codesD 26) (ds2 := [.str "InvalidText", .str "Boundless", .str "NoTable", .str "NotThere", .str "Empty", .str "NothingLeft"]) (by show 32 ≤ 16777216; decide) (ee_var 6 rfl w8) (ee_var 7 rfl p7)) rfl
  case c3 => exact ee_lcQ (R := RE K d) (ds := List.range 26) (f := fun i => .str (cn i)) (i := 8) rfl sc_law.nd (blkOk_by (N := NL) (sc := defScope slaw) (by decide +kernel)) (ei_lstP re_mn (ee_var 5 rfl h5)) (by decide) fun i hi v S' s hv sh' H0' C cl fp => ee_cd L.L (by have := List.mem_range.mp hi; omega) (ee_var 8 rfl hv)
  have h39 : LstP (bareL.map (RE K d)) v3 S9 := Mn.up g9.st h3
  have h49 : LstP ((List.range 26).map (RE K d)) v4 S9 := Mn.up g9.st h4
  have h59 : LstP ((List.range 26).map (RE K d)) v5 S9 := Mn.up g9.st h5
  have hx9 := hx.up g9.st
  refine hs_ifN ((et_not (et_val (k := true) (ee_callD (ds := [.list (List.replicate 52 d), .list (List.replicate 52 d)]) (L.same 2) (hr.mono (by decide)) ⟨_, rfl, fun x hx => by rw [List.eq_of_mem_replicate hx]; exact bd, rfl⟩ (ea_2 ?c4 ?c5)))).is rfl) g9.sub fun S10 H10 g10 => ?_
  case c4 =>
    refine EE.isd (ee_lcQ (R := RE K d) (ds := List.range 26 ++ List.range 26) (f := fun i => keptD i d) (i := 8) rfl sc_law.nd (blkOk_by (N := NL) (sc := defScope slaw) (by decide +kernel)) ?_ (by decide) fun i hi v S' s hv sh' H0' C cl fp => ?_) (by rw [kept_all])
    · rw [List.map_append]
      exact ei_lstP (fun P hp => (List.mem_append.mp hp).elim (re_mn P) (re_mn P)) (ee_catLP re_mn re_mn (by show 52 ≤ 16777216; decide) (ee_var 4 rfl h49) (ee_var 5 rfl h59))
    · have : i < 26 := by rcases List.mem_append.mp hi with h | h <;> exact List.mem_range.mp h
      exact ee_call L.kept (hr.mono (by decide)) (ea_1 (ee_var 8 rfl hv)) (spEr_E (by omega))
  case c5 => exact (ee_repL (ds := [d]) (i := 52) (by decide) (by decide) (by show 52 ≤ 16777216; decide) (ee_lst (ds := [d]) (ea_1 (ee_var 2 rfl hx9))) ee_int).isd (by show PyData.list (List.replicate 52 [d]).flatten = _; rw [rep_flat])
  have h30 : LstP (bareL.map (RE K d)) v3 S10 := Mn.up g10.st h39
  have h40 : LstP ((List.range 26).map (RE K d)) v4 S10 := Mn.up g10.st h49
  have h50 : LstP ((List.range 26).map (RE K d)) v5 S10 := Mn.up g10.st h59
  refine hs_set (i := 9) (hcat (ee_var 4 rfl h40) (ee_var 3 rfl h30)) g10.sub sc_law.nd fun v9 S11 H11 g11 p9 => ?_
  have hr8 : Room 8 (LX P w K mg base f cdv A outer sh H E).A := hr
  refine hs_forR (S := S11) (n := 32) (Iv K d (.ref a) vb vx v3 v4 v5 v6 v7 v9) PassesOwn.never rfl L.frange (by decide) ((ee_lenLP (Pa := LstP ((List.range 32).map (RE K d))) (n := 32) L.flen (ee_var 9 rfl p9) (fun v S1 h => by obtain ⟨l, xs, rfl, hl, al⟩ := h; exact ⟨l, xs, rfl, .inl hl, by rw [al_len al]; rfl⟩))) g11.sub (fun S' H' g => ⟨_, _, _, _, _, _, rfl, Mn.up (g.st.trans g.sub) p9, Mn.up (g11.st.trans (g.st.trans g.sub)) h40, Mn.up (g11.st.trans (g.st.trans g.sub)) h50, Mn.up (g11.st.trans (g.st.trans g.sub)) h30⟩) ?_ ?_
  · rintro i σ1 H2 hi ⟨a8, a10, a11, a12, a13, a14, rfl, k9, k4, k5, k3⟩
    refine (eg_name (S := H2) (i := 10) sc_law.nd rfl (by first | exact Or.inl rfl | exact Or.inr rfl)) H2 (Same.refl H2) _ ?_
    refine turn L hr8 hi k9 fun a8 a11 a12 a13 a14 S' H' s1 s2 => ?_
    exact ⟨_, _, _, _, _, _, rfl, Mn.up (s1.trans s2) k9, Mn.up (s1.trans s2) k4, Mn.up (s1.trans s2) k5, Mn.up (s1.trans s2) k3⟩
  · rintro σ1 H2 ⟨a8, a10, a11, a12, a13, a14, rfl, k9, k4, k5, k3⟩
    refine hs_ret (P := Dt K (.bool true)) ?_ (Same.refl H2) fun v S' H' g pv => by cases pv; exact q H'
    exact (ee_and (k1 := true) (k2 := true) ((ee_ik (i := 0) (j := 0) (g := d) L.L (by decide) (by decide) (by decide +kernel) (ee_ixLP (i := 0) re_mn (P := RE K d 0) rfl (ee_var 4 rfl k4) ee_int)).isd rfl) fun _ => ee_and (k1 := true) (k2 := true) ((ee_ik (i := 1) (j := 1) (g := d) L.L (by decide) (by decide) (by decide +kernel) (ee_ixLP (i := 1) re_mn (P := RE K d 1) rfl (ee_var 5 rfl k5) ee_int)).isd rfl) fun _ => ee_one ((ee_ik (i := 27) (j := 27) (g := d) L.L (by decide) (by decide) (by decide +kernel) (ee_ixLP (i := 1) re_mn (P := RE K d 27) rfl (ee_var 3 rfl k3) ee_int)).isd rfl)).isd rfl
end
end K01
namespace K01
open PySem PySem.Spec PyProof.Rows L2 Z Y
section
variable {P : Program} {w : World} {K : PySem.W.Frag} {mg : Str → Option Value} {base : Heap} {f : Addr} {fd : FuncData}
/-! ## the errors of k01 -/
theorem sc_iInvalidNumber : FnScope ["self", "given"] ["self", "given"] (defScope sInvalidNumber____init__) := ⟨rfl, rfl, rfl, by decide +kernel, rfl, by decide +kernel, by decide +kernel⟩
theorem ok_init_InvalidNumber {C : Addr} (F : FunD K "__init__" "InvalidNumber.__init__" (defArgs sInvalidNumber____init__) (defBody sInvalidNumber____init__) (defScope sInvalidNumber____init__) [] [] f fd) (T : OexG K C) (n1 : PySem.W.findIn K (.ref C) "given" = some none) (n2 : PySem.W.findIn K (.ref C) "code" = some none) : FnOk P w K mg base CX0 1 f fd ["self", "given"] (spXI C "given" "InvalidNumber") := by
  refine fn_hs F sc_iInvalidNumber (fun vs H Q E h => ?_) (fun cdv A outer sh H vs Q E hr h => ?_)
  · obtain ⟨a, v, rfl, _⟩ := h
    rfl
  · obtain ⟨a, v, rfl, ha, q⟩ := h
    refine hs_cons (ps_osG (pv 0) (pv 1)) ⟨_, rfl, _, rfl, a, C, rfl, T, n1, .inl ⟨ha, fun dx h1 h2 => ?_⟩⟩
    refine hs_cons (ps_osG (pv 0) pe_str) ⟨_, rfl, a, C, rfl, T, n2, .inr ⟨dx, [("given", v)], upd_same, by rw [upd_ne h2, upd_same], (show 1 ≤ 900 by decide), ?_⟩⟩
    exact hs_nil (q dx h1 h2)
theorem sc_iInvalidSystem : FnScope ["self", "at"] ["self", "at"] (defScope sInvalidSystem____init__) := ⟨rfl, rfl, rfl, by decide +kernel, rfl, by decide +kernel, by decide +kernel⟩
theorem ok_init_InvalidSystem {C : Addr} (F : FunD K "__init__" "InvalidSystem.__init__" (defArgs sInvalidSystem____init__) (defBody sInvalidSystem____init__) (defScope sInvalidSystem____init__) [] [] f fd) (T : OexG K C) (n1 : PySem.W.findIn K (.ref C) "at" = some none) (n2 : PySem.W.findIn K (.ref C) "code" = some none) : FnOk P w K mg base CX0 1 f fd ["self", "at"] (spXI C "at" "InvalidSystem") := by
  refine fn_hs F sc_iInvalidSystem (fun vs H Q E h => ?_) (fun cdv A outer sh H vs Q E hr h => ?_)
  · obtain ⟨a, v, rfl, _⟩ := h
    rfl
  · obtain ⟨a, v, rfl, ha, q⟩ := h
    refine hs_cons (ps_osG (pv 0) (pv 1)) ⟨_, rfl, _, rfl, a, C, rfl, T, n1, .inl ⟨ha, fun dx h1 h2 => ?_⟩⟩
    refine hs_cons (ps_osG (pv 0) pe_str) ⟨_, rfl, a, C, rfl, T, n2, .inr ⟨dx, [("at", v)], upd_same, by rw [upd_ne h2, upd_same], (show 1 ≤ 900 by decide), ?_⟩⟩
    exact hs_nil (q dx h1 h2)
theorem sc_iInvalidColumns : FnScope ["self", "given"] ["self", "given"] (defScope sInvalidColumns____init__) := ⟨rfl, rfl, rfl, by decide +kernel, rfl, by decide +kernel, by decide +kernel⟩
theorem ok_init_InvalidColumns {C : Addr} (F : FunD K "__init__" "InvalidColumns.__init__" (defArgs sInvalidColumns____init__) (defBody sInvalidColumns____init__) (defScope sInvalidColumns____init__) [] [] f fd) (T : OexG K C) (n1 : PySem.W.findIn K (.ref C) "given" = some none) (n2 : PySem.W.findIn K (.ref C) "code" = some none) : FnOk P w K mg base CX0 1 f fd ["self", "given"] (spXI C "given" "InvalidColumns") := by
  refine fn_hs F sc_iInvalidColumns (fun vs H Q E h => ?_) (fun cdv A outer sh H vs Q E hr h => ?_)
  · obtain ⟨a, v, rfl, _⟩ := h
    rfl
  · obtain ⟨a, v, rfl, ha, q⟩ := h
    refine hs_cons (ps_osG (pv 0) (pv 1)) ⟨_, rfl, _, rfl, a, C, rfl, T, n1, .inl ⟨ha, fun dx h1 h2 => ?_⟩⟩
    refine hs_cons (ps_osG (pv 0) pe_str) ⟨_, rfl, a, C, rfl, T, n2, .inr ⟨dx, [("given", v)], upd_same, by rw [upd_ne h2, upd_same], (show 1 ≤ 900 by decide), ?_⟩⟩
    exact hs_nil (q dx h1 h2)
theorem sc_iInvalidFact : FnScope ["self", "at"] ["self", "at"] (defScope sInvalidFact____init__) := ⟨rfl, rfl, rfl, by decide +kernel, rfl, by decide +kernel, by decide +kernel⟩
theorem ok_init_InvalidFact {C : Addr} (F : FunD K "__init__" "InvalidFact.__init__" (defArgs sInvalidFact____init__) (defBody sInvalidFact____init__) (defScope sInvalidFact____init__) [] [] f fd) (T : OexG K C) (n1 : PySem.W.findIn K (.ref C) "at" = some none) (n2 : PySem.W.findIn K (.ref C) "code" = some none) : FnOk P w K mg base CX0 1 f fd ["self", "at"] (spXI C "at" "InvalidFact") := by
  refine fn_hs F sc_iInvalidFact (fun vs H Q E h => ?_) (fun cdv A outer sh H vs Q E hr h => ?_)
  · obtain ⟨a, v, rfl, _⟩ := h
    rfl
  · obtain ⟨a, v, rfl, ha, q⟩ := h
    refine hs_cons (ps_osG (pv 0) (pv 1)) ⟨_, rfl, _, rfl, a, C, rfl, T, n1, .inl ⟨ha, fun dx h1 h2 => ?_⟩⟩
    refine hs_cons (ps_osG (pv 0) pe_str) ⟨_, rfl, a, C, rfl, T, n2, .inr ⟨dx, [("at", v)], upd_same, by rw [upd_ne h2, upd_same], (show 1 ≤ 900 by decide), ?_⟩⟩
    exact hs_nil (q dx h1 h2)
theorem sc_iInvalidExponent : FnScope ["self", "given"] ["self", "given"] (defScope sInvalidExponent____init__) := ⟨rfl, rfl, rfl, by decide +kernel, rfl, by decide +kernel, by decide +kernel⟩
theorem ok_init_InvalidExponent {C : Addr} (F : FunD K "__init__" "InvalidExponent.__init__" (defArgs sInvalidExponent____init__) (defBody sInvalidExponent____init__) (defScope sInvalidExponent____init__) [] [] f fd) (T : OexG K C) (n1 : PySem.W.findIn K (.ref C) "given" = some none) (n2 : PySem.W.findIn K (.ref C) "code" = some none) : FnOk P w K mg base CX0 1 f fd ["self", "given"] (spXI C "given" "InvalidExponent") := by
  refine fn_hs F sc_iInvalidExponent (fun vs H Q E h => ?_) (fun cdv A outer sh H vs Q E hr h => ?_)
  · obtain ⟨a, v, rfl, _⟩ := h
    rfl
  · obtain ⟨a, v, rfl, ha, q⟩ := h
    refine hs_cons (ps_osG (pv 0) (pv 1)) ⟨_, rfl, _, rfl, a, C, rfl, T, n1, .inl ⟨ha, fun dx h1 h2 => ?_⟩⟩
    refine hs_cons (ps_osG (pv 0) pe_str) ⟨_, rfl, a, C, rfl, T, n2, .inr ⟨dx, [("given", v)], upd_same, by rw [upd_ne h2, upd_same], (show 1 ≤ 900 by decide), ?_⟩⟩
    exact hs_nil (q dx h1 h2)
theorem sc_iInvalidFactor : FnScope ["self", "at"] ["self", "at"] (defScope sInvalidFactor____init__) := ⟨rfl, rfl, rfl, by decide +kernel, rfl, by decide +kernel, by decide +kernel⟩
theorem ok_init_InvalidFactor {C : Addr} (F : FunD K "__init__" "InvalidFactor.__init__" (defArgs sInvalidFactor____init__) (defBody sInvalidFactor____init__) (defScope sInvalidFactor____init__) [] [] f fd) (T : OexG K C) (n1 : PySem.W.findIn K (.ref C) "at" = some none) (n2 : PySem.W.findIn K (.ref C) "code" = some none) : FnOk P w K mg base CX0 1 f fd ["self", "at"] (spXI C "at" "InvalidFactor") := by
  refine fn_hs F sc_iInvalidFactor (fun vs H Q E h => ?_) (fun cdv A outer sh H vs Q E hr h => ?_)
  · obtain ⟨a, v, rfl, _⟩ := h
    rfl
  · obtain ⟨a, v, rfl, ha, q⟩ := h
    refine hs_cons (ps_osG (pv 0) (pv 1)) ⟨_, rfl, _, rfl, a, C, rfl, T, n1, .inl ⟨ha, fun dx h1 h2 => ?_⟩⟩
    refine hs_cons (ps_osG (pv 0) pe_str) ⟨_, rfl, a, C, rfl, T, n2, .inr ⟨dx, [("at", v)], upd_same, by rw [upd_ne h2, upd_same], (show 1 ≤ 900 by decide), ?_⟩⟩
    exact hs_nil (q dx h1 h2)
theorem sc_iInvalidGroup : FnScope ["self", "at"] ["self", "at"] (defScope sInvalidGroup____init__) := ⟨rfl, rfl, rfl, by decide +kernel, rfl, by decide +kernel, by decide +kernel⟩
theorem ok_init_InvalidGroup {C : Addr} (F : FunD K "__init__" "InvalidGroup.__init__" (defArgs sInvalidGroup____init__) (defBody sInvalidGroup____init__) (defScope sInvalidGroup____init__) [] [] f fd) (T : OexG K C) (n1 : PySem.W.findIn K (.ref C) "at" = some none) (n2 : PySem.W.findIn K (.ref C) "code" = some none) : FnOk P w K mg base CX0 1 f fd ["self", "at"] (spXI C "at" "InvalidGroup") := by
  refine fn_hs F sc_iInvalidGroup (fun vs H Q E h => ?_) (fun cdv A outer sh H vs Q E hr h => ?_)
  · obtain ⟨a, v, rfl, _⟩ := h
    rfl
  · obtain ⟨a, v, rfl, ha, q⟩ := h
    refine hs_cons (ps_osG (pv 0) (pv 1)) ⟨_, rfl, _, rfl, a, C, rfl, T, n1, .inl ⟨ha, fun dx h1 h2 => ?_⟩⟩
    refine hs_cons (ps_osG (pv 0) pe_str) ⟨_, rfl, a, C, rfl, T, n2, .inr ⟨dx, [("at", v)], upd_same, by rw [upd_ne h2, upd_same], (show 1 ≤ 900 by decide), ?_⟩⟩
    exact hs_nil (q dx h1 h2)
theorem sc_iInvalidClaim : FnScope ["self", "at"] ["self", "at"] (defScope sInvalidClaim____init__) := ⟨rfl, rfl, rfl, by decide +kernel, rfl, by decide +kernel, by decide +kernel⟩
theorem ok_init_InvalidClaim {C : Addr} (F : FunD K "__init__" "InvalidClaim.__init__" (defArgs sInvalidClaim____init__) (defBody sInvalidClaim____init__) (defScope sInvalidClaim____init__) [] [] f fd) (T : OexG K C) (n1 : PySem.W.findIn K (.ref C) "at" = some none) (n2 : PySem.W.findIn K (.ref C) "code" = some none) : FnOk P w K mg base CX0 1 f fd ["self", "at"] (spXI C "at" "InvalidClaim") := by
  refine fn_hs F sc_iInvalidClaim (fun vs H Q E h => ?_) (fun cdv A outer sh H vs Q E hr h => ?_)
  · obtain ⟨a, v, rfl, _⟩ := h
    rfl
  · obtain ⟨a, v, rfl, ha, q⟩ := h
    refine hs_cons (ps_osG (pv 0) (pv 1)) ⟨_, rfl, _, rfl, a, C, rfl, T, n1, .inl ⟨ha, fun dx h1 h2 => ?_⟩⟩
    refine hs_cons (ps_osG (pv 0) pe_str) ⟨_, rfl, a, C, rfl, T, n2, .inr ⟨dx, [("at", v)], upd_same, by rw [upd_ne h2, upd_same], (show 1 ≤ 900 by decide), ?_⟩⟩
    exact hs_nil (q dx h1 h2)
theorem sc_iInvalidSums : FnScope ["self", "at"] ["self", "at"] (defScope sInvalidSums____init__) := ⟨rfl, rfl, rfl, by decide +kernel, rfl, by decide +kernel, by decide +kernel⟩
theorem ok_init_InvalidSums {C : Addr} (F : FunD K "__init__" "InvalidSums.__init__" (defArgs sInvalidSums____init__) (defBody sInvalidSums____init__) (defScope sInvalidSums____init__) [] [] f fd) (T : OexG K C) (n1 : PySem.W.findIn K (.ref C) "at" = some none) (n2 : PySem.W.findIn K (.ref C) "code" = some none) : FnOk P w K mg base CX0 1 f fd ["self", "at"] (spXI C "at" "InvalidSums") := by
  refine fn_hs F sc_iInvalidSums (fun vs H Q E h => ?_) (fun cdv A outer sh H vs Q E hr h => ?_)
  · obtain ⟨a, v, rfl, _⟩ := h
    rfl
  · obtain ⟨a, v, rfl, ha, q⟩ := h
    refine hs_cons (ps_osG (pv 0) (pv 1)) ⟨_, rfl, _, rfl, a, C, rfl, T, n1, .inl ⟨ha, fun dx h1 h2 => ?_⟩⟩
    refine hs_cons (ps_osG (pv 0) pe_str) ⟨_, rfl, a, C, rfl, T, n2, .inr ⟨dx, [("at", v)], upd_same, by rw [upd_ne h2, upd_same], (show 1 ≤ 900 by decide), ?_⟩⟩
    exact hs_nil (q dx h1 h2)
theorem sc_iInvalidRow : FnScope ["self", "given"] ["self", "given"] (defScope sInvalidRow____init__) := ⟨rfl, rfl, rfl, by decide +kernel, rfl, by decide +kernel, by decide +kernel⟩
theorem ok_init_InvalidRow {C : Addr} (F : FunD K "__init__" "InvalidRow.__init__" (defArgs sInvalidRow____init__) (defBody sInvalidRow____init__) (defScope sInvalidRow____init__) [] [] f fd) (T : OexG K C) (n1 : PySem.W.findIn K (.ref C) "given" = some none) (n2 : PySem.W.findIn K (.ref C) "code" = some none) : FnOk P w K mg base CX0 1 f fd ["self", "given"] (spXI C "given" "InvalidRow") := by
  refine fn_hs F sc_iInvalidRow (fun vs H Q E h => ?_) (fun cdv A outer sh H vs Q E hr h => ?_)
  · obtain ⟨a, v, rfl, _⟩ := h
    rfl
  · obtain ⟨a, v, rfl, ha, q⟩ := h
    refine hs_cons (ps_osG (pv 0) (pv 1)) ⟨_, rfl, _, rfl, a, C, rfl, T, n1, .inl ⟨ha, fun dx h1 h2 => ?_⟩⟩
    refine hs_cons (ps_osG (pv 0) pe_str) ⟨_, rfl, a, C, rfl, T, n2, .inr ⟨dx, [("given", v)], upd_same, by rw [upd_ne h2, upd_same], (show 1 ≤ 900 by decide), ?_⟩⟩
    exact hs_nil (q dx h1 h2)
theorem sc_iInvalidDeed : FnScope ["self", "at"] ["self", "at"] (defScope sInvalidDeed____init__) := ⟨rfl, rfl, rfl, by decide +kernel, rfl, by decide +kernel, by decide +kernel⟩
theorem ok_init_InvalidDeed {C : Addr} (F : FunD K "__init__" "InvalidDeed.__init__" (defArgs sInvalidDeed____init__) (defBody sInvalidDeed____init__) (defScope sInvalidDeed____init__) [] [] f fd) (T : OexG K C) (n1 : PySem.W.findIn K (.ref C) "at" = some none) (n2 : PySem.W.findIn K (.ref C) "code" = some none) : FnOk P w K mg base CX0 1 f fd ["self", "at"] (spXI C "at" "InvalidDeed") := by
  refine fn_hs F sc_iInvalidDeed (fun vs H Q E h => ?_) (fun cdv A outer sh H vs Q E hr h => ?_)
  · obtain ⟨a, v, rfl, _⟩ := h
    rfl
  · obtain ⟨a, v, rfl, ha, q⟩ := h
    refine hs_cons (ps_osG (pv 0) (pv 1)) ⟨_, rfl, _, rfl, a, C, rfl, T, n1, .inl ⟨ha, fun dx h1 h2 => ?_⟩⟩
    refine hs_cons (ps_osG (pv 0) pe_str) ⟨_, rfl, a, C, rfl, T, n2, .inr ⟨dx, [("at", v)], upd_same, by rw [upd_ne h2, upd_same], (show 1 ≤ 900 by decide), ?_⟩⟩
    exact hs_nil (q dx h1 h2)
theorem sc_iInvalidName : FnScope ["self", "name"] ["self", "name"] (defScope sInvalidName____init__) := ⟨rfl, rfl, rfl, by decide +kernel, rfl, by decide +kernel, by decide +kernel⟩
theorem ok_init_InvalidName {C : Addr} (F : FunD K "__init__" "InvalidName.__init__" (defArgs sInvalidName____init__) (defBody sInvalidName____init__) (defScope sInvalidName____init__) [] [] f fd) (T : OexG K C) (n1 : PySem.W.findIn K (.ref C) "name" = some none) (n2 : PySem.W.findIn K (.ref C) "code" = some none) : FnOk P w K mg base CX0 1 f fd ["self", "name"] (spXI C "name" "InvalidName") := by
  refine fn_hs F sc_iInvalidName (fun vs H Q E h => ?_) (fun cdv A outer sh H vs Q E hr h => ?_)
  · obtain ⟨a, v, rfl, _⟩ := h
    rfl
  · obtain ⟨a, v, rfl, ha, q⟩ := h
    refine hs_cons (ps_osG (pv 0) (pv 1)) ⟨_, rfl, _, rfl, a, C, rfl, T, n1, .inl ⟨ha, fun dx h1 h2 => ?_⟩⟩
    refine hs_cons (ps_osG (pv 0) pe_str) ⟨_, rfl, a, C, rfl, T, n2, .inr ⟨dx, [("name", v)], upd_same, by rw [upd_ne h2, upd_same], (show 1 ≤ 900 by decide), ?_⟩⟩
    exact hs_nil (q dx h1 h2)
theorem sc_iInvalidCommand : FnScope ["self", "at"] ["self", "at"] (defScope sInvalidCommand____init__) := ⟨rfl, rfl, rfl, by decide +kernel, rfl, by decide +kernel, by decide +kernel⟩
theorem ok_init_InvalidCommand {C : Addr} (F : FunD K "__init__" "InvalidCommand.__init__" (defArgs sInvalidCommand____init__) (defBody sInvalidCommand____init__) (defScope sInvalidCommand____init__) [] [] f fd) (T : OexG K C) (n1 : PySem.W.findIn K (.ref C) "at" = some none) (n2 : PySem.W.findIn K (.ref C) "code" = some none) : FnOk P w K mg base CX0 1 f fd ["self", "at"] (spXI C "at" "InvalidCommand") := by
  refine fn_hs F sc_iInvalidCommand (fun vs H Q E h => ?_) (fun cdv A outer sh H vs Q E hr h => ?_)
  · obtain ⟨a, v, rfl, _⟩ := h
    rfl
  · obtain ⟨a, v, rfl, ha, q⟩ := h
    refine hs_cons (ps_osG (pv 0) (pv 1)) ⟨_, rfl, _, rfl, a, C, rfl, T, n1, .inl ⟨ha, fun dx h1 h2 => ?_⟩⟩
    refine hs_cons (ps_osG (pv 0) pe_str) ⟨_, rfl, a, C, rfl, T, n2, .inr ⟨dx, [("at", v)], upd_same, by rw [upd_ne h2, upd_same], (show 1 ≤ 900 by decide), ?_⟩⟩
    exact hs_nil (q dx h1 h2)
theorem sc_iInvalidLimit : FnScope ["self", "given"] ["self", "given"] (defScope sInvalidLimit____init__) := ⟨rfl, rfl, rfl, by decide +kernel, rfl, by decide +kernel, by decide +kernel⟩
theorem ok_init_InvalidLimit {C : Addr} (F : FunD K "__init__" "InvalidLimit.__init__" (defArgs sInvalidLimit____init__) (defBody sInvalidLimit____init__) (defScope sInvalidLimit____init__) [] [] f fd) (T : OexG K C) (n1 : PySem.W.findIn K (.ref C) "given" = some none) (n2 : PySem.W.findIn K (.ref C) "code" = some none) : FnOk P w K mg base CX0 1 f fd ["self", "given"] (spXI C "given" "InvalidLimit") := by
  refine fn_hs F sc_iInvalidLimit (fun vs H Q E h => ?_) (fun cdv A outer sh H vs Q E hr h => ?_)
  · obtain ⟨a, v, rfl, _⟩ := h
    rfl
  · obtain ⟨a, v, rfl, ha, q⟩ := h
    refine hs_cons (ps_osG (pv 0) (pv 1)) ⟨_, rfl, _, rfl, a, C, rfl, T, n1, .inl ⟨ha, fun dx h1 h2 => ?_⟩⟩
    refine hs_cons (ps_osG (pv 0) pe_str) ⟨_, rfl, a, C, rfl, T, n2, .inr ⟨dx, [("given", v)], upd_same, by rw [upd_ne h2, upd_same], (show 1 ≤ 900 by decide), ?_⟩⟩
    exact hs_nil (q dx h1 h2)
theorem sc_iInvalidPage : FnScope ["self", "line"] ["self", "line"] (defScope sInvalidPage____init__) := ⟨rfl, rfl, rfl, by decide +kernel, rfl, by decide +kernel, by decide +kernel⟩
theorem ok_init_InvalidPage {C : Addr} (F : FunD K "__init__" "InvalidPage.__init__" (defArgs sInvalidPage____init__) (defBody sInvalidPage____init__) (defScope sInvalidPage____init__) [] [] f fd) (T : OexG K C) (n1 : PySem.W.findIn K (.ref C) "line" = some none) (n2 : PySem.W.findIn K (.ref C) "code" = some none) : FnOk P w K mg base CX0 1 f fd ["self", "line"] (spXI C "line" "InvalidPage") := by
  refine fn_hs F sc_iInvalidPage (fun vs H Q E h => ?_) (fun cdv A outer sh H vs Q E hr h => ?_)
  · obtain ⟨a, v, rfl, _⟩ := h
    rfl
  · obtain ⟨a, v, rfl, ha, q⟩ := h
    refine hs_cons (ps_osG (pv 0) (pv 1)) ⟨_, rfl, _, rfl, a, C, rfl, T, n1, .inl ⟨ha, fun dx h1 h2 => ?_⟩⟩
    refine hs_cons (ps_osG (pv 0) pe_str) ⟨_, rfl, a, C, rfl, T, n2, .inr ⟨dx, [("line", v)], upd_same, by rw [upd_ne h2, upd_same], (show 1 ≤ 900 by decide), ?_⟩⟩
    exact hs_nil (q dx h1 h2)
theorem sc_iWrongWidth : FnScope ["self", "width"] ["self", "width"] (defScope sWrongWidth____init__) := ⟨rfl, rfl, rfl, by decide +kernel, rfl, by decide +kernel, by decide +kernel⟩
theorem ok_init_WrongWidth {C : Addr} (F : FunD K "__init__" "WrongWidth.__init__" (defArgs sWrongWidth____init__) (defBody sWrongWidth____init__) (defScope sWrongWidth____init__) [] [] f fd) (T : OexG K C) (n1 : PySem.W.findIn K (.ref C) "width" = some none) (n2 : PySem.W.findIn K (.ref C) "code" = some none) : FnOk P w K mg base CX0 1 f fd ["self", "width"] (spXI C "width" "WrongWidth") := by
  refine fn_hs F sc_iWrongWidth (fun vs H Q E h => ?_) (fun cdv A outer sh H vs Q E hr h => ?_)
  · obtain ⟨a, v, rfl, _⟩ := h
    rfl
  · obtain ⟨a, v, rfl, ha, q⟩ := h
    refine hs_cons (ps_osG (pv 0) (pv 1)) ⟨_, rfl, _, rfl, a, C, rfl, T, n1, .inl ⟨ha, fun dx h1 h2 => ?_⟩⟩
    refine hs_cons (ps_osG (pv 0) pe_str) ⟨_, rfl, a, C, rfl, T, n2, .inr ⟨dx, [("width", v)], upd_same, by rw [upd_ne h2, upd_same], (show 1 ≤ 900 by decide), ?_⟩⟩
    exact hs_nil (q dx h1 h2)
theorem sc_iWrongSchema : FnScope ["self", "at"] ["self", "at"] (defScope sWrongSchema____init__) := ⟨rfl, rfl, rfl, by decide +kernel, rfl, by decide +kernel, by decide +kernel⟩
theorem ok_init_WrongSchema {C : Addr} (F : FunD K "__init__" "WrongSchema.__init__" (defArgs sWrongSchema____init__) (defBody sWrongSchema____init__) (defScope sWrongSchema____init__) [] [] f fd) (T : OexG K C) (n1 : PySem.W.findIn K (.ref C) "at" = some none) (n2 : PySem.W.findIn K (.ref C) "code" = some none) : FnOk P w K mg base CX0 1 f fd ["self", "at"] (spXI C "at" "WrongSchema") := by
  refine fn_hs F sc_iWrongSchema (fun vs H Q E h => ?_) (fun cdv A outer sh H vs Q E hr h => ?_)
  · obtain ⟨a, v, rfl, _⟩ := h
    rfl
  · obtain ⟨a, v, rfl, ha, q⟩ := h
    refine hs_cons (ps_osG (pv 0) (pv 1)) ⟨_, rfl, _, rfl, a, C, rfl, T, n1, .inl ⟨ha, fun dx h1 h2 => ?_⟩⟩
    refine hs_cons (ps_osG (pv 0) pe_str) ⟨_, rfl, a, C, rfl, T, n2, .inr ⟨dx, [("at", v)], upd_same, by rw [upd_ne h2, upd_same], (show 1 ≤ 900 by decide), ?_⟩⟩
    exact hs_nil (q dx h1 h2)
theorem sc_iWrongKind : FnScope ["self", "name"] ["self", "name"] (defScope sWrongKind____init__) := ⟨rfl, rfl, rfl, by decide +kernel, rfl, by decide +kernel, by decide +kernel⟩
theorem ok_init_WrongKind {C : Addr} (F : FunD K "__init__" "WrongKind.__init__" (defArgs sWrongKind____init__) (defBody sWrongKind____init__) (defScope sWrongKind____init__) [] [] f fd) (T : OexG K C) (n1 : PySem.W.findIn K (.ref C) "name" = some none) (n2 : PySem.W.findIn K (.ref C) "code" = some none) : FnOk P w K mg base CX0 1 f fd ["self", "name"] (spXI C "name" "WrongKind") := by
  refine fn_hs F sc_iWrongKind (fun vs H Q E h => ?_) (fun cdv A outer sh H vs Q E hr h => ?_)
  · obtain ⟨a, v, rfl, _⟩ := h
    rfl
  · obtain ⟨a, v, rfl, ha, q⟩ := h
    refine hs_cons (ps_osG (pv 0) (pv 1)) ⟨_, rfl, _, rfl, a, C, rfl, T, n1, .inl ⟨ha, fun dx h1 h2 => ?_⟩⟩
    refine hs_cons (ps_osG (pv 0) pe_str) ⟨_, rfl, a, C, rfl, T, n2, .inr ⟨dx, [("name", v)], upd_same, by rw [upd_ne h2, upd_same], (show 1 ≤ 900 by decide), ?_⟩⟩
    exact hs_nil (q dx h1 h2)
theorem sc_iTooMany : FnScope ["self", "most"] ["self", "most"] (defScope sTooMany____init__) := ⟨rfl, rfl, rfl, by decide +kernel, rfl, by decide +kernel, by decide +kernel⟩
theorem ok_init_TooMany {C : Addr} (F : FunD K "__init__" "TooMany.__init__" (defArgs sTooMany____init__) (defBody sTooMany____init__) (defScope sTooMany____init__) [] [] f fd) (T : OexG K C) (n1 : PySem.W.findIn K (.ref C) "most" = some none) (n2 : PySem.W.findIn K (.ref C) "code" = some none) : FnOk P w K mg base CX0 1 f fd ["self", "most"] (spXI C "most" "TooMany") := by
  refine fn_hs F sc_iTooMany (fun vs H Q E h => ?_) (fun cdv A outer sh H vs Q E hr h => ?_)
  · obtain ⟨a, v, rfl, _⟩ := h
    rfl
  · obtain ⟨a, v, rfl, ha, q⟩ := h
    refine hs_cons (ps_osG (pv 0) (pv 1)) ⟨_, rfl, _, rfl, a, C, rfl, T, n1, .inl ⟨ha, fun dx h1 h2 => ?_⟩⟩
    refine hs_cons (ps_osG (pv 0) pe_str) ⟨_, rfl, a, C, rfl, T, n2, .inr ⟨dx, [("most", v)], upd_same, by rw [upd_ne h2, upd_same], (show 1 ≤ 900 by decide), ?_⟩⟩
    exact hs_nil (q dx h1 h2)
theorem sc_iTooHigh : FnScope ["self", "at"] ["self", "at"] (defScope sTooHigh____init__) := ⟨rfl, rfl, rfl, by decide +kernel, rfl, by decide +kernel, by decide +kernel⟩
theorem ok_init_TooHigh {C : Addr} (F : FunD K "__init__" "TooHigh.__init__" (defArgs sTooHigh____init__) (defBody sTooHigh____init__) (defScope sTooHigh____init__) [] [] f fd) (T : OexG K C) (n1 : PySem.W.findIn K (.ref C) "at" = some none) (n2 : PySem.W.findIn K (.ref C) "code" = some none) : FnOk P w K mg base CX0 1 f fd ["self", "at"] (spXI C "at" "TooHigh") := by
  refine fn_hs F sc_iTooHigh (fun vs H Q E h => ?_) (fun cdv A outer sh H vs Q E hr h => ?_)
  · obtain ⟨a, v, rfl, _⟩ := h
    rfl
  · obtain ⟨a, v, rfl, ha, q⟩ := h
    refine hs_cons (ps_osG (pv 0) (pv 1)) ⟨_, rfl, _, rfl, a, C, rfl, T, n1, .inl ⟨ha, fun dx h1 h2 => ?_⟩⟩
    refine hs_cons (ps_osG (pv 0) pe_str) ⟨_, rfl, a, C, rfl, T, n2, .inr ⟨dx, [("at", v)], upd_same, by rw [upd_ne h2, upd_same], (show 1 ≤ 900 by decide), ?_⟩⟩
    exact hs_nil (q dx h1 h2)
theorem sc_iEqualSums : FnScope ["self", "at"] ["self", "at"] (defScope sEqualSums____init__) := ⟨rfl, rfl, rfl, by decide +kernel, rfl, by decide +kernel, by decide +kernel⟩
theorem ok_init_EqualSums {C : Addr} (F : FunD K "__init__" "EqualSums.__init__" (defArgs sEqualSums____init__) (defBody sEqualSums____init__) (defScope sEqualSums____init__) [] [] f fd) (T : OexG K C) (n1 : PySem.W.findIn K (.ref C) "at" = some none) (n2 : PySem.W.findIn K (.ref C) "code" = some none) : FnOk P w K mg base CX0 1 f fd ["self", "at"] (spXI C "at" "EqualSums") := by
  refine fn_hs F sc_iEqualSums (fun vs H Q E h => ?_) (fun cdv A outer sh H vs Q E hr h => ?_)
  · obtain ⟨a, v, rfl, _⟩ := h
    rfl
  · obtain ⟨a, v, rfl, ha, q⟩ := h
    refine hs_cons (ps_osG (pv 0) (pv 1)) ⟨_, rfl, _, rfl, a, C, rfl, T, n1, .inl ⟨ha, fun dx h1 h2 => ?_⟩⟩
    refine hs_cons (ps_osG (pv 0) pe_str) ⟨_, rfl, a, C, rfl, T, n2, .inr ⟨dx, [("at", v)], upd_same, by rw [upd_ne h2, upd_same], (show 1 ≤ 900 by decide), ?_⟩⟩
    exact hs_nil (q dx h1 h2)
theorem sc_iTight : FnScope ["self", "paper"] ["self", "paper"] (defScope sTight____init__) := ⟨rfl, rfl, rfl, by decide +kernel, rfl, by decide +kernel, by decide +kernel⟩
theorem ok_init_Tight {C : Addr} (F : FunD K "__init__" "Tight.__init__" (defArgs sTight____init__) (defBody sTight____init__) (defScope sTight____init__) [] [] f fd) (T : OexG K C) (n1 : PySem.W.findIn K (.ref C) "paper" = some none) (n2 : PySem.W.findIn K (.ref C) "code" = some none) : FnOk P w K mg base CX0 1 f fd ["self", "paper"] (spXI C "paper" "Tight") := by
  refine fn_hs F sc_iTight (fun vs H Q E h => ?_) (fun cdv A outer sh H vs Q E hr h => ?_)
  · obtain ⟨a, v, rfl, _⟩ := h
    rfl
  · obtain ⟨a, v, rfl, ha, q⟩ := h
    refine hs_cons (ps_osG (pv 0) (pv 1)) ⟨_, rfl, _, rfl, a, C, rfl, T, n1, .inl ⟨ha, fun dx h1 h2 => ?_⟩⟩
    refine hs_cons (ps_osG (pv 0) pe_str) ⟨_, rfl, a, C, rfl, T, n2, .inr ⟨dx, [("paper", v)], upd_same, by rw [upd_ne h2, upd_same], (show 1 ≤ 900 by decide), ?_⟩⟩
    exact hs_nil (q dx h1 h2)
theorem sc_iBrokenClaim : FnScope ["self", "broken"] ["self", "broken"] (defScope sBrokenClaim____init__) := ⟨rfl, rfl, rfl, by decide +kernel, rfl, by decide +kernel, by decide +kernel⟩
theorem ok_init_BrokenClaim {C : Addr} (F : FunD K "__init__" "BrokenClaim.__init__" (defArgs sBrokenClaim____init__) (defBody sBrokenClaim____init__) (defScope sBrokenClaim____init__) [] [] f fd) (T : OexG K C) (n1 : PySem.W.findIn K (.ref C) "broken" = some none) (n2 : PySem.W.findIn K (.ref C) "code" = some none) : FnOk P w K mg base CX0 1 f fd ["self", "broken"] (spXI C "broken" "BrokenClaim") := by
  refine fn_hs F sc_iBrokenClaim (fun vs H Q E h => ?_) (fun cdv A outer sh H vs Q E hr h => ?_)
  · obtain ⟨a, v, rfl, _⟩ := h
    rfl
  · obtain ⟨a, v, rfl, ha, q⟩ := h
    refine hs_cons (ps_osG (pv 0) (pv 1)) ⟨_, rfl, _, rfl, a, C, rfl, T, n1, .inl ⟨ha, fun dx h1 h2 => ?_⟩⟩
    refine hs_cons (ps_osG (pv 0) pe_str) ⟨_, rfl, a, C, rfl, T, n2, .inr ⟨dx, [("broken", v)], upd_same, by rw [upd_ne h2, upd_same], (show 1 ≤ 900 by decide), ?_⟩⟩
    exact hs_nil (q dx h1 h2)
theorem sc_iDuplicateName : FnScope ["self", "name"] ["self", "name"] (defScope sDuplicateName____init__) := ⟨rfl, rfl, rfl, by decide +kernel, rfl, by decide +kernel, by decide +kernel⟩
theorem ok_init_DuplicateName {C : Addr} (F : FunD K "__init__" "DuplicateName.__init__" (defArgs sDuplicateName____init__) (defBody sDuplicateName____init__) (defScope sDuplicateName____init__) [] [] f fd) (T : OexG K C) (n1 : PySem.W.findIn K (.ref C) "name" = some none) (n2 : PySem.W.findIn K (.ref C) "code" = some none) : FnOk P w K mg base CX0 1 f fd ["self", "name"] (spXI C "name" "DuplicateName") := by
  refine fn_hs F sc_iDuplicateName (fun vs H Q E h => ?_) (fun cdv A outer sh H vs Q E hr h => ?_)
  · obtain ⟨a, v, rfl, _⟩ := h
    rfl
  · obtain ⟨a, v, rfl, ha, q⟩ := h
    refine hs_cons (ps_osG (pv 0) (pv 1)) ⟨_, rfl, _, rfl, a, C, rfl, T, n1, .inl ⟨ha, fun dx h1 h2 => ?_⟩⟩
    refine hs_cons (ps_osG (pv 0) pe_str) ⟨_, rfl, a, C, rfl, T, n2, .inr ⟨dx, [("name", v)], upd_same, by rw [upd_ne h2, upd_same], (show 1 ≤ 900 by decide), ?_⟩⟩
    exact hs_nil (q dx h1 h2)
theorem sc_iFull : FnScope ["self", "limit"] ["self", "limit"] (defScope sFull____init__) := ⟨rfl, rfl, rfl, by decide +kernel, rfl, by decide +kernel, by decide +kernel⟩
theorem ok_init_Full {C : Addr} (F : FunD K "__init__" "Full.__init__" (defArgs sFull____init__) (defBody sFull____init__) (defScope sFull____init__) [] [] f fd) (T : OexG K C) (n1 : PySem.W.findIn K (.ref C) "limit" = some none) (n2 : PySem.W.findIn K (.ref C) "code" = some none) : FnOk P w K mg base CX0 1 f fd ["self", "limit"] (spXI C "limit" "Full") := by
  refine fn_hs F sc_iFull (fun vs H Q E h => ?_) (fun cdv A outer sh H vs Q E hr h => ?_)
  · obtain ⟨a, v, rfl, _⟩ := h
    rfl
  · obtain ⟨a, v, rfl, ha, q⟩ := h
    refine hs_cons (ps_osG (pv 0) (pv 1)) ⟨_, rfl, _, rfl, a, C, rfl, T, n1, .inl ⟨ha, fun dx h1 h2 => ?_⟩⟩
    refine hs_cons (ps_osG (pv 0) pe_str) ⟨_, rfl, a, C, rfl, T, n2, .inr ⟨dx, [("limit", v)], upd_same, by rw [upd_ne h2, upd_same], (show 1 ≤ 900 by decide), ?_⟩⟩
    exact hs_nil (q dx h1 h2)
theorem sc_iUnknownName : FnScope ["self", "name"] ["self", "name"] (defScope sUnknownName____init__) := ⟨rfl, rfl, rfl, by decide +kernel, rfl, by decide +kernel, by decide +kernel⟩
theorem ok_init_UnknownName {C : Addr} (F : FunD K "__init__" "UnknownName.__init__" (defArgs sUnknownName____init__) (defBody sUnknownName____init__) (defScope sUnknownName____init__) [] [] f fd) (T : OexG K C) (n1 : PySem.W.findIn K (.ref C) "name" = some none) (n2 : PySem.W.findIn K (.ref C) "code" = some none) : FnOk P w K mg base CX0 1 f fd ["self", "name"] (spXI C "name" "UnknownName") := by
  refine fn_hs F sc_iUnknownName (fun vs H Q E h => ?_) (fun cdv A outer sh H vs Q E hr h => ?_)
  · obtain ⟨a, v, rfl, _⟩ := h
    rfl
  · obtain ⟨a, v, rfl, ha, q⟩ := h
    refine hs_cons (ps_osG (pv 0) (pv 1)) ⟨_, rfl, _, rfl, a, C, rfl, T, n1, .inl ⟨ha, fun dx h1 h2 => ?_⟩⟩
    refine hs_cons (ps_osG (pv 0) pe_str) ⟨_, rfl, a, C, rfl, T, n2, .inr ⟨dx, [("name", v)], upd_same, by rw [upd_ne h2, upd_same], (show 1 ≤ 900 by decide), ?_⟩⟩
    exact hs_nil (q dx h1 h2)
theorem sc_iInvalidText : FnScope ["self"] ["self"] (defScope sInvalidText____init__) := ⟨rfl, rfl, rfl, by decide +kernel, rfl, by decide +kernel, by decide +kernel⟩
theorem ok_init_InvalidText {C : Addr} (F : FunD K "__init__" "InvalidText.__init__" (defArgs sInvalidText____init__) (defBody sInvalidText____init__) (defScope sInvalidText____init__) [] [] f fd) (T : OexG K C) (n2 : PySem.W.findIn K (.ref C) "code" = some none) : FnOk P w K mg base CX0 1 f fd ["self"] (spXI0 C "InvalidText") := by
  refine fn_hs F sc_iInvalidText (fun vs H Q E h => ?_) (fun cdv A outer sh H vs Q E hr h => ?_)
  · obtain ⟨a, rfl, _⟩ := h
    rfl
  · obtain ⟨a, rfl, ha, q⟩ := h
    refine hs_cons (ps_osG (pv 0) pe_str) ⟨_, rfl, a, C, rfl, T, n2, .inl ⟨ha, fun dx h1 h2 => ?_⟩⟩
    exact hs_nil (q dx h1 h2)
theorem sc_iBoundless : FnScope ["self"] ["self"] (defScope sBoundless____init__) := ⟨rfl, rfl, rfl, by decide +kernel, rfl, by decide +kernel, by decide +kernel⟩
theorem ok_init_Boundless {C : Addr} (F : FunD K "__init__" "Boundless.__init__" (defArgs sBoundless____init__) (defBody sBoundless____init__) (defScope sBoundless____init__) [] [] f fd) (T : OexG K C) (n2 : PySem.W.findIn K (.ref C) "code" = some none) : FnOk P w K mg base CX0 1 f fd ["self"] (spXI0 C "Boundless") := by
  refine fn_hs F sc_iBoundless (fun vs H Q E h => ?_) (fun cdv A outer sh H vs Q E hr h => ?_)
  · obtain ⟨a, rfl, _⟩ := h
    rfl
  · obtain ⟨a, rfl, ha, q⟩ := h
    refine hs_cons (ps_osG (pv 0) pe_str) ⟨_, rfl, a, C, rfl, T, n2, .inl ⟨ha, fun dx h1 h2 => ?_⟩⟩
    exact hs_nil (q dx h1 h2)
theorem sc_iNoTable : FnScope ["self"] ["self"] (defScope sNoTable____init__) := ⟨rfl, rfl, rfl, by decide +kernel, rfl, by decide +kernel, by decide +kernel⟩
theorem ok_init_NoTable {C : Addr} (F : FunD K "__init__" "NoTable.__init__" (defArgs sNoTable____init__) (defBody sNoTable____init__) (defScope sNoTable____init__) [] [] f fd) (T : OexG K C) (n2 : PySem.W.findIn K (.ref C) "code" = some none) : FnOk P w K mg base CX0 1 f fd ["self"] (spXI0 C "NoTable") := by
  refine fn_hs F sc_iNoTable (fun vs H Q E h => ?_) (fun cdv A outer sh H vs Q E hr h => ?_)
  · obtain ⟨a, rfl, _⟩ := h
    rfl
  · obtain ⟨a, rfl, ha, q⟩ := h
    refine hs_cons (ps_osG (pv 0) pe_str) ⟨_, rfl, a, C, rfl, T, n2, .inl ⟨ha, fun dx h1 h2 => ?_⟩⟩
    exact hs_nil (q dx h1 h2)
theorem sc_iNotThere : FnScope ["self"] ["self"] (defScope sNotThere____init__) := ⟨rfl, rfl, rfl, by decide +kernel, rfl, by decide +kernel, by decide +kernel⟩
theorem ok_init_NotThere {C : Addr} (F : FunD K "__init__" "NotThere.__init__" (defArgs sNotThere____init__) (defBody sNotThere____init__) (defScope sNotThere____init__) [] [] f fd) (T : OexG K C) (n2 : PySem.W.findIn K (.ref C) "code" = some none) : FnOk P w K mg base CX0 1 f fd ["self"] (spXI0 C "NotThere") := by
  refine fn_hs F sc_iNotThere (fun vs H Q E h => ?_) (fun cdv A outer sh H vs Q E hr h => ?_)
  · obtain ⟨a, rfl, _⟩ := h
    rfl
  · obtain ⟨a, rfl, ha, q⟩ := h
    refine hs_cons (ps_osG (pv 0) pe_str) ⟨_, rfl, a, C, rfl, T, n2, .inl ⟨ha, fun dx h1 h2 => ?_⟩⟩
    exact hs_nil (q dx h1 h2)
theorem sc_iEmpty : FnScope ["self"] ["self"] (defScope sEmpty____init__) := ⟨rfl, rfl, rfl, by decide +kernel, rfl, by decide +kernel, by decide +kernel⟩
theorem ok_init_Empty {C : Addr} (F : FunD K "__init__" "Empty.__init__" (defArgs sEmpty____init__) (defBody sEmpty____init__) (defScope sEmpty____init__) [] [] f fd) (T : OexG K C) (n2 : PySem.W.findIn K (.ref C) "code" = some none) : FnOk P w K mg base CX0 1 f fd ["self"] (spXI0 C "Empty") := by
  refine fn_hs F sc_iEmpty (fun vs H Q E h => ?_) (fun cdv A outer sh H vs Q E hr h => ?_)
  · obtain ⟨a, rfl, _⟩ := h
    rfl
  · obtain ⟨a, rfl, ha, q⟩ := h
    refine hs_cons (ps_osG (pv 0) pe_str) ⟨_, rfl, a, C, rfl, T, n2, .inl ⟨ha, fun dx h1 h2 => ?_⟩⟩
    exact hs_nil (q dx h1 h2)
theorem sc_iNothingLeft : FnScope ["self"] ["self"] (defScope sNothingLeft____init__) := ⟨rfl, rfl, rfl, by decide +kernel, rfl, by decide +kernel, by decide +kernel⟩
theorem ok_init_NothingLeft {C : Addr} (F : FunD K "__init__" "NothingLeft.__init__" (defArgs sNothingLeft____init__) (defBody sNothingLeft____init__) (defScope sNothingLeft____init__) [] [] f fd) (T : OexG K C) (n2 : PySem.W.findIn K (.ref C) "code" = some none) : FnOk P w K mg base CX0 1 f fd ["self"] (spXI0 C "NothingLeft") := by
  refine fn_hs F sc_iNothingLeft (fun vs H Q E h => ?_) (fun cdv A outer sh H vs Q E hr h => ?_)
  · obtain ⟨a, rfl, _⟩ := h
    rfl
  · obtain ⟨a, rfl, ha, q⟩ := h
    refine hs_cons (ps_osG (pv 0) pe_str) ⟨_, rfl, a, C, rfl, T, n2, .inl ⟨ha, fun dx h1 h2 => ?_⟩⟩
    exact hs_nil (q dx h1 h2)
theorem kbindsN {K : PySem.W.Frag} {x qual : Str} {params : Arguments} {body : List Stmt} {scope : Scope} {f : Addr} {fd : FuncData} {ps ks : List Str} (F : FunD K x qual params body scope [] [] f fd) (n : Nat)
    (h : ∀ (kV doc pm : Value) (an : Option Addr) (cdv ct : Value) (us ws : List Value), us.length = n → ws.length = ks.length → bindArgs (PySem.W.fnOf x qual params body scope .none kV doc pm an cdv ct) ⟨us, ks.zip ws⟩ = pure (ps.zip (us ++ ws))) : KBn K fd ps n ks (fun us ws => us ++ ws) (fun vs zs => vs ++ zs) := by
  obtain ⟨oc, od, dV, kV, doc, pm, an, cdv, ct, osl, rfl, lk, hcd, hD, hK⟩ := F.ex
  rcases hD with ⟨_, rfl⟩ | ⟨e, _⟩
  · exact ⟨fun s us ws _ l1 l2 => .of_eq (h kV doc pm an cdv ct us ws l1 l2), fun r1 r2 => r1.append r2⟩
  · exact absurd rfl e
theorem facts {P : Program} {w : World} {K : PySem.W.Frag} {h : Heap} {mg : Str → Option Value} {f : Addr} (X : K.In h) (G : h.Ns mainGlobals mg) (hfa : mg ("law" : Str) = some (.ref f)) (c0 : SaysG fa fn pn sn tf ex h K) :
    ∃ fd : FuncData, (∀ (s : Shared) (v : Value), BindsTo s fd ⟨[v], []⟩ [("_law_script", v)]) ∧ ∀ base : Heap, K.In base → base.Ns mainGlobals mg → FnOk P w K mg base CX0 9 f fd ["_law_script"] (spLaw K) := by
  have d := c0.d
  have more := c0.more
  unfold ex at more
  rw [Bool.and_eq_true] at more
  obtain ⟨x_er1, more⟩ := more
  rw [Bool.and_eq_true] at more
  obtain ⟨x_er0, more⟩ := more
  rw [Bool.and_eq_true] at more
  obtain ⟨x_kit, more⟩ := more
  rw [Bool.and_eq_true] at more
  obtain ⟨x_sup, more⟩ := more
  rw [Bool.and_eq_true] at more
  obtain ⟨x_sp, more⟩ := more
  have x_tk := more
  have x_sp := He.eqO_ok x_sp
  have x_tk := of_decide_eq_true x_tk
  have h_isinstance : mg "isinstance" = none := He.free_ok X G (d.fact 46 (f := .free "isinstance") rfl)
  have h_bool : mg "bool" = none := He.free_ok X G (d.fact 47 (f := .free "bool") rfl)
  have h_int : mg "int" = none := He.free_ok X G (d.fact 48 (f := .free "int") rfl)
  have h_str : mg "str" = none := He.free_ok X G (d.fact 49 (f := .free "str") rfl)
  have h_list : mg "list" = none := He.free_ok X G (d.fact 50 (f := .free "list") rfl)
  have h_tuple : mg "tuple" = none := He.free_ok X G (d.fact 51 (f := .free "tuple") rfl)
  have h_len : mg "len" = none := He.free_ok X G (d.fact 52 (f := .free "len") rfl)
  have h_all : mg "all" = none := He.free_ok X G (d.fact 53 (f := .free "all") rfl)
  have h_zip : mg "zip" = none := He.free_ok X G (d.fact 54 (f := .free "zip") rfl)
  have h_range : mg "range" = none := He.free_ok X G (d.fact 55 (f := .free "range") rfl)
  have h_ValueError : mg "ValueError" = none := He.free_ok X G (d.fact 56 (f := .free "ValueError") rfl)
  have h_IndexError : mg "IndexError" = none := He.free_ok X G (d.fact 57 (f := .free "IndexError") rfl)
  have h_LookupError : mg "LookupError" = none := He.free_ok X G (d.fact 58 (f := .free "LookupError") rfl)
  obtain ⟨fd_law, F_law⟩ := d.def_ 43 (d := dlaw) rfl
  have e := hfa.symm.trans (He.glo_ok X G (d.fact 11 (f := .glo "law") rfl))
  cases e
  have b := FunD.bindsA (ps := ["_law_script"]) F_law fun _ _ _ _ _ _ us hl => match us, hl with | [_], _ => rfl
  refine ⟨fd_law, fun s v => b s [v] rfl, fun base _ _ => ?_⟩
  obtain ⟨fd_L_open, F_L_open⟩ := d.def_ 32 (d := dL_open) rfl
  have D_L_open : KD P w K mg base "_law_open" 1 (spOpen K) := kd_mk F_L_open (ok_L_open F_L_open h_list h_len) (He.glo_ok X G (d.fact 0 (f := .glo "_law_open") rfl)) (F_L_open.bindsN (fun _ _ _ _ _ _ us hl => match us, hl with | [_], _ => rfl))
  obtain ⟨fd_L_take, F_L_take⟩ := d.def_ 33 (d := dL_take) rfl
  have D_L_take : KD P w K mg base "_law_take" 1 (spB K Ftake) := kd_mk F_L_take (ok_L_take F_L_take h_len h_int) (He.glo_ok X G (d.fact 1 (f := .glo "_law_take") rfl)) (F_L_take.bindsN (fun _ _ _ _ _ _ us hl => match us, hl with | [_, _], _ => rfl))
  obtain ⟨fd_L_one, F_L_one⟩ := d.def_ 34 (d := dL_one) rfl
  have D_L_one : KD P w K mg base "_law_one" 2 (spB K Fone) := kd_mk F_L_one (ok_L_one F_L_one D_L_take h_len) (He.glo_ok X G (d.fact 2 (f := .glo "_law_one") rfl)) (F_L_one.bindsN (fun _ _ _ _ _ _ us hl => match us, hl with | [_, _], _ => rfl))
  obtain ⟨fd_L_kind, F_L_kind⟩ := d.def_ 35 (d := dL_kind) rfl
  have D_L_kind : KD P w K mg base "_law_kind" 1 (spD K Fkind) := kd_mk F_L_kind (ok_L_kind F_L_kind h_isinstance h_bool h_int h_str h_list h_tuple) (He.glo_ok X G (d.fact 3 (f := .glo "_law_kind") rfl)) (F_L_kind.bindsN (fun _ _ _ _ _ _ us hl => match us, hl with | [_], _ => rfl))
  obtain ⟨fd_L_same, F_L_same⟩ := d.def_ 36 (d := dL_same) rfl
  have b_same := F_L_same.bindsN (ps := ["_law_found", "_law_due"]) (fun _ _ _ _ _ _ us hl => match us, hl with | [_, _], _ => rfl)
  have g_same := He.glo_ok X G (d.fact 4 (f := .glo "_law_same") rfl)
  have D_L_same : ∀ n, KD P w K mg base "_law_same" (n + 2) (spD K (Fsame n)) := fun n => kd_mk F_L_same (ok_L_same F_L_same g_same b_same D_L_kind h_len h_all h_zip n) g_same b_same
  obtain ⟨fd_L_odd, F_L_odd⟩ := d.def_ 38 (d := dL_odd) rfl
  have D_L_odd : KD P w K mg base "_law_odd" 3 (spB K Fodd) := kd_mk F_L_odd (ok_L_odd F_L_odd D_L_one) (He.glo_ok X G (d.fact 6 (f := .glo "_law_odd") rfl)) (F_L_odd.bindsN (fun _ _ _ _ _ _ us hl => match us, hl with | [_, _], _ => rfl))
  have hbase : ∀ i, ∃ B initId, ExcBaseFacts B (bsN i) initId (bsM i) ∧ StoreFacts B (bsM i) "object.__setattr__" "object" := fun i => by
    unfold bsN bsM
    by_cases h1 : i = 25
    · rw [if_pos h1, if_pos h1]; exact ⟨_, _, PySem.F.excBase_LookupError, PySem.F.store_LookupError⟩
    · rw [if_neg h1, if_neg h1]
      by_cases h2 : i = 31
      · rw [if_pos h2, if_pos h2]; exact ⟨_, _, PySem.F.excBase_IndexError, PySem.F.store_IndexError⟩
      · rw [if_neg h2, if_neg h2]; exact ⟨_, _, PySem.F.excBase_ValueError, PySem.F.store_ValueError⟩
  have r1 : ∀ i, i < 26 → OexG K (cA K i) ∧ errGB K (cA K i) (fI K i) (an i) = true := fun i hi => by
    have h := List.all_eq_true.mp x_er1 i (List.mem_range.mpr hi)
    rw [Bool.and_eq_true] at h
    obtain ⟨B, initId, FB, SB⟩ := hbase i
    exact ⟨oexGB_ok FB SB h.1, h.2⟩
  have r0 : ∀ j, j < 6 → OexG K (cA K (26 + j)) ∧ errGB0 K (cA K (26 + j)) (fI K (26 + j)) = true := fun j hj => by
    have h := List.all_eq_true.mp x_er0 j (List.mem_range.mpr hj)
    rw [Bool.and_eq_true] at h
    obtain ⟨B, initId, FB, SB⟩ := hbase (26 + j)
    exact ⟨oexGB_ok FB SB h.1, h.2⟩
  have hT : ∀ i, i < 32 → OexG K (cA K i) := fun i hi => by
    by_cases h : i < 26
    · exact (r1 i h).1
    · obtain ⟨j, rfl⟩ : ∃ j, i = 26 + j := ⟨i - 26, by omega⟩
      exact (r0 j (by omega)).1
  have hnc : ∀ i, i < 32 → PySem.W.findIn K (.ref (cA K i)) "code" = some none := fun i hi => by
    by_cases h : i < 26
    · exact (errGB_ok (r1 i h).2).2.1
    · obtain ⟨j, rfl⟩ : ∃ j, i = 26 + j := ⟨i - 26, by omega⟩
      exact (errGB0_ok (r0 j (by omega)).2).1
  have hkit : ∀ i j, i < 32 → j < 32 → PySem.W.kitOne K (.ref (cA K i)) (.ref (cA K j)) = some (decide (i = j)) := fun i j hi hj => by
    have h := List.all_eq_true.mp x_kit i (List.mem_range.mpr hi)
    exact of_decide_eq_true (List.all_eq_true.mp h j (List.mem_range.mpr hj))
  have hsup : ∀ i, i < 32 → [PySem.W.kitOne K (.ref (cA K i)) (.ref (He.ga K "DealError")), PySem.W.kitOne K (.ref (cA K i)) (.type "ValueError"), PySem.W.kitOne K (.ref (cA K i)) (.ref (He.ga K "Missing")), PySem.W.kitOne K (.ref (cA K i)) (.type "IndexError"), PySem.W.kitOne K (.ref (cA K i)) (.type "LookupError")] = (supB i).map some := fun i hi => of_decide_eq_true (List.all_eq_true.mp x_sup i (List.mem_range.mpr hi))
  have gl_0 : mg (cn 0) = some (.ref (cA K 0)) := He.glo_ok X G (d.fact 14 (f := .glo "InvalidNumber") rfl)
  have gl_1 : mg (cn 1) = some (.ref (cA K 1)) := He.glo_ok X G (d.fact 15 (f := .glo "InvalidSystem") rfl)
  have gl_2 : mg (cn 2) = some (.ref (cA K 2)) := He.glo_ok X G (d.fact 16 (f := .glo "InvalidColumns") rfl)
  have gl_3 : mg (cn 3) = some (.ref (cA K 3)) := He.glo_ok X G (d.fact 17 (f := .glo "InvalidFact") rfl)
  have gl_4 : mg (cn 4) = some (.ref (cA K 4)) := He.glo_ok X G (d.fact 18 (f := .glo "InvalidExponent") rfl)
  have gl_5 : mg (cn 5) = some (.ref (cA K 5)) := He.glo_ok X G (d.fact 19 (f := .glo "InvalidFactor") rfl)
  have gl_6 : mg (cn 6) = some (.ref (cA K 6)) := He.glo_ok X G (d.fact 20 (f := .glo "InvalidGroup") rfl)
  have gl_7 : mg (cn 7) = some (.ref (cA K 7)) := He.glo_ok X G (d.fact 21 (f := .glo "InvalidClaim") rfl)
  have gl_8 : mg (cn 8) = some (.ref (cA K 8)) := He.glo_ok X G (d.fact 22 (f := .glo "InvalidSums") rfl)
  have gl_9 : mg (cn 9) = some (.ref (cA K 9)) := He.glo_ok X G (d.fact 23 (f := .glo "InvalidRow") rfl)
  have gl_10 : mg (cn 10) = some (.ref (cA K 10)) := He.glo_ok X G (d.fact 24 (f := .glo "InvalidDeed") rfl)
  have gl_11 : mg (cn 11) = some (.ref (cA K 11)) := He.glo_ok X G (d.fact 25 (f := .glo "InvalidName") rfl)
  have gl_12 : mg (cn 12) = some (.ref (cA K 12)) := He.glo_ok X G (d.fact 26 (f := .glo "InvalidCommand") rfl)
  have gl_13 : mg (cn 13) = some (.ref (cA K 13)) := He.glo_ok X G (d.fact 27 (f := .glo "InvalidLimit") rfl)
  have gl_14 : mg (cn 14) = some (.ref (cA K 14)) := He.glo_ok X G (d.fact 28 (f := .glo "InvalidPage") rfl)
  have gl_15 : mg (cn 15) = some (.ref (cA K 15)) := He.glo_ok X G (d.fact 29 (f := .glo "WrongWidth") rfl)
  have gl_16 : mg (cn 16) = some (.ref (cA K 16)) := He.glo_ok X G (d.fact 30 (f := .glo "WrongSchema") rfl)
  have gl_17 : mg (cn 17) = some (.ref (cA K 17)) := He.glo_ok X G (d.fact 31 (f := .glo "WrongKind") rfl)
  have gl_18 : mg (cn 18) = some (.ref (cA K 18)) := He.glo_ok X G (d.fact 32 (f := .glo "TooMany") rfl)
  have gl_19 : mg (cn 19) = some (.ref (cA K 19)) := He.glo_ok X G (d.fact 33 (f := .glo "TooHigh") rfl)
  have gl_20 : mg (cn 20) = some (.ref (cA K 20)) := He.glo_ok X G (d.fact 34 (f := .glo "EqualSums") rfl)
  have gl_21 : mg (cn 21) = some (.ref (cA K 21)) := He.glo_ok X G (d.fact 35 (f := .glo "Tight") rfl)
  have gl_22 : mg (cn 22) = some (.ref (cA K 22)) := He.glo_ok X G (d.fact 36 (f := .glo "BrokenClaim") rfl)
  have gl_23 : mg (cn 23) = some (.ref (cA K 23)) := He.glo_ok X G (d.fact 37 (f := .glo "DuplicateName") rfl)
  have gl_24 : mg (cn 24) = some (.ref (cA K 24)) := He.glo_ok X G (d.fact 38 (f := .glo "Full") rfl)
  have gl_25 : mg (cn 25) = some (.ref (cA K 25)) := He.glo_ok X G (d.fact 39 (f := .glo "UnknownName") rfl)
  have gl_26 : mg (cn 26) = some (.ref (cA K 26)) := He.glo_ok X G (d.fact 40 (f := .glo "InvalidText") rfl)
  have gl_27 : mg (cn 27) = some (.ref (cA K 27)) := He.glo_ok X G (d.fact 41 (f := .glo "Boundless") rfl)
  have gl_28 : mg (cn 28) = some (.ref (cA K 28)) := He.glo_ok X G (d.fact 42 (f := .glo "NoTable") rfl)
  have gl_29 : mg (cn 29) = some (.ref (cA K 29)) := He.glo_ok X G (d.fact 43 (f := .glo "NotThere") rfl)
  have gl_30 : mg (cn 30) = some (.ref (cA K 30)) := He.glo_ok X G (d.fact 44 (f := .glo "Empty") rfl)
  have gl_31 : mg (cn 31) = some (.ref (cA K 31)) := He.glo_ok X G (d.fact 45 (f := .glo "NothingLeft") rfl)
  have hgl : ∀ i, i < 32 → mg (cn i) = some (.ref (cA K i)) := fun i hi => match i, hi with
    | 0, _ => gl_0
    | 1, _ => gl_1
    | 2, _ => gl_2
    | 3, _ => gl_3
    | 4, _ => gl_4
    | 5, _ => gl_5
    | 6, _ => gl_6
    | 7, _ => gl_7
    | 8, _ => gl_8
    | 9, _ => gl_9
    | 10, _ => gl_10
    | 11, _ => gl_11
    | 12, _ => gl_12
    | 13, _ => gl_13
    | 14, _ => gl_14
    | 15, _ => gl_15
    | 16, _ => gl_16
    | 17, _ => gl_17
    | 18, _ => gl_18
    | 19, _ => gl_19
    | 20, _ => gl_20
    | 21, _ => gl_21
    | 22, _ => gl_22
    | 23, _ => gl_23
    | 24, _ => gl_24
    | 25, _ => gl_25
    | 26, _ => gl_26
    | 27, _ => gl_27
    | 28, _ => gl_28
    | 29, _ => gl_29
    | 30, _ => gl_30
    | 31, _ => gl_31
    | n + 32, h => absurd h (by omega)
  obtain ⟨fd_iInvalidNumber, F_iInvalidNumber⟩ := d.def_ 0 (d := dInvalidNumber____init__) rfl
  have e_0 : ErrG P w K mg base (cn 0) (an 0) (ek K 0) := by
    obtain ⟨a1, a2, a3, a4⟩ := errGB_ok (r1 0 (by decide)).2
    exact ⟨(r1 0 (by decide)).1, ek_fn (by decide), by decide +kernel, gl_0, a1, a2, ⟨_, _, _, a3, a4, ok_init_InvalidNumber F_iInvalidNumber (r1 0 (by decide)).1 a1 a2, F_iInvalidNumber.bindsN (fun _ _ _ _ _ _ us hl => match us, hl with | [_, _], _ => rfl), kbindsN F_iInvalidNumber 1 fun _ _ _ _ _ _ us ws l1 l2 => match us, l1, ws, l2 with | [_], _, [_], _ => rfl⟩⟩
  obtain ⟨fd_iInvalidSystem, F_iInvalidSystem⟩ := d.def_ 1 (d := dInvalidSystem____init__) rfl
  have e_1 : ErrG P w K mg base (cn 1) (an 1) (ek K 1) := by
    obtain ⟨a1, a2, a3, a4⟩ := errGB_ok (r1 1 (by decide)).2
    exact ⟨(r1 1 (by decide)).1, ek_fn (by decide), by decide +kernel, gl_1, a1, a2, ⟨_, _, _, a3, a4, ok_init_InvalidSystem F_iInvalidSystem (r1 1 (by decide)).1 a1 a2, F_iInvalidSystem.bindsN (fun _ _ _ _ _ _ us hl => match us, hl with | [_, _], _ => rfl), kbindsN F_iInvalidSystem 1 fun _ _ _ _ _ _ us ws l1 l2 => match us, l1, ws, l2 with | [_], _, [_], _ => rfl⟩⟩
  obtain ⟨fd_iInvalidColumns, F_iInvalidColumns⟩ := d.def_ 2 (d := dInvalidColumns____init__) rfl
  have e_2 : ErrG P w K mg base (cn 2) (an 2) (ek K 2) := by
    obtain ⟨a1, a2, a3, a4⟩ := errGB_ok (r1 2 (by decide)).2
    exact ⟨(r1 2 (by decide)).1, ek_fn (by decide), by decide +kernel, gl_2, a1, a2, ⟨_, _, _, a3, a4, ok_init_InvalidColumns F_iInvalidColumns (r1 2 (by decide)).1 a1 a2, F_iInvalidColumns.bindsN (fun _ _ _ _ _ _ us hl => match us, hl with | [_, _], _ => rfl), kbindsN F_iInvalidColumns 1 fun _ _ _ _ _ _ us ws l1 l2 => match us, l1, ws, l2 with | [_], _, [_], _ => rfl⟩⟩
  obtain ⟨fd_iInvalidFact, F_iInvalidFact⟩ := d.def_ 3 (d := dInvalidFact____init__) rfl
  have e_3 : ErrG P w K mg base (cn 3) (an 3) (ek K 3) := by
    obtain ⟨a1, a2, a3, a4⟩ := errGB_ok (r1 3 (by decide)).2
    exact ⟨(r1 3 (by decide)).1, ek_fn (by decide), by decide +kernel, gl_3, a1, a2, ⟨_, _, _, a3, a4, ok_init_InvalidFact F_iInvalidFact (r1 3 (by decide)).1 a1 a2, F_iInvalidFact.bindsN (fun _ _ _ _ _ _ us hl => match us, hl with | [_, _], _ => rfl), kbindsN F_iInvalidFact 1 fun _ _ _ _ _ _ us ws l1 l2 => match us, l1, ws, l2 with | [_], _, [_], _ => rfl⟩⟩
  obtain ⟨fd_iInvalidExponent, F_iInvalidExponent⟩ := d.def_ 4 (d := dInvalidExponent____init__) rfl
  have e_4 : ErrG P w K mg base (cn 4) (an 4) (ek K 4) := by
    obtain ⟨a1, a2, a3, a4⟩ := errGB_ok (r1 4 (by decide)).2
    exact ⟨(r1 4 (by decide)).1, ek_fn (by decide), by decide +kernel, gl_4, a1, a2, ⟨_, _, _, a3, a4, ok_init_InvalidExponent F_iInvalidExponent (r1 4 (by decide)).1 a1 a2, F_iInvalidExponent.bindsN (fun _ _ _ _ _ _ us hl => match us, hl with | [_, _], _ => rfl), kbindsN F_iInvalidExponent 1 fun _ _ _ _ _ _ us ws l1 l2 => match us, l1, ws, l2 with | [_], _, [_], _ => rfl⟩⟩
  obtain ⟨fd_iInvalidFactor, F_iInvalidFactor⟩ := d.def_ 5 (d := dInvalidFactor____init__) rfl
  have e_5 : ErrG P w K mg base (cn 5) (an 5) (ek K 5) := by
    obtain ⟨a1, a2, a3, a4⟩ := errGB_ok (r1 5 (by decide)).2
    exact ⟨(r1 5 (by decide)).1, ek_fn (by decide), by decide +kernel, gl_5, a1, a2, ⟨_, _, _, a3, a4, ok_init_InvalidFactor F_iInvalidFactor (r1 5 (by decide)).1 a1 a2, F_iInvalidFactor.bindsN (fun _ _ _ _ _ _ us hl => match us, hl with | [_, _], _ => rfl), kbindsN F_iInvalidFactor 1 fun _ _ _ _ _ _ us ws l1 l2 => match us, l1, ws, l2 with | [_], _, [_], _ => rfl⟩⟩
  obtain ⟨fd_iInvalidGroup, F_iInvalidGroup⟩ := d.def_ 6 (d := dInvalidGroup____init__) rfl
  have e_6 : ErrG P w K mg base (cn 6) (an 6) (ek K 6) := by
    obtain ⟨a1, a2, a3, a4⟩ := errGB_ok (r1 6 (by decide)).2
    exact ⟨(r1 6 (by decide)).1, ek_fn (by decide), by decide +kernel, gl_6, a1, a2, ⟨_, _, _, a3, a4, ok_init_InvalidGroup F_iInvalidGroup (r1 6 (by decide)).1 a1 a2, F_iInvalidGroup.bindsN (fun _ _ _ _ _ _ us hl => match us, hl with | [_, _], _ => rfl), kbindsN F_iInvalidGroup 1 fun _ _ _ _ _ _ us ws l1 l2 => match us, l1, ws, l2 with | [_], _, [_], _ => rfl⟩⟩
  obtain ⟨fd_iInvalidClaim, F_iInvalidClaim⟩ := d.def_ 7 (d := dInvalidClaim____init__) rfl
  have e_7 : ErrG P w K mg base (cn 7) (an 7) (ek K 7) := by
    obtain ⟨a1, a2, a3, a4⟩ := errGB_ok (r1 7 (by decide)).2
    exact ⟨(r1 7 (by decide)).1, ek_fn (by decide), by decide +kernel, gl_7, a1, a2, ⟨_, _, _, a3, a4, ok_init_InvalidClaim F_iInvalidClaim (r1 7 (by decide)).1 a1 a2, F_iInvalidClaim.bindsN (fun _ _ _ _ _ _ us hl => match us, hl with | [_, _], _ => rfl), kbindsN F_iInvalidClaim 1 fun _ _ _ _ _ _ us ws l1 l2 => match us, l1, ws, l2 with | [_], _, [_], _ => rfl⟩⟩
  obtain ⟨fd_iInvalidSums, F_iInvalidSums⟩ := d.def_ 8 (d := dInvalidSums____init__) rfl
  have e_8 : ErrG P w K mg base (cn 8) (an 8) (ek K 8) := by
    obtain ⟨a1, a2, a3, a4⟩ := errGB_ok (r1 8 (by decide)).2
    exact ⟨(r1 8 (by decide)).1, ek_fn (by decide), by decide +kernel, gl_8, a1, a2, ⟨_, _, _, a3, a4, ok_init_InvalidSums F_iInvalidSums (r1 8 (by decide)).1 a1 a2, F_iInvalidSums.bindsN (fun _ _ _ _ _ _ us hl => match us, hl with | [_, _], _ => rfl), kbindsN F_iInvalidSums 1 fun _ _ _ _ _ _ us ws l1 l2 => match us, l1, ws, l2 with | [_], _, [_], _ => rfl⟩⟩
  obtain ⟨fd_iInvalidRow, F_iInvalidRow⟩ := d.def_ 9 (d := dInvalidRow____init__) rfl
  have e_9 : ErrG P w K mg base (cn 9) (an 9) (ek K 9) := by
    obtain ⟨a1, a2, a3, a4⟩ := errGB_ok (r1 9 (by decide)).2
    exact ⟨(r1 9 (by decide)).1, ek_fn (by decide), by decide +kernel, gl_9, a1, a2, ⟨_, _, _, a3, a4, ok_init_InvalidRow F_iInvalidRow (r1 9 (by decide)).1 a1 a2, F_iInvalidRow.bindsN (fun _ _ _ _ _ _ us hl => match us, hl with | [_, _], _ => rfl), kbindsN F_iInvalidRow 1 fun _ _ _ _ _ _ us ws l1 l2 => match us, l1, ws, l2 with | [_], _, [_], _ => rfl⟩⟩
  obtain ⟨fd_iInvalidDeed, F_iInvalidDeed⟩ := d.def_ 10 (d := dInvalidDeed____init__) rfl
  have e_10 : ErrG P w K mg base (cn 10) (an 10) (ek K 10) := by
    obtain ⟨a1, a2, a3, a4⟩ := errGB_ok (r1 10 (by decide)).2
    exact ⟨(r1 10 (by decide)).1, ek_fn (by decide), by decide +kernel, gl_10, a1, a2, ⟨_, _, _, a3, a4, ok_init_InvalidDeed F_iInvalidDeed (r1 10 (by decide)).1 a1 a2, F_iInvalidDeed.bindsN (fun _ _ _ _ _ _ us hl => match us, hl with | [_, _], _ => rfl), kbindsN F_iInvalidDeed 1 fun _ _ _ _ _ _ us ws l1 l2 => match us, l1, ws, l2 with | [_], _, [_], _ => rfl⟩⟩
  obtain ⟨fd_iInvalidName, F_iInvalidName⟩ := d.def_ 11 (d := dInvalidName____init__) rfl
  have e_11 : ErrG P w K mg base (cn 11) (an 11) (ek K 11) := by
    obtain ⟨a1, a2, a3, a4⟩ := errGB_ok (r1 11 (by decide)).2
    exact ⟨(r1 11 (by decide)).1, ek_fn (by decide), by decide +kernel, gl_11, a1, a2, ⟨_, _, _, a3, a4, ok_init_InvalidName F_iInvalidName (r1 11 (by decide)).1 a1 a2, F_iInvalidName.bindsN (fun _ _ _ _ _ _ us hl => match us, hl with | [_, _], _ => rfl), kbindsN F_iInvalidName 1 fun _ _ _ _ _ _ us ws l1 l2 => match us, l1, ws, l2 with | [_], _, [_], _ => rfl⟩⟩
  obtain ⟨fd_iInvalidCommand, F_iInvalidCommand⟩ := d.def_ 13 (d := dInvalidCommand____init__) rfl
  have e_12 : ErrG P w K mg base (cn 12) (an 12) (ek K 12) := by
    obtain ⟨a1, a2, a3, a4⟩ := errGB_ok (r1 12 (by decide)).2
    exact ⟨(r1 12 (by decide)).1, ek_fn (by decide), by decide +kernel, gl_12, a1, a2, ⟨_, _, _, a3, a4, ok_init_InvalidCommand F_iInvalidCommand (r1 12 (by decide)).1 a1 a2, F_iInvalidCommand.bindsN (fun _ _ _ _ _ _ us hl => match us, hl with | [_, _], _ => rfl), kbindsN F_iInvalidCommand 1 fun _ _ _ _ _ _ us ws l1 l2 => match us, l1, ws, l2 with | [_], _, [_], _ => rfl⟩⟩
  obtain ⟨fd_iInvalidLimit, F_iInvalidLimit⟩ := d.def_ 14 (d := dInvalidLimit____init__) rfl
  have e_13 : ErrG P w K mg base (cn 13) (an 13) (ek K 13) := by
    obtain ⟨a1, a2, a3, a4⟩ := errGB_ok (r1 13 (by decide)).2
    exact ⟨(r1 13 (by decide)).1, ek_fn (by decide), by decide +kernel, gl_13, a1, a2, ⟨_, _, _, a3, a4, ok_init_InvalidLimit F_iInvalidLimit (r1 13 (by decide)).1 a1 a2, F_iInvalidLimit.bindsN (fun _ _ _ _ _ _ us hl => match us, hl with | [_, _], _ => rfl), kbindsN F_iInvalidLimit 1 fun _ _ _ _ _ _ us ws l1 l2 => match us, l1, ws, l2 with | [_], _, [_], _ => rfl⟩⟩
  obtain ⟨fd_iInvalidPage, F_iInvalidPage⟩ := d.def_ 15 (d := dInvalidPage____init__) rfl
  have e_14 : ErrG P w K mg base (cn 14) (an 14) (ek K 14) := by
    obtain ⟨a1, a2, a3, a4⟩ := errGB_ok (r1 14 (by decide)).2
    exact ⟨(r1 14 (by decide)).1, ek_fn (by decide), by decide +kernel, gl_14, a1, a2, ⟨_, _, _, a3, a4, ok_init_InvalidPage F_iInvalidPage (r1 14 (by decide)).1 a1 a2, F_iInvalidPage.bindsN (fun _ _ _ _ _ _ us hl => match us, hl with | [_, _], _ => rfl), kbindsN F_iInvalidPage 1 fun _ _ _ _ _ _ us ws l1 l2 => match us, l1, ws, l2 with | [_], _, [_], _ => rfl⟩⟩
  obtain ⟨fd_iWrongWidth, F_iWrongWidth⟩ := d.def_ 16 (d := dWrongWidth____init__) rfl
  have e_15 : ErrG P w K mg base (cn 15) (an 15) (ek K 15) := by
    obtain ⟨a1, a2, a3, a4⟩ := errGB_ok (r1 15 (by decide)).2
    exact ⟨(r1 15 (by decide)).1, ek_fn (by decide), by decide +kernel, gl_15, a1, a2, ⟨_, _, _, a3, a4, ok_init_WrongWidth F_iWrongWidth (r1 15 (by decide)).1 a1 a2, F_iWrongWidth.bindsN (fun _ _ _ _ _ _ us hl => match us, hl with | [_, _], _ => rfl), kbindsN F_iWrongWidth 1 fun _ _ _ _ _ _ us ws l1 l2 => match us, l1, ws, l2 with | [_], _, [_], _ => rfl⟩⟩
  obtain ⟨fd_iWrongSchema, F_iWrongSchema⟩ := d.def_ 17 (d := dWrongSchema____init__) rfl
  have e_16 : ErrG P w K mg base (cn 16) (an 16) (ek K 16) := by
    obtain ⟨a1, a2, a3, a4⟩ := errGB_ok (r1 16 (by decide)).2
    exact ⟨(r1 16 (by decide)).1, ek_fn (by decide), by decide +kernel, gl_16, a1, a2, ⟨_, _, _, a3, a4, ok_init_WrongSchema F_iWrongSchema (r1 16 (by decide)).1 a1 a2, F_iWrongSchema.bindsN (fun _ _ _ _ _ _ us hl => match us, hl with | [_, _], _ => rfl), kbindsN F_iWrongSchema 1 fun _ _ _ _ _ _ us ws l1 l2 => match us, l1, ws, l2 with | [_], _, [_], _ => rfl⟩⟩
  obtain ⟨fd_iWrongKind, F_iWrongKind⟩ := d.def_ 18 (d := dWrongKind____init__) rfl
  have e_17 : ErrG P w K mg base (cn 17) (an 17) (ek K 17) := by
    obtain ⟨a1, a2, a3, a4⟩ := errGB_ok (r1 17 (by decide)).2
    exact ⟨(r1 17 (by decide)).1, ek_fn (by decide), by decide +kernel, gl_17, a1, a2, ⟨_, _, _, a3, a4, ok_init_WrongKind F_iWrongKind (r1 17 (by decide)).1 a1 a2, F_iWrongKind.bindsN (fun _ _ _ _ _ _ us hl => match us, hl with | [_, _], _ => rfl), kbindsN F_iWrongKind 1 fun _ _ _ _ _ _ us ws l1 l2 => match us, l1, ws, l2 with | [_], _, [_], _ => rfl⟩⟩
  obtain ⟨fd_iTooMany, F_iTooMany⟩ := d.def_ 19 (d := dTooMany____init__) rfl
  have e_18 : ErrG P w K mg base (cn 18) (an 18) (ek K 18) := by
    obtain ⟨a1, a2, a3, a4⟩ := errGB_ok (r1 18 (by decide)).2
    exact ⟨(r1 18 (by decide)).1, ek_fn (by decide), by decide +kernel, gl_18, a1, a2, ⟨_, _, _, a3, a4, ok_init_TooMany F_iTooMany (r1 18 (by decide)).1 a1 a2, F_iTooMany.bindsN (fun _ _ _ _ _ _ us hl => match us, hl with | [_, _], _ => rfl), kbindsN F_iTooMany 1 fun _ _ _ _ _ _ us ws l1 l2 => match us, l1, ws, l2 with | [_], _, [_], _ => rfl⟩⟩
  obtain ⟨fd_iTooHigh, F_iTooHigh⟩ := d.def_ 20 (d := dTooHigh____init__) rfl
  have e_19 : ErrG P w K mg base (cn 19) (an 19) (ek K 19) := by
    obtain ⟨a1, a2, a3, a4⟩ := errGB_ok (r1 19 (by decide)).2
    exact ⟨(r1 19 (by decide)).1, ek_fn (by decide), by decide +kernel, gl_19, a1, a2, ⟨_, _, _, a3, a4, ok_init_TooHigh F_iTooHigh (r1 19 (by decide)).1 a1 a2, F_iTooHigh.bindsN (fun _ _ _ _ _ _ us hl => match us, hl with | [_, _], _ => rfl), kbindsN F_iTooHigh 1 fun _ _ _ _ _ _ us ws l1 l2 => match us, l1, ws, l2 with | [_], _, [_], _ => rfl⟩⟩
  obtain ⟨fd_iEqualSums, F_iEqualSums⟩ := d.def_ 21 (d := dEqualSums____init__) rfl
  have e_20 : ErrG P w K mg base (cn 20) (an 20) (ek K 20) := by
    obtain ⟨a1, a2, a3, a4⟩ := errGB_ok (r1 20 (by decide)).2
    exact ⟨(r1 20 (by decide)).1, ek_fn (by decide), by decide +kernel, gl_20, a1, a2, ⟨_, _, _, a3, a4, ok_init_EqualSums F_iEqualSums (r1 20 (by decide)).1 a1 a2, F_iEqualSums.bindsN (fun _ _ _ _ _ _ us hl => match us, hl with | [_, _], _ => rfl), kbindsN F_iEqualSums 1 fun _ _ _ _ _ _ us ws l1 l2 => match us, l1, ws, l2 with | [_], _, [_], _ => rfl⟩⟩
  obtain ⟨fd_iTight, F_iTight⟩ := d.def_ 22 (d := dTight____init__) rfl
  have e_21 : ErrG P w K mg base (cn 21) (an 21) (ek K 21) := by
    obtain ⟨a1, a2, a3, a4⟩ := errGB_ok (r1 21 (by decide)).2
    exact ⟨(r1 21 (by decide)).1, ek_fn (by decide), by decide +kernel, gl_21, a1, a2, ⟨_, _, _, a3, a4, ok_init_Tight F_iTight (r1 21 (by decide)).1 a1 a2, F_iTight.bindsN (fun _ _ _ _ _ _ us hl => match us, hl with | [_, _], _ => rfl), kbindsN F_iTight 1 fun _ _ _ _ _ _ us ws l1 l2 => match us, l1, ws, l2 with | [_], _, [_], _ => rfl⟩⟩
  obtain ⟨fd_iBrokenClaim, F_iBrokenClaim⟩ := d.def_ 26 (d := dBrokenClaim____init__) rfl
  have e_22 : ErrG P w K mg base (cn 22) (an 22) (ek K 22) := by
    obtain ⟨a1, a2, a3, a4⟩ := errGB_ok (r1 22 (by decide)).2
    exact ⟨(r1 22 (by decide)).1, ek_fn (by decide), by decide +kernel, gl_22, a1, a2, ⟨_, _, _, a3, a4, ok_init_BrokenClaim F_iBrokenClaim (r1 22 (by decide)).1 a1 a2, F_iBrokenClaim.bindsN (fun _ _ _ _ _ _ us hl => match us, hl with | [_, _], _ => rfl), kbindsN F_iBrokenClaim 1 fun _ _ _ _ _ _ us ws l1 l2 => match us, l1, ws, l2 with | [_], _, [_], _ => rfl⟩⟩
  obtain ⟨fd_iDuplicateName, F_iDuplicateName⟩ := d.def_ 27 (d := dDuplicateName____init__) rfl
  have e_23 : ErrG P w K mg base (cn 23) (an 23) (ek K 23) := by
    obtain ⟨a1, a2, a3, a4⟩ := errGB_ok (r1 23 (by decide)).2
    exact ⟨(r1 23 (by decide)).1, ek_fn (by decide), by decide +kernel, gl_23, a1, a2, ⟨_, _, _, a3, a4, ok_init_DuplicateName F_iDuplicateName (r1 23 (by decide)).1 a1 a2, F_iDuplicateName.bindsN (fun _ _ _ _ _ _ us hl => match us, hl with | [_, _], _ => rfl), kbindsN F_iDuplicateName 1 fun _ _ _ _ _ _ us ws l1 l2 => match us, l1, ws, l2 with | [_], _, [_], _ => rfl⟩⟩
  obtain ⟨fd_iFull, F_iFull⟩ := d.def_ 28 (d := dFull____init__) rfl
  have e_24 : ErrG P w K mg base (cn 24) (an 24) (ek K 24) := by
    obtain ⟨a1, a2, a3, a4⟩ := errGB_ok (r1 24 (by decide)).2
    exact ⟨(r1 24 (by decide)).1, ek_fn (by decide), by decide +kernel, gl_24, a1, a2, ⟨_, _, _, a3, a4, ok_init_Full F_iFull (r1 24 (by decide)).1 a1 a2, F_iFull.bindsN (fun _ _ _ _ _ _ us hl => match us, hl with | [_, _], _ => rfl), kbindsN F_iFull 1 fun _ _ _ _ _ _ us ws l1 l2 => match us, l1, ws, l2 with | [_], _, [_], _ => rfl⟩⟩
  obtain ⟨fd_iUnknownName, F_iUnknownName⟩ := d.def_ 30 (d := dUnknownName____init__) rfl
  have e_25 : ErrG P w K mg base (cn 25) (an 25) (ek K 25) := by
    obtain ⟨a1, a2, a3, a4⟩ := errGB_ok (r1 25 (by decide)).2
    exact ⟨(r1 25 (by decide)).1, ek_fn (by decide), by decide +kernel, gl_25, a1, a2, ⟨_, _, _, a3, a4, ok_init_UnknownName F_iUnknownName (r1 25 (by decide)).1 a1 a2, F_iUnknownName.bindsN (fun _ _ _ _ _ _ us hl => match us, hl with | [_, _], _ => rfl), kbindsN F_iUnknownName 1 fun _ _ _ _ _ _ us ws l1 l2 => match us, l1, ws, l2 with | [_], _, [_], _ => rfl⟩⟩
  have he1 : ∀ i, i < 26 → ErrG P w K mg base (cn i) (an i) (ek K i) := fun i hi => match i, hi with
    | 0, _ => e_0
    | 1, _ => e_1
    | 2, _ => e_2
    | 3, _ => e_3
    | 4, _ => e_4
    | 5, _ => e_5
    | 6, _ => e_6
    | 7, _ => e_7
    | 8, _ => e_8
    | 9, _ => e_9
    | 10, _ => e_10
    | 11, _ => e_11
    | 12, _ => e_12
    | 13, _ => e_13
    | 14, _ => e_14
    | 15, _ => e_15
    | 16, _ => e_16
    | 17, _ => e_17
    | 18, _ => e_18
    | 19, _ => e_19
    | 20, _ => e_20
    | 21, _ => e_21
    | 22, _ => e_22
    | 23, _ => e_23
    | 24, _ => e_24
    | 25, _ => e_25
    | n + 26, h => absurd h (by omega)
  obtain ⟨fd_iInvalidText, F_iInvalidText⟩ := d.def_ 12 (d := dInvalidText____init__) rfl
  have z_0 : ErrG0 P w K mg base (cn 26) (ek K 26) := by
    obtain ⟨a2, a3, a4⟩ := errGB0_ok (r0 0 (by decide)).2
    exact ⟨(r0 0 (by decide)).1, rfl, gl_26, a2, ⟨_, _, _, a3, a4, ok_init_InvalidText F_iInvalidText (r0 0 (by decide)).1 a2, F_iInvalidText.bindsN (fun _ _ _ _ _ _ us hl => match us, hl with | [_], _ => rfl)⟩⟩
  obtain ⟨fd_iBoundless, F_iBoundless⟩ := d.def_ 23 (d := dBoundless____init__) rfl
  have z_1 : ErrG0 P w K mg base (cn 27) (ek K 27) := by
    obtain ⟨a2, a3, a4⟩ := errGB0_ok (r0 1 (by decide)).2
    exact ⟨(r0 1 (by decide)).1, rfl, gl_27, a2, ⟨_, _, _, a3, a4, ok_init_Boundless F_iBoundless (r0 1 (by decide)).1 a2, F_iBoundless.bindsN (fun _ _ _ _ _ _ us hl => match us, hl with | [_], _ => rfl)⟩⟩
  obtain ⟨fd_iNoTable, F_iNoTable⟩ := d.def_ 24 (d := dNoTable____init__) rfl
  have z_2 : ErrG0 P w K mg base (cn 28) (ek K 28) := by
    obtain ⟨a2, a3, a4⟩ := errGB0_ok (r0 2 (by decide)).2
    exact ⟨(r0 2 (by decide)).1, rfl, gl_28, a2, ⟨_, _, _, a3, a4, ok_init_NoTable F_iNoTable (r0 2 (by decide)).1 a2, F_iNoTable.bindsN (fun _ _ _ _ _ _ us hl => match us, hl with | [_], _ => rfl)⟩⟩
  obtain ⟨fd_iNotThere, F_iNotThere⟩ := d.def_ 25 (d := dNotThere____init__) rfl
  have z_3 : ErrG0 P w K mg base (cn 29) (ek K 29) := by
    obtain ⟨a2, a3, a4⟩ := errGB0_ok (r0 3 (by decide)).2
    exact ⟨(r0 3 (by decide)).1, rfl, gl_29, a2, ⟨_, _, _, a3, a4, ok_init_NotThere F_iNotThere (r0 3 (by decide)).1 a2, F_iNotThere.bindsN (fun _ _ _ _ _ _ us hl => match us, hl with | [_], _ => rfl)⟩⟩
  obtain ⟨fd_iEmpty, F_iEmpty⟩ := d.def_ 29 (d := dEmpty____init__) rfl
  have z_4 : ErrG0 P w K mg base (cn 30) (ek K 30) := by
    obtain ⟨a2, a3, a4⟩ := errGB0_ok (r0 4 (by decide)).2
    exact ⟨(r0 4 (by decide)).1, rfl, gl_30, a2, ⟨_, _, _, a3, a4, ok_init_Empty F_iEmpty (r0 4 (by decide)).1 a2, F_iEmpty.bindsN (fun _ _ _ _ _ _ us hl => match us, hl with | [_], _ => rfl)⟩⟩
  obtain ⟨fd_iNothingLeft, F_iNothingLeft⟩ := d.def_ 31 (d := dNothingLeft____init__) rfl
  have z_5 : ErrG0 P w K mg base (cn 31) (ek K 31) := by
    obtain ⟨a2, a3, a4⟩ := errGB0_ok (r0 5 (by decide)).2
    exact ⟨(r0 5 (by decide)).1, rfl, gl_31, a2, ⟨_, _, _, a3, a4, ok_init_NothingLeft F_iNothingLeft (r0 5 (by decide)).1 a2, F_iNothingLeft.bindsN (fun _ _ _ _ _ _ us hl => match us, hl with | [_], _ => rfl)⟩⟩
  have he0 : ∀ i, 26 ≤ i → i < 32 → ErrG0 P w K mg base (cn i) (ek K i) := fun i h1 hi => match i, h1, hi with
    | 26, _, _ => z_0
    | 27, _, _ => z_1
    | 28, _, _ => z_2
    | 29, _, _ => z_3
    | 30, _, _ => z_4
    | 31, _, _ => z_5
    | n + 32, _, h => absurd h (by omega)
  have gD : mg "DealError" = some (.ref (He.ga K "DealError")) := He.glo_ok X G (d.fact 12 (f := .glo "DealError") rfl)
  have gM : mg "Missing" = some (.ref (He.ga K "Missing")) := He.glo_ok X G (d.fact 13 (f := .glo "Missing") rfl)
  have L0 : LE0 P w K mg base := ⟨hT, he1, he0, hgl, hnc, hkit, hsup, x_sp, x_tk, gD, gM, h_isinstance⟩
  obtain ⟨fd_L_kinds, F_L_kinds⟩ := d.def_ 39 (d := dL_kinds) rfl
  have D_L_kinds : KD P w K mg base "_law_kinds" 1 (spEr K fun i _ => .list (kindsD i)) := kd_mk F_L_kinds (ok_kinds F_L_kinds L0) (He.glo_ok X G (d.fact 7 (f := .glo "_law_kinds") rfl)) (F_L_kinds.bindsN (fun _ _ _ _ _ _ us hl => match us, hl with | [_], _ => rfl))
  obtain ⟨fd_L_made_errors, F_L_made_errors⟩ := d.def_ 40 (d := dL_made_errors) rfl
  have D_L_made_errors : KD P w K mg base "_law_made_errors" 3 (spMk K) := kd_mk F_L_made_errors (ok_made F_L_made_errors L0) (He.glo_ok X G (d.fact 8 (f := .glo "_law_made_errors") rfl)) (F_L_made_errors.bindsN (fun _ _ _ _ _ _ us hl => match us, hl with | [_], _ => rfl))
  obtain ⟨fd_L_named_errors, F_L_named_errors⟩ := d.def_ 41 (d := dL_named_errors) rfl
  have D_L_named_errors : KD P w K mg base "_law_named_errors" 3 (spMk K) := kd_mk F_L_named_errors (ok_named F_L_named_errors L0) (He.glo_ok X G (d.fact 9 (f := .glo "_law_named_errors") rfl)) (F_L_named_errors.bindsN (fun _ _ _ _ _ _ us hl => match us, hl with | [_], _ => rfl))
  obtain ⟨fd_L_field, F_L_field⟩ := d.def_ 37 (d := dL_field) rfl
  have D_L_field : KD P w K mg base "_law_field" 1 (spEr K fieldD) := kd_mk F_L_field (ok_field F_L_field L0) (He.glo_ok X G (d.fact 5 (f := .glo "_law_field") rfl)) (F_L_field.bindsN (fun _ _ _ _ _ _ us hl => match us, hl with | [_], _ => rfl))
  obtain ⟨fd_L_kept_in, F_L_kept_in⟩ := d.def_ 42 (d := dL_kept_in) rfl
  have D_L_kept_in : KD P w K mg base "_law_kept_in" 2 (spEr K keptD) := kd_mk F_L_kept_in (ok_kept F_L_kept_in L0 D_L_field) (He.glo_ok X G (d.fact 10 (f := .glo "_law_kept_in") rfl)) (F_L_kept_in.bindsN (fun _ _ _ _ _ _ us hl => match us, hl with | [_], _ => rfl))
  have L : LE1 P w K mg base := ⟨L0, D_L_open, D_L_odd, D_L_kinds, D_L_made_errors, D_L_named_errors, D_L_kept_in, D_L_same, h_len, h_range, h_ValueError, h_IndexError, h_LookupError⟩
  exact ok_law F_law L
end
end K01
open PySem PySem.W PySem.Calls PyProof.Rows
theorem PySem.Challenge.cw_dealtpowers_k01_errors_by_themselves_holds : PySem.Challenge.rw_dealtpowers_k01_errors_by_themselves.Holds := by
  w_on; o_law
  refine HandSHeadRun.head_any (r := OpenLaw.row PySem.Challenge.rw_dealtpowers_k01_errors_by_themselves) (q := view (OpenLaw.row PySem.Challenge.rw_dealtpowers_k01_errors_by_themselves).prog [47]) (H := K01.hk) (ob := K01.ob) (M := 20000) (loose := K01.nms) (d := HandSHeadRun.topDef (OpenLaw.row PySem.Challenge.rw_dealtpowers_k01_errors_by_themselves).prog 47) (kwd := []) K01.ob_eq
    (by kernel_rfl) (fun s => by kernel_rfl) K01.run (by kernel_rfl) (by kernel_rfl) (by kernel_rfl) (by rfl) (by first | assumption | decide +kernel) (by decide +kernel) ⟨rfl, rfl, rfl, rfl, rfl, by decide +kernel⟩ ?hw ?hc
  case hw => w_witness2
  case hc =>
    refine L2.walk_ofE (l := PySem.Challenge.rw_dealtpowers_k01_errors_by_themselves) (n := 63) (k := 9) (x := "_law_script") (CX := L2.CX0) rfl (by decide) (by kernel_rfl) ⟨rfl, by decide, by decide⟩ ?F (fun _ _ _ _ z => z)
    intro w mg fa h Y G hmg0
    obtain ⟨K, KX, c⟩ := Y
    have hmg : mg ("law" : PySem.Str) = some (.ref fa) := by
      have e : (HandSHeadRun.topDef (OpenLaw.row PySem.Challenge.rw_dealtpowers_k01_errors_by_themselves).prog 47).name = ("law" : PySem.Str) := by kernel_rfl
      rw [← e]
      exact hmg0
    obtain ⟨fd, hb, hF⟩ := K01.facts (P := (PySem.Challenge.rw_dealtpowers_k01_errors_by_themselves).prog) (w := w) KX G hmg c
    exact ⟨K, fd, K01.spLaw K, KX, hb, fun H a ns hl _ hS => ⟨a, ns, rfl, hS, hl, fun _ => rfl⟩, hF⟩
