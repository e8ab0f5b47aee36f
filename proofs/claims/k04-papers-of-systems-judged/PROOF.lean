import PyProof.Rows.All
import Wide.All
import OpenK.AllK
import HandS.HeadHook4
import Wide.FinOn
import KE.KStateDown
import HandS.ForMost
import HandS.ForExc
import HandS.IsInst
import HandS.Zip
import HandS.Defaults
import HandS.MakeKw
import HandS.MakeKwOnly
import HandS.Star
import HandS.ClsMeth
import HandS.Property
import HandS.OwnEq
import HandS.FStr
import HandS.Flow
import HandS.TupMul
import HandS.TupAny
import HandS.Strs
import HandS.WideBits
import HandS.Wide
import HandS.Walk
import HandS.Style
import HandS.SetTxt0
import KE.GoesEnum
import OpenK.KMeth
import OpenK.KOps
import KE.KFmtOwn
import PyProof.Rows.StrStep
import HandS.Exc
import HandS.ExcInit
import HandS.WordsExc
import HandS.TryMany
import HandS.ExcField
import KE.KTryMore
import KE.KExcHand
import HandS.Nested
import HandS.HotCalls
import HandS.DictTup
import HandS.TupLen
import HandS.TupSets
import HandS.Conv
import KE.SortData
import HandS.More
import HandS.Dict
import HandS.Deep
import KE.SortKeyHeap
import HandS.SortKw
import HandS.DictComp
import KE.KDictItemsList
import KE.KEqDict
import HandS.Replace
import KE.GoesMore
import KE.KxIndex
import KE.KStrOpen
import KE.KCallOwn
import KE.KExcInit
import KE.KExcIs
import HandS.ExcIs
import PyProof.ExcBaseAll.IndexError
import PyProof.ExcBaseAll.LookupError
import PyProof.ExcBaseAll.ValueError
import HandS.SetBool
import KE.IntTextLaws
import KE.KSuper
import KE.KUnpackStar
import HandS.TryOnly
import KE.KDictPairs
import HandS.Records
import KE.GoesZip
import HandS.Head0
import HandS.Head1
import HandS.Head2
import HandS.HeadEnd
import HandS.HeadHook1
import HandS.HeadHook2
import HandS.HeadHook3
import HandS.HeadWalk
import PySem.Challenge.RW_dealtpowers_k04_papers_of_systems_judged
set_option Elab.async false
set_option linter.all false
set_option maxRecDepth 100000
set_option maxHeartbeats 0
set_option exponentiation.threshold 256
namespace Z
open PySem PySem.Spec PyProof.Rows L2
/-! ## 1. judgements by the best reading -/
def HE (X : Cx) (e : Expr) (σ : L2.St) (H : Hp) (Q : VK) : Prop := ∀ (pins : List (Addr × Obj)) (s : Shared), Inv X pins σ H s → wpAny (model X.prog X.w) X.A (eval e X.env) (EP X pins σ Q) X.xe s
def HT (X : Cx) (e : Expr) (σ : L2.St) (H : Hp) (Q : Bool → Hp → Prop) : Prop := ∀ (pins : List (Addr × Obj)) (s : Shared), Inv X pins σ H s → wpAny (model X.prog X.w) X.A (isTrue e X.env (eval e X.env)) (TP X pins σ Q) X.xe s
def HW (X : Cx) (e : Expr) (σ : L2.St) (H : Hp) (Q : Bool → Hp → Prop) : Prop := ∀ (whole : Sem Value) (pins : List (Addr × Obj)) (s : Shared), Inv X pins σ H s → wpAny (model X.prog X.w) X.A (isTrue e X.env whole) (TP X pins σ Q) X.xe s
def HA (X : Cx) (es : List Expr) (σ : L2.St) (H : Hp) (Q : List V → Hp → Prop) : Prop := ∀ (pos : Pos) (pins : List (Addr × Obj)) (s : Shared), Inv X pins σ H s → wpAny (model X.prog X.w) X.A (spliced (backTo pos (starEach es X.env))) (AP X pins σ Q) X.xe s
def HS (X : Cx) (D : Ends) (st : List Stmt) (σ : L2.St) (H : Hp) : Prop := ∀ (pins : List (Addr × Obj)) (s : Shared), Inv X pins σ H s → wpAny (model X.prog X.w) X.A (execs st X.env) (SP X pins D) X.xe s
def HG (X : Cx) (tg : Expr) (v : V) (σ : L2.St) (H : Hp) (Q : L2.St → Hp → Prop) : Prop := ∀ (pins : List (Addr × Obj)) (s : Shared) (u : Value), Inv X pins σ H s → RelV v u →
    wpAny (model X.prog X.w) X.A (assign tg X.env u) (fun _ s' => ∃ σ' H', Inv X pins σ' H' s' ∧ Q σ' H') X.xe s
def HI (X : Cx) (tg iter : Expr) (σ : L2.St) (H : Hp) (R : It → Hp → Prop) : Prop := ∀ (pins : List (Addr × Obj)) (s : Shared), Inv X pins σ H s →
    wpAny (model X.prog X.w) X.A (eval iter X.env) (fun v s1 => wpAny (model X.prog X.w) X.A (pyIter v) (PIE X pins σ tg R) X.xe s1) X.xe s
def bE (X : Cx) (e : Expr) : TE := fun σ H Q => HE X e σ H Q
def bT (X : Cx) (e : Expr) : TT := fun σ H Q => HT X e σ H Q
def bW (X : Cx) (e : Expr) : TT := fun σ H Q => HW X e σ H Q
def bA (X : Cx) (es : List Expr) : TA := fun σ H Q => HA X es σ H Q
def bS (X : Cx) (st : List Stmt) : TS := fun D σ H => HS X D st σ H
def bG (X : Cx) (tg : Expr) : TG := fun v σ H Q => HG X tg v σ H Q
def bI (X : Cx) (tg iter : Expr) : TI := fun σ H R => HI X tg iter σ H R
section
variable {X : Cx} {e : Expr} {σ : L2.St} {H : Hp}
theorem peb : PE X e (bE X e) := ⟨fun pins s _ _ _ I h => h pins s I⟩
theorem ptb : PT X e (bT X e) := ⟨fun pins s _ _ _ I h => h pins s I⟩
theorem pwb : PW X e (bW X e) := ⟨fun whole pins s _ _ _ I h => h whole pins s I⟩
theorem pab {es : List Expr} : PA X es (bA X es) := ⟨fun pos pins s _ _ _ I h => h pos pins s I⟩
theorem psb {st : List Stmt} : PSs X st (bS X st) := ⟨fun pins s _ _ _ I h => h pins s I⟩
theorem pgb {tg : Expr} : PG X tg (bG X tg) := ⟨fun pins s _ _ _ u _ I r h => h pins s u I r⟩
theorem pib {tg iter : Expr} : PI X tg iter (bI X tg iter) := ⟨fun pins s _ _ _ I h => h pins s I⟩
theorem he_of {t : TE} {Q : VK} (h : PE X e t) (q : t σ H Q) : HE X e σ H Q := fun pins s I => h.run pins s σ H Q I q
theorem ht_of {t : TT} {Q : Bool → Hp → Prop} (h : PT X e t) (q : t σ H Q) : HT X e σ H Q := fun pins s I => h.run pins s σ H Q I q
theorem hw_of {t : TT} {Q : Bool → Hp → Prop} (h : PW X e t) (q : t σ H Q) : HW X e σ H Q := fun whole pins s I => h.run whole pins s σ H Q I q
theorem ha_of {es : List Expr} {t : TA} {Q : List V → Hp → Prop} (h : PA X es t) (q : t σ H Q) : HA X es σ H Q := fun pos pins s I => h.run pos pins s σ H Q I q
theorem hs_of {st : List Stmt} {t : TS} {D : Ends} (h : PSs X st t) (q : t D σ H) : HS X D st σ H := fun pins s I => h.run pins s σ H D I q
theorem hg_of {tg : Expr} {t : TG} {v : V} {Q : L2.St → Hp → Prop} (h : PG X tg t) (q : t v σ H Q) : HG X tg v σ H Q := fun pins s u I r => h.run pins s σ H v u Q I r q
theorem hi_of {tg iter : Expr} {t : TI} {R : It → Hp → Prop} (h : PI X tg iter t) (q : t σ H R) : HI X tg iter σ H R := fun pins s I => h.run pins s σ H R I q
theorem he_mono {Q Q' : VK} (h : HE X e σ H Q) (hq : ∀ v H', Q v H' → Q' v H') : HE X e σ H Q' := fun pins s I => thn (h pins s I) fun _ _ ⟨v, H', I', r, q⟩ => ⟨v, H', I', r, hq v H' q⟩
theorem ht_mono {Q Q' : Bool → Hp → Prop} (h : HT X e σ H Q) (hq : ∀ v H', Q v H' → Q' v H') : HT X e σ H Q' := fun pins s I => thn (h pins s I) fun _ _ ⟨H', I', q⟩ => ⟨H', I', hq _ H' q⟩
end
/-! ## 2. what stays under growth -/
class Mn (P : V → Hp → Prop) : Prop where
  up : ∀ {v : V} {H H' : Hp}, Same H H' → P v H → P v H'
theorem Same.new {H : Hp} {p : Addr} {o : HO} (h : H p = none) : Same H (upd H p o) := fun a u e => by
  rw [upd_ne (ne_of_none e h)]
  exact e
/-- an object that H does not know may change -/
theorem Same.mut {H H' : Hp} {p : Addr} {o : HO} (e : Same H H') (h : H p = none) : Same H (upd H' p o) := fun a u ha => by
  rw [upd_ne (ne_of_none ha h)]
  exact e a u ha
theorem same_rd {H H' : Hp} {a : Addr} {u : HO} (e : Same H H') (h : Rd H a u) : Rd H' a u := by
  rcases h with h | ⟨o, h⟩
  · exact Or.inl (e a _ h)
  · exact Or.inr ⟨o, e a _ h⟩
theorem sql_up {K : PySem.W.Frag} {H H' : Hp} {a : Addr} {xs : List V} (e : Same H H') (h : SqL K H a xs) : SqL K H' a xs := by
  rcases h with h | h
  · exact Or.inl (same_rd e h)
  · exact Or.inr h
theorem sqt_up {K : PySem.W.Frag} {H H' : Hp} {a : Addr} {xs : List V} (e : Same H H') (h : SqT K H a xs) : SqT K H' a xs := by
  rcases h with h | h
  · exact Or.inl (same_rd e h)
  · exact Or.inr h
theorem sql_of {K : PySem.W.Frag} {H : Hp} {a : Addr} {xs : List V} (h : H a = some (.lst xs)) : SqL K H a xs := Or.inl (Or.inl h)
theorem sqt_of {K : PySem.W.Frag} {H : Hp} {a : Addr} {xs : List V} (h : H a = some (.tup xs)) : SqT K H a xs := Or.inl (Or.inl h)
/-! ## 3. data -/
/-- a tuple of the heap; the empty one may stand in K -/
def TuS (K : PySem.W.Frag) (H : Hp) (a : Addr) (xs : List V) : Prop := H a = some (.tup xs) ∨ (xs = [] ∧ SqT K H a xs)
theorem TuS.sq {K : PySem.W.Frag} {H : Hp} {a : Addr} {xs : List V} (h : TuS K H a xs) : SqT K H a xs := h.elim sqt_of fun z => z.2
theorem TuS.up {K : PySem.W.Frag} {H H' : Hp} {a : Addr} {xs : List V} (e : Same H H') (h : TuS K H a xs) : TuS K H' a xs := h.elim (fun z => .inl (e _ _ z)) fun z => .inr ⟨z.1, sqt_up e z.2⟩
theorem tus_of {K : PySem.W.Frag} {H : Hp} {a : Addr} {xs : List V} (h : H a = some (.tup xs)) : TuS K H a xs := .inl h
/-- a value that is data: None, bools, ints, texts, lists that are tracked, tuples -/
inductive Dt (K : PySem.W.Frag) : PyData → V → Hp → Prop
  | non {H : Hp} : Dt K .none .non H
  | bl {H : Hp} (b : Bool) : Dt K (.bool b) (.bl b) H
  | int {H : Hp} (i : Int) : Dt K (.int i) (.int i) H
  | str {H : Hp} (x : Str) : Dt K (.str x) (.str x) H
  | lst {H : Hp} {a : Addr} {xs : List V} {ds : List PyData} : H a = some (.lst xs) → xs.length = ds.length → xs.length ≤ sizeLine → (∀ (i : Nat) (x : V) (d : PyData), xs[i]? = some x → ds[i]? = some d → Dt K d x H) → Dt K (.list ds) (.ref a) H
  | tup {H : Hp} {a : Addr} {xs : List V} {ds : List PyData} : TuS K H a xs → xs.length = ds.length → xs.length ≤ sizeLine → (∀ (i : Nat) (x : V) (d : PyData), xs[i]? = some x → ds[i]? = some d → Dt K d x H) → Dt K (.tuple ds) (.ref a) H
theorem Dt.up {K : PySem.W.Frag} {d : PyData} {v : V} {H H' : Hp} (e : Same H H') (h : Dt K d v H) : Dt K d v H' := by
  induction h with
  | non => exact .non
  | bl b => exact .bl b
  | int i => exact .int i
  | str x => exact .str x
  | lst h l z _ ih => exact .lst (e _ _ h) l z fun i x d hx hd => ih i x d hx hd e
  | tup h l z _ ih => exact .tup (h.up e) l z fun i x d hx hd => ih i x d hx hd e
instance {K : PySem.W.Frag} {d : PyData} : Mn (Dt K d) := ⟨fun e h => h.up e⟩
/-- the values of a sequence's items -/
def Dts (K : PySem.W.Frag) (ds : List PyData) (xs : List V) (H : Hp) : Prop := xs.length = ds.length ∧ ∀ (i : Nat) (x : V) (d : PyData), xs[i]? = some x → ds[i]? = some d → Dt K d x H
theorem Dts.up {K : PySem.W.Frag} {ds : List PyData} {xs : List V} {H H' : Hp} (e : Same H H') (h : Dts K ds xs H) : Dts K ds xs H' := ⟨h.1, fun i x d hx hd => (h.2 i x d hx hd).up e⟩
theorem Dts.nil {K : PySem.W.Frag} {H : Hp} : Dts K [] [] H := ⟨rfl, fun i x d hx _ => by simp at hx⟩
theorem Dts.cons {K : PySem.W.Frag} {d : PyData} {ds : List PyData} {x : V} {xs : List V} {H : Hp} (h : Dt K d x H) (r : Dts K ds xs H) : Dts K (d :: ds) (x :: xs) H := by
  refine ⟨by simp [r.1], fun i y e hy he => ?_⟩
  cases i with
  | zero => simp at hy he; subst hy; subst he; exact h
  | succ i => exact r.2 i y e (by simpa using hy) (by simpa using he)
theorem Dts.get {K : PySem.W.Frag} {ds : List PyData} {xs : List V} {H : Hp} (h : Dts K ds xs H) {i : Nat} {d : PyData} (e : ds[i]? = some d) : ∃ x, xs[i]? = some x ∧ Dt K d x H := by
  have hi : i < xs.length := by rw [h.1]; exact (List.getElem?_eq_some_iff.mp e).1
  exact ⟨xs[i], List.getElem?_eq_getElem hi, h.2 i _ d (List.getElem?_eq_getElem hi) e⟩
theorem Dts.append {K : PySem.W.Frag} {ds es : List PyData} {xs ys : List V} {H : Hp} (h : Dts K ds xs H) (g : Dts K es ys H) : Dts K (ds ++ es) (xs ++ ys) H := by
  refine ⟨by simp [h.1, g.1], fun i y e hy he => ?_⟩
  by_cases hi : i < xs.length
  · rw [List.getElem?_append_left hi] at hy
    rw [List.getElem?_append_left (by rw [← h.1]; exact hi)] at he
    exact h.2 i y e hy he
  · rw [List.getElem?_append_right (by omega)] at hy
    rw [List.getElem?_append_right (by rw [← h.1]; omega), ← h.1] at he
    exact g.2 _ y e hy he
theorem Dts.snoc {K : PySem.W.Frag} {ds : List PyData} {xs : List V} {H : Hp} {d : PyData} {x : V} (h : Dts K ds xs H) (g : Dt K d x H) : Dts K (ds ++ [d]) (xs ++ [x]) H := h.append (Dts.cons g .nil)
theorem Dts.dp {K : PySem.W.Frag} {H : Hp} : ∀ {ds : List PyData} {xs : List V}, xs.length = ds.length → (∀ (i : Nat) (x : V) (d : PyData), xs[i]? = some x → ds[i]? = some d → Dp K H x d) → DpAll K H xs ds
  | [], [], _, _ => .nil
  | [], _ :: _, h, _ => by simp at h
  | _ :: _, [], h, _ => by simp at h
  | d :: ds, x :: xs, h, f => .cons (f 0 x d rfl rfl) (Dts.dp (by simpa using h) fun i y e hy he => f (i + 1) y e (by simpa using hy) (by simpa using he))
theorem Dt.dp {K : PySem.W.Frag} {d : PyData} {v : V} {H : Hp} (h : Dt K d v H) : Dp K H v d := by
  induction h with
  | non => exact .non
  | bl b => exact .bl b
  | int i => exact .int i
  | str x => exact .str x
  | lst h l z _ ih => exact .lst (sql_of h) (Dts.dp l fun i x d hx hd => ih i x d hx hd)
  | tup h l z _ ih => exact .tup h.sq (Dts.dp l fun i x d hx hd => ih i x d hx hd)
theorem Dt.int_inv {K : PySem.W.Frag} {i : Int} {v : V} {H : Hp} (h : Dt K (.int i) v H) : v = .int i := by cases h; rfl
theorem Dt.bl_inv {K : PySem.W.Frag} {b : Bool} {v : V} {H : Hp} (h : Dt K (.bool b) v H) : v = .bl b := by cases h; rfl
theorem Dt.lst_inv {K : PySem.W.Frag} {ds : List PyData} {v : V} {H : Hp} (h : Dt K (.list ds) v H) : ∃ a xs, v = .ref a ∧ H a = some (.lst xs) ∧ Dts K ds xs H ∧ xs.length ≤ sizeLine := by
  cases h with
  | lst h l z f => exact ⟨_, _, rfl, h, ⟨l, f⟩, z⟩
theorem Dt.tup_inv {K : PySem.W.Frag} {ds : List PyData} {v : V} {H : Hp} (h : Dt K (.tuple ds) v H) : ∃ a xs, v = .ref a ∧ SqT K H a xs ∧ Dts K ds xs H ∧ xs.length ≤ sizeLine := by
  cases h with
  | tup h l z f => exact ⟨_, _, rfl, h.sq, ⟨l, f⟩, z⟩
theorem Dt.lst_mk {K : PySem.W.Frag} {ds : List PyData} {a : Addr} {xs : List V} {H : Hp} (h : H a = some (.lst xs)) (g : Dts K ds xs H) (z : xs.length ≤ sizeLine) : Dt K (.list ds) (.ref a) H := .lst h g.1 z g.2
theorem Dt.tup_mk {K : PySem.W.Frag} {ds : List PyData} {a : Addr} {xs : List V} {H : Hp} (h : TuS K H a xs) (g : Dts K ds xs H) (z : xs.length ≤ sizeLine) : Dt K (.tuple ds) (.ref a) H := .tup h g.1 z g.2
/-! ## 4. growth: S what is known to stay, H the whole -/
def NT (o : HO) : Prop := ∀ xs, o ≠ .tup xs
structure Gr (S H S' H' : Hp) : Prop where
  st : Same S S'
  sub : Same S' H'
  hh : Same H H'
  old : ∀ a o, H a = some o → NT o → S' a = S a
theorem Gr.refl {S H : Hp} (s : Same S H) : Gr S H S H := ⟨Same.refl S, s, Same.refl H, fun _ _ _ _ => rfl⟩
theorem Gr.trans {S H S1 H1 S2 H2 : Hp} (a : Gr S H S1 H1) (b : Gr S1 H1 S2 H2) : Gr S H S2 H2 :=
  ⟨a.st.trans b.st, b.sub, a.hh.trans b.hh, fun x o h n => (b.old x o (a.hh x o h) n).trans (a.old x o h n)⟩
theorem Gr.new {S H : Hp} {p : Addr} {o : HO} (s : Same S H) (h : H p = none) : Gr S H (upd S p o) (upd H p o) := by
  refine ⟨Same.new (s.free h), fun a u e => ?_, Same.new h, fun a u e _ => upd_ne (ne_of_none e h)⟩
  by_cases ha : a = p
  · subst ha; rw [upd_same] at e ⊢; exact e
  · rw [upd_ne ha] at e ⊢; exact s a u e
/-- S grown by T -/
def uniS (S T : Hp) : Hp := fun a => match S a with
  | some o => some o
  | none => T a
theorem uni_l {S T : Hp} : Same S (uniS S T) := fun a o h => by unfold uniS; rw [h]
/-- from a smaller S to a greater one -/
theorem Gr.uni {S T H S' H' : Hp} (st : Same S T) (th : Same T H) (g : Gr S H S' H') : Gr T H (uniS S' T) H' := by
  have key : ∀ a o, H a = some o → NT o → uniS S' T a = T a := fun a o h n => by
    have e := g.old a o h n
    unfold uniS
    rw [e]
    cases q : S a with
    | none => rfl
    | some u => rw [st a u q]
  have key2 : ∀ a o, T a = some o → uniS S' T a = some o := fun a o h => by
    unfold uniS
    cases q : S' a with
    | none => exact h
    | some u =>
      have e1 := g.sub a u q
      rw [g.hh a o (th a o h)] at e1
      exact e1.symm
  refine ⟨key2, fun a o h => ?_, g.hh, key⟩
  unfold uniS at h
  cases q : S' a with
  | some u => rw [q] at h; cases h; exact g.sub a _ q
  | none => rw [q] at h; exact g.hh a o (th a o h)
/-! ## 5. pure evaluation: e gives a P, and all that stood stands -/
def EE (X : Cx) (σ : L2.St) (S : Hp) (e : Expr) (P : V → Hp → Prop) : Prop := ∀ H, Same S H → ∀ Q : VK, (∀ v S' H', Gr S H S' H' → P v S' → Q v H') → HE X e σ H Q
def ET (X : Cx) (σ : L2.St) (S : Hp) (e : Expr) (b : Bool) : Prop := ∀ H, Same S H → ∀ Q : Bool → Hp → Prop, (∀ S' H', Gr S H S' H' → Q b H') → HT X e σ H Q
def EW (X : Cx) (σ : L2.St) (S : Hp) (e : Expr) (b : Bool) : Prop := ∀ H, Same S H → ∀ Q : Bool → Hp → Prop, (∀ S' H', Gr S H S' H' → Q b H') → HW X e σ H Q
/-- the values vs have the Ps, one by one -/
inductive Al : List (V → Hp → Prop) → List V → Hp → Prop
  | nil {H : Hp} : Al [] [] H
  | cons {P : V → Hp → Prop} {Ps : List (V → Hp → Prop)} {v : V} {vs : List V} {H : Hp} : P v H → Al Ps vs H → Al (P :: Ps) (v :: vs) H
inductive Mns : List (V → Hp → Prop) → Prop
  | nil : Mns []
  | cons {P : V → Hp → Prop} {Ps : List (V → Hp → Prop)} : Mn P → Mns Ps → Mns (P :: Ps)
theorem Al.up {Ps : List (V → Hp → Prop)} {vs : List V} {H H' : Hp} (m : Mns Ps) (s : Same H H') (h : Al Ps vs H) : Al Ps vs H' := by
  induction h with
  | nil => exact .nil
  | cons p _ ih => cases m with
    | cons m1 m2 => exact .cons (m1.up s p) (ih m2 s)
def EA (X : Cx) (σ : L2.St) (S : Hp) (es : List Expr) (Ps : List (V → Hp → Prop)) : Prop := Mns Ps ∧ ∀ H, Same S H → ∀ Q : List V → Hp → Prop, (∀ vs S' H', Gr S H S' H' → Al Ps vs S' → Q vs H') → HA X es σ H Q
section
variable {X : Cx} {σ : L2.St} {S S' : Hp} {e a b c : Expr} {P P' : V → Hp → Prop} {pos : Pos}
theorem EE.up [Mn P] (s : Same S S') (h : EE X σ S e P) : EE X σ S' e P := fun H a Q q => h H (s.trans a) Q fun v S2 H2 g p => q v (uniS S2 S') H2 (g.uni s a) (Mn.up uni_l p)
theorem ET.up {k : Bool} (s : Same S S') (h : ET X σ S e k) : ET X σ S' e k := fun H a Q q => h H (s.trans a) Q fun S2 H2 g => q (uniS S2 S') H2 (g.uni s a)
theorem EW.up {k : Bool} (s : Same S S') (h : EW X σ S e k) : EW X σ S' e k := fun H a Q q => h H (s.trans a) Q fun S2 H2 g => q (uniS S2 S') H2 (g.uni s a)
theorem EA.up {es : List Expr} {Ps : List (V → Hp → Prop)} (s : Same S S') (h : EA X σ S es Ps) : EA X σ S' es Ps := ⟨h.1, fun H a Q q => h.2 H (s.trans a) Q fun v S2 H2 g p => q v (uniS S2 S') H2 (g.uni s a) (p.up h.1 uni_l)⟩
theorem EE.imp (h : EE X σ S e P) (f : ∀ v H', P v H' → P' v H') : EE X σ S e P' := fun H1 s Q q => h H1 s Q fun v S2 H2 s2 p => q v S2 H2 s2 (f v S2 p)
theorem EE.is (h : EE X σ S e P) (f : P = P') : EE X σ S e P' := f ▸ h
theorem ET.is {k k' : Bool} (h : ET X σ S e k) (f : k = k') : ET X σ S e k' := f ▸ h
theorem ea_nil : EA X σ S [] [] := ⟨.nil, fun H1 s Q q => ha_of pa_nil (q [] S H1 (Gr.refl s) .nil)⟩
theorem ea_cons [m : Mn P] {es : List Expr} {Ps : List (V → Hp → Prop)} (h : EE X σ S e P) (r : EA X σ S es Ps) (hs : starEach (e :: es) X.env = (false, eval e X.env) :: starEach es X.env := by rfl) : EA X σ S (e :: es) (P :: Ps) := ⟨.cons m r.1, fun H1 s Q q => by
  refine ha_of (pa_cons (te := bE X e) (t := bA X es) peb pab hs) ?_
  refine h H1 s _ fun v S2 H2 g2 p => ?_
  exact (r.up g2.st).2 H2 g2.sub _ fun vs S3 H3 g3 al => q (v :: vs) S3 H3 (g2.trans g3) (.cons (Mn.up g3.st p) al)⟩
end
end Z
namespace Z
open PySem PySem.Spec PyProof.Rows L2
/-! ## 6. expressions -/
section
variable {X : Cx} {σ : L2.St} {S S' : Hp} {e a b c : Expr} {P Pa Pb R : V → Hp → Prop} {pos p : Pos} {i j : Int} {d d1 d2 : PyData} {k k1 k2 : Bool}
theorem EE.isd {d' : PyData} (h : EE X σ S e (Dt X.K d)) (f : d = d') : EE X σ S e (Dt X.K d') := f ▸ h
theorem ee_var (i : Nat) {x : Str} {v : V} (hv : σ[i]? = some (some v)) (h : P v S) (hN : X.N[i]? = some x := by rfl) (hvis : Vis X.env.scope x := by first | exact Or.inl rfl | exact Or.inr (Or.inl rfl) | exact Or.inr (Or.inr rfl)) (hd : (x == ("__debug__" : Str)) = false := by decide)
    (hcd : (x == ("__classdict__" : Str)) = false := by decide) : EE X σ S (.Name x pos) P := fun H s Q q => he_of (pv i hN hvis hd hcd) ⟨v, hv, q v S H (Gr.refl s) h⟩
theorem ee_cst {v : V} (he : PE X e (tC v)) (h : P v S) : EE X σ S e P := fun H s Q q => he_of he (q v S H (Gr.refl s) h)
theorem ee_int {n} : EE X σ S (.Constant (.int i) n pos) (Dt X.K (.int i)) := ee_cst pe_int (.int i)
theorem ee_bl {n} : EE X σ S (.Constant (.bool k) n pos) (Dt X.K (.bool k)) := ee_cst pe_bl (.bl k)
theorem ee_non {n} : EE X σ S (.Constant .none n pos) (Dt X.K .none) := ee_cst pe_non .non
theorem ee_str {x n} : EE X σ S (.Constant (.str x) n pos) (Dt X.K (.str x)) := ee_cst pe_str (.str x)
theorem ee_bltn {x : Str} {v : V} {u : Value} (hm : X.mg x = none) (hv : bootBuiltins x = some u) (r : RelV v u) (h : P v S) (hg : Gl X x := by rfl) (hn : x ≠ "__name__" := by decide) (hd : (x == ("__debug__" : Str)) = false := by decide) : EE X σ S (.Name x pos) P := ee_cst (pe_bltn hg hm hv r hn hd) h
/-- what a two-place operation gives -/
def OpE (r : R2) (S : Hp) (Pa Pb R : V → Hp → Prop) : Prop := ∀ x y S1 H1, Same S S1 → Same S1 H1 → Pa x S1 → Pb y S1 → ∀ Q : VK, (∀ v S2 H2, Gr S1 H1 S2 H2 → R v S2 → Q v H2) → r x y H1 Q
theorem ee_2 {t : R2} [Mn Pa] [Mn Pb] (hp : PE X e (tOp t (bE X a) (bE X b))) (ha : EE X σ S a Pa) (hb : EE X σ S b Pb) (hr : OpE t S Pa Pb R) : EE X σ S e R := fun H s Q q =>
  he_of hp (ha H s _ fun x S1 H1 g1 px => (hb.up g1.st) H1 g1.sub _ fun y S2 H2 g2 py => hr x y S2 H2 (g1.st.trans g2.st) g2.sub (Mn.up g2.st px) py Q fun v S3 H3 g3 rv => q v S3 H3 ((g1.trans g2).trans g3) rv)
theorem ee_op {op : Operator} {t : R2} [Mn Pa] [Mn Pb] (ho : OpR X (binaryOp op) t) (ha : EE X σ S a Pa) (hb : EE X σ S b Pb) (hr : OpE t S Pa Pb R) : EE X σ S (.BinOp a op b pos) R := ee_2 (pe_op ho peb peb) ha hb hr
theorem ee_cmp {op : CmpOp} {t : R2} [Mn Pa] [Mn Pb] (ho : OpR X (compareOp op) t) (ha : EE X σ S a Pa) (hb : EE X σ S b Pb) (hr : OpE t S Pa Pb R) (hm : behindInMarks op b = false) : EE X σ S (.Compare a [op] [b] pos) R := ee_2 (pe_cmpR ho peb peb hm) ha hb hr
theorem opE_I0 {K : PySem.W.Frag} {g : Int → Int → V} {d : PyData} (h : ∀ S, Dt K d (g i j) S) : OpE (rI0 g) S (Dt K (.int i)) (Dt K (.int j)) (Dt K d) := fun x y S1 H1 _ s px py Q q => by
  cases px; cases py
  exact ⟨i, j, rfl, rfl, q _ S1 H1 (Gr.refl s) (h S1)⟩
theorem opE_I {K : PySem.W.Frag} {C : Int → Int → Prop} {g : Int → Int → V} {d : PyData} (hc : C i j) (h : ∀ S, Dt K d (g i j) S) : OpE (rI C g) S (Dt K (.int i)) (Dt K (.int j)) (Dt K d) := fun x y S1 H1 _ s px py Q q => by
  cases px; cases py
  exact ⟨i, j, rfl, rfl, hc, q _ S1 H1 (Gr.refl s) (h S1)⟩
theorem ee_add (ha : EE X σ S a (Dt X.K (.int i))) (hb : EE X σ S b (Dt X.K (.int j))) : EE X σ S (.BinOp a .Add b pos) (Dt X.K (.int (i + j))) := ee_op op_add ha hb (opE_I0 fun _ => .int _)
theorem ee_sub (ha : EE X σ S a (Dt X.K (.int i))) (hb : EE X σ S b (Dt X.K (.int j))) : EE X σ S (.BinOp a .Sub b pos) (Dt X.K (.int (i - j))) := ee_op op_sub ha hb (opE_I0 fun _ => .int _)
theorem ee_mul (hc : CMulX i j) (ha : EE X σ S a (Dt X.K (.int i))) (hb : EE X σ S b (Dt X.K (.int j))) : EE X σ S (.BinOp a .Mult b pos) (Dt X.K (.int (i * j))) := ee_op op_mulX ha hb (opE_I hc fun _ => .int _)
theorem ee_fdiv (hc : CDivW i j) (ha : EE X σ S a (Dt X.K (.int i))) (hb : EE X σ S b (Dt X.K (.int j))) : EE X σ S (.BinOp a .FloorDiv b pos) (Dt X.K (.int (i / j))) := ee_op op_fdivW ha hb (opE_I hc fun _ => .int _)
theorem ee_mod (hc : 0 < j) (ha : EE X σ S a (Dt X.K (.int i))) (hb : EE X σ S b (Dt X.K (.int j))) : EE X σ S (.BinOp a .Mod b pos) (Dt X.K (.int (i % j))) := ee_op op_mod ha hb (opE_I hc fun _ => .int _)
theorem ee_pow (hc : CPow i j) (ha : EE X σ S a (Dt X.K (.int i))) (hb : EE X σ S b (Dt X.K (.int j))) : EE X σ S (.BinOp a .Pow b pos) (Dt X.K (.int (i ^ j.toNat))) := ee_op op_pow ha hb (opE_I hc fun _ => .int _)
theorem ee_lt (ha : EE X σ S a (Dt X.K (.int i))) (hb : EE X σ S b (Dt X.K (.int j))) : EE X σ S (.Compare a [.Lt] [b] pos) (Dt X.K (.bool (decide (i < j)))) := ee_cmp op_lt ha hb (opE_I0 fun _ => .bl _) (nomark _)
theorem ee_le (ha : EE X σ S a (Dt X.K (.int i))) (hb : EE X σ S b (Dt X.K (.int j))) : EE X σ S (.Compare a [.LtE] [b] pos) (Dt X.K (.bool (decide (i ≤ j)))) := ee_cmp op_le ha hb (opE_I0 fun _ => .bl _) (nomark _)
theorem ee_ge (ha : EE X σ S a (Dt X.K (.int i))) (hb : EE X σ S b (Dt X.K (.int j))) : EE X σ S (.Compare a [.GtE] [b] pos) (Dt X.K (.bool (decide (j ≤ i)))) := ee_cmp op_ge ha hb (opE_I0 fun _ => .bl _) (nomark _)
/-- == and != of data -/
theorem ee_eq {u : Nat} (hr : Room u X.A) (h1 : SeqAt.shaped d1 = true) (h2 : SeqAt.shaped d2 = true) (ha : EE X σ S a (Dt X.K d1)) (hb : EE X σ S b (Dt X.K d2)) : EE X σ S (.Compare a [.Eq] [b] pos) (Dt X.K (.bool (PyData.eqv d1 d2))) :=
  ee_cmp (op_eqD hr.units) ha hb (fun x y S1 H1 _ s px py Q q => ⟨d1, d2, (px.up s).dp, (py.up s).dp, h1, h2, q _ S1 H1 (Gr.refl s) (.bl _)⟩) (nomark _)
/-- == of two ints, of two texts -/
theorem ee_eqI (ha : EE X σ S a (Dt X.K (.int i))) (hb : EE X σ S b (Dt X.K (.int j))) : EE X σ S (.Compare a [.Eq] [b] pos) (Dt X.K (.bool (decide (i = j)))) :=
  ee_cmp op_eq ha hb (fun x y S1 H1 _ s px py Q q => by
    cases px; cases py
    refine ⟨rfl, ?_⟩
    have e : decide (V.int i = V.int j) = decide (i = j) := by simp
    rw [e]
    exact q _ S1 H1 (Gr.refl s) (.bl _)) (nomark _)
theorem ee_eqS {x y : Str} (ha : EE X σ S a (Dt X.K (.str x))) (hb : EE X σ S b (Dt X.K (.str y))) : EE X σ S (.Compare a [.Eq] [b] pos) (Dt X.K (.bool (decide (x = y)))) :=
  ee_cmp op_eq ha hb (fun v w S1 H1 _ s px py Q q => by
    cases px; cases py
    refine ⟨rfl, ?_⟩
    have e : decide (V.str x = V.str y) = decide (x = y) := by simp
    rw [e]
    exact q _ S1 H1 (Gr.refl s) (.bl _)) (nomark _)
/-- x is None -/
theorem ee_isN {v : V} (ha : EE X σ S a (fun w _ => w = v)) {n p2} : EE X σ S (.Compare a [.Is] [.Constant .none n p2] pos) (Dt X.K (.bool (decide (v = .non)))) := by
  haveI : Mn (fun (w : V) (_ : Hp) => w = v) := ⟨fun _ h => h⟩
  exact ee_cmp op_isN ha (ee_non (n := n) (pos := p2)) (fun x y S1 H1 _ s px py Q q => by
    cases py
    subst px
    exact ⟨rfl, q _ S1 H1 (Gr.refl s) (.bl _)⟩) (nomark _)
theorem ee_neg (ha : EE X σ S a (Dt X.K (.int i))) : EE X σ S (.UnaryOp .USub a pos) (Dt X.K (.int (-i))) := fun H s Q q =>
  he_of (pe_un un_neg peb) (ha H s _ fun x S1 H1 g1 px => by cases px; exact ⟨i, rfl, q _ S1 H1 g1 (.int _)⟩)
/-! ### and, or, not, if -/
theorem ee_not (ha : EE X σ S a (Dt X.K (.bool k))) : EE X σ S (.UnaryOp .Not a pos) (Dt X.K (.bool (!k))) := fun H s Q q =>
  he_of (pe_not peb) (ha H s _ fun x S1 H1 g1 px => by cases px; exact ⟨k, rfl, q _ S1 H1 g1 (.bl _)⟩)
theorem ee_one {op} (ha : EE X σ S a P) : EE X σ S (.BoolOp op [a] pos) P := fun H s Q q => he_of (pe_one peb) (ha H s Q q)
theorem ee_and {rest : List Expr} (ha : EE X σ S a (Dt X.K (.bool k1))) (hb : k1 = true → EE X σ S (.BoolOp .And (b :: rest) pos) (Dt X.K (.bool k2))) : EE X σ S (.BoolOp .And (a :: b :: rest) pos) (Dt X.K (.bool (k1 && k2))) := fun H s Q q =>
  he_of (pe_and peb peb) (ha H s _ fun x S1 H1 g1 px => by
    cases px
    refine ⟨k1, rfl, ?_⟩
    cases k1 with
    | false => exact iteF (q _ S1 H1 g1 (.bl _))
    | true => exact iteT (((hb rfl).up g1.st) H1 g1.sub _ fun y S2 H2 g2 py => q y S2 H2 (g1.trans g2) py))
/-- tests -/
theorem et_val (ha : EE X σ S e (Dt X.K (.bool k))) (he : ∀ whole, isTrue e X.env whole = (do let v ← whole; standAt e.pos; holding [v] (truthy v)) := by intro _; rfl) : ET X σ S e k := fun H s Q q =>
  ht_of (pt_val peb he) (ha H s _ fun x S1 H1 g1 px => by cases px; exact ⟨k, rfl, q S1 H1 g1⟩)
theorem et_cmp {op : CmpOp} {t : R2} [Mn Pa] [Mn Pb] (ho : OpR X (compareOp op) t) (ha : EE X σ S a Pa) (hb : EE X σ S b Pb) (hr : OpE t S Pa Pb (Dt X.K (.bool k))) (hm : behindInMarks op b = false) : ET X σ S (.Compare a [op] [b] pos) k := fun H s Q q =>
  ht_of (pt_cmpR ho peb peb hm) (ha H s _ fun x S1 H1 g1 px => (hb.up g1.st) H1 g1.sub _ fun y S2 H2 g2 py => hr x y S2 H2 (g1.st.trans g2.st) g2.sub (Mn.up g2.st px) py _ fun v S3 H3 g3 rv => by
    cases rv; exact ⟨k, rfl, q S3 H3 ((g1.trans g2).trans g3)⟩)
theorem et_lt (ha : EE X σ S a (Dt X.K (.int i))) (hb : EE X σ S b (Dt X.K (.int j))) : ET X σ S (.Compare a [.Lt] [b] pos) (decide (i < j)) := et_cmp op_lt ha hb (opE_I0 fun _ => .bl _) (nomark _)
theorem et_le (ha : EE X σ S a (Dt X.K (.int i))) (hb : EE X σ S b (Dt X.K (.int j))) : ET X σ S (.Compare a [.LtE] [b] pos) (decide (i ≤ j)) := et_cmp op_le ha hb (opE_I0 fun _ => .bl _) (nomark _)
theorem et_gt (ha : EE X σ S a (Dt X.K (.int i))) (hb : EE X σ S b (Dt X.K (.int j))) : ET X σ S (.Compare a [.Gt] [b] pos) (decide (j < i)) := et_cmp op_gt ha hb (opE_I0 fun _ => .bl _) (nomark _)
theorem et_ge (ha : EE X σ S a (Dt X.K (.int i))) (hb : EE X σ S b (Dt X.K (.int j))) : ET X σ S (.Compare a [.GtE] [b] pos) (decide (j ≤ i)) := et_cmp op_ge ha hb (opE_I0 fun _ => .bl _) (nomark _)
theorem et_eqI (ha : EE X σ S a (Dt X.K (.int i))) (hb : EE X σ S b (Dt X.K (.int j))) : ET X σ S (.Compare a [.Eq] [b] pos) (decide (i = j)) :=
  et_cmp op_eq ha hb (fun x y S1 H1 _ s px py Q q => by
    cases px; cases py
    refine ⟨rfl, ?_⟩
    have e : decide (V.int i = V.int j) = decide (i = j) := by simp
    rw [e]
    exact q _ S1 H1 (Gr.refl s) (.bl _)) (nomark _)
theorem et_neI (ha : EE X σ S a (Dt X.K (.int i))) (hb : EE X σ S b (Dt X.K (.int j))) : ET X σ S (.Compare a [.NotEq] [b] pos) (!decide (i = j)) :=
  et_cmp op_ne ha hb (fun x y S1 H1 _ s px py Q q => by
    cases px; cases py
    refine ⟨rfl, ?_⟩
    have e : decide (V.int i = V.int j) = decide (i = j) := by simp
    rw [e]
    exact q _ S1 H1 (Gr.refl s) (.bl _)) (nomark _)
theorem et_not (ha : ET X σ S a k) : ET X σ S (.UnaryOp .Not a pos) (!k) := fun H s Q q => ht_of (pt_not ptb) (ha H s _ fun S1 H1 g1 => q S1 H1 g1)
theorem et_w (ha : EW X σ S a k) : ET X σ S a k := fun H s Q q => ht_of (PW.pt pwb) (ha H s Q q)
theorem ew_and1 (ha : ET X σ S a k) : EW X σ S (.BoolOp .And [a] pos) k := fun H s Q q => hw_of (pw_and1 ptb) (ha H s Q q)
theorem ew_or1 (ha : ET X σ S a k) : EW X σ S (.BoolOp .Or [a] pos) k := fun H s Q q => hw_of (pw_or1 ptb) (ha H s Q q)
theorem ew_and {rest : List Expr} (ha : ET X σ S a k1) (hb : k1 = true → EW X σ S (.BoolOp .And (b :: rest) pos) k2) : EW X σ S (.BoolOp .And (a :: b :: rest) pos) (k1 && k2) := fun H s Q q =>
  hw_of (pw_and ptb pwb) (ha H s _ fun S1 H1 g1 => by
    cases k1 with
    | false => exact iteF (q S1 H1 g1)
    | true => exact iteT (((hb rfl).up g1.st) H1 g1.sub _ fun S2 H2 g2 => q S2 H2 (g1.trans g2)))
theorem ew_or {rest : List Expr} (ha : ET X σ S a k1) (hb : k1 = false → EW X σ S (.BoolOp .Or (b :: rest) pos) k2) : EW X σ S (.BoolOp .Or (a :: b :: rest) pos) (k1 || k2) := fun H s Q q =>
  hw_of (pw_or ptb pwb) (ha H s _ fun S1 H1 g1 => by
    cases k1 with
    | true => exact iteT (q S1 H1 g1)
    | false => exact iteF (((hb rfl).up g1.st) H1 g1.sub _ fun S2 H2 g2 => q S2 H2 (g1.trans g2)))
theorem ee_if {Q' : V → Hp → Prop} [Mn Q'] (hc : ET X σ S c k) (ha : k = true → EE X σ S a Q') (hb : k = false → EE X σ S b Q') : EE X σ S (.IfExp c a b pos) Q' := fun H s Q q =>
  he_of (pe_ifExp ptb peb peb) (hc H s _ fun S1 H1 g1 => by
    cases k with
    | false => exact iteF (((hb rfl).up g1.st) H1 g1.sub _ fun y S2 H2 g2 py => q y S2 H2 (g1.trans g2) py)
    | true => exact iteT (((ha rfl).up g1.st) H1 g1.sub _ fun y S2 H2 g2 py => q y S2 H2 (g1.trans g2) py))
/-- truth of a value -/
def truD : PyData → Bool
  | .none => false
  | .bool b => b
  | .int i => i != 0
  | .str x => (x.length : Int) != 0
  | .list xs => !xs.isEmpty
  | .tuple xs => !xs.isEmpty
  | .dict kvs => !kvs.isEmpty
theorem isEmpty_len {α β : Type} {xs : List α} {ys : List β} (h : xs.length = ys.length) : xs.isEmpty = ys.isEmpty := by
  cases xs <;> cases ys <;> simp_all
theorem truV_of {K : PySem.W.Frag} {v : V} {H : Hp} (h : Dt K d v H) (hs : ∀ x, d = .str x → x.length ≤ sizeLine) : TruV K v H (truD d) := by
  cases h with
  | non => rfl
  | bl b => rfl
  | int i => rfl
  | str x => exact ⟨hs x rfl, rfl⟩
  | lst h l z f => exact .inl ⟨_, sql_of h, by show (!_) = _; rw [isEmpty_len l]⟩
  | tup h l z f => exact .inr (.inl ⟨_, h.sq, by show (!_) = _; rw [isEmpty_len l]⟩)
theorem et_tru (ha : EE X σ S a (Dt X.K d)) (hs : ∀ x, d = .str x → x.length ≤ sizeLine) (he : ∀ whole, isTrue a X.env whole = (do let v ← whole; standAt a.pos; holding [v] (truthy v)) := by intro _; rfl) : ET X σ S a (truD d) := fun H s Q q =>
  ht_of (pt_truth peb he) (ha H s _ fun x S1 H1 g1 px => ⟨_, truV_of (px.up g1.sub) hs, q S1 H1 g1⟩)
/-! ### displays -/
theorem ee_tupA {es : List Expr} {x1} {vsP : List V → Hp → Prop} (h : ∀ H, Same S H → ∀ Q : List V → Hp → Prop, (∀ vs S' H', Gr S H S' H' → vsP vs S' → Q vs H') → HA X es σ H Q) (hz : ∀ vs S', vsP vs S' → vs.length ≤ sizeLine)
    (hR : ∀ vs S' p, Same S S' → S' p = none → vsP vs S' → R (.ref p) (upd S' p (.tup vs))) : EE X σ S (.Tuple es x1 pos) R := fun H s Q q =>
  he_of (pe_tup pab) (h H s _ fun vs S1 H1 g1 al => ⟨hz vs S1 al, fun p hp => q _ _ _ (g1.trans (Gr.new g1.sub hp)) (hR vs S1 p g1.st (g1.sub.free hp) al)⟩)
theorem ee_lstA {es : List Expr} {vsP : List V → Hp → Prop} (h : ∀ H, Same S H → ∀ Q : List V → Hp → Prop, (∀ vs S' H', Gr S H S' H' → vsP vs S' → Q vs H') → HA X es σ H Q) (hz : ∀ vs S', vsP vs S' → vs.length ≤ sizeLine)
    (hR : ∀ vs S' p, Same S S' → S' p = none → vsP vs S' → R (.ref p) (upd S' p (.lst vs))) : EE X σ S (.List es pos) R := fun H s Q q =>
  he_of (pe_lst pab) (h H s _ fun vs S1 H1 g1 al => ⟨hz vs S1 al, fun p hp => q _ _ _ (g1.trans (Gr.new g1.sub hp)) (hR vs S1 p g1.st (g1.sub.free hp) al)⟩)
def Ds (K : PySem.W.Frag) (ds : List PyData) : List (V → Hp → Prop) := ds.map (Dt K)
theorem al_dts {K : PySem.W.Frag} : ∀ {ds : List PyData} {vs : List V} {H : Hp}, Al (Ds K ds) vs H → Dts K ds vs H
  | [], _, _, h => by cases h; exact .nil
  | d :: ds, _, _, h => by cases h with
    | cons p r => exact .cons p (al_dts r)
theorem dts_al {K : PySem.W.Frag} : ∀ {ds : List PyData} {vs : List V} {H : Hp}, Dts K ds vs H → Al (Ds K ds) vs H
  | [], [], _, h => .nil
  | [], _ :: _, _, h => by have := h.1; simp at this
  | _ :: _, [], _, h => by have := h.1; simp at this
  | d :: ds, v :: vs, _, h => .cons (h.2 0 v d rfl rfl) (dts_al ⟨by have := h.1; simpa using this, fun i x d hx hd => h.2 (i + 1) x d (by simpa using hx) (by simpa using hd)⟩)
theorem ee_tup {es : List Expr} {x1} {ds : List PyData} (h : EA X σ S es (Ds X.K ds)) (hz : ds.length ≤ sizeLine := by show _ ≤ 16777216; exact Nat.le_of_ble_eq_true rfl) : EE X σ S (.Tuple es x1 pos) (Dt X.K (.tuple ds)) :=
  ee_tupA (vsP := Al (Ds X.K ds)) h.2 (fun vs S' al => by rw [(al_dts al).1]; exact hz) fun vs S' p _ hp al => Dt.tup_mk (tus_of upd_same) ((al_dts al).up (Same.new hp)) (by rw [(al_dts al).1]; exact hz)
theorem ee_lst {es : List Expr} {ds : List PyData} (h : EA X σ S es (Ds X.K ds)) (hz : ds.length ≤ sizeLine := by show _ ≤ 16777216; exact Nat.le_of_ble_eq_true rfl) : EE X σ S (.List es pos) (Dt X.K (.list ds)) :=
  ee_lstA (vsP := Al (Ds X.K ds)) h.2 (fun vs S' al => by rw [(al_dts al).1]; exact hz) fun vs S' p _ hp al => Dt.lst_mk upd_same ((al_dts al).up (Same.new hp)) (by rw [(al_dts al).1]; exact hz)
end
end Z
namespace Z
open PySem PySem.Spec PyProof.Rows L2
/-! ## 7. calls of built-ins, sequences -/
theorem dts_int {K : PySem.W.Frag} : ∀ {ns : List Int} {xs : List V} {H : Hp}, Dts K (ns.map PyData.int) xs H → xs = ns.map V.int
  | [], [], _, _ => rfl
  | [], _ :: _, _, h => by have := h.1; simp at this
  | _ :: _, [], _, h => by have := h.1; simp at this
  | n :: ns, x :: xs, _, h => by
    have e1 := (h.2 0 x (.int n) rfl rfl).int_inv
    have e2 := dts_int (ns := ns) (xs := xs) ⟨by have := h.1; simpa using this, fun i y d hy hd => h.2 (i + 1) y d (by simpa using hy) (by simpa using hd)⟩
    rw [e1, e2]; rfl
theorem dts_bl {K : PySem.W.Frag} : ∀ {ns : List Bool} {xs : List V} {H : Hp}, Dts K (ns.map PyData.bool) xs H → xs = ns.map V.bl
  | [], [], _, _ => rfl
  | [], _ :: _, _, h => by have := h.1; simp at this
  | _ :: _, [], _, h => by have := h.1; simp at this
  | n :: ns, x :: xs, _, h => by
    have e1 := (h.2 0 x (.bool n) rfl rfl).bl_inv
    have e2 := dts_bl (ns := ns) (xs := xs) ⟨by have := h.1; simpa using this, fun i y d hy hd => h.2 (i + 1) y d (by simpa using hy) (by simpa using hd)⟩
    rw [e1, e2]; rfl
theorem int_dts {K : PySem.W.Frag} (ns : List Int) (H : Hp) : Dts K (ns.map PyData.int) (ns.map V.int) H := by
  refine ⟨by simp, fun i x d hx hd => ?_⟩
  rw [List.getElem?_map] at hx hd
  cases e : ns[i]? with
  | none => rw [e] at hx; cases hx
  | some n => rw [e] at hx hd; cases hx; cases hd; exact .int n
def tyN : PyData → String
  | .none => "NoneType"
  | .bool _ => "bool"
  | .int _ => "int"
  | .str _ => "str"
  | .list _ => "list"
  | .tuple _ => "tuple"
  | .dict _ => "dict"
theorem tyX_of {K : PySem.W.Frag} {d : PyData} {v : V} {S H : Hp} (h : Dt K d v S) (s : Same S H) : TyX K H v (.type (tyN d)) := by
  cases h with
  | non => exact .base .non
  | bl b => exact .base (.bl b)
  | int i => exact .base (.int i)
  | str x => exact .base (.str x)
  | lst h l z f => exact .base (.lst (s _ _ h))
  | tup h l z f =>
    have h := h.sq
    rcases h with (h | ⟨o, h⟩) | ⟨o, its, n, h, c, _⟩
    · exact .base (.tup (s _ _ h))
    · exact .fTuple (s _ _ h)
    · exact .kTuple h c
/-- what isinstance says of data -/
def isN (t T : String) : Bool := t == T || (t == "bool" && T == "int")
theorem kit_tab : (["NoneType", "bool", "int", "str", "list", "tuple", "dict"].all fun t => ["int", "bool", "str", "list", "tuple"].all fun T => decide (kitB t T = some (isN t T))) = true := by decide +kernel
def isD (d : PyData) (T : String) : Bool := isN (tyN d) T
theorem isD_ok (d : PyData) {T : String} (hT : T ∈ ["int", "bool", "str", "list", "tuple"]) : kitB (tyN d) T = some (isD d T) := by
  have h := List.all_eq_true.mp (List.all_eq_true.mp kit_tab (tyN d) (by cases d <;> simp [tyN])) T hT
  exact of_decide_eq_true h
theorem isDi (d : PyData) : isD d "int" = (match d with | .int _ => true | .bool _ => true | _ => false) := by cases d <;> rfl
theorem isDb (d : PyData) : isD d "bool" = (match d with | .bool _ => true | _ => false) := by cases d <;> rfl
theorem isDl (d : PyData) : isD d "list" = (match d with | .list _ => true | _ => false) := by cases d <;> rfl
theorem isDt (d : PyData) : isD d "tuple" = (match d with | .tuple _ => true | _ => false) := by cases d <;> rfl
section
variable {X : Cx} {σ : L2.St} {S S' : Hp} {e a b c : Expr} {es : List Expr} {P Pa Pb R : V → Hp → Prop} {Ps : List (V → Hp → Prop)} {pos p : Pos} {i j : Int} {d d1 d2 : PyData} {ds ds1 ds2 : List PyData} {k : Bool} {x : Str} {id T : String}
def ClE (r : List V → Hp → VK → Prop) (S : Hp) (Ps : List (V → Hp → Prop)) (R : V → Hp → Prop) : Prop := ∀ vs S1 H1, Same S S1 → Same S1 H1 → Al Ps vs S1 → ∀ Q : VK, (∀ v S2 H2, Gr S1 H1 S2 H2 → R v S2 → Q v H2) → r vs H1 Q
theorem ee_callA {t : List V → Hp → VK → Prop} (hp : PE X e (tCB t (bA X es))) (ha : EA X σ S es Ps) (hr : ClE t S Ps R) : EE X σ S e R := fun H s Q q =>
  he_of hp (ha.2 H s _ fun vs S1 H1 g1 al => hr vs S1 H1 g1.st g1.sub al Q fun v S2 H2 g2 rv => q v S2 H2 (g1.trans g2) rv)
theorem ee_callB {t : List V → Hp → VK → Prop} (hc : CallR X (.builtin id) t) (hm : X.mg x = none) (hv : bootBuiltins x = some (.builtin id)) (ha : EA X σ S (e :: es) Ps) (hr : ClE t S Ps R) (hg : Gl X x := by rfl) (hn : x ≠ "__name__" := by decide) (hdb : (x == ("__debug__" : Str)) = false := by decide)
    (he : starEach (e :: es) X.env = (false, eval e X.env) :: starEach es X.env := by rfl) (hpl : (backTo pos (starEach es X.env)).any (·.1) = false := by rfl) : EE X σ S (.Call (.Name x p) (e :: es) [] pos) R :=
  ee_callA (pe_callB hc hg hm hv pab hn hdb he hpl) ha hr
theorem ee_callTy {t : List V → Hp → VK → Prop} (hc : CallR X (.type T) t) (hm : X.mg x = none) (hv : bootBuiltins x = some (.type T)) (ha : EA X σ S (e :: es) Ps) (hr : ClE t S Ps R) (hg : Gl X x := by rfl) (hn : x ≠ "__name__" := by decide) (hdb : (x == ("__debug__" : Str)) = false := by decide)
    (he : starEach (e :: es) X.env = (false, eval e X.env) :: starEach es X.env := by rfl) (hpl : (backTo pos (starEach es X.env)).any (·.1) = false := by rfl) : EE X σ S (.Call (.Name x p) (e :: es) [] pos) R :=
  ee_callA (pe_callTy hc hg hm hv pab hn hdb he hpl) ha hr
theorem ea_1 [Mn P] (h : EE X σ S e P) (hs : starEach [e] X.env = (false, eval e X.env) :: starEach [] X.env := by rfl) : EA X σ S [e] [P] := ea_cons h ea_nil hs
theorem ea_2 [Mn Pa] [Mn Pb] (h : EE X σ S a Pa) (h2 : EE X σ S b Pb) (hs : starEach [a, b] X.env = (false, eval a X.env) :: starEach [b] X.env := by rfl) (hs2 : starEach [b] X.env = (false, eval b X.env) :: starEach [] X.env := by rfl) : EA X σ S [a, b] [Pa, Pb] := ea_cons h (ea_cons h2 ea_nil hs2) hs
theorem Al.one {Pa : V → Hp → Prop} {vs : List V} {H : Hp} (h : Al [Pa] vs H) : ∃ v, vs = [v] ∧ Pa v H := by
  cases h with
  | cons p r => cases r; exact ⟨_, rfl, p⟩
theorem Al.two {Pa Pb : V → Hp → Prop} {vs : List V} {H : Hp} (h : Al [Pa, Pb] vs H) : ∃ v w, vs = [v, w] ∧ Pa v H ∧ Pb w H := by
  cases h with
  | cons p r => cases r with
    | cons p2 r2 => cases r2; exact ⟨_, _, rfl, p, p2⟩
theorem Al.three {Pa Pb Pc : V → Hp → Prop} {vs : List V} {H : Hp} (h : Al [Pa, Pb, Pc] vs H) : ∃ v w u, vs = [v, w, u] ∧ Pa v H ∧ Pb w H ∧ Pc u H := by
  cases h with
  | cons p r => obtain ⟨w, u, rfl, q1, q2⟩ := Al.two r; exact ⟨_, _, _, rfl, p, q1, q2⟩
theorem ee_isi {cn : Str} {T : String} (hk : kitB (tyN d) T = some k) (hm : X.mg "isinstance" = none) (hmT : X.mg cn = none) (hv : bootBuiltins cn = some (.type T)) (ha : EE X σ S a (Dt X.K d)) {p2 : Pos} (hg : Gl X "isinstance" := by rfl) (hgT : Gl X cn := by rfl) (hn : cn ≠ "__name__" := by decide) (hdb : (cn == ("__debug__" : Str)) = false := by decide)
    (hs : starEach [a, .Name cn p2] X.env = (false, eval a X.env) :: starEach [.Name cn p2] X.env := by rfl) : EE X σ S (.Call (.Name "isinstance" p) [a, .Name cn p2] [] pos) (Dt X.K (.bool k)) := by
  haveI : Mn (fun (w : V) (_ : Hp) => w = .ty T) := ⟨fun _ h => h⟩
  refine ee_callB call_isi hm boot_isinstance (ea_2 ha (ee_bltn (P := fun w _ => w = .ty T) (v := .ty T) (u := .type T) hmT hv rfl rfl hgT hn hdb) hs rfl) (fun vs S1 H1 _ s al Q q => ?_) hg (he := hs) (hpl := by rfl)
  obtain ⟨v, w, rfl, pv, pw⟩ := al.two
  subst pw
  exact ⟨v, .ty T, .type (tyN d), .type T, k, rfl, .ty T, tyX_of pv s, kit_ty hk, q _ S1 H1 (Gr.refl s) (.bl k)⟩
/-- len -/
def lenD : PyData → Option Nat
  | .str x => some x.length
  | .list xs => some xs.length
  | .tuple xs => some xs.length
  | _ => none
theorem ee_len {n : Nat} (hm : X.mg "len" = none) (hl : lenD d = some n) (ha : EE X σ S a (Dt X.K d)) (hz : ∀ x, d = .str x → x.length ≤ sizeLine := by intro _ h; cases h) (hg : Gl X "len" := by rfl)
    (hs : starEach [a] X.env = (false, eval a X.env) :: starEach [] X.env := by rfl) : EE X σ S (.Call (.Name "len" p) [a] [] pos) (Dt X.K (.int n)) :=
  ee_callB call_len hm boot_len (ea_1 ha hs) (fun vs S1 H1 _ s al Q q => by
    obtain ⟨v, rfl, pv⟩ := al.one
    refine ⟨v, n, rfl, ?_, q _ S1 H1 (Gr.refl s) (.int _)⟩
    cases pv with
    | non => cases hl
    | bl b => cases hl
    | int i => cases hl
    | str x => cases hl; exact ⟨hz x rfl, rfl⟩
    | lst h l z f => cases hl; exact .inl ⟨_, sql_of (s _ _ h), l.symm⟩
    | tup h l z f => cases hl; exact .inr ⟨_, sqt_up s h.sq, l.symm⟩) hg (he := hs) (hpl := by rfl)
theorem ee_tupleOf (hm : X.mg "tuple" = none) (ha : EE X σ S a (Dt X.K (.list ds))) (hg : Gl X "tuple" := by rfl)
    (hs : starEach [a] X.env = (false, eval a X.env) :: starEach [] X.env := by rfl) : EE X σ S (.Call (.Name "tuple" p) [a] [] pos) (Dt X.K (.tuple ds)) :=
  ee_callTy call_tuple_of hm boot_tuple (ea_1 ha hs) (fun vs S1 H1 _ s al Q q => by
    obtain ⟨v, rfl, pv⟩ := al.one
    obtain ⟨l, xs, rfl, hl, hx, z⟩ := pv.lst_inv
    exact ⟨l, xs, rfl, .inl ⟨sql_of (s _ _ hl), fun t ht => q _ _ _ (Gr.new s ht) (Dt.tup_mk (tus_of upd_same) (hx.up (Same.new (s.free ht))) z)⟩⟩) hg (he := hs) (hpl := by rfl)
theorem ee_sum {ns : List Int} (hc : X.calm = true) (hm : X.mg "sum" = none) (ha : EE X σ S a (Dt X.K (.list (ns.map .int)))) (hg : Gl X "sum" := by rfl)
    (hs : starEach [a] X.env = (false, eval a X.env) :: starEach [] X.env := by rfl) : EE X σ S (.Call (.Name "sum" p) [a] [] pos) (Dt X.K (.int ns.sum)) :=
  ee_callB (cr_sum hc) hm boot_sum (ea_1 ha hs) (fun vs S1 H1 _ s al Q q => by
    obtain ⟨v, rfl, pv⟩ := al.one
    obtain ⟨l, xs, rfl, hl, hx, z⟩ := pv.lst_inv
    rw [dts_int hx] at hl
    exact ⟨l, ns, rfl, sql_of (s _ _ hl), q _ S1 H1 (Gr.refl s) (.int _)⟩) hg (he := hs) (hpl := by rfl)
theorem ee_all {bs : List Bool} (hc : X.calm = true) (hm : X.mg "all" = none) (ha : EE X σ S a (Dt X.K (.list (bs.map .bool)))) (hg : Gl X "all" := by rfl)
    (hs : starEach [a] X.env = (false, eval a X.env) :: starEach [] X.env := by rfl) : EE X σ S (.Call (.Name "all" p) [a] [] pos) (Dt X.K (.bool (bs.all fun b => b))) :=
  ee_callB (cr_all hc) hm boot_all (ea_1 ha hs) (fun vs S1 H1 _ s al Q q => by
    obtain ⟨v, rfl, pv⟩ := al.one
    obtain ⟨l, xs, rfl, hl, hx, z⟩ := pv.lst_inv
    rw [dts_bl hx] at hl
    exact ⟨l, bs, rfl, sql_of (s _ _ hl), q _ S1 H1 (Gr.refl s) (.bl _)⟩) hg (he := hs) (hpl := by rfl)
theorem ee_any {bs : List Bool} (hc : X.calm = true) (hm : X.mg "any" = none) (ha : EE X σ S a (Dt X.K (.list (bs.map .bool)))) (hg : Gl X "any" := by rfl)
    (hs : starEach [a] X.env = (false, eval a X.env) :: starEach [] X.env := by rfl) : EE X σ S (.Call (.Name "any" p) [a] [] pos) (Dt X.K (.bool (bs.any fun b => b))) :=
  ee_callB (cr_any hc) hm boot_any (ea_1 ha hs) (fun vs S1 H1 _ s al Q q => by
    obtain ⟨v, rfl, pv⟩ := al.one
    obtain ⟨l, xs, rfl, hl, hx, z⟩ := pv.lst_inv
    rw [dts_bl hx] at hl
    exact ⟨l, bs, rfl, sql_of (s _ _ hl), q _ S1 H1 (Gr.refl s) (.bl _)⟩) hg (he := hs) (hpl := by rfl)
theorem ee_intOf (hm : X.mg "int" = none) (ha : EE X σ S a (Dt X.K (.int i))) (hg : Gl X "int" := by rfl)
    (hs : starEach [a] X.env = (false, eval a X.env) :: starEach [] X.env := by rfl) : EE X σ S (.Call (.Name "int" p) [a] [] pos) (Dt X.K (.int i)) :=
  ee_callTy call_int1 hm boot_int (ea_1 ha hs) (fun vs S1 H1 _ s al Q q => by
    obtain ⟨v, rfl, pv⟩ := al.one
    cases pv
    exact .inl ⟨i, rfl, q _ S1 H1 (Gr.refl s) (.int _)⟩) hg (he := hs) (hpl := by rfl)
theorem ee_strOf (hm : X.mg "str" = none) (hb : i.natAbs.log2 < 1920) (ha : EE X σ S a (Dt X.K (.int i))) (hg : Gl X "str" := by rfl)
    (hs : starEach [a] X.env = (false, eval a X.env) :: starEach [] X.env := by rfl) : EE X σ S (.Call (.Name "str" p) [a] [] pos) (Dt X.K (.str (toString i))) :=
  ee_callTy call_str_int hm boot_str (ea_1 ha hs) (fun vs S1 H1 _ s al Q q => by
    obtain ⟨v, rfl, pv⟩ := al.one
    cases pv
    exact ⟨i, rfl, hb, q _ S1 H1 (Gr.refl s) (.str _)⟩) hg (he := hs) (hpl := by rfl)
/-! ### subscripts -/
theorem atI_dts {K : PySem.W.Frag} {xs : List V} {H : Hp} (h : Dts K ds xs H) (e : atI ds i = some d) : ∃ x, atI xs i = some x ∧ Dt K d x H := by
  unfold atI at e ⊢
  rw [h.1]
  cases q : ixN ds.length i with
  | none => rw [q] at e; cases e
  | some k =>
    rw [q] at e
    exact h.get (i := k) e
theorem ee_ixL (he : atI ds i = some d) (ha : EE X σ S a (Dt X.K (.list ds))) (hb : EE X σ S b (Dt X.K (.int i))) (hs : PlainIx b := by exact fun _ _ => rfl) : EE X σ S (.Subscript a b pos) (Dt X.K d) :=
  ee_2 (pe_ix ix_list peb peb hs) ha hb fun x y S1 H1 _ s px py Q q => by
    cases py
    obtain ⟨l, xs, rfl, hl, hx, z⟩ := px.lst_inv
    obtain ⟨x, h1, h2⟩ := atI_dts hx he
    exact ⟨l, xs, i, x, rfl, rfl, sql_of (s _ _ hl), h1, q _ S1 H1 (Gr.refl s) h2⟩
theorem ee_ixT (he : atI ds i = some d) (ha : EE X σ S a (Dt X.K (.tuple ds))) (hb : EE X σ S b (Dt X.K (.int i))) (hs : PlainIx b := by exact fun _ _ => rfl) : EE X σ S (.Subscript a b pos) (Dt X.K d) :=
  ee_2 (pe_ix ix_tup peb peb hs) ha hb fun x y S1 H1 _ s px py Q q => by
    cases py
    obtain ⟨l, xs, rfl, hl, hx, z⟩ := px.tup_inv
    obtain ⟨x, h1, h2⟩ := atI_dts hx he
    exact ⟨l, xs, i, x, rfl, rfl, sqt_up s hl, h1, q _ S1 H1 (Gr.refl s) h2⟩
/-- slices -/
def EO (X : Cx) (σ : L2.St) (S : Hp) (e : Option Expr) (o : Option Int) : Prop := ∀ H, Same S H → ∀ Q : Option Int → Hp → Prop, (∀ S' H', Gr S H S' H' → Q o H') → ∃ t, PO X e t ∧ t σ H Q
def tOb (X : Cx) (e : Option Expr) : TO := fun σ H Q => ∃ t, PO X e t ∧ t σ H Q
theorem pob {e : Option Expr} : PO X e (tOb X e) := ⟨fun pins s σ H Q I ⟨t, ht, h⟩ => ht.run pins s σ H Q I h⟩
theorem eo_none : EO X σ S none none := fun H s Q q => ⟨_, po_none, q S H (Gr.refl s)⟩
theorem eo_some (h : EE X σ S e (Dt X.K (.int i))) : EO X σ S (some e) (some i) := fun H s Q q => ⟨_, po_some peb, h H s _ fun v S1 H1 g1 pv => by cases pv; exact ⟨i, rfl, q S1 H1 g1⟩⟩
theorem EO.up {o : Option Int} {oe : Option Expr} (s : Same S S') (h : EO X σ S oe o) : EO X σ S' oe o := fun H a Q q => h H (s.trans a) Q fun S2 H2 g => q (uniS S2 S') H2 (g.uni s a)
def cutD {α : Type} (xs : List α) (lo hi : Option Int) : List α := (xs.drop (HT.sIx xs.length 0 lo)).take (HT.sIx xs.length xs.length hi - HT.sIx xs.length 0 lo)
theorem cut_dts {K : PySem.W.Frag} {xs : List V} {H : Hp} {lo hi : Option Int} (h : Dts K ds xs H) : Dts K (cutD ds lo hi) (cutV xs lo hi) H := by
  unfold cutD cutV
  rw [h.1]
  refine ⟨by simp [List.length_take, List.length_drop, h.1], fun i x d hx hd => ?_⟩
  rw [List.getElem?_take] at hx hd
  split at hx
  · rename_i hlt
    rw [if_pos hlt, List.getElem?_drop] at hd
    rw [List.getElem?_drop] at hx
    exact h.2 _ x d hx hd
  · cases hx
theorem ee_slL {lo hi : Option Expr} {l u : Option Int} {p2 : Pos} (ha : EE X σ S a (Dt X.K (.list ds))) (hl : EO X σ S lo l) (hu : EO X σ S hi u) : EE X σ S (.Subscript a (.Slice lo hi none p2) pos) (Dt X.K (.list (cutD ds l u))) := fun H s Q q =>
  he_of (pe_slice sl_list peb pob pob) (ha H s _ fun v S1 H1 g1 pv => (hl.up g1.st) H1 g1.sub _ fun S2 H2 g2 => (hu.up (g1.st.trans g2.st)) H2 g2.sub _ fun S3 H3 g3 => by
    obtain ⟨l, xs, rfl, hl, hx, z⟩ := ((pv.up g2.st).up g3.st).lst_inv
    exact ⟨l, xs, rfl, sql_of (g3.sub _ _ hl), fun t ht => q _ _ _ (((g1.trans g2).trans g3).trans (Gr.new g3.sub ht)) (Dt.lst_mk upd_same ((cut_dts hx).up (Same.new (g3.sub.free ht))) (Nat.le_trans (cutV_length _ _ _) z))⟩)
/-! ### + and * of sequences -/
theorem ee_catL (hz : ds1.length + ds2.length ≤ sizeLine) (ha : EE X σ S a (Dt X.K (.list ds1))) (hb : EE X σ S b (Dt X.K (.list ds2))) : EE X σ S (.BinOp a .Add b pos) (Dt X.K (.list (ds1 ++ ds2))) :=
  ee_op op_cat ha hb fun x y S1 H1 _ s px py Q q => by
    obtain ⟨l, xs, rfl, hl, hx, _⟩ := px.lst_inv
    obtain ⟨m, ys, rfl, hm, hy, _⟩ := py.lst_inv
    have hz' : xs.length + ys.length ≤ sizeLine := by rw [hx.1, hy.1]; exact hz
    exact ⟨l, m, xs, ys, rfl, rfl, s _ _ hl, s _ _ hm, hz', fun t ht => q _ _ _ (Gr.new s ht) (Dt.lst_mk upd_same ((hx.append hy).up (Same.new (s.free ht))) (by rw [List.length_append]; exact hz'))⟩
theorem ee_catS {x y : Str} (hz : x.length + y.length ≤ sizeLine) (ha : EE X σ S a (Dt X.K (.str x))) (hb : EE X σ S b (Dt X.K (.str y))) : EE X σ S (.BinOp a .Add b pos) (Dt X.K (.str (x ++ y))) :=
  ee_op op_add_str ha hb fun v w S1 H1 _ s px py Q q => by
    cases px; cases py
    exact ⟨x, y, rfl, rfl, hz, q _ S1 H1 (Gr.refl s) (.str _)⟩
theorem flat_dts {K : PySem.W.Frag} {xs : List V} {H : Hp} (f : List.replicate 0 d = []) (h : Dts K ds xs H) : ∀ (n : Nat), Dts K (List.replicate n ds).flatten (List.replicate n xs).flatten H
  | 0 => .nil
  | n + 1 => by
    rw [List.replicate_succ, List.flatten_cons, List.replicate_succ, List.flatten_cons]
    exact h.append (flat_dts f h n)
theorem flatten_len {α : Type} (xs : List α) : ∀ n : Nat, (List.replicate n xs).flatten.length = xs.length * n
  | 0 => by simp
  | n + 1 => by rw [List.replicate_succ, List.flatten_cons, List.length_append, flatten_len xs n, Nat.mul_succ]; omega
theorem ee_repL (h1 : -(2 ^ 63) ≤ i) (h2 : i < 2 ^ 63) (hz : ds.length * i.toNat ≤ sizeLine) (ha : EE X σ S a (Dt X.K (.list ds))) (hb : EE X σ S b (Dt X.K (.int i))) : EE X σ S (.BinOp a .Mult b pos) (Dt X.K (.list (List.replicate i.toNat ds).flatten)) :=
  ee_op op_rep ha hb fun x y S1 H1 _ s px py Q q => by
    cases py
    obtain ⟨l, xs, rfl, hl, hx, _⟩ := px.lst_inv
    have hz' : xs.length * i.toNat ≤ sizeLine := by rw [hx.1]; exact hz
    exact ⟨l, i, xs, rfl, rfl, s _ _ hl, h1, h2, hz', fun t ht => q _ _ _ (Gr.new s ht) (Dt.lst_mk upd_same ((flat_dts (d := .none) rfl hx _).up (Same.new (s.free ht))) (by rw [flatten_len]; exact hz'))⟩
end
end Z
namespace Z
open PySem PySem.Spec PyProof.Rows L2
/-! ## 8. what is walked -/
/-- an iterator that gives, one by one, values that have the Ps; while B stands -/
def ItP (J : It) (B : Hp) (Ps : List (V → Hp → Prop)) : Prop := Walk J Ps.length (fun H => Same B H) (fun i H x H' => ∀ S, Same B S → Same S H → ∃ S', Gr S H S' H' ∧ ∃ P, Ps[i]? = some P ∧ P x S')
def EI (X : Cx) (σ : L2.St) (S : Hp) (tg iter : Expr) (Ps : List (V → Hp → Prop)) : Prop := ∀ H, Same S H → ∀ R : It → Hp → Prop, (∀ J S' H', Gr S H S' H' → ItP J S' Ps → R J H') → HI X tg iter σ H R
section
variable {X : Cx} {σ : L2.St} {S S' : Hp} {e a b tg : Expr} {pos p : Pos} {d d1 d2 : PyData} {ds ds1 ds2 : List PyData}
theorem EI.up {Ps : List (V → Hp → Prop)} {it : Expr} (s : Same S S') (h : EI X σ S tg it Ps) : EI X σ S' tg it Ps := fun H a R q => h H (s.trans a) R fun J S2 H2 g w => q J (uniS S2 S') H2 (g.uni s a)
  ⟨fun i H hi hs => w.goes i H hi (uni_l.trans hs), fun H hs => w.stops H (uni_l.trans hs), fun i H x H' hi hs y T st th => w.yields i H x H' hi (uni_l.trans hs) y T (uni_l.trans st) th⟩
theorem ds_get {K : PySem.W.Frag} {i : Nat} (h : ds[i]? = some d) : (Ds K ds)[i]? = some (Dt K d) := by unfold Ds; rw [List.getElem?_map, h]; rfl
theorem ds_len {K : PySem.W.Frag} : (Ds K ds).length = ds.length := by unfold Ds; simp
theorem ei_list (ha : EE X σ S e (Dt X.K (.list ds))) : EI X σ S tg e (Ds X.K ds) := fun H s R q =>
  hi_of (pi_list peb) (ha H s _ fun v S1 H1 g1 pv => by
    obtain ⟨l, xs, rfl, hl, hx, z⟩ := pv.lst_inv
    refine ⟨l, rfl, ⟨xs, sql_of (g1.sub _ _ hl)⟩, q _ S1 H1 g1 ⟨fun i H hi hs => ?_, fun H hs => ?_, fun i H x H' hi hs y T st th => ?_⟩⟩
    · rw [ds_len, ← hx.1] at hi
      exact (walk_list (K := X.K) (a := l) (xs := xs)).goes i H hi (sql_of (hs _ _ hl))
    · rw [ds_len, ← hx.1]
      exact (walk_list (K := X.K) (a := l) (xs := xs)).stops H (sql_of (hs _ _ hl))
    · rw [ds_len, ← hx.1] at hi
      obtain ⟨rfl, hy⟩ := (walk_list (K := X.K) (a := l) (xs := xs)).yields i H x H' hi (sql_of (hs _ _ hl)) y
      have hi2 : i < ds.length := by rw [← hx.1]; exact hi
      exact ⟨T, Gr.refl th, _, ds_get (List.getElem?_eq_getElem hi2), (hx.2 i x _ hy (List.getElem?_eq_getElem hi2)).up st⟩)
theorem ei_tup (ha : EE X σ S e (Dt X.K (.tuple ds))) : EI X σ S tg e (Ds X.K ds) := fun H s R q =>
  hi_of (pi_tup peb) (ha H s _ fun v S1 H1 g1 pv => by
    obtain ⟨l, xs, rfl, hl, hx, z⟩ := pv.tup_inv
    refine ⟨l, rfl, ⟨xs, sqt_up g1.sub hl⟩, q _ S1 H1 g1 ⟨fun i H hi hs => ?_, fun H hs => ?_, fun i H x H' hi hs y T st th => ?_⟩⟩
    · rw [ds_len, ← hx.1] at hi
      exact (walk_tup (K := X.K) (a := l) (xs := xs)).goes i H hi (sqt_up hs hl)
    · rw [ds_len, ← hx.1]
      exact (walk_tup (K := X.K) (a := l) (xs := xs)).stops H (sqt_up hs hl)
    · rw [ds_len, ← hx.1] at hi
      obtain ⟨rfl, hy⟩ := (walk_tup (K := X.K) (a := l) (xs := xs)).yields i H x H' hi (sqt_up hs hl) y
      have hi2 : i < ds.length := by rw [← hx.1]; exact hi
      exact ⟨T, Gr.refl th, _, ds_get (List.getElem?_eq_getElem hi2), (hx.2 i x _ hy (List.getElem?_eq_getElem hi2)).up st⟩)
/-- 0, 1, .. below n -/
def upto (n : Nat) : List PyData := (List.range n).map fun i => .int (i : Nat)
theorem upto_get {n i : Nat} (h : i < n) : (upto n)[i]? = some (.int (i : Nat)) := by unfold upto; rw [List.getElem?_map, List.getElem?_range h]; rfl
theorem upto_len {n : Nat} : (upto n).length = n := by unfold upto; simp
theorem ei_range {n : Nat} (hm : X.mg "range" = none) (hn : (n : Int) < 2 ^ 62) (ha : EE X σ S a (Dt X.K (.int (n : Nat)))) (hg : Gl X "range" := by rfl) (hs : starEach [a] X.env = [(false, eval a X.env)] := by rfl) : EI X σ S tg (.Call (.Name "range" p) [a] [] pos) (Ds X.K (upto n)) := fun H s R q =>
  hi_of (pi_range1 hg hm pab hs) ((ea_1 ha (by rw [hs]; rfl)).2 H s _ fun vs S1 H1 g1 al => by
    obtain ⟨v, rfl, pv⟩ := al.one
    cases pv
    refine ⟨(n : Int), rfl, by omega, hn, q _ S1 H1 g1 ⟨fun i H hi hs => ?_, fun H hs => ?_, fun i H x H' hi hs y T st th => ?_⟩⟩
    · rw [ds_len, upto_len] at hi
      show i < ((n : Int)).toNat
      omega
    · rw [ds_len, upto_len]
      show ((n : Int)).toNat ≤ n
      omega
    · rw [ds_len, upto_len] at hi
      obtain ⟨rfl, rfl⟩ : H' = H ∧ x = .int (0 + (i : Int)) := y
      rw [Int.zero_add]
      exact ⟨T, Gr.refl th, _, ds_get (upto_get hi), .int _⟩)
/-- pairs -/
def zipD (xs ys : List PyData) : List PyData := List.zipWith (fun x y => .tuple [x, y]) xs ys
theorem zipD_get {i : Nat} {x y : PyData} (h1 : ds1[i]? = some x) (h2 : ds2[i]? = some y) : (zipD ds1 ds2)[i]? = some (.tuple [x, y]) := by
  unfold zipD
  rw [List.getElem?_zipWith, h1, h2]
theorem pair_new {K : PySem.W.Frag} {T H : Hp} {x y : V} {t : Addr} (th : Same T H) (ht : H t = none) (h1 : Dt K d1 x T) (h2 : Dt K d2 y T) : Dt K (.tuple [d1, d2]) (.ref t) (upd T t (.tup [x, y])) :=
  Dt.tup_mk (tus_of upd_same) ((Dts.cons h1 (Dts.cons h2 .nil)).up (Same.new (th.free ht))) (by show 2 ≤ 16777216; decide)
theorem ei_zipT {elts : List Expr} {kk : Nat} {tpos : Pos} (hm : X.mg "zip" = none) (ha : EE X σ S a (Dt X.K (.tuple ds1))) (hb : EE X σ S b (Dt X.K (.tuple ds2))) (hg : Gl X "zip" := by rfl)
    (hs : starEach [a, b] X.env = (false, eval a X.env) :: starEach [b] X.env := by rfl) (hs2 : starEach [b] X.env = (false, eval b X.env) :: starEach [] X.env := by rfl) (hpl : (backTo pos (starEach [b] X.env)).any (·.1) = false := by rfl) :
    EI X σ S (.Tuple elts kk tpos) (.Call (.Name "zip" p) [a, b] [] pos) (Ds X.K (zipD ds1 ds2)) := fun H s R q =>
  hi_of (RZ.pi_zipA hg hm pab hs hpl) ((ea_2 ha hb hs hs2).2 H s _ fun vs S1 H1 g1 al => by
    obtain ⟨v, w, rfl, pv, pw⟩ := al.two
    obtain ⟨l, xs, rfl, hl, hx, _⟩ := pv.tup_inv
    obtain ⟨m, ys, rfl, hm, hy, _⟩ := pw.tup_inv
    have hlen : (Ds X.K (zipD ds1 ds2)).length = min xs.length ys.length := by rw [ds_len]; unfold zipD; rw [List.length_zipWith, hx.1, hy.1]
    refine ⟨l, m, xs, ys, rfl, .inr ⟨sqt_up g1.sub hl, sqt_up g1.sub hm, q _ S1 H1 g1 ⟨fun i H hi hs => ?_, fun H hs => ?_, fun i H x H' hi hs y T st th => ?_⟩⟩⟩
    · rw [hlen] at hi
      exact ⟨xs, ys, xs[i]'(by omega), ys[i]'(by omega), sqt_up hs hl, sqt_up hs hm, by simp [show i < xs.length by omega], by simp [show i < ys.length by omega]⟩
    · rw [hlen]
      exact ⟨xs, ys, sqt_up hs hl, sqt_up hs hm, by omega⟩
    · rw [hlen] at hi
      obtain ⟨t, x1, y1, rfl, ht, rfl, k1, k2⟩ := y
      have i1 : i < ds1.length := by rw [← hx.1]; omega
      have i2 : i < ds2.length := by rw [← hy.1]; omega
      exact ⟨_, Gr.new th ht, _, ds_get (zipD_get (List.getElem?_eq_getElem i1) (List.getElem?_eq_getElem i2)), pair_new th ht ((hx.2 i _ _ (k1 xs (sqt_up hs hl)) (List.getElem?_eq_getElem i1)).up st) ((hy.2 i _ _ (k2 ys (sqt_up hs hm)) (List.getElem?_eq_getElem i2)).up st)⟩)
theorem ei_zipL {elts : List Expr} {kk : Nat} {tpos : Pos} (hm : X.mg "zip" = none) (ha : EE X σ S a (Dt X.K (.list ds1))) (hb : EE X σ S b (Dt X.K (.list ds2))) (hg : Gl X "zip" := by rfl)
    (hs : starEach [a, b] X.env = (false, eval a X.env) :: starEach [b] X.env := by rfl) (hs2 : starEach [b] X.env = (false, eval b X.env) :: starEach [] X.env := by rfl) (hpl : (backTo pos (starEach [b] X.env)).any (·.1) = false := by rfl) :
    EI X σ S (.Tuple elts kk tpos) (.Call (.Name "zip" p) [a, b] [] pos) (Ds X.K (zipD ds1 ds2)) := fun H s R q =>
  hi_of (RZ.pi_zipA hg hm pab hs hpl) ((ea_2 ha hb hs hs2).2 H s _ fun vs S1 H1 g1 al => by
    obtain ⟨v, w, rfl, pv, pw⟩ := al.two
    obtain ⟨l, xs, rfl, hl, hx, _⟩ := pv.lst_inv
    obtain ⟨m, ys, rfl, hm, hy, _⟩ := pw.lst_inv
    have hlen : (Ds X.K (zipD ds1 ds2)).length = min xs.length ys.length := by rw [ds_len]; unfold zipD; rw [List.length_zipWith, hx.1, hy.1]
    refine ⟨l, m, xs, ys, rfl, .inl ⟨sql_of (g1.sub _ _ hl), sql_of (g1.sub _ _ hm), q _ S1 H1 g1 ⟨fun i H hi hs => ?_, fun H hs => ?_, fun i H x H' hi hs y T st th => ?_⟩⟩⟩
    · rw [hlen] at hi
      exact ⟨xs, ys, xs[i]'(by omega), ys[i]'(by omega), sql_of (hs _ _ hl), sql_of (hs _ _ hm), by simp [show i < xs.length by omega], by simp [show i < ys.length by omega]⟩
    · rw [hlen]
      exact ⟨xs, ys, sql_of (hs _ _ hl), sql_of (hs _ _ hm), by omega⟩
    · rw [hlen] at hi
      obtain ⟨t, x1, y1, rfl, ht, rfl, k1, k2⟩ := y
      have i1 : i < ds1.length := by rw [← hx.1]; omega
      have i2 : i < ds2.length := by rw [← hy.1]; omega
      exact ⟨_, Gr.new th ht, _, ds_get (zipD_get (List.getElem?_eq_getElem i1) (List.getElem?_eq_getElem i2)), pair_new th ht ((hx.2 i _ _ (k1 xs (sql_of (hs _ _ hl))) (List.getElem?_eq_getElem i1)).up st) ((hy.2 i _ _ (k2 ys (sql_of (hs _ _ hm))) (List.getElem?_eq_getElem i2)).up st)⟩)
def enumD (xs : List PyData) : List PyData := zipD (upto xs.length) xs
theorem ei_enumL {elts : List Expr} {kk : Nat} {tpos : Pos} (hm : X.mg "enumerate" = none) (ha : EE X σ S a (Dt X.K (.list ds))) (hg : Gl X "enumerate" := by rfl) (hs : starEach [a] X.env = [(false, eval a X.env)] := by rfl) :
    EI X σ S (.Tuple elts kk tpos) (.Call (.Name "enumerate" p) [a] [] pos) (Ds X.K (enumD ds)) := fun H s R q =>
  hi_of (pi_enum hg hm pab hs) ((ea_1 ha (by rw [hs]; rfl)).2 H s _ fun vs S1 H1 g1 al => by
    obtain ⟨v, rfl, pv⟩ := al.one
    obtain ⟨l, xs, rfl, hl, hx, _⟩ := pv.lst_inv
    have hlen : (Ds X.K (enumD ds)).length = xs.length := by rw [ds_len]; unfold enumD zipD; rw [List.length_zipWith, upto_len, hx.1]; omega
    refine ⟨l, xs, rfl, sql_of (g1.sub _ _ hl), q _ S1 H1 g1 ⟨fun i H hi hs => ?_, fun H hs => ?_, fun i H x H' hi hs y T st th => ?_⟩⟩
    · rw [hlen] at hi
      exact ⟨xs, xs[i], sql_of (hs _ _ hl), by simp [hi]⟩
    · rw [hlen]
      exact ⟨xs, sql_of (hs _ _ hl), Nat.le_refl _⟩
    · rw [hlen] at hi
      obtain ⟨t, x1, rfl, ht, rfl, k1⟩ := y
      have i1 : i < ds.length := by rw [← hx.1]; omega
      exact ⟨_, Gr.new th ht, _, ds_get (zipD_get (upto_get i1) (List.getElem?_eq_getElem i1)), pair_new th ht (.int _) ((hx.2 i _ _ (k1 xs (sql_of (hs _ _ hl))) (List.getElem?_eq_getElem i1)).up st)⟩)
end
/-! ## 9. list comprehensions -/
def Ex (K : PySem.W.Frag) (F : PyData → Prop) : V → Hp → Prop := fun v S => ∃ d, F d ∧ Dt K d v S
instance {K : PySem.W.Frag} {F : PyData → Prop} : Mn (Ex K F) := ⟨fun s ⟨d, f, h⟩ => ⟨d, f, h.up s⟩⟩
def HTs (X : Cx) (ifs : List Expr) (σ : L2.St) (H : Hp) (Q : Bool → Hp → Prop) : Prop := ∀ (pins : List (Addr × Obj)) (s : Shared), Inv X pins σ H s →
    wpAny (model X.prog X.w) X.A (forIn ifs true fun c r => if r = true then do let ok ← isTrue c X.env (eval c X.env); pure (ForInStep.yield ok) else pure (ForInStep.yield r)) (TP X pins σ Q) X.xe s
def ETs (X : Cx) (σ : L2.St) (S : Hp) (ifs : List Expr) (b : Bool) : Prop := ∀ H, Same S H → ∀ Q : Bool → Hp → Prop, (∀ S' H', Gr S H S' H' → Q b H') → HTs X ifs σ H Q
theorem ets_nil {X : Cx} {σ : L2.St} {S : Hp} : ETs X σ S [] true := fun H s Q q pins sh I => pts_nil.run pins sh σ H Q I (q S H (Gr.refl s))
/-- a target that takes the value: the slots behind -/
def EG (X : Cx) (S : Hp) (tg : Expr) (v : V) (σ τ : L2.St) : Prop := ∀ H, Same S H → ∀ Q : L2.St → Hp → Prop, Q τ H → HG X tg v σ H Q
theorem eg_name {X : Cx} {S : Hp} {v : V} {σ : L2.St} {i : Nat} {x : Str} {pos : Pos} (hN : X.N.Nodup) (hi : X.N[i]? = some x) (hx : Loc X.env.scope x) (hf : X.fn x = true ∨ X.env.scope.names.lookup x = some .local := by first | exact .inl rfl | exact .inr rfl | assumption) : EG X S (.Name x pos) v σ (σ.set i (some v)) := fun H _ Q q => hg_of (pg_name hN hi hx hf) q
/-- two names from a pair -/
theorem eg_pair {X : Cx} {S : Hp} {d1 d2 : PyData} {v : V} {σ : L2.St} {i j : Nat} {x y : Str} {px py pos : Pos} {kk : Nat} (hc : X.calm = true) (hN : X.N.Nodup) (hi : X.N[i]? = some x) (hj : X.N[j]? = some y) (hx : Loc X.env.scope x) (hy : Loc X.env.scope y) (h : Dt X.K (.tuple [d1, d2]) v S)
    (hfx : X.fn x = true ∨ X.env.scope.names.lookup x = some .local := by first | exact .inl rfl | exact .inr rfl) (hfy : X.fn y = true ∨ X.env.scope.names.lookup y = some .local := by first | exact .inl rfl | exact .inr rfl)
    (hn : (assignEach [.Name x px, .Name y py] X.env).length = 2 := by rfl) (hst : (assignEach [.Name x px, .Name y py] X.env).findIdx? (·.1) = none := by rfl)
    (h1 : (assignEach [.Name x px, .Name y py] X.env).map (·.2) = assign (.Name x px) X.env :: (assignEach [.Name y py] X.env).map (·.2) := by rfl) (h2 : (assignEach [.Name y py] X.env).map (·.2) = assign (.Name y py) X.env :: (assignEach [] X.env).map (·.2) := by rfl) :
    ∃ v1 v2, Dt X.K d1 v1 S ∧ Dt X.K d2 v2 S ∧ EG X S (.Tuple [.Name x px, .Name y py] kk pos) v σ ((σ.set i (some v1)).set j (some v2)) := by
  obtain ⟨l, xs, rfl, hl, hx', _⟩ := h.tup_inv
  obtain ⟨v1, e1, p1⟩ := hx'.get (i := 0) rfl
  obtain ⟨v2, e2, p2⟩ := hx'.get (i := 1) rfl
  have hxs : xs = [v1, v2] := by
    have hl2 := hx'.1
    match xs, hl2 with
    | [u, w], _ => simp at e1 e2; rw [e1, e2]
  subst hxs
  exact ⟨v1, v2, p1, p2, fun H s Q q => hg_of (pg_tup hc (pgs_cons (pg_name hN hi hx hfx) (pgs_cons (pg_name hN hj hy hfy) pgs_nil h2) h1) hn hst) ⟨l, _, rfl, sqt_up s hl, rfl, _, _, rfl, _, _, rfl, rfl, q⟩⟩
theorem paired_snoc {α β : Type} {G : α → β → Prop} : ∀ {l : List α} {r : List β} {x : α} {y : β}, Paired G l r → G x y → Paired G (l ++ [x]) (r ++ [y])
  | _, _, _, _, .nil, h => .cons h .nil
  | _, _, _, _, .cons g t, h => .cons g (paired_snoc t h)
theorem paired_map {α β : Type} {f : α → β} : ∀ {l : List α} {r : List β}, Paired (fun a b => b = f a) l r → r = l.map f
  | _, _, .nil => rfl
  | _, _, .cons g t => by rw [g, paired_map t]; rfl
theorem take_snoc {α : Type} {l : List α} {i : Nat} {x : α} (h : l[i]? = some x) : l.take (i + 1) = l.take i ++ [x] := by
  rw [List.take_add_one, h]
  rfl
def gBlk (X : Cx) (scope : Scope) (tg : Expr) : TG := fun v σ' H' Q' => ∀ (s : Shared) (H0 : Hp) (C : Addr) (cl : List (Str × Addr)) (fp : List Addr), HG (X.blk s H0 scope (compEnvC scope cl C X.env) fp) tg v σ' H' Q'
def tBlk (X : Cx) (scope : Scope) (ifs : List Expr) : TT := fun σ' H' Q' => ∀ (s : Shared) (H0 : Hp) (C : Addr) (cl : List (Str × Addr)) (fp : List Addr), HTs (X.blk s H0 scope (compEnvC scope cl C X.env) fp) ifs σ' H' Q'
def eBlk (X : Cx) (scope : Scope) (e : Expr) : TE := fun σ' H' Q' => ∀ (s : Shared) (H0 : Hp) (C : Addr) (cl : List (Str × Addr)) (fp : List Addr), HE (X.blk s H0 scope (compEnvC scope cl C X.env) fp) e σ' H' Q'
section
variable {X : Cx} {σ : L2.St} {S : Hp} {elt tg iter : Expr} {ifs : List Expr} {scope : Scope} {own : List (Str × Nat)} {pos : Pos} {ds : List PyData} {p : PyData → Bool} {G : PyData → PyData → Prop}
theorem lc_loopG (hz : ds.length ≤ sizeLine)
    (hel : ∀ d ∈ ds, ∀ v S', Same S S' → Dt X.K d v S' → ∃ τ, wipe τ (own.map (·.2)) = wipe σ (own.map (·.2)) ∧ ∀ (s : Shared) (H0 : Hp) (C : Addr) (cl : List (Str × Addr)) (fp : List Addr),
      EG (X.blk s H0 scope (compEnvC scope cl C X.env) fp) S' tg v (wipe σ (own.map (·.2))) τ ∧ ETs (X.blk s H0 scope (compEnvC scope cl C X.env) fp) τ S' ifs (p d) ∧ (p d = true → EE (X.blk s H0 scope (compEnvC scope cl C X.env) fp) τ S' elt (Ex X.K (G d)))) {H : Hp} (Q : VK) (q : ∀ v S' H', Gr S H S' H' → (∃ rs, Paired G (ds.filter p) rs ∧ Dt X.K (.list rs) v S') → Q v H') {J : It} {S1 H1 : Hp} (g1 : Gr S H S1 H1) (it : ItP J S1 (Ds X.K ds)) :
    ∀ D, H1 D = none → ∃ W : Nat → Nat → Hp → Prop, (∃ m, W 0 m (upd H1 D (.lst []))) ∧ ∀ i m H, W i m H →
      (J.stop i H ∧ Q (.ref D) H) ∨ (J.go i H ∧ ∃ Nx : Hp → Prop, (∀ H', Nx H' → ∃ m', m' < m ∧ W (i + 1) m' H') ∧ ∀ x H', J.yld i H x H' → gBlk X scope tg x (wipe σ (own.map (·.2))) H' fun σ2 H2 => wipe σ2 (own.map (·.2)) = wipe σ (own.map (·.2)) ∧ tBlk X scope ifs σ2 H2 fun b H3 =>
        if b = true then eBlk X scope elt σ2 H3 fun y H4 => ∃ acc, H4 D = some (.lst acc) ∧ acc.length < sizeLine ∧ Nx (upd H4 D (.lst (acc ++ [y]))) else Nx H3) := by
  intro D hD
  have hD1 : S1 D = none := g1.sub.free hD
  have hlen : (Ds X.K ds).length = ds.length := ds_len
  refine lc_it (g := gBlk X scope tg) (tt := tBlk X scope ifs) (te := eBlk X scope elt) (vs := own.map (·.2)) (σ := σ) (Qd := Q (.ref D)) it (fun i H' => ∃ S' xs rs, Same S1 S' ∧ Same S' H' ∧ Same H1 H' ∧ (∀ a o, H1 a = some o → NT o → S' a = S1 a) ∧ S' D = none ∧ H' D = some (.lst xs) ∧ Paired G ((ds.take i).filter p) rs ∧ Dts X.K rs xs S' ∧ xs.length ≤ i)
    ⟨S1, [], [], Same.refl _, Same.mut g1.sub hD1, Same.new hD, fun _ _ _ _ => rfl, hD1, upd_same, .nil, .nil, Nat.le_refl _⟩ (fun i H' _ ⟨S', _, _, a, b, _⟩ => a.trans b) ?_ ?_
  · intro i x H2 H3 hi2 ⟨S2, xs, rs, k1, k2, k3, k4, k5, k6, k7, k8, k9⟩ y
    rw [hlen] at hi2
    obtain ⟨S3, g3, P, hP, px⟩ := y S2 k1 k2
    obtain ⟨d, hd⟩ : ∃ d, ds[i]? = some d := ⟨ds[i], List.getElem?_eq_getElem hi2⟩
    rw [ds_get hd] at hP
    obtain rfl := Option.some.inj hP
    have sS3 : Same S S3 := g1.st.trans (k1.trans g3.st)
    obtain ⟨τ, hw, hb⟩ := hel d (List.mem_of_getElem? hd) x S3 sS3 px
    have hf : ∀ q, p d = q → (ds.take (i + 1)).filter p = (ds.take i).filter p ++ (if q = true then [d] else []) := fun q hq => by
      rw [take_snoc hd, List.filter_append]
      cases q with
      | true => simp [hq]
      | false => simp [hq]
    intro sh H0 C cl fp
    refine (hb sh H0 C cl fp).1 H3 g3.sub _ ⟨hw, ?_⟩
    intro sh' H0' C' cl' fp'
    refine (hb sh' H0' C' cl' fp').2.1 H3 g3.sub _ fun S4 H4 g4 => ?_
    have g34 := g3.trans g4
    cases hpd : p d with
    | false =>
      refine iteF ⟨S4, xs, rs, k1.trans g34.st, g34.sub, k3.trans g34.hh, fun a o h n => (g34.old a o (k3 a o h) n).trans (k4 a o h n), (g34.old D _ k6 (fun _ z => nomatch z)).trans k5, g34.hh _ _ k6, ?_, k8.up g34.st, by omega⟩
      rw [hf false hpd]
      simpa using k7
    | true =>
      refine iteT ?_
      intro sh'' H0'' C'' cl'' fp''
      refine ((hb sh'' H0'' C'' cl'' fp'').2.2 hpd).up g4.st H4 g4.sub _ fun w S5 H5 g5 ⟨r, hr, hrw⟩ => ?_
      have g := g34.trans g5
      have hD5 : S5 D = none := (g.old D _ k6 (fun _ z => nomatch z)).trans k5
      refine ⟨xs, g.hh _ _ k6, Nat.lt_of_le_of_lt k9 (Nat.lt_of_lt_of_le hi2 hz), S5, xs ++ [w], rs ++ [r], k1.trans g.st, Same.mut g.sub hD5, fun a o h => ?_, fun a o h n => (g.old a o (k3 a o h) n).trans (k4 a o h n), hD5, upd_same, ?_, (k8.up g.st).snoc hrw, by rw [List.length_append]; show xs.length + 1 ≤ i + 1; omega⟩
      · rw [upd_ne (ne_of_none h hD)]; exact g.hh _ _ (k3 a o h)
      · rw [hf true hpd]
        exact paired_snoc k7 hr
  · intro H2 ⟨S2, xs, rs, k1, k2, k3, k4, k5, k6, k7, k8, k9⟩
    rw [hlen] at k7 k9
    rw [List.take_length] at k7
    refine q _ (upd S2 D (.lst xs)) H2 (g1.trans ⟨k1.trans (Same.new k5), fun a o h => ?_, k3, fun a o h n => by rw [upd_ne (ne_of_none h hD)]; exact k4 a o h n⟩) ⟨rs, k7, Dt.lst_mk upd_same (k8.up (Same.new k5)) (Nat.le_trans k9 hz)⟩
    by_cases ha : a = D
    · subst ha; rw [upd_same] at h; rw [k6]; exact h
    · rw [upd_ne ha] at h; exact k2 a o h
theorem lc_readG (hi : EI X σ S tg iter (Ds X.K ds)) (hz : ds.length ≤ sizeLine)
    (hel : ∀ d ∈ ds, ∀ v S', Same S S' → Dt X.K d v S' → ∃ τ, wipe τ (own.map (·.2)) = wipe σ (own.map (·.2)) ∧ ∀ (s : Shared) (H0 : Hp) (C : Addr) (cl : List (Str × Addr)) (fp : List Addr),
      EG (X.blk s H0 scope (compEnvC scope cl C X.env) fp) S' tg v (wipe σ (own.map (·.2))) τ ∧ ETs (X.blk s H0 scope (compEnvC scope cl C X.env) fp) τ S' ifs (p d) ∧ (p d = true → EE (X.blk s H0 scope (compEnvC scope cl C X.env) fp) τ S' elt (Ex X.K (G d)))) {H : Hp} (s : Same S H) (Q : VK) (q : ∀ v S' H', Gr S H S' H' → (∃ rs, Paired G (ds.filter p) rs ∧ Dt X.K (.list rs) v S') → Q v H') :
    tLc (bI X tg iter) (gBlk X scope tg) (tBlk X scope ifs) (eBlk X scope elt) (own.map (·.2)) σ H Q := hi H s _ fun J S1 H1 g1 it => lc_loopG hz hel Q q g1 it
theorem ee_lcG (hc : X.calm = true) (hN : X.N.Nodup) (ok : BlkOk X.N X.env.scope scope own) (hi : EI X σ S tg iter (Ds X.K ds)) (hz : ds.length ≤ sizeLine)
    (hel : ∀ d ∈ ds, ∀ v S', Same S S' → Dt X.K d v S' → ∃ τ, wipe τ (own.map (·.2)) = wipe σ (own.map (·.2)) ∧ ∀ (s : Shared) (H0 : Hp) (C : Addr) (cl : List (Str × Addr)) (fp : List Addr),
      EG (X.blk s H0 scope (compEnvC scope cl C X.env) fp) S' tg v (wipe σ (own.map (·.2))) τ ∧ ETs (X.blk s H0 scope (compEnvC scope cl C X.env) fp) τ S' ifs (p d) ∧ (p d = true → EE (X.blk s H0 scope (compEnvC scope cl C X.env) fp) τ S' elt (Ex X.K (G d))))
    (hs : ∀ x, foldedSetIterable iter X.env x = pure x := by intro _; rfl) :
    EE X σ S (.ListComp elt [⟨tg, iter, ifs, 0⟩] scope pos) (fun v S' => ∃ rs, Paired G (ds.filter p) rs ∧ Dt X.K (.list rs) v S') := fun H s Q q =>
  he_of (pe_lc (own := own) (wi := bI X tg iter) (g := gBlk X scope tg) (tt := tBlk X scope ifs) (te := eBlk X scope elt) hc hN pib ok
    (fun s H0 C cl fp => ⟨fun pins sh σ' H' v u Q' I r h => h s H0 C cl fp pins sh u I r⟩) (fun s H0 C cl fp => ⟨fun pins sh σ' H' Q' I h => h s H0 C cl fp pins sh I⟩) (fun s H0 C cl fp => ⟨fun pins sh σ' H' Q' I h => h s H0 C cl fp pins sh I⟩) hs) (lc_readG hi hz hel s Q q)
/-- each item by a function, under a test -/
theorem fun_of_G {f : PyData → PyData} {v : V} {S' : Hp} {K : PySem.W.Frag} (h : ∃ rs, Paired (fun d r => r = f d) (ds.filter p) rs ∧ Dt K (.list rs) v S') : Dt K (.list ((ds.filter p).map f)) v S' := by
  obtain ⟨rs, h1, h2⟩ := h
  rw [paired_map h1] at h2
  exact h2
end
end Z
namespace Z
open PySem PySem.Spec PyProof.Rows L2
/-! ## 10. statements -/
section
variable {X : Cx} {σ : L2.St} {S H : Hp} {e a b c : Expr} {P : V → Hp → Prop} {pos p : Pos} {D : Ends} {rest body orelse : List Stmt} {k : Bool} {st : Stmt} {d d1 d2 : PyData} {ds : List PyData}
theorem hs_cons {t : TS} (h : PS X st t) (q : t { D with nx := fun σ' H' => HS X D rest σ' H' } σ H) : HS X D (st :: rest) σ H := hs_of (pss_cons h psb) q
theorem hs_nil (q : D.nx σ H) : HS X D [] σ H := hs_of pss_nil q
theorem hs_cont (q : D.ct σ H) : HS X D (.Continue pos :: rest) σ H := hs_cons ps_continue q
theorem hs_set {i : Nat} {x : Str} {pos' : Pos} (h : EE X σ S e P) (s : Same S H) (hN : X.N.Nodup) (q : ∀ v S' H', Gr S H S' H' → P v S' → HS X D rest (σ.set i (some v)) H') (hi : X.N[i]? = some x := by rfl) (hx : Loc X.env.scope x := by first | exact Or.inl rfl | exact Or.inr rfl)
    (hs : swapsWith e (some (.Name x pos')) pos.line X.env = pure false := by rfl) (hf : X.fn x = true ∨ X.env.scope.names.lookup x = some .local := by first | exact .inl rfl | exact .inr rfl | assumption) : HS X D (.Assign [.Name x pos'] e pos :: rest) σ H :=
  hs_cons (ps_set hN hi hx peb hs hf) (h H s _ fun v S' H' g pv => q v S' H' g pv)
theorem hs_ret (h : EE X σ S e P) (s : Same S H) (q : ∀ v S' H', Gr S H S' H' → P v S' → D.rt v H') : HS X D (.Return (some e) pos :: rest) σ H := hs_cons (ps_ret peb) (h H s _ q)
theorem hs_expr (h : EE X σ S e P) (s : Same S H) (q : ∀ v S' H', Gr S H S' H' → P v S' → HS X D rest σ H') (hs : swapsWith e none pos.line X.env = pure false := by rfl) : HS X D (.Expr e pos :: rest) σ H := hs_cons (ps_expr peb hs) (h H s _ q)
/-- the ends of a block that stands ahead of rest -/
def Dn (X : Cx) (D : Ends) (rest : List Stmt) : Ends := { D with nx := fun σ' H' => HS X D rest σ' H' }
theorem hs_if (h : ET X σ S c k) (s : Same S H) (qt : k = true → ∀ S' H', Gr S H S' H' → HS X (Dn X D rest) body σ H') (qf : k = false → ∀ S' H', Gr S H S' H' → HS X (Dn X D rest) orelse σ H') : HS X D (.If c body orelse pos :: rest) σ H :=
  hs_cons (ps_if ptb psb psb) (h H s _ fun S' H' g => by
    cases k with
    | true => exact iteT (qt rfl S' H' g)
    | false => exact iteF (qf rfl S' H' g))
theorem hs_ifT (h : ET X σ S c true) (s : Same S H) (q : ∀ S' H', Gr S H S' H' → HS X (Dn X D rest) body σ H') : HS X D (.If c body orelse pos :: rest) σ H := hs_if h s (fun _ => q) (fun z => nomatch z)
/-- not taken, and there is no else -/
theorem hs_ifN (h : ET X σ S c false) (s : Same S H) (q : ∀ S' H', Gr S H S' H' → HS X D rest σ H') : HS X D (.If c body [] pos :: rest) σ H := hs_if h s (fun z => nomatch z) (fun _ S' H' g => hs_nil (q S' H' g))
theorem mn_eq {v : V} : Mn (fun (w : V) (_ : Hp) => w = v) := ⟨fun _ h => h⟩
/-- a, b = x, y with plain names -/
theorem hs_par {i j : Nat} {x y : Str} {Pa Pb : V → Hp → Prop} [Mn Pa] [Mn Pb] {px py pt : Pos} {kt k2 pt2} (hc : X.calm = true) (hN : X.N.Nodup) (ha : EE X σ S a Pa) (hb : EE X σ S b Pb) (s : Same S H)
    (hw : swappedStores [.Tuple [.Name x px, .Name y py] kt pt] (.Tuple [a, b] k2 pt2) X.env = pure (some [x, y]))
    (q : ∀ v w S' H', Gr S H S' H' → Pa v S' → Pb w S' → HS X D rest ((σ.set i (some v)).set j (some w)) H')
    (hi : X.N[i]? = some x := by rfl) (hj : X.N[j]? = some y := by rfl) (hij : i ≠ j := by decide) (hx : X.env.scope.names.lookup x = some .local := by rfl) (hy : X.env.scope.names.lookup y = some .local := by rfl)
    (hs : starEach [a, b] X.env = (false, eval a X.env) :: starEach [b] X.env := by rfl) (hs2 : starEach [b] X.env = (false, eval b X.env) :: starEach [] X.env := by rfl)
    (hss : swapsWithSole [.Tuple [.Name x px, .Name y py] kt pt] (.Tuple [a, b] k2 pt2) pos.line X.env = pure false := by rfl) : HS X D (.Assign [.Tuple [.Name x px, .Name y py] kt pt] (.Tuple [a, b] k2 pt2) pos :: rest) σ H :=
  hs_cons (ps_par hc hN hi hj hij hx hy pab hw hss) ((ea_2 ha hb hs hs2).2 H s _ fun vs S' H' g al => by
    obtain ⟨v, w, rfl, p1, p2⟩ := al.two
    exact ⟨v, w, rfl, q v w S' H' g p1 p2⟩)
/-- a, b, c = x, y, z with plain names -/
theorem hs_par3 {i j l : Nat} {x y z : Str} {Pa Pb Pc : V → Hp → Prop} [Mn Pa] [Mn Pb] [Mn Pc] {px py pz pt : Pos} {kt k2 pt2} (hc : X.calm = true) (hN : X.N.Nodup) (ha : EE X σ S a Pa) (hb : EE X σ S b Pb) (hcc : EE X σ S c Pc) (s : Same S H)
    (hw : swappedStores [.Tuple [.Name x px, .Name y py, .Name z pz] kt pt] (.Tuple [a, b, c] k2 pt2) X.env = pure (some [x, y, z]))
    (q : ∀ v w u S' H', Gr S H S' H' → Pa v S' → Pb w S' → Pc u S' → HS X D rest (((σ.set i (some v)).set j (some w)).set l (some u)) H')
    (hi : X.N[i]? = some x := by rfl) (hj : X.N[j]? = some y := by rfl) (hl : X.N[l]? = some z := by rfl) (hij : i ≠ j := by decide) (hil : i ≠ l := by decide) (hjl : j ≠ l := by decide)
    (hx : X.env.scope.names.lookup x = some .local := by rfl) (hy : X.env.scope.names.lookup y = some .local := by rfl) (hz : X.env.scope.names.lookup z = some .local := by rfl)
    (hs : starEach [a, b, c] X.env = (false, eval a X.env) :: starEach [b, c] X.env := by rfl) (hs2 : starEach [b, c] X.env = (false, eval b X.env) :: starEach [c] X.env := by rfl) (hs3 : starEach [c] X.env = (false, eval c X.env) :: starEach [] X.env := by rfl)
    (hss : swapsWithSole [.Tuple [.Name x px, .Name y py, .Name z pz] kt pt] (.Tuple [a, b, c] k2 pt2) pos.line X.env = pure false := by rfl) : HS X D (.Assign [.Tuple [.Name x px, .Name y py, .Name z pz] kt pt] (.Tuple [a, b, c] k2 pt2) pos :: rest) σ H :=
  hs_cons (ps_par3 hc hN hi hj hl hij hil hjl hx hy hz pab hw hss) ((ea_cons ha (ea_2 hb hcc hs2 hs3) hs).2 H s _ fun vs S' H' g al => by
    obtain ⟨v, w, u, rfl, p1, p2, p3⟩ := al.three
    exact ⟨v, w, u, rfl, q v w u S' H' g p1 p2 p3⟩)
theorem hs_mono {D' : Ends} {st : List Stmt} (h : HS X D st σ H) (h1 : ∀ σ H, D.nx σ H → D'.nx σ H) (h2 : ∀ v H, D.rt v H → D'.rt v H) (h3 : ∀ σ H, D.bk σ H → D'.bk σ H) (h4 : ∀ σ H, D.ct σ H → D'.ct σ H) : HS X D' st σ H := fun pins s I => thn (h pins s I) fun f s' q => by
  cases f with
  | next => obtain ⟨σ', H', I', z⟩ := q; exact ⟨σ', H', I', h1 _ _ z⟩
  | brk => obtain ⟨σ', H', I', z⟩ := q; exact ⟨σ', H', I', h3 _ _ z⟩
  | cont => obtain ⟨σ', H', I', z⟩ := q; exact ⟨σ', H', I', h4 _ _ z⟩
  | ret u => obtain ⟨v, σ', H', I', r, z⟩ := q; exact ⟨v, σ', H', I', r, h2 _ _ z⟩
/-- the ends of a statement that leads to M -/
def Dj (D : Ends) (S H : Hp) (M : L2.St → Hp → Prop) : Ends := { D with nx := fun σ' H' => ∃ S', Gr S H S' H' ∧ M σ' S' }
/-- the ends of a turn: Iv again behind it -/
def Dl (X : Cx) (D : Ends) (rest : List Stmt) (S H : Hp) (Iv : L2.St → Hp → Prop) : Ends :=
  { D with nx := fun σ' H' => ∃ S', Gr S H S' H' ∧ Iv σ' S', ct := fun σ' H' => ∃ S', Gr S H S' H' ∧ Iv σ' S', bk := fun σ' H' => HS X D rest σ' H' }
/-- for, nothing that stands is changed -/
theorem hs_for {tg iter : Expr} {Ps : List (V → Hp → Prop)} (Iv : Nat → L2.St → Hp → Prop) (hp : PassesOwn (model X.prog X.w) X.A X.env X.xe) (hc : X.calm = true) (hi : EI X σ S tg iter Ps) (s : Same S H) (h0 : ∀ S' H', Gr S H S' H' → Iv 0 σ S')
    (step : ∀ i P σ1 S1 H1 x S2 H2, Ps[i]? = some P → Gr S H S1 H1 → Iv i σ1 S1 → Gr S1 H1 S2 H2 → P x S2 → HG X tg x σ1 H2 fun σ3 H3 => HS X (Dl X D rest S2 H2 (Iv (i + 1))) body σ3 H3)
    (done : ∀ σ1 S1 H1, Gr S H S1 H1 → Iv Ps.length σ1 S1 → HS X D rest σ1 H1)
    (hs : ∀ x, foldedSetIterable iter X.env x = pure x := by intro _; rfl) : HS X D (.For tg iter body [] pos :: rest) σ H :=
  hs_cons (ps_for hp hc pib pgb psb hs) (hi H s _ fun J S1 H1 g1 it => for_it (g := bG X tg) (tb := bS X body) it (fun i σ' H' => ∃ S', Gr S1 H1 S' H' ∧ Iv i σ' S') ⟨S1, Gr.refl g1.sub, h0 S1 H1 g1⟩ (fun i σ' H' _ ⟨S', g, _⟩ => g.st.trans g.sub)
    (fun i x σ' H2 H3 hlt ⟨S2, g2, iv⟩ y => by
      obtain ⟨S3, g3, P, hP, px⟩ := y S2 g2.st g2.sub
      intro pins sh u I r
      refine thn ((step i P σ' S2 H2 x S3 H3 hP (g1.trans g2) iv g3 px) pins sh u I r) fun _ s' ⟨σ4, H4, I4, q4⟩ => ⟨σ4, H4, I4, ?_⟩
      exact hs_mono q4 (fun σ5 H5 ⟨S5, g5, iv5⟩ => ⟨S5, g2.trans (g3.trans g5), iv5⟩) (fun _ _ z => z) (fun _ _ z => z) (fun σ5 H5 ⟨S5, g5, iv5⟩ => ⟨S5, g2.trans (g3.trans g5), iv5⟩)) (fun σ' H' ⟨S', g, iv⟩ => done σ' S' H' (g1.trans g) iv))
/-- while, nothing that stands is changed; m falls -/
theorem hs_while (Iv : Nat → L2.St → Hp → Prop) (m0 : Nat) (hp : PassesOwn (model X.prog X.w) X.A X.env X.xe) (s : Same S H) (h0 : Iv m0 σ S)
    (step : ∀ m σ1 S1 H1, Gr S H S1 H1 → Iv m σ1 S1 → ∃ k, ET X σ1 S1 c k ∧ (k = true → ∀ S2 H2, Gr S1 H1 S2 H2 → HS X (Dl X D rest S2 H2 (fun σ' S' => ∃ m', m' < m ∧ Iv m' σ' S')) body σ1 H2) ∧ (k = false → ∀ S2 H2, Gr S1 H1 S2 H2 → HS X D rest σ1 H2)) :
    HS X D (.While c body [] pos :: rest) σ H :=
  hs_cons (ps_while hp ptb psb) ⟨fun m σ' H' => ∃ S', Gr S H S' H' ∧ Iv m σ' S', ⟨m0, S, Gr.refl s, h0⟩, fun m σ' H' ⟨S1, g1, iv⟩ => by
    obtain ⟨k, hk, h1, h2⟩ := step m σ' S1 H' g1 iv
    refine hk H' g1.sub _ fun S2 H2 g2 => ?_
    cases k with
    | false => exact iteF (h2 rfl S2 H2 g2)
    | true =>
      refine iteT ⟨fun σ3 H3 => ∃ S3 m', Gr S2 H2 S3 H3 ∧ m' < m ∧ Iv m' σ3 S3, fun σ3 H3 ⟨S3, m', g3, hm, iv3⟩ => ⟨m', hm, S3, g1.trans (g2.trans g3), iv3⟩, ?_⟩
      exact hs_mono (h1 rfl S2 H2 g2) (fun σ5 H5 ⟨S5, g5, m', hm, iv5⟩ => ⟨S5, m', g5, hm, iv5⟩) (fun _ _ z => z) (fun _ _ z => z) (fun σ5 H5 ⟨S5, g5, m', hm, iv5⟩ => ⟨S5, m', g5, hm, iv5⟩)⟩
end
/-! ## 11. defs -/
/-- a def that is known: where it stands, what it promises (no exception leaves it) -/
structure KD (P : Program) (w : World) (K : PySem.W.Frag) (mg : Str → Option Value) (base : Heap) (x : Str) (k : Nat) (sp : Sp) : Prop where
  ex : ∃ f fd ps, FnOk P w K mg base CX0 k f fd ps sp ∧ mg x = some (.ref f) ∧ PySem.W.keepIn K (.ref f) = true ∧ Binds K fd ps []
theorem KD.mono {P : Program} {w : World} {K : PySem.W.Frag} {mg : Str → Option Value} {base : Heap} {x : Str} {j k : Nat} {sp : Sp} (h : KD P w K mg base x j sp) (hk : j ≤ k) : KD P w K mg base x k sp := by
  obtain ⟨f, fd, ps, F, r⟩ := h.ex
  exact ⟨f, fd, ps, F.mono hk, r⟩
section
variable {X : Cx} {σ : L2.St} {S S' : Hp} {e a b c : Expr} {es : List Expr} {P R : V → Hp → Prop} {Ps : List (V → Hp → Prop)} {pos p : Pos} {k : Nat} {x : Str} {sp : Sp} {d : PyData} {ds : List PyData}
def SpE (sp : Sp) (S : Hp) (Ps : List (V → Hp → Prop)) (R : V → Hp → Prop) : Prop := ∀ vs S1 H1, Same S S1 → Same S1 H1 → Al Ps vs S1 → ∀ Q : VK, (∀ v S2 H2, Gr S1 H1 S2 H2 → R v S2 → Q v H2) → sp vs H1 Q E0
theorem ee_call (D : KD X.prog X.w X.K X.mg X.base x k sp) (hr : Room k X.A) (ha : EA X σ S (e :: es) Ps) (hsp : SpE sp S Ps R) (hg : Gl X x := by rfl) (hdb : (x == ("__debug__" : Str)) = false := by decide)
    (he : starEach (e :: es) X.env = (false, eval e X.env) :: starEach es X.env := by rfl) (hpl : (backTo pos (starEach es X.env)).any (·.1) = false := by rfl) : EE X σ S (.Call (.Name x p) (e :: es) [] pos) R := fun H s Q q => by
  obtain ⟨f, fd, ps, F, hm, hk, hb⟩ := D.ex
  refine he_of (pe_call F hr hg hm hk hb .nil pass0 pab hdb he hpl) (ha.2 H s _ fun vs S1 H1 g1 al => ?_)
  rw [List.append_nil]
  exact hsp vs S1 H1 g1.st g1.sub al Q fun v S2 H2 g2 rv => q v S2 H2 (g1.trans g2) rv
/-- a def of data: F tells what it gives -/
def spD (K : PySem.W.Frag) (F : List PyData → PyData → Prop) : Sp := fun vs H Q _ => ∃ S ds d, Same S H ∧ Dts K ds vs S ∧ F ds d ∧ ∀ v S' H', Gr S H S' H' → Dt K d v S' → Q v H'
theorem spD_E {F : List PyData → PyData → Prop} (hF : F ds d) : SpE (spD X.K F) S (Ds X.K ds) (Dt X.K d) := fun vs S1 H1 _ s al Q q => ⟨S1, ds, d, s, al_dts al, hF, q⟩
theorem ee_callD {F : List PyData → PyData → Prop} (D : KD X.prog X.w X.K X.mg X.base x k (spD X.K F)) (hr : Room k X.A) (hF : F ds d) (ha : EA X σ S (e :: es) (Ds X.K ds)) (hg : Gl X x := by rfl) (hdb : (x == ("__debug__" : Str)) = false := by decide)
    (he : starEach (e :: es) X.env = (false, eval e X.env) :: starEach es X.env := by rfl) (hpl : (backTo pos (starEach es X.env)).any (·.1) = false := by rfl) : EE X σ S (.Call (.Name x p) (e :: es) [] pos) (Dt X.K d) :=
  ee_call D hr ha (spD_E hF) hg hdb he hpl
end
section
variable {P : Program} {w : World} {K : PySem.W.Frag} {mg : Str → Option Value} {base : Heap} {x qual : Str} {params : Arguments} {body : List Stmt} {scope : Scope} {dvs : List V} {kws : List (Str × V)} {f : Addr} {fd : FuncData} {N ps : List Str} {k : Nat} {sp : Sp}
/-- a def by its body -/
theorem fn_hs (F : FunD K x qual params body scope dvs kws f fd) (Sc : FnScope N ps scope) (len : ∀ vs H Q E, sp vs H Q E → vs.length = ps.length)
    (hb : ∀ (cdv : Value) (A : Around) (outer : List Env) (s : Shared) (H : Hp) (vs : List V) (Q : VK) (E : XK), Room k (A.deeper (envOfC qual scope s.heap.objs.size f cdv)) → sp vs H Q E →
      HS (cxOf CX0 P w K mg base N qual scope f cdv A outer s H E).nox { nx := fun _ H' => Q .non H', rt := Q } body (start N vs) H) : FnOk P w K mg base CX0 (k + 1) f fd ps sp :=
  F.ok Sc len fun cdv A outer s H vs Q E hr h => ⟨_, PSs.nox psb, hb cdv A outer s H vs Q E hr h⟩
theorem kd_mk (F : FunD K x qual params body scope [] kws f fd) (G : FnOk P w K mg base CX0 k f fd ps sp) (hm : mg x = some (.ref f)) (hb : Binds K fd ps []) : KD P w K mg base x k sp := ⟨f, fd, ps, G, hm, F.kp, hb⟩
end
end Z
namespace Z
open PySem PySem.Spec PyProof.Rows L2
theorem Dts.one {K : PySem.W.Frag} {d : PyData} {vs : List V} {S : Hp} (h : Dts K [d] vs S) : ∃ v, vs = [v] ∧ Dt K d v S := (dts_al h).one
theorem Dts.two {K : PySem.W.Frag} {d e : PyData} {vs : List V} {S : Hp} (h : Dts K [d, e] vs S) : ∃ v w, vs = [v, w] ∧ Dt K d v S ∧ Dt K e w S := (dts_al h).two
theorem Dts.three {K : PySem.W.Frag} {d e g : PyData} {vs : List V} {S : Hp} (h : Dts K [d, e, g] vs S) : ∃ v w u, vs = [v, w, u] ∧ Dt K d v S ∧ Dt K e w S ∧ Dt K g u S := (dts_al h).three
end Z
namespace Z
open PySem PySem.Spec PyProof.Rows L2
/-! ## 12. comprehensions in short -/
def tupP (q : PyData × PyData) : PyData := .tuple [q.1, q.2]
theorem zipD_eq (xs ys : List PyData) : zipD xs ys = (xs.zip ys).map tupP := by
  unfold zipD
  rw [List.zip_eq_zipWith, List.map_zipWith]
  rfl
section
variable {X : Cx} {σ : L2.St} {S : Hp} {elt iter : Expr} {ifs : List Expr} {scope : Scope} {pos px py tp : Pos} {ds : List PyData} {ps : List (PyData × PyData)} {α : Type} {enc : α → PyData} {i j kk : Nat} {x y : Str}
theorem wipe1 {σ : L2.St} {i : Nat} {v : Option V} : wipe ((wipe σ [i]).set i v) [i] = wipe σ [i] := by
  show (((σ.set i none).set i v).set i none) = σ.set i none
  rw [List.set_set, List.set_set]
theorem filter_true {α : Type} (l : List α) : l.filter (fun _ => true) = l := by
  induction l with
  | nil => rfl
  | cons a l ih => rw [List.filter_cons]; simp
/-- [elt for x in iter if t] -/
theorem ee_lcf {p : PyData → Bool} {f : PyData → α} (hc : X.calm = true) (hN : X.N.Nodup) (ok : BlkOk X.N X.env.scope scope [(x, i)]) (hi : EI X σ S (.Name x px) iter (Ds X.K ds)) (hz : ds.length ≤ sizeLine)
    (hel : ∀ d ∈ ds, ∀ v S', Same S S' → Dt X.K d v S' → ∀ (s : Shared) (H0 : Hp) (C : Addr) (cl : List (Str × Addr)) (fp : List Addr),
      ETs (X.blk s H0 scope (compEnvC scope cl C X.env) fp) ((wipe σ [i]).set i (some v)) S' ifs (p d) ∧ (p d = true → EE (X.blk s H0 scope (compEnvC scope cl C X.env) fp) ((wipe σ [i]).set i (some v)) S' elt (Dt X.K (enc (f d)))))
    (hix : X.N[i]? = some x := by rfl) (hx : ∀ (s : Shared) (H0 : Hp) (C : Addr) (cl : List (Str × Addr)) (fp : List Addr), Loc (X.blk s H0 scope (compEnvC scope cl C X.env) fp).env.scope x ∧ ((X.blk s H0 scope (compEnvC scope cl C X.env) fp).fn x = true ∨ (X.blk s H0 scope (compEnvC scope cl C X.env) fp).env.scope.names.lookup x = some .local) := by
      intros; exact ⟨by first | exact Or.inl rfl | exact Or.inr rfl, by first | exact .inl rfl | exact .inr rfl⟩)
    (hs : ∀ x, foldedSetIterable iter X.env x = pure x := by intro _; rfl) :
    EE X σ S (.ListComp elt [⟨.Name x px, iter, ifs, 0⟩] scope pos) (Dt X.K (.list (((ds.filter p).map f).map enc))) := by
  refine (ee_lcG (own := [(x, i)]) (p := p) (G := fun d r => r = enc (f d)) hc hN ok hi hz (fun d hd v S' s hv => ⟨(wipe σ [i]).set i (some v), wipe1, fun sh H0 C cl fp => ?_⟩) hs).imp fun v S' h => ?_
  · obtain ⟨h1, h2⟩ := hel d hd v S' s hv sh H0 C cl fp
    obtain ⟨k1, k2⟩ := hx sh H0 C cl fp
    exact ⟨eg_name hN hix k1 k2, h1, fun hp => (h2 hp).imp fun w S2 hw => ⟨_, rfl, hw⟩⟩
  · have e : (ds.filter p).map (fun d => enc (f d)) = ((ds.filter p).map f).map enc := by rw [List.map_map]; rfl
    rw [← e]
    exact fun_of_G h
/-- [elt for x in iter] -/
theorem ee_lc {f : PyData → α} (hc : X.calm = true) (hN : X.N.Nodup) (ok : BlkOk X.N X.env.scope scope [(x, i)]) (hi : EI X σ S (.Name x px) iter (Ds X.K ds)) (hz : ds.length ≤ sizeLine)
    (hel : ∀ d ∈ ds, ∀ v S', Same S S' → Dt X.K d v S' → ∀ (s : Shared) (H0 : Hp) (C : Addr) (cl : List (Str × Addr)) (fp : List Addr), EE (X.blk s H0 scope (compEnvC scope cl C X.env) fp) ((wipe σ [i]).set i (some v)) S' elt (Dt X.K (enc (f d))))
    (hix : X.N[i]? = some x := by rfl) (hx : ∀ (s : Shared) (H0 : Hp) (C : Addr) (cl : List (Str × Addr)) (fp : List Addr), Loc (X.blk s H0 scope (compEnvC scope cl C X.env) fp).env.scope x ∧ ((X.blk s H0 scope (compEnvC scope cl C X.env) fp).fn x = true ∨ (X.blk s H0 scope (compEnvC scope cl C X.env) fp).env.scope.names.lookup x = some .local) := by
      intros; exact ⟨by first | exact Or.inl rfl | exact Or.inr rfl, by first | exact .inl rfl | exact .inr rfl⟩)
    (hs : ∀ x, foldedSetIterable iter X.env x = pure x := by intro _; rfl) :
    EE X σ S (.ListComp elt [⟨.Name x px, iter, [], 0⟩] scope pos) (Dt X.K (.list ((ds.map f).map enc))) :=
  (ee_lcf (p := fun _ => true) hc hN ok hi hz (fun d hd v S' s hv sh H0 C cl fp => ⟨ets_nil, fun _ => hel d hd v S' s hv sh H0 C cl fp⟩) hix hx hs).is (by rw [filter_true])
theorem wipe2 {σ : L2.St} {i j : Nat} {v w : Option V} (hij : i ≠ j) : wipe (((wipe σ [i, j]).set i v).set j w) [i, j] = wipe σ [i, j] := by
  show ((((((σ.set j none).set i none).set i v).set j w).set j none).set i none) = ((σ.set j none).set i none)
  rw [List.set_set, List.set_set, List.set_comm _ _ hij, List.set_set, List.set_set]
/-- [elt for x, y in iter if t] -/
theorem ee_lc2f {p : PyData × PyData → Bool} {f : PyData × PyData → α} (hc : X.calm = true) (hN : X.N.Nodup) (ok : BlkOk X.N X.env.scope scope [(x, i), (y, j)]) (hi : EI X σ S (.Tuple [.Name x px, .Name y py] kk tp) iter (Ds X.K (ps.map tupP))) (hz : ps.length ≤ sizeLine)
    (hel : ∀ q ∈ ps, ∀ v w S', Same S S' → Dt X.K q.1 v S' → Dt X.K q.2 w S' → ∀ (s : Shared) (H0 : Hp) (C : Addr) (cl : List (Str × Addr)) (fp : List Addr),
      ETs (X.blk s H0 scope (compEnvC scope cl C X.env) fp) (((wipe σ [i, j]).set i (some v)).set j (some w)) S' ifs (p q) ∧ (p q = true → EE (X.blk s H0 scope (compEnvC scope cl C X.env) fp) (((wipe σ [i, j]).set i (some v)).set j (some w)) S' elt (Dt X.K (enc (f q)))))
    (hij : i ≠ j := by decide) (hix : X.N[i]? = some x := by rfl) (hjy : X.N[j]? = some y := by rfl) (hx : ∀ (s : Shared) (H0 : Hp) (C : Addr) (cl : List (Str × Addr)) (fp : List Addr), (Loc (X.blk s H0 scope (compEnvC scope cl C X.env) fp).env.scope x ∧ ((X.blk s H0 scope (compEnvC scope cl C X.env) fp).fn x = true ∨ (X.blk s H0 scope (compEnvC scope cl C X.env) fp).env.scope.names.lookup x = some .local)) ∧
      (Loc (X.blk s H0 scope (compEnvC scope cl C X.env) fp).env.scope y ∧ ((X.blk s H0 scope (compEnvC scope cl C X.env) fp).fn y = true ∨ (X.blk s H0 scope (compEnvC scope cl C X.env) fp).env.scope.names.lookup y = some .local)) := by
      intros; exact ⟨⟨by first | exact Or.inl rfl | exact Or.inr rfl, by first | exact .inl rfl | exact .inr rfl⟩, ⟨by first | exact Or.inl rfl | exact Or.inr rfl, by first | exact .inl rfl | exact .inr rfl⟩⟩)
    (ha : ∀ (s : Shared) (H0 : Hp) (C : Addr) (cl : List (Str × Addr)) (fp : List Addr), (assignEach [.Name x px, .Name y py] (X.blk s H0 scope (compEnvC scope cl C X.env) fp).env).length = 2 ∧ (assignEach [.Name x px, .Name y py] (X.blk s H0 scope (compEnvC scope cl C X.env) fp).env).findIdx? (·.1) = none ∧
      (assignEach [.Name x px, .Name y py] (X.blk s H0 scope (compEnvC scope cl C X.env) fp).env).map (·.2) = assign (.Name x px) (X.blk s H0 scope (compEnvC scope cl C X.env) fp).env :: (assignEach [.Name y py] (X.blk s H0 scope (compEnvC scope cl C X.env) fp).env).map (·.2) ∧ (assignEach [.Name y py] (X.blk s H0 scope (compEnvC scope cl C X.env) fp).env).map (·.2) = assign (.Name y py) (X.blk s H0 scope (compEnvC scope cl C X.env) fp).env :: (assignEach [] (X.blk s H0 scope (compEnvC scope cl C X.env) fp).env).map (·.2) := by intros; exact ⟨rfl, rfl, rfl, rfl⟩)
    (hs : ∀ x, foldedSetIterable iter X.env x = pure x := by intro _; rfl) :
    EE X σ S (.ListComp elt [⟨.Tuple [.Name x px, .Name y py] kk tp, iter, ifs, 0⟩] scope pos) (Dt X.K (.list (((ps.filter p).map f).map enc))) := by
  have e0 : ∀ q ∈ ps.map tupP, ∃ r ∈ ps, q = tupP r := fun q hq => by
    obtain ⟨r, h1, h2⟩ := List.mem_map.mp hq
    exact ⟨r, h1, h2.symm⟩
  let un : PyData → PyData × PyData := fun d => match d with
    | .tuple [a, b] => (a, b)
    | _ => (.none, .none)
  have un_t : ∀ q, un (tupP q) = q := fun q => rfl
  refine (ee_lcG (own := [(x, i), (y, j)]) (p := fun d => p (un d)) (G := fun d r => r = enc (f (un d))) hc hN ok hi (by rw [List.length_map]; exact hz) (fun d hd v S' s hv => ?_) hs).imp fun v S' h => ?_
  · obtain ⟨q, hq, rfl⟩ := e0 d hd
    obtain ⟨l, xs, rfl, hl, hx', _⟩ := hv.tup_inv
    obtain ⟨v1, e1, p1⟩ := hx'.get (i := 0) (d := q.1) rfl
    obtain ⟨v2, e2, p2⟩ := hx'.get (i := 1) (d := q.2) rfl
    have hxs : xs = [v1, v2] := by
      have hl2 := hx'.1
      match xs, hl2 with
      | [u, w], _ => simp at e1 e2; rw [e1, e2]
    subst hxs
    refine ⟨((wipe σ [i, j]).set i (some v1)).set j (some v2), wipe2 hij, fun sh H0 C cl fp => ?_⟩
    obtain ⟨h1, h2⟩ := hel q hq v1 v2 S' s p1 p2 sh H0 C cl fp
    obtain ⟨⟨k1, k2⟩, ⟨k3, k4⟩⟩ := hx sh H0 C cl fp
    obtain ⟨a1, a2, a3, a4⟩ := ha sh H0 C cl fp
    refine ⟨fun H s2 Q qq => ?_, h1, fun hp => (h2 hp).imp fun w S2 hw => ⟨_, rfl, hw⟩⟩
    exact hg_of (pg_tup hc (pgs_cons (pg_name hN hix k1 k2) (pgs_cons (pg_name hN hjy k3 k4) pgs_nil a4) a3) a1 a2) ⟨l, _, rfl, sqt_up s2 hl, rfl, _, _, rfl, _, _, rfl, rfl, qq⟩
  · have h3 := fun_of_G (f := fun d => enc (f (un d))) (p := fun d => p (un d)) h
    have e : ((ps.map tupP).filter fun d => p (un d)).map (fun d => enc (f (un d))) = ((ps.filter p).map f).map enc := by
      rw [List.filter_map, List.map_map, List.map_map]
      rfl
    rw [← e]
    exact h3
/-- [elt for x, y in iter] -/
theorem ee_lc2 {f : PyData × PyData → α} (hc : X.calm = true) (hN : X.N.Nodup) (ok : BlkOk X.N X.env.scope scope [(x, i), (y, j)]) (hi : EI X σ S (.Tuple [.Name x px, .Name y py] kk tp) iter (Ds X.K (ps.map tupP))) (hz : ps.length ≤ sizeLine)
    (hel : ∀ q ∈ ps, ∀ v w S', Same S S' → Dt X.K q.1 v S' → Dt X.K q.2 w S' → ∀ (s : Shared) (H0 : Hp) (C : Addr) (cl : List (Str × Addr)) (fp : List Addr), EE (X.blk s H0 scope (compEnvC scope cl C X.env) fp) (((wipe σ [i, j]).set i (some v)).set j (some w)) S' elt (Dt X.K (enc (f q))))
    (hij : i ≠ j := by decide) (hix : X.N[i]? = some x := by rfl) (hjy : X.N[j]? = some y := by rfl) (hx : ∀ (s : Shared) (H0 : Hp) (C : Addr) (cl : List (Str × Addr)) (fp : List Addr), (Loc (X.blk s H0 scope (compEnvC scope cl C X.env) fp).env.scope x ∧ ((X.blk s H0 scope (compEnvC scope cl C X.env) fp).fn x = true ∨ (X.blk s H0 scope (compEnvC scope cl C X.env) fp).env.scope.names.lookup x = some .local)) ∧
      (Loc (X.blk s H0 scope (compEnvC scope cl C X.env) fp).env.scope y ∧ ((X.blk s H0 scope (compEnvC scope cl C X.env) fp).fn y = true ∨ (X.blk s H0 scope (compEnvC scope cl C X.env) fp).env.scope.names.lookup y = some .local)) := by
      intros; exact ⟨⟨by first | exact Or.inl rfl | exact Or.inr rfl, by first | exact .inl rfl | exact .inr rfl⟩, ⟨by first | exact Or.inl rfl | exact Or.inr rfl, by first | exact .inl rfl | exact .inr rfl⟩⟩)
    (ha : ∀ (s : Shared) (H0 : Hp) (C : Addr) (cl : List (Str × Addr)) (fp : List Addr), (assignEach [.Name x px, .Name y py] (X.blk s H0 scope (compEnvC scope cl C X.env) fp).env).length = 2 ∧ (assignEach [.Name x px, .Name y py] (X.blk s H0 scope (compEnvC scope cl C X.env) fp).env).findIdx? (·.1) = none ∧
      (assignEach [.Name x px, .Name y py] (X.blk s H0 scope (compEnvC scope cl C X.env) fp).env).map (·.2) = assign (.Name x px) (X.blk s H0 scope (compEnvC scope cl C X.env) fp).env :: (assignEach [.Name y py] (X.blk s H0 scope (compEnvC scope cl C X.env) fp).env).map (·.2) ∧ (assignEach [.Name y py] (X.blk s H0 scope (compEnvC scope cl C X.env) fp).env).map (·.2) = assign (.Name y py) (X.blk s H0 scope (compEnvC scope cl C X.env) fp).env :: (assignEach [] (X.blk s H0 scope (compEnvC scope cl C X.env) fp).env).map (·.2) := by intros; exact ⟨rfl, rfl, rfl, rfl⟩)
    (hs : ∀ x, foldedSetIterable iter X.env x = pure x := by intro _; rfl) :
    EE X σ S (.ListComp elt [⟨.Tuple [.Name x px, .Name y py] kk tp, iter, [], 0⟩] scope pos) (Dt X.K (.list ((ps.map f).map enc))) :=
  (ee_lc2f (p := fun _ => true) hc hN ok hi hz (fun q hq v w S' s hv hw sh H0 C cl fp => ⟨ets_nil, fun _ => hel q hq v w S' s hv hw sh H0 C cl fp⟩) hij hix hjy hx ha hs).is (by rw [filter_true])
end
end Z
namespace Z
open PySem PySem.Spec PyProof.Rows L2
/-! ## 13. the law's box: an object known by what holds of it alone -/
def Stab (b : Addr) (φ : Heap → Prop) : Prop := ∀ h1 h2 : Heap, φ h1 → (∀ o, h1.get? b = some o → h2.get? b = some o) → φ h2
section
variable {P : Program} {w : World} {H : Hp} {h : Heap} {b : Addr} {φ : Heap → Prop} {xs : List V}
theorem hok_swap {o o' : HO} (x : HOk P w H h) (hb : H b = some o) (no : ∀ a, o ≠ .own a) (nt : ∀ xs, o ≠ .tup xs) (new : ObjOk P w (upd H b o') h b o') : HOk P w (upd H b o') h := fun a u e => by
  by_cases ha : a = b
  · subst ha; rw [upd_same] at e; cases e; exact new
  · rw [upd_ne ha] at e
    refine (x a u e).stay (fun _ _ _ q => q) (fun c q => ?_) fun c ys q => ?_
    · rw [upd_ne (fun z => by subst z; rw [hb] at q; exact no a (Option.some.inj q))]; exact q
    · rw [upd_ne (fun z => by subst z; rw [hb] at q; exact nt ys (Option.some.inj q))]; exact q
end
theorem un_swap {fs ex : List Addr} {H H1 H2 H3 : Hp} {h h' : Heap} (u : Un fs ex H1 H2 h h') (k1 : ∀ a, H a = none → H1 a = none) (k2 : ∀ a, H a = none → H2 a = none → H3 a = none)
    (kt : ∀ a xs, H a = some (.tup xs) → H3 a = some (.tup xs)) (kf : ∀ a o x, H a = some (.frz o x) → H3 a = some (.frz o x)) (kb : ∀ a ps, H a = some (.tbl ps) → ∃ more, H3 a = some (.tbl (ps ++ more))) : Un fs ex H H3 h h' where
  keep := fun a o q n => u.keep a o q (k1 a n)
  slot := fun a o q n => u.slot a o q (k1 a n)
  free := fun a o q n x => k2 a n (u.free a o q (k1 a n) x)
  there := u.there
  tups := kt
  frzs := kf
  tbls := kb
section
variable {P : Program} {w : World} {K : PySem.W.Frag} {mg : Str → Option Value} {base : Heap} {k : Nat} {f : Addr} {fd : FuncData} {ps : List Str} {sp0 sp : Sp}
/-- a def over the list at b, for callers that know b by φ -/
theorem FnOk.box (F : FnOk P w K mg base CX0 k f fd ps sp0) (len : ∀ vs H Q E, sp vs H Q E → vs.length = ps.length)
    (hc : ∀ vs H Q E, sp vs H Q E → ∃ (b : Addr) (φ : Heap → Prop), H b = some (.ext φ) ∧ ∀ h, φ h → ∃ xs, ObjOk P w H h b (.lst xs) ∧
      sp0 vs (upd H b (.lst xs)) (fun v H' => ∃ ys, H' b = some (.lst ys) ∧ (∀ h', ObjOk P w H' h' b (.lst ys) → φ h') ∧ (∀ a o, H a = some o → a ≠ b → H' a = some o) ∧ Q v (upd H' b (.ext φ))) E0) : FnOk P w K mg base CX0 k f fd ps sp := by
  refine ⟨len, fun A outer s H args us vs Q E hr e0 hb rv hsp => ?_⟩
  obtain ⟨b, φ, hbo, hc⟩ := hc vs H Q E hsp
  obtain ⟨p, ⟨ob, hob⟩, st⟩ := e0.hok b _ hbo
  obtain ⟨xs, hx, hs0⟩ := hc s.heap p
  have ne : ∀ a, H a = none → a ≠ b := fun a n z => by rw [z, hbo] at n; cases n
  have e1 : Env0 P w K mg base A outer s (upd H b (.lst xs)) := ⟨e0.frames, e0.mod, fun a o q => ⟨(e0.bs a o q).1, by rw [upd_ne (ne a (e0.bs a o q).2)]; exact (e0.bs a o q).2⟩, e0.bsz, e0.funs, fun a ha => by rw [upd_ne (ne a (e0.frf a ha))]; exact e0.frf a ha,
    hok_swap e0.hok hbo (fun _ z => nomatch z) (fun _ z => nomatch z) hx, e0.bare⟩
  refine codeAny_mono (F.run A outer s _ args us vs _ E0 hr e1 hb rv hs0) fun r s' hq => ?_
  cases r with
  | error e => exact hq
  | ok fl =>
    cases fl with
    | ret u =>
      obtain ⟨v, H', os, bare, un, hok, r, ys, hy, hφ, hsm, q⟩ := hq
      refine ⟨v, upd H' b (.ext φ), os, bare, ?_, ?_, r, q⟩
      · refine un_swap un (fun a n => by rw [upd_ne (ne a n)]; exact n) (fun a n n2 => by rw [upd_ne (ne a n)]; exact n2) (fun a ys e => ?_) (fun a o x e => ?_) fun a ps e => ?_
        · have hne : a ≠ b := fun z => by rw [z, hbo] at e; cases e
          rw [upd_ne hne]; exact hsm a _ e hne
        · have hne : a ≠ b := fun z => by rw [z, hbo] at e; cases e
          rw [upd_ne hne]; exact hsm a _ e hne
        · have hne : a ≠ b := fun z => by rw [z, hbo] at e; cases e
          refine ⟨#[], ?_⟩
          rw [upd_ne hne, Array.append_empty]; exact hsm a _ e hne
      · have ox := hok b _ hy
        refine hok_swap hok hy (fun _ z => nomatch z) (fun _ z => nomatch z) ⟨hφ _ ox, ?_, st⟩
        obtain ⟨_, its, n, _, e⟩ := ox
        exact ⟨_, e⟩
    | next => exact hq
    | brk => exact hq
    | cont => exact hq
/-- a def that hands back a new list, for callers that know it by φ -/
theorem FnOk.close (F : FnOk P w K mg base CX0 k f fd ps sp0) (len : ∀ vs H Q E, sp vs H Q E → vs.length = ps.length)
    (hc : ∀ vs H Q E, sp vs H Q E → sp0 vs H (fun v H' => ∃ b ys φ, H b = none ∧ H' b = some (.lst ys) ∧ Same H H' ∧ (∀ h', ObjOk P w H' h' b (.lst ys) → φ h') ∧ Stab b φ ∧ Q v (upd H' b (.ext φ))) E0) : FnOk P w K mg base CX0 k f fd ps sp := by
  refine ⟨len, fun A outer s H args us vs Q E hr e0 hb rv hsp => ?_⟩
  refine codeAny_mono (F.run A outer s _ args us vs _ E0 hr e0 hb rv (hc vs H Q E hsp)) fun r s' hq => ?_
  cases r with
  | error e => exact hq
  | ok fl =>
    cases fl with
    | ret u =>
      obtain ⟨v, H', os, bare, un, hok, r, b, ys, φ, hn, hy, hs, hφ, st, q⟩ := hq
      refine ⟨v, upd H' b (.ext φ), os, bare, ?_, ?_, r, q⟩
      · refine un_swap un (fun _ n => n) (fun a n n2 => by rw [upd_ne (fun z => by rw [z, hy] at n2; cases n2)]; exact n2) (fun a ys e => ?_) (fun a o x e => ?_) fun a ps e => ?_
        · rw [upd_ne (ne_of_none e hn)]; exact hs _ _ e
        · rw [upd_ne (ne_of_none e hn)]; exact hs _ _ e
        · refine ⟨#[], ?_⟩
          rw [upd_ne (ne_of_none e hn), Array.append_empty]; exact hs _ _ e
      · have ox := hok b _ hy
        refine hok_swap hok hy (fun _ z => nomatch z) (fun _ z => nomatch z) ⟨hφ _ ox, ?_, st⟩
        obtain ⟨_, its, n, _, e⟩ := ox
        exact ⟨_, e⟩
    | next => exact hq
    | brk => exact hq
    | cont => exact hq
end
/-- what the box holds: the cells, the place, a great rest, a mixed number, a count -/
structure BoxV (c : Addr) (xs : List V) : Prop where
  ex : ∃ i g m k : Int, xs = [.ref c, .int i, .int g, .int m, .int k] ∧ 0 ≤ i ∧ 0 ≤ g ∧ 0 ≤ m ∧ m < 2147483648 ∧ 0 ≤ k
def boxPhi (b c : Addr) : Heap → Prop := fun h => ∃ (xs : List V) (its : List Value) (n : Nat), BoxV c xs ∧ Vals xs its ∧ h.get? b = some { cls := .type "list", data := .seq its.toArray n }
theorem box_stab {b c : Addr} : Stab b (boxPhi b c) := fun h1 h2 ⟨xs, its, n, hx, r, e⟩ k => ⟨xs, its, n, hx, r, k _ e⟩
theorem box_of {P : Program} {w : World} {H : Hp} {h : Heap} {b c : Addr} {xs : List V} (hx : BoxV c xs) (o : ObjOk P w H h b (.lst xs)) : boxPhi b c h := by
  obtain ⟨_, its, n, r, e⟩ := o
  exact ⟨xs, its, n, hx, r, e⟩
theorem of_box {P : Program} {w : World} {H : Hp} {h : Heap} {b c : Addr} (p : boxPhi b c h) : ∃ xs, BoxV c xs ∧ ObjOk P w H h b (.lst xs) := by
  obtain ⟨xs, its, n, hx, r, e⟩ := p
  refine ⟨xs, hx, ?_, its, n, r, e⟩
  obtain ⟨i, g, m, k, rfl, _⟩ := hx.ex
  show 5 ≤ 16777216
  decide
/-- v is a box -/
def BX : V → Hp → Prop := fun v S => ∃ (b c : Addr) (ns : List Int), v = .ref b ∧ b ≠ c ∧ S b = some (.ext (boxPhi b c)) ∧ S c = some (.lst (ns.map V.int)) ∧ ns.length ≤ 63
instance : Mn BX := ⟨fun s ⟨b, c, ns, e, n, h1, h2, l⟩ => ⟨b, c, ns, e, n, s _ _ h1, s _ _ h2, l⟩⟩
/-- a def over the box and data: any of what G tells may come back -/
def spB (K : PySem.W.Frag) (F : List PyData → (PyData → Prop) → Prop) : Sp := fun vs H Q _ => ∃ S v ws ds G, vs = v :: ws ∧ Same S H ∧ BX v S ∧ Dts K ds ws S ∧ F ds G ∧ ∀ d, G d → ∀ u S' H', Gr S H S' H' → Dt K d u S' → Q u H'
section
variable {X : Cx} {σ : L2.St} {S S' : Hp} {e a b c : Expr} {es : List Expr} {P R : V → Hp → Prop} {Ps : List (V → Hp → Prop)} {pos p : Pos} {k : Nat} {x : Str} {sp : Sp} {d : PyData} {ds : List PyData}
theorem spB_E {F : List PyData → (PyData → Prop) → Prop} {G : PyData → Prop} (hF : F ds G) : SpE (spB X.K F) S (BX :: Ds X.K ds) (Ex X.K G) := fun vs S1 H1 _ s al Q q => by
  cases al with
  | cons p r => exact ⟨S1, _, _, ds, G, rfl, s, p, al_dts r, hF, fun d hd u S' H' g pd => q u S' H' g ⟨d, hd, pd⟩⟩
theorem ee_callBx {F : List PyData → (PyData → Prop) → Prop} {G : PyData → Prop} (D : KD X.prog X.w X.K X.mg X.base x k (spB X.K F)) (hr : Room k X.A) (hF : F ds G) (ha : EA X σ S (e :: es) (BX :: Ds X.K ds)) (hg : Gl X x := by rfl) (hdb : (x == ("__debug__" : Str)) = false := by decide)
    (he : starEach (e :: es) X.env = (false, eval e X.env) :: starEach es X.env := by rfl) (hpl : (backTo pos (starEach es X.env)).any (·.1) = false := by rfl) : EE X σ S (.Call (.Name x p) (e :: es) [] pos) (Ex X.K G) :=
  ee_call D hr ha (spB_E hF) hg hdb he hpl
/-! ### what is not fixed, taken on -/
theorem ex_imp {K : PySem.W.Frag} {F G : PyData → Prop} {v : V} {S : Hp} (h : Ex K F v S) (f : ∀ d, F d → G d) : Ex K G v S := by
  obtain ⟨d, hd, p⟩ := h
  exact ⟨d, f d hd, p⟩
theorem EE.ex {F : PyData → Prop} (h : EE X σ S e (Dt X.K d)) (f : F d) : EE X σ S e (Ex X.K F) := h.imp fun v S' p => ⟨d, f, p⟩
theorem EE.exi {F G : PyData → Prop} (h : EE X σ S e (Ex X.K F)) (f : ∀ d, F d → G d) : EE X σ S e (Ex X.K G) := h.imp fun v S' p => ex_imp p f
/-- + of numbers that are not fixed -/
theorem ee_addE {F G : Int → Prop} (ha : EE X σ S a (Ex X.K fun d => ∃ i, d = .int i ∧ F i)) (hb : EE X σ S b (Ex X.K fun d => ∃ i, d = .int i ∧ G i)) : EE X σ S (.BinOp a .Add b pos) (Ex X.K fun d => ∃ i, d = .int i ∧ ∃ x y, F x ∧ G y ∧ i = x + y) :=
  ee_op op_add ha hb fun v w S1 H1 _ s ⟨d, ⟨i, e, fi⟩, pv⟩ ⟨d', ⟨j, e', gj⟩, pw⟩ Q q => by
    subst e; subst e'
    cases pv; cases pw
    exact ⟨i, j, rfl, rfl, q _ S1 H1 (Gr.refl s) ⟨_, ⟨_, rfl, i, j, fi, gj, rfl⟩, .int _⟩⟩
inductive AllF : List (PyData → Prop) → List PyData → Prop
  | nil : AllF [] []
  | cons {F : PyData → Prop} {Fs : List (PyData → Prop)} {d : PyData} {ds : List PyData} : F d → AllF Fs ds → AllF (F :: Fs) (d :: ds)
theorem AllF.len {Fs : List (PyData → Prop)} {ds : List PyData} (h : AllF Fs ds) : ds.length = Fs.length := by
  induction h with
  | nil => rfl
  | cons _ _ ih => simp [ih]
end
end Z
namespace Z
open PySem PySem.Spec PyProof.Rows L2
/-! ### lists that change -/
section
variable {X : Cx} {σ : L2.St} {S H : Hp} {e o i : Expr} {P : V → Hp → Prop} {pos pos' : Pos} {D : Ends} {rest : List Stmt} {b : Addr} {xs : List V} {k : Int} {j : Nat} {v : V}
/-- o[i] = e -/
theorem hs_setL [Mn P] (he : EE X σ H e P) (ho : EE X σ H o (fun w _ => w = .ref b)) (hi : EE X σ H i (Dt X.K (.int k))) (hb : H b = some (.lst xs)) (hk : ixN xs.length k = some j)
    (q : ∀ v H', Same H H' → P v H' → HS X D rest σ (upd H' b (.lst (xs.set j v))))
    (ha : ∀ v, assign (.Subscript o i pos') X.env v = (do
      let ov ← holding [v] (eval o X.env)
      let iv ← holding [v, ov] (eval i X.env)
      standAt pos'
      holding [v, ov, iv] (setItem ov iv v)
      release [v, ov, iv] []) := by intro _; rfl)
    (hs : swapsWithSole [.Subscript o i pos'] e pos.line X.env = pure false := by rfl) (hw : swappedStores [.Subscript o i pos'] e X.env = pure none := by rfl)
    (h1 : (assignEach [.Subscript o i pos'] X.env).map (·.2) = [assign (.Subscript o i pos') X.env] := by rfl) : HS X D (.Assign [.Subscript o i pos'] e pos :: rest) σ H :=
  hs_cons (ps_asg peb (pg_sub peb peb set_list ha) hs hw h1) (he H (Same.refl H) _ fun v S1 H1 g1 pv => ho H1 g1.hh _ fun w S2 H2 g2 pw => hi H2 (g1.hh.trans g2.hh) _ fun u S3 H3 g3 pu => by
    subst pw
    cases pu
    have s3 := (g1.hh.trans g2.hh).trans g3.hh
    exact ⟨b, xs, k, j, rfl, rfl, s3 _ _ hb, hk, q v H3 s3 (Mn.up (g1.sub.trans (g2.hh.trans g3.hh)) pv)⟩)
/-- an item of such a list -/
theorem ee_ixB (hb : S b = some (.lst xs)) (ho : EE X σ S o (fun w _ => w = .ref b)) (hi : EE X σ S i (Dt X.K (.int k))) (hx : atI xs k = some v) (hp : ∀ S', Same S S' → P v S') (hs : PlainIx i := by exact fun _ _ => rfl) : EE X σ S (.Subscript o i pos) P := by
  haveI := mn_eq (v := .ref b)
  exact ee_2 (pe_ix ix_list peb peb hs) ho hi fun x y S1 H1 s0 s px py Q q => by
    subst px
    cases py
    exact ⟨b, xs, k, v, rfl, rfl, sql_of (s _ _ (s0 _ _ hb)), hx, q _ S1 H1 (Gr.refl s) (hp S1 s0)⟩
end
end Z
namespace Z
open PySem PySem.Spec PyProof.Rows L2
/-- an if whose ways meet in M, told of the whole heap -/
theorem hs_ifR {X : Cx} {σ : L2.St} {S H : Hp} {c : Expr} {pos : Pos} {D : Ends} {rest body orelse : List Stmt} {k : Bool} (M : L2.St → Hp → Prop) (h : ET X σ S c k) (s : Same S H) (qt : k = true → ∀ S' H', Gr S H S' H' → HS X { D with nx := M } body σ H') (qf : k = false → ∀ S' H', Gr S H S' H' → HS X { D with nx := M } orelse σ H')
    (h2 : ∀ σ' H', M σ' H' → HS X D rest σ' H') : HS X D (.If c body orelse pos :: rest) σ H :=
  hs_cons (ps_if ptb psb psb) (h H s _ fun S' H' g => by
    have key : ∀ st, HS X { D with nx := M } st σ H' → HS X (Dn X D rest) st σ H' := fun st z => hs_mono z (fun σ' H2 m => h2 σ' H2 m) (fun _ _ z => z) (fun _ _ z => z) (fun _ _ z => z)
    cases k with
    | true => exact iteT (key _ (qt rfl S' H' g))
    | false => exact iteF (key _ (qf rfl S' H' g)))
theorem ee_mulS {X : Cx} {σ : L2.St} {S : Hp} {a b : Expr} {pos : Pos} {i j : Int} (hc : CMul i j) (ha : EE X σ S a (Dt X.K (.int i))) (hb : EE X σ S b (Dt X.K (.int j))) : EE X σ S (.BinOp a .Mult b pos) (Dt X.K (.int (i * j))) := ee_op op_mul ha hb (opE_I hc fun _ => .int _)
end Z
namespace Z
open PySem PySem.Spec PyProof.Rows L2
/-! ## 14. more rules -/
section
variable {X : Cx} {σ : L2.St} {S S' : Hp} {e a b c o elt tg iter : Expr} {es : List Expr} {P R : V → Hp → Prop} {Ps : List (V → Hp → Prop)} {pos p px : Pos} {k : Bool} {x y : Str} {d d1 d2 : PyData} {ds ds1 ds2 : List PyData} {i j : Nat} {n : Int} {scope : Scope} {own : List (Str × Nat)} {D : Ends} {rest : List Stmt}
/-- xs[i], i any place of the list -/
theorem atI_nat {xs : List PyData} {n : Int} (h0 : 0 ≤ n) (h1 : n < (xs.length : Int)) : ∃ d, d ∈ xs ∧ atI xs n = some d := by
  refine ⟨xs[n.toNat]'(by omega), List.getElem_mem _, ?_⟩
  unfold atI ixN
  rw [if_pos h0, if_pos h1]
  exact List.getElem?_eq_getElem _
theorem ee_ixE (ha : EE X σ S a (Dt X.K (.list ds))) (hb : EE X σ S b (Ex X.K fun d => ∃ n, d = .int n ∧ 0 ≤ n ∧ n < (ds.length : Int))) (hs : PlainIx b := by exact fun _ _ => rfl) : EE X σ S (.Subscript a b pos) (Ex X.K fun d => d ∈ ds) :=
  ee_2 (pe_ix ix_list peb peb hs) ha hb fun x y S1 H1 _ s px ⟨d, ⟨n, e, n0, n1⟩, py⟩ Q q => by
    subst e
    cases py
    obtain ⟨l, xs, rfl, hl, hx, z⟩ := px.lst_inv
    obtain ⟨d, hd, he⟩ := atI_nat n0 n1
    obtain ⟨x, h1, h2⟩ := atI_dts hx he
    exact ⟨l, xs, n, x, rfl, rfl, sql_of (s _ _ hl), h1, q _ S1 H1 (Gr.refl s) ⟨d, hd, h2⟩⟩
/-- n in (a, b, ..) -/
theorem inV_int (n : Int) : ∀ ns : List Int, inV (.int n) (ns.map V.int) = ns.contains n
  | [] => rfl
  | m :: ns => by
    unfold inV
    rw [List.map_cons, List.any_cons]
    have h := inV_int n ns
    unfold inV at h
    rw [h, List.contains_cons]
    show (m == n || _) = _
    rw [show (m == n) = (n == m) by
      by_cases e : m = n
      · rw [e]
      · rw [beq_false_of_ne e, beq_false_of_ne (Ne.symm e)]]
theorem flat_ints (ns : List Int) : (ns.map V.int).all flatV = true := by
  induction ns with
  | nil => rfl
  | cons n ns ih => rw [List.map_cons, List.all_cons, ih]; rfl
theorem opE_inT {K : PySem.W.Frag} {ns : List Int} : OpE (rIn K false) S (Dt K (.int n)) (Dt K (.tuple (ns.map .int))) (Dt K (.bool (ns.contains n))) := fun v w S1 H1 _ s pv pw Q q => by
  cases pv
  obtain ⟨l, xs, rfl, hl, hx, z⟩ := pw.tup_inv
  rw [dts_int hx] at hl
  refine ⟨l, ns.map V.int, rfl, .inr (sqt_up s hl), rfl, flat_ints ns, ?_⟩
  rw [if_neg Bool.false_ne_true, inV_int]
  exact q _ S1 H1 (Gr.refl s) (.bl _)
theorem et_inT {ns : List Int} (ha : EE X σ S a (Dt X.K (.int n))) (hb : EE X σ S b (Dt X.K (.tuple (ns.map .int)))) (hm : behindInMarks .In b = false := by rfl) : ET X σ S (.Compare a [.In] [b] pos) (ns.contains n) := et_cmp op_in_seq ha hb opE_inT hm
/-- e.index(True) of a list of bools -/
theorem ee_indexT {bs : List Bool} {j : Nat} {apos : Pos} (hj : bs[j]? = some true) (hno : ∀ m, m < j → bs[m]? = some false) (ha : EE X σ S a (Dt X.K (.list (bs.map .bool)))) (hb : EE X σ S b (Dt X.K (.bool true)))
    (hbase : attributeBase a "index" X.env (eval a X.env) = eval a X.env := by rfl)
    (hfew : ((backTo pos (starEach [b] X.env)).all (fun x => !x.1) && (backToKw pos (keywordEach [] X.env)).all (fun x => x.1.isSome) && decide (([b] : List Expr).length + ([] : List Keyword).length + (if ([] : List Keyword).isEmpty then 0 else 1) < 30)) = true := by rfl)
    (hline : (apos.endLine == pos.line) = true := by rfl) (hs : starEach [b] X.env = (false, eval b X.env) :: starEach [] X.env := by rfl) (hplain : (backTo pos (starEach [] X.env)).any (·.1) = false := by rfl) :
    EE X σ S (.Call (.Attribute a "index" apos) [b] [] pos) (Dt X.K (.int (j : Nat))) := fun H s Q q =>
  he_of (pe_bm PySem.F.plainAttrs_list PySem.F.slot_list_index PySem.F.type_list_index mt_index peb pab hbase hfew hline hs hplain) (ha H s _ fun v S1 H1 g1 pv => by
    obtain ⟨l, xs, rfl, hl, hx, z⟩ := pv.lst_inv
    have e := dts_bl hx
    subst e
    refine ⟨.inl ⟨rfl, _, sql_of (g1.sub _ _ hl)⟩, ((ea_1 hb hs).up g1.st).2 H1 g1.sub _ fun vs S2 H2 g2 al => ?_⟩
    obtain ⟨w, rfl, pw⟩ := al.one
    cases pw
    refine ⟨l, bs.map V.bl, .bl true, j, .bl true, rfl, rfl, sql_of (g2.hh _ _ (g1.sub _ _ hl)), rfl, ?_, ?_, rfl, fun m z' hm hz => ?_, q _ S2 H2 (g1.trans g2) (.int _)⟩
    · rw [List.all_map]; exact List.all_eq_true.mpr fun b _ => rfl
    · rw [List.getElem?_map, hj]; rfl
    · rw [List.getElem?_map, hno m hm] at hz
      cases hz
      rfl)
theorem AllF.one {F : PyData → Prop} {ds : List PyData} (h : AllF [F] ds) : ∃ d, ds = [d] ∧ F d := by
  cases h with
  | cons f r => cases r; exact ⟨_, rfl, f⟩
theorem AllF.two {F G : PyData → Prop} {ds : List PyData} (h : AllF [F, G] ds) : ∃ d e, ds = [d, e] ∧ F d ∧ G e := by
  cases h with
  | cons f r => obtain ⟨e, rfl, g⟩ := r.one; exact ⟨_, _, rfl, f, g⟩
end
end Z
namespace Z
open PySem PySem.Spec PyProof.Rows L2 PySem.Froz
/-! ## 15. set(text), a text of different ascii signs -/
section
end
end Z
namespace Y
open PySem PySem.Spec PyProof.Rows L2 Z
/-! ## enumerate over a tuple -/
theorem meets_enumT {v : Value} {o : Obj} {H : Heap → Prop} (B : Begins v o H) :
    Meets (Builtin.«enumerate.__new__» ⟨[.type "enumerate", v], []⟩) (fun _ R s => H s.heap ∧
      R (.ok (.ret (.ref (s.heap.push o).objs.size))) { s with heap := (s.heap.push o).push { cls := .type "enumerate", data := .fields #[.none, .bool false, .ref s.heap.objs.size, rawInt 0, .none, .none] } }) :=
  .of_wp fun prog w A R s h => by
    obtain ⟨hp, g, d, tk, os⟩ := s; obtain ⟨h1, h⟩ := h
    have hsub := sub_enumerate
    have q1 : ∀ {A' : Around} {E : Value → Shared → Prop} {Q : Value → Shared → Prop}, Q (.ref hp.objs.size) ⟨hp.push o, g, d, tk, os⟩ → wpAny (model prog w) A' (pyIter v) Q E ⟨hp, g, d, tk, os⟩ :=
      fun q => B.iter prog w _ _ ⟨hp, g, d, tk, os⟩ _ h1 q
    wp_walk using q1
    refine wpAny_stack_any fun st => wpAny_pure ?_
    split
    · rename_i c _ _ _ _ _
      cases (c == Value.type "enumerate")
      · wp_walk using q1
        exact ⟨_, rfl, h⟩
      · wp_walk using q1
        exact ⟨_, rfl, h⟩
    · wp_walk using q1
      exact ⟨_, rfl, h⟩
theorem call_enumT {prog : Program} {w : World} {A : Around} {E : Value → Shared → Prop} {s : Shared} {v : Value} {o : Obj} {H : Heap → Prop} {Q : Value → Shared → Prop} (B : Begins v o H) (h1 : H s.heap)
    (h : ∀ h', IsEnum h' (s.heap.objs.size + 1) s.heap.objs.size 0 .none → h'.get? s.heap.objs.size = some o → h'.objs.size = s.heap.objs.size + 2 →
      (∀ b o, s.heap.get? b = some o → h'.get? b = some o) → Q (.ref (s.heap.objs.size + 1)) { s with heap := h' }) :
    wpAny (model prog w) A (call (.type "enumerate") [v]) Q E s := by
  refine callType_new F.called_enumerate (by decide) (F.typeCall_enumerate_1 _) (F.newCall_enumerate_1 _) (fun obj => F.args_object_init_2 obj _) F.entry_enumerate_new
    (meets_enumT B) ⟨h1, ?_⟩
  have hz : (s.heap.push o).objs.size = s.heap.objs.size + 1 := Heap.size_push ..
  show _ ∧ _
  rw [hz]
  have he : IsEnum ((s.heap.push o).push { cls := .type "enumerate", data := .fields #[.none, .bool false, .ref s.heap.objs.size, rawInt 0, .none, .none] }) (s.heap.objs.size + 1) s.heap.objs.size 0 .none := by
    have := Heap.get?_push_size (s.heap.push o) (o := { cls := .type "enumerate", data := .fields #[.none, .bool false, .ref s.heap.objs.size, rawInt 0, .none, .none] }) rfl
    rw [hz] at this; exact this
  refine ⟨⟨_, he, rfl⟩, h _ he (Heap.get?_push_of_some _ (Heap.get?_push_size _ B.free)) (by rw [Heap.size_push, hz]) fun b o x => Heap.get?_push_of_some _ (Heap.get?_push_of_some _ x)⟩
/-- the tuple at a, each item in a new pair -/
def IteT (K : PySem.W.Frag) (a : Addr) : It :=
  ⟨fun i H => ∃ (xs : List V) (x : V), SqT K H a xs ∧ xs[i]? = some x, fun i H v H' => ∃ T x, v = .ref T ∧ H T = none ∧ H' = upd H T (.tup [.int (i : Nat), x]) ∧ ∀ xs, SqT K H a xs → xs[i]? = some x, fun i H => ∃ xs : List V, SqT K H a xs ∧ xs.length ≤ i⟩
theorem isTup_tuple {h : Heap} {a : Addr} {its : Array Value} (p : IsTup h a its) : h.IsTuple a its := by
  obtain ⟨o, e, c, n, d⟩ := p
  exact ⟨o, e, c, n, d⟩
theorem apart_tup {h : Heap} {a it : Addr} {its : Array Value} {i : Nat} (p : h.IsTuple a its) (q : h.IsTupleIter it a i) : a ≠ it := by
  rintro rfl
  obtain ⟨o, e, c, _⟩ := p
  obtain ⟨o', e', c', _⟩ := q
  rw [e] at e'; cases e'
  rw [c] at c'
  exact absurd c' (by decide)
theorem apart_en {h : Heap} {a e it : Addr} {its : Array Value} {k : Int} {old : Value} (p : h.IsTuple a its) (q : IsEnum h e it k old) : e ≠ a := by
  rintro rfl
  obtain ⟨o, e, c, _⟩ := p
  have e' := q
  unfold IsEnum at e'
  rw [e] at e'; cases e'
  exact absurd (Value.type.inj c) (by decide)
theorem turn_enumT {P : Program} {w : World} {K : PySem.W.Frag} {elts : List Expr} {kk : Nat} {tpos : Pos} (a e it : Addr) :
    Turn P w K (.Tuple elts kk tpos) (IteT K a) [e, it] e (fun i h => (∃ old, IsEnum h e it ((i : Nat) : Int) old) ∧ h.IsTupleIter it a i ∧ e ≠ it) where
  mem := by simp
  obj := fun i h st b hb => by
    obtain ⟨⟨old, he⟩, ⟨o, ho, hc, hd⟩, _⟩ := st
    have e' : b = e ∨ b = it := by simpa using hb
    rcases e' with z | z
    · rw [z]; exact ⟨_, he, fun v q => nomatch q⟩
    · rw [z]; exact ⟨o, ho, fun v q => by rw [hd] at q; cases q⟩
  keep := fun i h h' st k => let ⟨⟨old, he⟩, hi, hne⟩ := st; ⟨⟨old, k e (by simp) _ he⟩, hi.at fun o q => k it (by simp) o q, hne⟩
  item := by
    intro X hP hw hK hc i pins s σ H E I hf st hg
    subst hP hw hK
    obtain ⟨⟨old, he⟩, hit, hne⟩ := st
    obtain ⟨xs, x, hq, hx⟩ := hg
    obtain ⟨its, rv, p, hz⟩ := I.tuple hq
    have p := isTup_tuple p
    obtain ⟨u, hu, ru⟩ := rv.get hx
    have hel : e < s.heap.objs.size := Heap.lt_size he
    have hil : it < s.heap.objs.size := by obtain ⟨_, q, _⟩ := hit; exact Heap.lt_size q
    have D : Draws X.prog X.w X.A.in1 it [it, a] its.toArray.size (fun i v => its.toArray[i]? = some v) (fun i h => h.IsTupleIter it a i ∧ h.IsTuple a its.toArray) := Draws.tuple (show X.A.in1.handled = none from I.ok.hd hc) it a (apart_tup p hit) its.toArray
    refine wpAny_pyNext_enum_itemD D he ⟨hit, p⟩ (by
        have := (List.getElem?_eq_some_iff.mp hu).1
        simpa using this) hne (by
        intro z
        rcases List.mem_cons.mp z with z | z
        · exact hne z
        · exact apart_en p he (List.mem_singleton.mp z)) fun x' h' tk hx' ho hit' hT hsz hk => ?_
    have hx'' : its.toArray[i]? = some x' := hx'
    obtain rfl : x' = u := by
      have h2 : its[i]? = some x' := by simpa using hx''
      rw [hu] at h2; exact (Option.some.inj h2).symm
    refine ⟨_, rfl, wpAny_letOwnedTupleGo_enum (s := { s with heap := h', toks := tk + 1 }) ho fun h'' he' sb => ?_⟩
    have hT2 : h''.get? s.heap.objs.size = some { cls := .type "tuple", data := .seq #[.int i tk, x'] } := (sb.2 _ (Nat.ne_of_gt hel)).trans hT
    have new : ObjOk X.prog X.w (upd H s.heap.objs.size (.tup [.int (i : Nat), x])) h'' s.heap.objs.size (.tup [.int (i : Nat), x]) :=
      ⟨by show 2 ≤ sizeLine; decide, [.int i tk, x'], .cons ⟨_, rfl⟩ (.cons ru .nil), ⟨_, hT2, rfl, _, rfl⟩⟩
    have I1 : Inv X pins σ (upd H s.heap.objs.size (.tup [.int (i : Nat), x])) { s with heap := h'', toks := tk + 1 } :=
      I.turnedNew (ch := [e, it]) (fun b ob hb q => (sb.2 b (fun z => hb (by simp [z]))).trans (hk b ob (fun z => hb (by simp [z])) (fun z => hb (by simp [z])) q)) hf (Nat.le_refl _) new
    refine ⟨.ref s.heap.objs.size, _, I1, rfl, ⟨_, x, rfl, I.hok.fresh (Nat.le_refl _), rfl, fun ys hy => by rw [I.tuple_inj hy hq]; exact hx⟩, ⟨⟨x', ?_⟩, hit'.1.at fun o q => (sb.2 it (Ne.symm hne)).trans q, hne⟩, fun b hb => ?_⟩
    · have e1 : ((i + 1 : Nat) : Int) = (i : Int) + 1 := by omega
      rw [e1]; exact he'
    · have hb' : b < s.heap.objs.size := by
        have e' : b = e ∨ b = it := by simpa using hb
        rcases e' with z | z
        · rw [z]; exact hel
        · rw [z]; exact hil
      rw [upd_ne (Nat.ne_of_lt hb')]
      exact (hf b hb).1
  done := by
    intro X hP hw hK hc i pins s σ H E I hf st hg
    subst hP hw hK
    obtain ⟨⟨old, he⟩, hit, hne⟩ := st
    obtain ⟨xs, hq, hx⟩ := hg
    obtain ⟨its, rv, p, hz⟩ := I.tuple hq
    have p := isTup_tuple p
    obtain ⟨f0, f1, f2, f3, f4, f5⟩ := hf it (by simp)
    have hl := rv.length
    have hT : s.TypeIs (.ref e) "enumerate" := ⟨_, he, rfl⟩
    unfold pyNext
    refine wpAny_bind (wpAny_attempt (wpAny_callSpecial?_slot (name := Str.ofString "__next__") hT F.slot_enumerate_next
      (wpAny_call_entry F.slot_enumerate_next hT F.entry_enumerate_next ?_ (F.args_enumerate_next_1 _))))
    show wpAny _ _ (PySem.field (.ref e) 2 >>= _) _ _ _
    refine wpAny_bind (wpAny_field he rfl (x := .ref it) rfl ?_)
    refine wpAny_bind (wpAny_nextOf_tuple_end (I.ok.hd hc) hit p (by simp; omega) fun h' x he' hx' => ?_)
    obtain ⟨o, ho, hc'⟩ := hx'
    refine wpAny_bind (wpAny_isInstance (T := "StopIteration") (b := true) ⟨o, ho, hc'⟩ isSubtype_stop ?_)
    exact wpAny_pure ⟨rfl, I.turned (t' := s.toks) (fun b o hb q => he' b o hb q) f0 f1 f3 f4 f5⟩
  self := fun A i s Q E st h => let ⟨⟨_, he⟩, _⟩ := st; wpAny_pyIter_enum he h
def iEnumT (K : PySem.W.Frag) (ta : TA) : TI := fun σ H R => ta σ H fun vs H1 => ∃ a xs, vs = [.ref a] ∧ SqT K H1 a xs ∧ R (IteT K a) H1
theorem pi_enumT {X : Cx} {tg e : Expr} {ta : TA} {p pos tpos : Pos} {elts : List Expr} {kk : Nat} (hg : Gl X "enumerate") (hm : X.mg "enumerate" = none) (ha : PA X [e] ta) (hs : starEach [e] X.env = [(false, eval e X.env)] := by rfl) :
    PI X (.Tuple elts kk tpos) (.Call (.Name "enumerate" p) [e] [] pos) (iEnumT X.K ta) := by
  refine ⟨fun pins s σ H R I h => ?_⟩
  refine Call_ (ld_blt I hg hm boot_enumerate (PyProof.Rows.callWith_type1 (thn (ha.run pos pins s σ H _ I h) fun us s1 ⟨vs, H1, I1, r1, q1⟩ => ?_) hs rfl))
  obtain ⟨a, xs, ex, hq, q⟩ := q1
  subst ex
  cases r1 with
  | cons r rr =>
    cases rr
    cases r
    obtain ⟨its, rv, p', hz⟩ := I1.tuple hq
    refine call_enumT (begins_tuple a its.toArray) (isTup_tuple p') fun h' he hit hsz hk => wpAny_pyIter_enum he ?_
    have I2 : Inv X pins σ H1 { s1 with heap := h' } := I1.kept (t' := s1.toks) hk
    refine ⟨s1.heap.objs.size + 1, [s1.heap.objs.size + 1, s1.heap.objs.size], _, _, H1, rfl, I2, turn_enumT a (s1.heap.objs.size + 1) s1.heap.objs.size, ⟨⟨.none, he⟩, ⟨_, hit, rfl, rfl⟩, Nat.succ_ne_self _⟩, fun b hb => ?_, q⟩
    have e' : b = s1.heap.objs.size + 1 ∨ b = s1.heap.objs.size := by simpa using hb
    have hle : s1.heap.objs.size ≤ b := by
      rcases e' with z | z
      · rw [z]; exact Nat.le_add_right _ _
      · rw [z]; exact Nat.le_refl _
    exact I1.fpOk hle (I1.hok.fresh hle)
section
variable {X : Cx} {σ : L2.St} {S S' : Hp} {e a b c o : Expr} {es : List Expr} {P R : V → Hp → Prop} {pos p : Pos} {ds : List PyData}
theorem ei_enumT {elts : List Expr} {kk : Nat} {tpos : Pos} (hm : X.mg "enumerate" = none) (ha : EE X σ S a (Dt X.K (.tuple ds))) (hg : Gl X "enumerate" := by rfl) (hs : starEach [a] X.env = [(false, eval a X.env)] := by rfl) :
    EI X σ S (.Tuple elts kk tpos) (.Call (.Name "enumerate" p) [a] [] pos) (Ds X.K (enumD ds)) := fun H s R q =>
  hi_of (pi_enumT (tg := a) hg hm pab hs) ((ea_1 ha (by rw [hs]; rfl)).2 H s _ fun vs S1 H1 g1 al => by
    obtain ⟨v, rfl, pv⟩ := al.one
    obtain ⟨l, xs, rfl, hl, hx, _⟩ := pv.tup_inv
    have hlen : (Ds X.K (enumD ds)).length = xs.length := by rw [ds_len]; unfold enumD zipD; rw [List.length_zipWith, upto_len, hx.1]; omega
    refine ⟨l, xs, rfl, sqt_up g1.sub hl, q _ S1 H1 g1 ⟨fun i H hi hs => ?_, fun H hs => ?_, fun i H x H' hi hs y T st th => ?_⟩⟩
    · rw [hlen] at hi
      exact ⟨xs, xs[i], sqt_up hs hl, by simp [hi]⟩
    · rw [hlen]
      exact ⟨xs, sqt_up hs hl, Nat.le_refl _⟩
    · rw [hlen] at hi
      obtain ⟨t, x1, rfl, ht, rfl, k1⟩ := y
      have i1 : i < ds.length := by rw [← hx.1]; omega
      exact ⟨_, Gr.new th ht, _, ds_get (zipD_get (upto_get i1) (List.getElem?_eq_getElem i1)), pair_new th ht (.int _) ((hx.2 i _ _ (k1 xs (sqt_up hs hl)) (List.getElem?_eq_getElem i1)).up st)⟩)
end
end Y
namespace Y
open PySem PySem.Spec PyProof.Rows L2 Z
/-! ## own classes -/
/-- a known method -/
structure KM (P : Program) (w : World) (K : PySem.W.Frag) (mg : Str → Option Value) (base : Heap) (C : Addr) (m : Str) (k : Nat) (sp : Sp) : Prop where
  ex : ∃ f fd ps, FnOk P w K mg base CX0 k f fd ps sp ∧ PySem.W.findIn K (.ref C) m = some (some (.ref f)) ∧ PySem.W.isFn K (.ref f) = true ∧ PySem.W.keepIn K (.ref f) = true ∧ Binds K fd ps []
theorem KM.mono {P : Program} {w : World} {K : PySem.W.Frag} {mg : Str → Option Value} {base : Heap} {C : Addr} {m : Str} {j k : Nat} {sp : Sp} (h : KM P w K mg base C m j sp) (hk : j ≤ k) : KM P w K mg base C m k sp := by
  obtain ⟨f, fd, ps, F, r⟩ := h.ex
  exact ⟨f, fd, ps, F.mono hk, r⟩
/-- an instance of the class at C without the attribute m of its own -/
def InsP (C : Addr) (m : Str) (P : V → Hp → Prop) : Prop := ∀ v S, P v S → ∃ a dx fs, v = .ref a ∧ S a = some (.ins C dx fs) ∧ fs.lookup m = none
section
variable {X : Cx} {σ : L2.St} {S S' H : Hp} {e a b c o : Expr} {es : List Expr} {P P0 R : V → Hp → Prop} {Ps : List (V → Hp → Prop)} {pos p apos : Pos} {k : Nat} {x m f : Str} {sp : Sp} {C dx r : Addr} {fs : List (Str × V)} {v : V} {D : Ends} {rest : List Stmt}
/-- o.f, an attribute -/
theorem ee_fld (ho : EE X σ S o P0) (hP : ∀ w S1, P0 w S1 → ∃ a dx fs v, w = .ref a ∧ S1 a = some (.ins C dx fs) ∧ fs.lookup f = some v ∧ P v S1) (c : Cls X.K C) (n : NoAttr X.K C f) (hb : attributeBase o f X.env (eval o X.env) = eval o X.env := by rfl) : EE X σ S (.Attribute o f pos) P := fun H s Q q =>
  he_of (pe_fld peb hb) (ho H s _ fun w S1 H1 g1 pw => by
    obtain ⟨a, dx, fs, v, rfl, h1, h2, pv⟩ := hP w S1 pw
    exact ⟨a, C, dx, fs, v, rfl, g1.sub _ _ h1, c, n, h2, q v S1 H1 g1 pv⟩)
/-- self.f = e where self is not yet told in S -/
theorem hs_fld (hv : EE X σ S e P) (s : Same S H) (ho : ∀ S1, Same S S1 → EE X σ S1 o (fun w _ => w = .ref r)) (hH : H r = some (.ins C dx fs)) (c : Cls X.K C) (n : NoAttr X.K C f) (hl : fs.length < 1000)
    (q : ∀ v S' H', Gr S H S' H' → P v S' → H' r = some (.ins C dx fs) → HS X D rest σ (upd H' r (.ins C dx (putF f v fs)))) (hs : swapsWith e (some (.Attribute o f apos)) pos.line X.env = pure false := by rfl) : HS X D (.Assign [.Attribute o f apos] e pos :: rest) σ H :=
  hs_cons (ps_fld peb peb hs) (hv H s _ fun v S1 H1 g1 pv => by
    refine (ho S1 g1.st) H1 g1.sub _ fun w S2 H2 g2 pw => ?_
    subst pw
    have e1 := g1.hh _ _ hH
    have e2 := g2.hh _ _ e1
    refine ⟨r, C, dx, fs, rfl, e2, c, n, hl, ?_⟩
    have hS : S2 = S2 := rfl
    exact q v S1 H2 ⟨g1.st, g2.st.trans g2.sub, g1.hh.trans g2.hh, g1.old⟩ pv e2)
theorem ee_meth0 {pl : Sem Bool} (D : KM X.prog X.w X.K X.mg X.base C m k sp) (c : Cls X.K C) (hr : Room k X.A) (ho : EE X σ S o P0) (hP : InsP C m P0) (hsp : SpE sp S [P0] R)
    (ht : eval (.Call (.Attribute o m apos) [] [] pos) X.env = (do
      let ov ← eval o X.env
      standAt apos.atName
      let (f, first) ← holding [ov] (getMethod ov m pl)
      callWith pos f first (backTo pos (starEach [] X.env)) (backToKw pos (keywordEach [] X.env))) := by rfl) : EE X σ S (.Call (.Attribute o m apos) [] [] pos) R := fun H s Q q => by
  obtain ⟨f, fd, ps, F, hm, hf, hk, hb⟩ := D.ex
  refine he_of (pe_meth0 peb c ⟨hm, hf, hk⟩ F hr hb .nil pass0 ht) (ho H s _ fun w S1 H1 g1 pw => ?_)
  obtain ⟨a, dx, fs, rfl, h1, h2⟩ := hP w S1 pw
  refine ⟨a, dx, fs, rfl, g1.sub _ _ h1, h2, ?_⟩
  exact hsp _ S1 H1 g1.st g1.sub (.cons pw .nil) Q fun v S3 H3 g3 rv => q v S3 H3 (g1.trans g3) rv
/-- a call anywhere below the body -/
theorem run_fnA {CX : CXT} {k : Nat} {f : Addr} {fd : FuncData} {ps : List Str} {E : XK} {A : Around} {pins : List (Addr × Obj)} {s : Shared} {Q : VK} {us : List Value} {vs : List V} (F : FnOk X.prog X.w X.K X.mg X.base CX k f fd ps sp) (hr : Room k A) (hA : A.frames = X.A.frames) (hb : Binds X.K fd ps []) (hx : Passes CX X E)
    (I : Inv X pins σ H s) (r : Vals vs us) (h : sp vs H Q E) : wpAny (model X.prog X.w) A (call (.ref f) us) (EP X pins σ Q) X.xe s := by
  have hl : (us ++ []).length = ps.length := by rw [List.append_nil, ← r.length]; exact F.len _ _ _ _ h
  have e0 : Env0 X.prog X.w X.K X.mg X.base A X.stack s H := by
    have e := I.env0
    exact ⟨by rw [hA]; exact e.frames, e.mod, e.bs, e.bsz, e.funs, e.frf, e.hok, e.bare⟩
  refine wpAny_call (codeAny_mono (F.run A X.stack s H ⟨us, []⟩ us vs Q E hr e0 (by have := hb s us I.kIn hl; simpa using this) r h) fun r s' hq => ?_)
  cases r with
  | error e => exact hx pins σ H s e s' I hq
  | ok fl =>
    cases fl with
    | ret u => exact I.after hq
    | next => exact False.elim hq
    | brk => exact False.elim hq
    | cont => exact False.elim hq
theorem insAt {pins : List (Addr × Obj)} {s : Shared} {r : Addr} (I : Inv X pins σ H s) (e : H r = some (.ins C dx fs)) : ∃ ox od, PySem.W.InstAt s.heap r ox C (some od) := by
  obtain ⟨mA, J, _⟩ := ins_get I.hok e
  obtain ⟨od, J, _⟩ := J.look
  exact ⟨_, od, J⟩
end
section
open PySem.W
end
end Y
namespace Y
open PySem PySem.Spec PyProof.Rows L2 Z
section
variable {X : Cx} {σ : L2.St} {S S' H : Hp} {e a b c o : Expr} {es : List Expr} {P Pa Pb P0 R : V → Hp → Prop} {Ps : List (V → Hp → Prop)} {pos p apos : Pos} {k : Nat} {x m f : Str} {sp : Sp} {C dx r : Addr} {fs : List (Str × V)} {v : V} {D : Ends} {rest : List Stmt} {bo : Bool}
/-- repr(o), an own __repr__ that gives a text -/
theorem ee_repr (D : KM X.prog X.w X.K X.mg X.base C "__repr__" k sp) (hr : Room (k + 1) X.A) (hm : X.mg "repr" = none) (ha : EE X σ S a P0) [Mn P0] (hC : ∀ w S1, P0 w S1 → ∃ r dx fs, w = .ref r ∧ S1 r = some (.ins C dx fs)) {z : Str} (hsp : SpE sp S [P0] (Dt X.K (.str z))) (hg : Gl X "repr" := by rfl)
    (he : starEach [a] X.env = (false, eval a X.env) :: starEach [] X.env := by rfl) (hpl : (backTo pos (starEach [] X.env)).any (·.1) = false := by rfl) : EE X σ S (.Call (.Name "repr" p) [a] [] pos) (Dt X.K (.str z)) := by
  have hc : CallR X (.builtin "repr") (fun vs H Q => ∃ r dx fs, vs = [.ref r] ∧ H r = some (.ins C dx fs) ∧ sp vs H (fun v H' => ∃ z, v = .str z ∧ Q (.str z) H') E0) := by
    intro pins s σ H vs us Q I rv hq
    obtain ⟨r, dx, fs, rfl, hx, q⟩ := hq
    obtain ⟨f, fd, ps, F, hm, hf, hk, hb⟩ := D.ex
    obtain ⟨u, rfl, rx⟩ : ∃ u, us = [u] ∧ RelV (.ref r) u := by
      cases rv with
      | cons h t => cases t; exact ⟨_, rfl, h⟩
    cases rx
    obtain ⟨ox, od, J⟩ := insAt I hx
    obtain ⟨m, hF⟩ := I.fr
    refine PySem.W.repr_K (by have := hr.in1.units0; simpa [Around.in1] using this) hF I.ok.mod.kin J hm hf (wpAny_mono (run_fnA (vs := [.ref r]) F hr.in1 rfl hb pass0 I (.cons rfl .nil) q) (fun rv s' hq' => ?_) fun _ _ z => z)
    obtain ⟨w, H', I', rw', b, rfl, q'⟩ := hq'
    obtain ⟨t, rfl⟩ := rw'
    exact ⟨.str b, H', I', ⟨t, rfl⟩, q'⟩
  refine ee_callB hc hm (by first | rfl | decide +kernel) (ea_1 ha he) (fun vs S1 H1 st s al Q q => ?_) hg (by decide) (by decide) he hpl
  obtain ⟨v, rfl, pv⟩ := al.one
  obtain ⟨r, dx, fs, rfl, e⟩ := hC v S1 pv
  exact ⟨r, dx, fs, rfl, s _ _ e, hsp _ S1 H1 st s (.cons pv .nil) _ fun v S2 H2 g pv => by
    cases pv
    exact ⟨z, rfl, q _ S2 H2 g (.str _)⟩⟩
end
/-! ## a new instance -/
structure GrI (a : Addr) (S H S' H' : Hp) : Prop where
  st : Same S S'
  sub : Same S' H'
  hh : ∀ z o, z ≠ a → H z = some o → H' z = some o
  old : ∀ z o, z ≠ a → H z = some o → NT o → S' z = S z
/-- a thing whose part at l is new -/
def NewR (R : Addr → V → Hp → Prop) (S : Hp) : V → Hp → Prop := fun v S' => ∃ l, S l = none ∧ R l v S'
theorem NewR.dn {R : Addr → V → Hp → Prop} {S S0 S' : Hp} {v : V} (s : Same S0 S) (h : NewR R S v S') : NewR R S0 v S' := let ⟨l, a, b⟩ := h; ⟨l, s.free a, b⟩
instance {R : Addr → V → Hp → Prop} {S : Hp} [h : ∀ l, Mn (R l)] : Mn (NewR R S) := ⟨fun s ⟨l, a, b⟩ => ⟨l, a, (h l).up s b⟩⟩
theorem GrI.step {a : Addr} {S H S1 H1 S2 H2 : Hp} (i : GrI a S H S1 H1) (g : Gr S1 H1 S2 H2) : GrI a S H S2 H2 :=
  ⟨i.st.trans g.st, g.sub, fun z o n h => g.hh _ _ (i.hh z o n h), fun z o n h m => (g.old z o (i.hh z o n h) m).trans (i.old z o n h m)⟩
theorem GrI.put {a : Addr} {S H S1 H1 : Hp} {o : HO} (i : GrI a S H S1 H1) (h : S a = none) : GrI a S H (upd S1 a o) (upd H1 a o) :=
  ⟨fun z u e => by
    have ne : z ≠ a := fun q => by subst q; rw [h] at e; cases e
    rw [upd_ne ne]; exact i.st z u e, fun z u e => by
    by_cases ne : z = a
    · subst ne; rw [upd_same] at e ⊢; exact e
    · rw [upd_ne ne] at e ⊢; exact i.sub z u e, fun z u n e => by rw [upd_ne n]; exact i.hh z u n e, fun z u n e m => by rw [upd_ne n]; exact i.old z u n e m⟩
section
end
end Y
namespace Y
open PySem PySem.Spec PyProof.Rows L2 Z
section
variable {X : Cx} {σ : L2.St} {S S' H : Hp} {e a b c o : Expr} {es : List Expr} {P Pa Pb P0 R : V → Hp → Prop} {Ps : List (V → Hp → Prop)} {pos p apos : Pos} {i j l : Int} {d : PyData} {ds : List PyData} {k : Bool}
/-- isinstance(a, (list, tuple)) -/
theorem ee_isiLT (hk : k = (isD d "list" || isD d "tuple")) (hm : X.mg "isinstance" = none) (h1 : X.mg "list" = none) (h2 : X.mg "tuple" = none) (ha : EE X σ S a (Dt X.K d)) {p1 p2 p3 : Pos} {x1} (hg : Gl X "isinstance" := by rfl) (hg1 : Gl X "list" := by rfl) (hg2 : Gl X "tuple" := by rfl)
    (hs : starEach [a, .Tuple [.Name "list" p1, .Name "tuple" p2] x1 p3] X.env = (false, eval a X.env) :: starEach [.Tuple [.Name "list" p1, .Name "tuple" p2] x1 p3] X.env := by rfl) : EE X σ S (.Call (.Name "isinstance" p) [a, .Tuple [.Name "list" p1, .Name "tuple" p2] x1 p3] [] pos) (Dt X.K (.bool k)) := by
  haveI m1 : Mn (fun (w : V) (_ : Hp) => w = .ty "list") := ⟨fun _ h => h⟩
  haveI m2 : Mn (fun (w : V) (_ : Hp) => w = .ty "tuple") := ⟨fun _ h => h⟩
  haveI m3 : Mn (fun (w : V) (S : Hp) => ∃ t, w = .ref t ∧ S t = some (.tup [.ty "list", .ty "tuple"])) := ⟨fun s ⟨t, e, h⟩ => ⟨t, e, s _ _ h⟩⟩
  have ht : EE X σ S (.Tuple [.Name "list" p1, .Name "tuple" p2] x1 p3) (fun (w : V) (S : Hp) => ∃ t, w = .ref t ∧ S t = some (.tup [.ty "list", .ty "tuple"])) :=
    ee_tupA (vsP := fun vs _ => vs = [.ty "list", .ty "tuple"]) (fun H s Q q => (ea_2 (ee_bltn (P := fun w _ => w = .ty "list") (v := .ty "list") (u := .type "list") h1 (by first | rfl | decide +kernel | exact boot_list) rfl rfl hg1 (by decide) (by decide)) (ee_bltn (P := fun w _ => w = .ty "tuple") (v := .ty "tuple") (u := .type "tuple") h2 (by first | rfl | decide +kernel | exact boot_tuple) rfl rfl hg2 (by decide) (by decide)) rfl rfl).2 H s Q fun vs S' H' g al => q vs S' H' g (by
        obtain ⟨v, w, rfl, rfl, rfl⟩ := al.two
        rfl)) (fun vs _ e => by subst e; show 2 ≤ 16777216; decide) (fun vs S' t st ht e => by subst e; exact ⟨t, rfl, upd_same⟩)
  refine ee_callB call_isiT hm boot_isinstance (ea_2 ha ht hs rfl) (fun vs S1 H1 _ s al Q q => ?_) hg (he := hs) (hpl := by rfl)
  obtain ⟨v, w, rfl, pv, t, rfl, pw⟩ := al.two
  refine ⟨v, t, [.ty "list", .ty "tuple"], .type (tyN d), [.type "list", .type "tuple"], k, rfl, s _ _ pw, .cons (.ty "list") (.cons (.ty "tuple") .nil), tyX_of pv s, ?_, q _ S1 H1 (Gr.refl s) (.bl k)⟩
  subst hk
  refine kitAny_cons (kit_ty (isD_ok d (by simp))) (fun e => kitAny_cons (kit_ty (isD_ok d (by simp))) (fun e2 => ?_) (fun e2 => ?_)) (fun e => ?_)
  · rw [e, e2]; exact kitAny_nil
  · rw [e2]; simp
  · rw [e]; simp
/-- list(a): a new list -/
def NewL (K : PySem.W.Frag) (S : Hp) (ds : List PyData) : V → Hp → Prop := fun v S' => ∃ l xs, v = .ref l ∧ S l = none ∧ S' l = some (.lst xs) ∧ Dts K ds xs S' ∧ xs.length ≤ sizeLine
instance {K : PySem.W.Frag} {S : Hp} {ds : List PyData} : Mn (NewL K S ds) := ⟨fun s ⟨l, xs, e, h, h1, h2, z⟩ => ⟨l, xs, e, h, s _ _ h1, h2.up s, z⟩⟩
theorem NewL.dt {K : PySem.W.Frag} {S S' : Hp} {ds : List PyData} {v : V} (h : NewL K S ds v S') : Dt K (.list ds) v S' := by
  obtain ⟨l, xs, rfl, _, h1, h2, z⟩ := h
  exact Dt.lst_mk h1 h2 z
theorem NewL.dn {K : PySem.W.Frag} {S S0 S' : Hp} {ds : List PyData} {v : V} (s : Same S0 S) (h : NewL K S ds v S') : NewL K S0 ds v S' := by
  obtain ⟨l, xs, rfl, h0, h1, h2, z⟩ := h
  exact ⟨l, xs, rfl, s.free h0, h1, h2, z⟩
theorem ee_listN (hm : X.mg "list" = none) (hd : d = .list ds ∨ d = .tuple ds) (ha : EE X σ S a (Dt X.K d)) (hg : Gl X "list" := by rfl)
    (hs : starEach [a] X.env = (false, eval a X.env) :: starEach [] X.env := by rfl) : EE X σ S (.Call (.Name "list" p) [a] [] pos) (NewL X.K S ds) :=
  ee_callTy call_list_of hm boot_list (ea_1 ha hs) (fun vs S1 H1 st s al Q q => by
    obtain ⟨v, rfl, pv⟩ := al.one
    rcases hd with rfl | rfl
    · obtain ⟨l, xs, rfl, hl, hx, z⟩ := pv.lst_inv
      exact ⟨l, xs, rfl, .inl (sql_of (s _ _ hl)), fun t ht => q _ _ _ (Gr.new s ht) ⟨t, xs, rfl, st.free (s.free ht), upd_same, hx.up (Same.new (s.free ht)), z⟩⟩
    · obtain ⟨l, xs, rfl, hl, hx, z⟩ := pv.tup_inv
      exact ⟨l, xs, rfl, .inr (sqt_up s hl), fun t ht => q _ _ _ (Gr.new s ht) ⟨t, xs, rfl, st.free (s.free ht), upd_same, hx.up (Same.new (s.free ht)), z⟩⟩) hg (he := hs) (hpl := by rfl)
end
end Y
namespace Y
open PySem PySem.Spec PyProof.Rows L2 Z
section
variable {X : Cx} {σ : L2.St} {S S' H : Hp} {e a b c o : Expr} {es : List Expr} {P Pa Pb P0 P1 R : V → Hp → Prop} {Ps : List (V → Hp → Prop)} {pos p apos kpos : Pos} {i j l : Int} {d : PyData} {ds ds1 ds2 : List PyData} {k : Nat} {x m f kn : Str} {sp : Sp} {C dx r : Addr} {D : Ends} {rest : List Stmt}
/-! ### o.m(k = e) -/
/-! ### a def with a star parameter -/
/-! ### f-strings -/
inductive EJ (X : Cx) (σ : L2.St) (S : Hp) : List Expr → List Str → Prop
  | nil : EJ X σ S [] []
  | cons {e : Expr} {es : List Expr} {y : Str} {ys : List Str} : EE X σ S e (Dt X.K (.str y)) → EJ X σ S es ys → EJ X σ S (e :: es) (y :: ys)
theorem EJ.pj {es : List Expr} {ys : List Str} (h : EJ X σ S es ys) : PJ X es (es.map (bE X)) := by
  induction h with
  | nil => exact .nil
  | cons _ _ ih => exact .cons peb ih
theorem EJ.run {es : List Expr} {ys : List Str} (h : EJ X σ S es ys) : ∀ (acc : Str) (S1 H1 : Hp) (Q : Str → Hp → Prop), Same S S1 → Same S1 H1 → acc.length + (ys.map (·.length)).sum ≤ sizeLine → (∀ S2 H2, Gr S1 H1 S2 H2 → Q (ys.foldl (· ++ ·) acc) H2) → tJs (es.map (bE X)) acc σ H1 Q := by
  induction h with
  | nil => intro acc S1 H1 Q _ s _ q; exact q S1 H1 (Gr.refl s)
  | @cons e es y ys he _ ih =>
    intro acc S1 H1 Q st s hz q
    rw [List.map_cons, List.sum_cons] at hz
    have el : (acc ++ y).length = acc.length + y.length := by
      show (acc.cps ++ y.cps).size = _
      rw [Array.size_append]; rfl
    refine (he.up st) H1 s _ fun v S2 H2 g2 pv => ?_
    cases pv
    exact ⟨y, rfl, by rw [el]; omega, ih (acc ++ y) S2 H2 Q (st.trans g2.st) g2.sub (by rw [el]; omega) fun S3 H3 g3 => q S3 H3 (g2.trans g3)⟩
theorem ee_joined {v1 v2 : Expr} {rest : List Expr} {ys : List Str} (h : EJ X σ S (v1 :: v2 :: rest) ys) (hz : (ys.map (·.length)).sum ≤ sizeLine) : EE X σ S (.JoinedStr (v1 :: v2 :: rest) pos) (Dt X.K (.str (ys.foldl (· ++ ·) Str.empty))) := fun H s Q q =>
  he_of (pe_joined h.pj) (h.run Str.empty S H _ (Same.refl S) s (by show 0 + _ ≤ _; omega) fun S2 H2 g => q _ S2 H2 g (.str _))
theorem ee_fmtS {y : Str} (hz : y.length ≤ sizeLine) (h : EE X σ S e (Dt X.K (.str y))) : EE X σ S (.FormattedValue e (-1) none pos) (Dt X.K (.str y)) := fun H s Q q =>
  he_of (pe_fmt peb) (h H s _ fun v S1 H1 g pv => by cases pv; exact .inl ⟨y, rfl, hz, q _ S1 H1 g (.str _)⟩)
theorem ee_fmtI (hz : i.natAbs.log2 < 1920) (h : EE X σ S e (Dt X.K (.int i))) : EE X σ S (.FormattedValue e (-1) none pos) (Dt X.K (.str (toString i))) := fun H s Q q =>
  he_of (pe_fmt peb) (h H s _ fun v S1 H1 g pv => by cases pv; exact .inr ⟨i, rfl, hz, q _ S1 H1 g (.str _)⟩)
/-! ### [*a, *b] -/
/-! ### a new list is changed -/
def del (S : Hp) (l : Addr) : Hp := fun a => if a = l then none else S a
theorem del_self {S : Hp} {l : Addr} : del S l l = none := by unfold del; rw [if_pos rfl]
theorem del_ne {S : Hp} {l a : Addr} (h : a ≠ l) : del S l a = S a := by unfold del; rw [if_neg h]
theorem Gr.cut {Sb Hb S H : Hp} {l : Addr} {o : HO} (g : Gr Sb Hb S H) (sb : Same Sb Hb) (h : Hb l = none) : Gr Sb Hb (del S l) (upd H l o) := by
  have hs : Sb l = none := sb.free h
  exact ⟨fun a u e => by
    have ne : a ≠ l := fun z => by subst z; rw [hs] at e; cases e
    rw [del_ne ne]; exact g.st a u e, fun a u e => by
    by_cases ne : a = l
    · subst ne; rw [del_self] at e; cases e
    · rw [del_ne ne] at e; rw [upd_ne ne]; exact g.sub a u e, fun a u e => by
    have ne : a ≠ l := fun z => by subst z; rw [h] at e; cases e
    rw [upd_ne ne]; exact g.hh a u e, fun a u e m => by
    have ne : a ≠ l := fun z => by subst z; rw [h] at e; cases e
    rw [del_ne ne]; exact g.old a u e m⟩
/-- a new list's address is not in what stood -/
theorem Gr.isnew {Sb Hb S H : Hp} {l : Addr} {o : HO} (g : Gr Sb Hb S H) (h0 : Sb l = none) (h1 : S l = some o) (n : NT o := by intro _ z; cases z) : Hb l = none := by
  cases e : Hb l with
  | none => rfl
  | some u =>
    have h2 := g.hh l u e
    rw [g.sub l o h1] at h2
    cases h2
    have := g.old l o e n; rw [h0, h1] at this; cases this
/-- o.append(e), o a new list -/
theorem hs_append {ds : List PyData} (ho : EE X σ S o (NewL X.K S ds)) (s : Same S H) (hz : ds.length < 1000) [Mn P] (ha : EE X σ S e P) (q : ∀ l xs v S' H', Gr S H S' H' → S l = none → S' l = some (.lst xs) → HS X D rest σ (upd H' l (.lst (xs ++ [v])))) (hbase : attributeBase o "append" X.env (eval o X.env) = eval o X.env := by rfl) (hline : (apos.endLine == p.line) = true := by rfl)
    (hs : swapsWith (.Call (.Attribute o "append" apos) [e] [] p) none pos.line X.env = pure false := by rfl) (hst : starEach [e] X.env = (false, eval e X.env) :: starEach [] X.env := by rfl)
    (hfew : ((backTo p (starEach [e] X.env)).all (fun x => !x.1) && (backToKw p (keywordEach [] X.env)).all (fun x => x.1.isSome) && decide ([e].length + ([] : List Keyword).length + (if ([] : List Keyword).isEmpty then 0 else 1) < 30)) = true := by rfl) : HS X D (.Expr (.Call (.Attribute o "append" apos) [e] [] p) pos :: rest) σ H :=
  hs_cons (ps_expr (pe_bm PySem.F.plainAttrs_list PySem.F.slot_list_append PySem.F.type_list_append mt_append peb (pa_cons (te := bE X e) (t := tNil) peb pa_nil hst) hbase hfew hline hst (by rfl)) hs) (ho H s _ fun w S1 H1 g1 pw => by
    obtain ⟨l, xs, rfl, h0, h1, h2, h3⟩ := pw
    refine ⟨.inl ⟨rfl, _, .inl (.inl (g1.sub _ _ h1))⟩, ?_⟩
    exact (ha.up g1.st) H1 g1.sub _ fun v S2 H2 g2 pv => ⟨l, xs, v, rfl, rfl, g2.sub _ _ (g2.st _ _ h1), by rw [h2.1]; show _ < 16777216; omega, q l xs v S2 H2 (g1.trans g2) h0 (g2.st _ _ h1)⟩)
end
end Y
namespace Y
open PySem PySem.Spec PyProof.Rows L2 Z
section
variable {X : Cx} {σ : L2.St} {S S' H : Hp} {a b e : Expr} {Pa Pb : V → Hp → Prop} {pos p px py pt : Pos} {D : Ends} {rest : List Stmt} {x y : Str} {i j kt : Nat}
/-- x, y = a, b by a pair -/
theorem hs_unp2 [Mn Pa] [Mn Pb] {x1} (hc : X.calm = true) (hN : X.N.Nodup) (ha : EE X σ S a Pa) (hb : EE X σ S b Pb) (s : Same S H)
    (q : ∀ v w S' H', Pa v S' → Pb w S' → Gr S H S' H' → HS X D rest ((σ.set i (some v)).set j (some w)) H')
    (hi : X.N[i]? = some x := by rfl) (hj : X.N[j]? = some y := by rfl) (hx : Loc X.env.scope x := by first | exact Or.inl rfl | exact Or.inr rfl) (hy : Loc X.env.scope y := by first | exact Or.inl rfl | exact Or.inr rfl)
    (hfx : X.fn x = true ∨ X.env.scope.names.lookup x = some .local := by first | exact .inl rfl | exact .inr rfl) (hfy : X.fn y = true ∨ X.env.scope.names.lookup y = some .local := by first | exact .inl rfl | exact .inr rfl)
    (hn : (assignEach [.Name x px, .Name y py] X.env).length = 2 := by rfl) (hst : (assignEach [.Name x px, .Name y py] X.env).findIdx? (·.1) = none := by rfl)
    (h1 : (assignEach [.Name x px, .Name y py] X.env).map (·.2) = assign (.Name x px) X.env :: (assignEach [.Name y py] X.env).map (·.2) := by rfl) (h2 : (assignEach [.Name y py] X.env).map (·.2) = assign (.Name y py) X.env :: (assignEach [] X.env).map (·.2) := by rfl)
    (hss : swapsWithSole [.Tuple [.Name x px, .Name y py] kt pt] (.Tuple [a, b] x1 p) pos.line X.env = pure false := by rfl) (hw : swappedStores [.Tuple [.Name x px, .Name y py] kt pt] (.Tuple [a, b] x1 p) X.env = pure none := by rfl)
    (h3 : (assignEach [.Tuple [.Name x px, .Name y py] kt pt] X.env).map (·.2) = [assign (.Tuple [.Name x px, .Name y py] kt pt) X.env] := by rfl)
    (hs1 : starEach [a, b] X.env = (false, eval a X.env) :: starEach [b] X.env := by rfl) (hs2 : starEach [b] X.env = (false, eval b X.env) :: starEach [] X.env := by rfl) : HS X D (.Assign [.Tuple [.Name x px, .Name y py] kt pt] (.Tuple [a, b] x1 p) pos :: rest) σ H := by
  have ht : EE X σ S (.Tuple [a, b] x1 p) (fun v S' => ∃ l v1 v2, v = .ref l ∧ S' l = some (.tup [v1, v2]) ∧ Pa v1 S' ∧ Pb v2 S') :=
    ee_tupA (vsP := fun vs S' => ∃ v1 v2, vs = [v1, v2] ∧ Pa v1 S' ∧ Pb v2 S') (fun H s Q q => (ea_2 ha hb hs1 hs2).2 H s Q fun vs S' H' g al => q vs S' H' g (by
      obtain ⟨v, w, rfl, p1, p2⟩ := al.two
      exact ⟨v, w, rfl, p1, p2⟩)) (fun vs _ ⟨_, _, e, _⟩ => by subst e; show 2 ≤ 16777216; decide) (fun vs S' t st ht ⟨v1, v2, e, p1, p2⟩ => by subst e; exact ⟨t, v1, v2, rfl, upd_same, Mn.up (Same.new ht) p1, Mn.up (Same.new ht) p2⟩)
  exact hs_cons (ps_asg peb pgb hss hw h3) (ht H s _ fun v S' H' g ⟨l, v1, v2, e, hl, p1, p2⟩ => by
    subst e
    exact hg_of (pg_tup hc (pgs_cons (pg_name hN hi hx hfx) (pgs_cons (pg_name hN hj hy hfy) pgs_nil h2) h1) hn hst) ⟨l, _, rfl, .inl (.inl (g.sub _ _ hl)), rfl, _, _, rfl, _, _, rfl, rfl, q v1 v2 S' H' p1 p2 g⟩)
/-- what stood ahead of l -/
theorem Same.cut {S0 S1 : Hp} {l : Addr} (s : Same S0 S1) (h : S0 l = none) : Same S0 (del S1 l) := fun z o e => by
  have ne : z ≠ l := fun q => by subst q; rw [h] at e; cases e
  rw [del_ne ne]; exact s z o e
end
end Y
namespace Y
open PySem PySem.Spec PyProof.Rows L2 Z
end Y
namespace Y
open PySem PySem.Spec PyProof.Rows L2 Z
/-! ## own errors -/
section
end
end Y
namespace Y
open PySem PySem.Spec PyProof.Rows L2 Z
/-! ## try: .. except (A, B, C) as e: .. (the outline of the catch follows HandS.Exc's ps_try_as) -/
def bS (X : Cx) (st : Stmt) : TS := fun D σ H => ∀ (pins : List (Addr × Obj)) (s : Shared), Inv X pins σ H s → wpAny (model X.prog X.w) X.A (exec st X.env) (SP X pins D) X.xe s
end Y
namespace Y
open PySem PySem.Spec PyProof.Rows L2 Z
/-! ## objects shown to a call: untracked ones, told by their objects while the call runs -/
def shown (H : Hp) (a : Addr) (o : Obj) : Hp := upd H a (.frz o (.ext fun _ => True))
def shownL (H : Hp) : List (Addr × Obj) → Hp
  | [] => H
  | p :: L => shown (shownL H L) p.1 p.2
def delL (H : Hp) : List (Addr × Obj) → Hp
  | [] => H
  | p :: L => delL (L2.del H p.1) L
section
variable {P : Program} {w : World} {H H1 : Hp} {h h1 B : Heap} {a b : Addr} {o : Obj} {u : HO} {fs : List Addr}
theorem shown_same : shown H a o a = some (.frz o (.ext fun _ => True)) := upd_same
theorem shown_ne (hb : b ≠ a) : shown H a o b = H b := upd_ne hb
theorem shown_hok (x : HOk P w H h) (n : H a = none) (e : h.get? a = some o) : HOk P w (shown H a o) h := fun b v q => by
  by_cases hb : b = a
  · subst hb
    rw [shown_same] at q
    cases q
    exact ⟨e, trivial, ⟨o, e⟩, fun _ _ _ _ => trivial⟩
  · rw [shown_ne hb] at q
    exact (x b v q).stay (fun _ _ _ z => z) (fun c z => (shown_ne (ne_of_none z n)).trans z) (fun c xs z => (shown_ne (ne_of_none z n)).trans z)
end
/-- a thing that may be shown at this state -/
structure Show (base : Heap) (outer : List Env) (H : Hp) (s : Shared) (a : Addr) (o : Obj) : Prop where
  ob : s.heap.get? a = some o
  no : H a = none
  nf : a ∉ frs outer
  nb : base.get? a = none
theorem Show.skip {base : Heap} {outer : List Env} {H : Hp} {s : Shared} {a b : Addr} {o p : Obj} (x : Show base outer H s a o) (h : a ≠ b) : Show base outer (shown H b p) s a o := ⟨x.ob, (shown_ne h).trans x.no, x.nf, x.nb⟩
theorem Show.list {base : Heap} {outer : List Env} {H : Hp} {s : Shared} {a : Addr} {o : Obj} (x : Show base outer H s a o) : ∀ {L : List (Addr × Obj)}, a ∉ L.map (·.1) → Show base outer (shownL H L) s a o
  | [], _ => x
  | p :: L, h => by
    simp only [List.map_cons, List.mem_cons, not_or] at h
    exact (x.list h.2).skip h.1
section
end
section
end
end Y
namespace Y
open PySem PySem.Spec PyProof.Rows L2 Z
/-! ## the other way: shown things are taken out for a call (the cells of a closure) -/
abbrev Tr : HO := .ext fun _ => True
section
variable {P : Program} {w : World} {H H1 : Hp} {h h1 B : Heap} {a b : Addr} {o : Obj} {u : HO} {fs : List Addr}
theorem unshow_un (U : Un fs [] (L2.del H a) H1 h h1) (hH : H a = some (.frz o Tr)) : Un fs [] H (shown H1 a o) h h1 := by
  have ne : ∀ b v, H b = some v → (∀ p q, v ≠ .frz p q) → b ≠ a := fun b v e q z => by
    rw [z, hH] at e; cases e; exact q _ _ rfl
  have nn : ∀ b, H b = none → b ≠ a := fun b e z => by rw [z, hH] at e; cases e
  refine ⟨fun b ob q nb hf hx => U.keep b ob q ((L2.del_ne (nn b nb)).trans nb) hf hx, fun b ob q nb hf hx => U.slot b ob q ((L2.del_ne (nn b nb)).trans nb) hf hx, fun b ob q nb hx => (shown_ne (nn b nb)).trans (U.free b ob q ((L2.del_ne (nn b nb)).trans nb) hx), U.there, fun b xs q => ?_, fun b ob v q => ?_, fun b ps q => ?_⟩
  · have hb := ne b _ q fun _ _ z => by cases z
    exact (shown_ne hb).trans (U.tups b xs ((L2.del_ne hb).trans q))
  · by_cases hb : b = a
    · subst hb; rw [hH] at q; cases q; exact shown_same
    · exact (shown_ne hb).trans (U.frzs b ob v ((L2.del_ne hb).trans q))
  · have hb := ne b _ q fun _ _ z => by cases z
    obtain ⟨m, z⟩ := U.tbls b ps ((L2.del_ne hb).trans q)
    exact ⟨m, (shown_ne hb).trans z⟩
end
/-- a thing that is shown here -/
structure Shown (outer : List Env) (H : Hp) (s : Shared) (a : Addr) (o : Obj) : Prop where
  at_ : H a = some (.frz o Tr)
  ob : s.heap.get? a = some o
  nf : a ∉ frs outer
theorem Shown.skip {outer : List Env} {H : Hp} {s : Shared} {a b : Addr} {o : Obj} (x : Shown outer H s a o) (n : a ≠ b) : Shown outer (L2.del H b) s a o := ⟨(L2.del_ne n).trans x.at_, x.ob, x.nf⟩
/-- what leaves a call by an exception bears that a hidden thing is shown again -/
structure Bares (P : Program) (w : World) (CX : CXT) : Prop where
  mono : ∀ (outer : List Env) (H : Hp) (s : Shared) (E E' : XK) (u : Value) (s' : Shared), (∀ c d H', E c d H' → E' c d H') → CX outer H s E u s' → CX outer H s E' u s'
  show_ : ∀ (outer : List Env) (H : Hp) (a : Addr) (o : Obj) (s : Shared) (E : XK) (u : Value) (s' : Shared), Shown outer H s a o → CX outer (L2.del H a) s (fun cls d H' => H' a = none → E cls d (shown H' a o)) u s' → CX outer H s E u s'
section
variable {P : Program} {w : World} {K : PySem.W.Frag} {mg : Str → Option Value} {base : Heap} {A : Around} {outer : List Env} {s : Shared} {H : Hp} {a : Addr} {o : Obj} {CX : CXT} {c : Code} {Q : VK} {E : XK}
theorem bare (hd : Bares P w CX) (x : Shown outer H s a o) (h : codeAny (model P w) A c (CR CX outer P w (L2.del H a) s (fun v H' => H' a = none → Q v (shown H' a o)) (fun cls d H' => H' a = none → E cls d (shown H' a o))) s) : codeAny (model P w) A c (CR CX outer P w H s Q E) s := by
  refine codeAny_mono h fun r s' hq => ?_
  cases r with
  | error u => exact hd.show_ _ _ _ _ _ _ _ _ x hq
  | ok fl =>
    cases fl with
    | ret u =>
      obtain ⟨v, H', os, br, un, hok, r, q⟩ := hq
      have e1 : s'.heap.get? a = some o := un.keep a o x.ob L2.del_same x.nf (by simp)
      have n1 : H' a = none := un.free a o x.ob L2.del_same (by simp)
      exact ⟨v, shown H' a o, os, br, unshow_un un x.at_, shown_hok hok n1 e1, r, q n1⟩
    | next => exact False.elim hq
    | brk => exact False.elim hq
    | cont => exact False.elim hq
end
section
end
end Y
namespace Y
open PySem PySem.Spec PyProof.Rows L2 Z LamX NdefX
/-! ## lambdas that are kept: what one promises, called wherever (after HandS.Nested's nok_of and HandS.Lambda's pe_act) -/
/-- a lambda: its words, the cells that it captured, its code object, its defaults' tuple -/
structure LF where
  qual : Str
  params : Arguments
  body : Expr
  scope : Scope
  cl : List (Str × Addr)
  c : Addr
  dT : Option Addr
abbrev LF.nf (F : LF) : NF := ⟨"<lambda>", F.qual, F.params, [], F.scope, F.cl, F.c⟩
abbrev LF.fd (F : LF) (pm ctv : Value) : FuncData := { PySem.W.kla_fn "<lambda>" F.qual F.params F.body F.scope F.cl pm (.ref F.c) ctv with defaults := F.dT.elim .none .ref }
/-- the object at f is the lambda F -/
def LamO (f : Addr) (F : LF) : HO := .ext fun h => ∃ (pm ctv : Value), h.get? f = some ({ cls := .type "function", data := .func (F.fd pm ctv) } : Obj)
/-- its defaults stand in H -/
def LDef (F : LF) (dvs : List V) (H : Hp) : Prop := (F.dT = none → dvs = []) ∧ ∀ T, F.dT = some T → H T = some (.tup dvs)
/-- the promise of the lambda F at f: sp ws, ws what its captured cells hold at the call -/
structure LOk (P : Program) (w : World) (K : PySem.W.Frag) (mg : Str → Option Value) (base : Heap) (CX : CXT) (k : Nat) (f : Addr) (F : LF) (fr : List Str) (dvs : List V) (sp : List (Option V) → Hp → VK → XK → Prop) : Prop where
  run : ∀ (A : Around) (outer : List Env) (s : Shared) (H : Hp) (ws : List (Option V)) (Q : VK) (E : XK), Room k A → Env0 P w K mg base A outer s H → H f = some (LamO f F) → H F.c = some (CodeO F.c F.qual) → LDef F dvs H →
    CellsAt F.cl fr ws s.heap H → sp ws H Q E → codeAny (model P w) A (.call (.ref f) ⟨[], []⟩) (CR CX outer P w H s Q E) s
section
variable {CX : CXT} {P : Program} {w : World} {K : PySem.W.Frag} {mg : Str → Option Value} {base : Heap} {N ps fr : List Str} {F : LF} {f : Addr} {k j : Nat} {dvs : List V} {sp : List (Option V) → Hp → VK → XK → Prop}
theorem LOk.mono (o : LOk P w K mg base CX j f F fr dvs sp) (h : j ≤ k) : LOk P w K mg base CX k f F fr dvs sp := ⟨fun A outer s H ws Q E hr => o.run A outer s H ws Q E (hr.mono h)⟩
end
end Y
namespace Y
open PySem PySem.Spec PyProof.Rows L2 Z LamX NdefX
/-! ## a lambda is made, with defaults or without (after KE.KLam's kla_makeTail and HandS.Nested's ndef_make, which have no defaults) -/
section
end
end Y
namespace Y
open PySem PySem.Spec PyProof.Rows L2 Z LamX NdefX
theorem lamO_ne {f : Addr} {F : LF} (ps : Array Value) : LamO f F ≠ .tbl ps := fun z => by unfold LamO at z; cases z
section
end
end Y
namespace Y
open PySem PySem.Spec PyProof.Rows L2 Z LamX NdefX
/-! ## a kept lambda is called, its cells shown here -/
theorem delL_none {b : Addr} : ∀ {L : List (Addr × Obj)} {H : Hp}, H b = none → delL H L b = none
  | [], _, h => h
  | p :: L, H, h => delL_none (L := L) (H := L2.del H p.1) (by
      by_cases hb : b = p.1
      · rw [hb]; exact L2.del_same
      · exact (L2.del_ne hb).trans h)
theorem delL_mem {b : Addr} : ∀ {L : List (Addr × Obj)} {H : Hp}, b ∈ L.map (·.1) → delL H L b = none
  | p :: L, H, h => by
    rw [List.map_cons, List.mem_cons] at h
    by_cases hb : b = p.1
    · exact delL_none (L := L) (H := L2.del H p.1) (by rw [hb]; exact L2.del_same)
    · exact delL_mem (L := L) (H := L2.del H p.1) (h.resolve_left hb)
/-- the captured cells among the shown things, what they hold (ws) -/
structure CellsL (cl : List (Str × Addr)) (fr : List Str) (ws : List (Option V)) (L : List (Addr × Obj)) : Prop where
  len : ws.length = fr.length
  all : ∀ y c, cl.lookup y = some c → ∃ o v, (c, o) ∈ L ∧ o.data = .cell v
  inj : ∀ x y c, cl.lookup x = some c → cl.lookup y = some c → x = y
  has : ∀ (i : Nat) (y : Str), fr[i]? = some y → ∃ c, cl.lookup y = some c ∧ ∀ v, ws[i]? = some (some v) → ∃ u o, L2.RelV v u ∧ (c, o) ∈ L ∧ o.data = .cell (some u)
theorem CellsL.at_ {cl : List (Str × Addr)} {fr : List Str} {ws : List (Option V)} {L : List (Addr × Obj)} {h : Heap} {H : Hp} (C : CellsL cl fr ws L) (hL : ∀ p ∈ L, h.get? p.1 = some p.2) : CellsAt cl fr ws h (delL H L) := by
  refine ⟨C.len, fun y c e => ?_, C.inj, fun i y e => ?_⟩
  · obtain ⟨o, v, m, d⟩ := C.all y c e
    exact ⟨delL_mem (List.mem_map.mpr ⟨_, m, rfl⟩), v, o, hL _ m, d⟩
  · obtain ⟨c, e1, e2⟩ := C.has i y e
    refine ⟨c, e1, fun v hv => ?_⟩
    obtain ⟨u, o, r, m, d⟩ := e2 v hv
    exact ⟨u, r, o, hL _ m, d⟩
/-- a kept lambda with its cells shown: what is known of it in H -/
structure Kept (F : LF) (f : Addr) (fr : List Str) (dvs : List V) (ws : List (Option V)) (L : List (Addr × Obj)) (H : Hp) : Prop where
  lam : H f = some (LamO f F)
  code : H F.c = some (CodeO F.c F.qual)
  dfl : LDef F dvs H
  shw : ∀ p ∈ L, H p.1 = some (.frz p.2 Tr)
  nd : (L.map (·.1)).Nodup
  cells : CellsL F.cl fr ws L
theorem Kept.ext {F : LF} {f : Addr} {fr : List Str} {dvs : List V} {ws : List (Option V)} {L : List (Addr × Obj)} {H H' : Hp} (k : Kept F f fr dvs ws L H) (s : Same H H') : Kept F f fr dvs ws L H' :=
  ⟨s _ _ k.lam, s _ _ k.code, ⟨k.dfl.1, fun T e => s _ _ (k.dfl.2 T e)⟩, fun p hp => s _ _ (k.shw p hp), k.nd, k.cells⟩
section
end
end Y
namespace Y
open PySem PySem.Spec PyProof.Rows L2 Z
/-! ## a text in a list of texts; what a caught error keeps -/
section
end
/-- a shown own error, its code, the attribute n -/
def ExcAt (C : Addr) (code n : Str) (v : V) (w : V) (S : Hp) : Prop := ∃ (a : Addr) (oe : Obj) (dd : Addr) (fs : List (Str × V)), w = .ref a ∧ S a = some (.frz oe Tr) ∧ oe.cls = .ref C ∧ oe.dict = some dd ∧ (∃ vs, oe.data = .fields vs) ∧ S dd = some (.xd fs) ∧ fs.lookup ("code" : Str) = some (V.str code) ∧ fs.lookup n = some v
instance {C : Addr} {code n : Str} {v : V} : Mn (ExcAt C code n v) := ⟨fun s ⟨a, oe, dd, fs, h1, h2, h3, h4, h5, h6, h7, h8⟩ => ⟨a, oe, dd, fs, h1, s _ _ h2, h3, h4, h5, s _ _ h6, h7, h8⟩⟩
section
end
end Y
namespace Y
open PySem PySem.Spec PyProof.Rows L2 Z
end Y
namespace Y
open PySem PySem.Spec PyProof.Rows L2 L2H Z
/-! ## a def called within an except suite, the caught exception pinned; it raises nothing there (after HandS.HotCalls, without its wish on the exception's context) -/
section
end
end Y
namespace Y
open PySem PySem.Spec PyProof.Rows L2 L2H Z
/-! ## attributes of the pinned exception -/
/-- the exception p: its class, its code, the value of its attribute n -/
def ExcP (C : Addr) (code n : Str) (v : V) (p : Addr × Obj) (S : Hp) : Prop := ∃ (dd : Addr) (fs : List (Str × V)), p.2.cls = .ref C ∧ p.2.dict = some dd ∧ (∃ vs, p.2.data = .fields vs) ∧ S dd = some (.xd fs) ∧ fs.lookup ("code" : Str) = some (V.str code) ∧ fs.lookup n = some v
theorem ExcP.up {C : Addr} {code n : Str} {v : V} {p : Addr × Obj} {S S' : Hp} (h : ExcP C code n v p S) (s : Same S S') : ExcP C code n v p S' := by
  obtain ⟨dd, fs, h1, h2, h3, h4, h5, h6⟩ := h
  exact ⟨dd, fs, h1, h2, h3, s _ _ h4, h5, h6⟩
section
end
end Y
namespace Y
open PySem PySem.Spec PyProof.Rows L2 Z
section
end
end Y
namespace Y
open PySem PySem.Spec PyProof.Rows L2 Z
/-! ## a list comprehension over things of any kind (Z3's ee_lcG with predicates for the items) -/
section
end
end Y
namespace Y
open PySem PySem.Spec PyProof.Rows L2 Z
/-- a list whose items have the Ps -/
def LstP (Ps : List (V → Hp → Prop)) (v : V) (S : Hp) : Prop := ∃ l xs, v = .ref l ∧ S l = some (.lst xs) ∧ Al Ps xs S
theorem al_len {Ps : List (V → Hp → Prop)} {xs : List V} {H : Hp} (h : Al Ps xs H) : xs.length = Ps.length := by
  induction h with
  | nil => rfl
  | cons _ _ ih => rw [List.length_cons, List.length_cons, ih]
theorem al_get {Ps : List (V → Hp → Prop)} {xs : List V} {H : Hp} (h : Al Ps xs H) : ∀ {i : Nat} {x : V}, xs[i]? = some x → ∃ P, Ps[i]? = some P ∧ P x H := by
  induction h with
  | nil => intro i x e; cases e
  | cons p _ ih =>
    intro i x e
    cases i with
    | zero => cases e; exact ⟨_, rfl, p⟩
    | succ i => exact ih e
section
end
end Y
namespace Y
open PySem PySem.Spec PyProof.Rows L2 Z
section
end
end Y
namespace Y
open PySem PySem.Spec PyProof.Rows L2 Z
end Y
namespace Y
open PySem PySem.Spec PyProof.Rows L2 Z LamX NdefX
/-! ## the running frame's cells, shown to a call -/
section
end
section
end
/-! ## what is known without the tables -/
end Y
namespace Y
open PySem PySem.Spec PyProof.Rows L2 Z
section
variable {X : Cx} {σ : L2.St} {S S' H : Hp} {a b c e d0 tg : Expr} {pos p : Pos} {i j l m : Int} {b1 b2 b3 : Bool} {g1 g2 : Int → Int → V} {D : Ends} {rest body : List Stmt} {x : Str} {k n : Nat}
/-- f(k1 = e1, k2 = e2), by name alone; the values stand the other way round in the def -/
def gS {α : Type} : List α → List α → List α
  | us, [a, b] => us ++ [b, a]
  | us, ws => us ++ ws
theorem gS_rel {vs zs : List V} {us ws : List Value} (r1 : Vals vs us) (r3 : Vals zs ws) : Vals (gS vs zs) (gS us ws) := by
  cases r3 with
  | nil => exact r1.append .nil
  | cons a t =>
    cases t with
    | nil => exact r1.append (.cons a .nil)
    | cons b t =>
      cases t with
      | nil => exact r1.append (.cons b (.cons a .nil))
      | cons c t => exact r1.append (.cons a (.cons b (.cons c t)))
structure KDK (P : Program) (w : World) (K : PySem.W.Frag) (mg : Str → Option Value) (base : Heap) (x : Str) (ks : List Str) (k : Nat) (sp : Sp) : Prop where
  ex : ∃ f fd ps, FnOk P w K mg base CX0 k f fd ps sp ∧ mg x = some (.ref f) ∧ PySem.W.keepIn K (.ref f) = true ∧ KBn K fd ps 0 ks gS gS
/-- for .. in range(n): what is kept is told of the whole heap -/
theorem hs_forR {n : Nat} (Iv : Nat → L2.St → Hp → Prop) (hp : PassesOwn (model X.prog X.w) X.A X.env X.xe) (hc : X.calm = true) (hm : X.mg "range" = none) (hn : (n : Int) < 2 ^ 62) (ha : EE X σ S a (Dt X.K (.int (n : Nat)))) (s : Same S H) (h0 : ∀ S' H', Gr S H S' H' → Iv 0 σ H')
    (step : ∀ i σ1 H1, i < n → Iv i σ1 H1 → HG X tg (.int (i : Nat)) σ1 H1 fun σ3 H3 => HS X { D with nx := Iv (i + 1), ct := Iv (i + 1), bk := fun σ' H' => HS X D rest σ' H' } body σ3 H3)
    (done : ∀ σ1 H1, Iv n σ1 H1 → HS X D rest σ1 H1) (hg : Gl X "range" := by rfl) (hs1 : starEach [a] X.env = [(false, eval a X.env)] := by rfl) (hs : ∀ x, foldedSetIterable (.Call (.Name "range" p) [a] [] pos) X.env x = pure x := by intro _; rfl) {pos2 : Pos} :
    HS X D (.For tg (.Call (.Name "range" p) [a] [] pos) body [] pos2 :: rest) σ H :=
  hs_cons (ps_for hp hc (pi_range1 hg hm pab hs1) pgb psb hs) ((ea_1 ha (by rw [hs1]; rfl)).2 H s _ fun vs S1 H1 g1 al => by
    obtain ⟨v, rfl, pv⟩ := al.one
    cases pv
    refine ⟨(n : Int), rfl, by omega, hn, for_it (G := fun _ => True) (Y := fun i H x H' => H' = H ∧ x = .int (0 + (i : Int))) (n := n) ⟨fun i H hi _ => ?_, fun H _ => ?_, fun i H x H' _ _ y => y⟩ Iv (h0 S1 H1 g1) (fun _ _ _ _ _ => trivial) (fun i x σ' H2 H3 hi iv y => ?_) done⟩
    · show i < ((n : Int)).toNat
      omega
    · show ((n : Int)).toNat ≤ n
      omega
    · obtain ⟨rfl, rfl⟩ := y
      rw [Int.zero_add]
      exact step i σ' H3 hi iv)
end
section
end
end Y
namespace Y
open PySem PySem.Spec PyProof.Rows L2 Z
/-! ## an own error of the ValueErrors, told by one Bool -/
end Y
namespace Y
open PySem PySem.Spec PyProof.Rows L2 Z
/-! ## dicts whose keys are tuples of ints, whose values are ints -/
abbrev MapI := List (List Int × Int)
def kI (k : List Int) : List L2.Key := k.map Sum.inl
def kvM (m : MapI) : List (List L2.Key × V) := m.map fun q => (kI q.1, V.int q.2)
def putM (m : MapI) (k : List Int) (n : Int) : MapI := if (m.any fun q => decide (q.1 = k)) = true then m.map (fun q => if q.1 = k then (q.1, n) else q) else m ++ [(k, n)]
/-- v is a tuple of these ints -/
def KyP (k : List Int) (w : V) (S : Hp) : Prop := ∃ b, w = .ref b ∧ S b = some (.tup (k.map V.int))
instance {k : List Int} : Mn (KyP k) := ⟨fun s ⟨b, e, h⟩ => ⟨b, e, s _ _ h⟩⟩
theorem KyP.dt {K : PySem.W.Frag} {k : List Int} {v : V} {S : Hp} (h : KyP k v S) (hz : k.length ≤ sizeLine) : Dt K (.tuple (k.map .int)) v S := by
  obtain ⟨b, rfl, h⟩ := h
  exact Dt.tup_mk (.inl h) (int_dts k S) (by rw [List.length_map]; exact hz)
section
end
end Y
namespace Y
open PySem PySem.Spec PyProof.Rows L2 Z
/-! ## sorted, of data -/
section
end
section
end
end Y
namespace Y
open PySem PySem.Spec PyProof.Rows L2 Z
/-! ## sorted(d), d a dict with tuple keys -/
section
end
end Y
namespace Y
open PySem PySem.Spec PyProof.Rows L2 Z
/-! ## sorted(d) as an expression; sums of tuples -/
section
end
end Y
namespace Y
open PySem PySem.Spec PyProof.Rows L2 Z
section
variable {X : Cx} {σ : L2.St} {S S' H : Hp} {a b c e d0 tg o i : Expr} {pos pos' p : Pos} {D : Ends} {rest body : List Stmt} {r : Addr} {m : MapI} {k : List Int} {n : Int}
/-- for: what is kept is told of the whole heap (a thing that S does not tell may change) -/
theorem hs_forH {iter : Expr} {Ps : List (V → Hp → Prop)} (hp : PassesOwn (model X.prog X.w) X.A X.env X.xe) (hc : X.calm = true) (hi : EI X σ S tg iter Ps) (s : Same S H)
    (q : ∀ S1 H1, Gr S H S1 H1 → ∃ Iv : Nat → L2.St → Hp → Prop, Iv 0 σ H1 ∧ (∀ i σ' H', Iv i σ' H' → Same S1 H') ∧
      (∀ i P σ1 H2 x H3, Ps[i]? = some P → Iv i σ1 H2 → (∀ T, Same S1 T → Same T H2 → ∃ T', Gr T H2 T' H3 ∧ P x T') → HG X tg x σ1 H3 fun σ3 H4 => HS X { D with nx := Iv (i + 1), ct := Iv (i + 1), bk := fun σ' H' => HS X D rest σ' H' } body σ3 H4) ∧
      (∀ σ1 H2, Iv Ps.length σ1 H2 → HS X D rest σ1 H2))
    (hs : ∀ x, foldedSetIterable iter X.env x = pure x := by intro _; rfl) : HS X D (.For tg iter body [] pos :: rest) σ H :=
  hs_cons (ps_for hp hc pib pgb psb hs) (hi H s _ fun J S1 H1 g1 it => by
    obtain ⟨Iv, h0, hsame, step, done⟩ := q S1 H1 g1
    refine for_it it Iv h0 (fun i σ' H' _ iv => hsame i σ' H' iv) (fun i x σ' H2 H3 hlt iv y => ?_) done
    have hl : ∃ P, Ps[i]? = some P := ⟨_, List.getElem?_eq_getElem hlt⟩
    obtain ⟨P, hP⟩ := hl
    refine step i P σ' H2 x H3 hP iv fun T sT tH => ?_
    obtain ⟨T', g, P', hP', px⟩ := y T sT tH
    rw [hP] at hP'
    cases hP'
    exact ⟨T', g, px⟩)
end
end Y
namespace Y
open PySem PySem.Spec PyProof.Rows L2 Z
/-! ## a list comprehension, its list told as new (after Z3's ee_lcG) -/
section
variable {X : Cx} {σ : L2.St} {S : Hp} {elt tg iter : Expr} {ifs : List Expr} {scope : Scope} {own : List (Str × Nat)} {pos : Pos} {ds : List PyData} {p : PyData → Bool} {G : PyData → PyData → Prop}
theorem lc_loopNw (hz : ds.length ≤ sizeLine)
    (hel : ∀ d ∈ ds, ∀ v S', Same S S' → Dt X.K d v S' → ∃ τ, wipe τ (own.map (·.2)) = wipe σ (own.map (·.2)) ∧ ∀ (s : Shared) (H0 : Hp) (C : Addr) (cl : List (Str × Addr)) (fp : List Addr),
      EG (X.blk s H0 scope (compEnvC scope cl C X.env) fp) S' tg v (wipe σ (own.map (·.2))) τ ∧ ETs (X.blk s H0 scope (compEnvC scope cl C X.env) fp) τ S' ifs (p d) ∧ (p d = true → EE (X.blk s H0 scope (compEnvC scope cl C X.env) fp) τ S' elt (Ex X.K (G d)))) {H : Hp} (Q : VK) (q : ∀ v S' H', Gr S H S' H' → (∃ rs, Paired G (ds.filter p) rs ∧ NewL X.K S rs v S') → Q v H') {J : It} {S1 H1 : Hp} (g1 : Gr S H S1 H1) (it : ItP J S1 (Ds X.K ds)) :
    ∀ D, H1 D = none → ∃ W : Nat → Nat → Hp → Prop, (∃ m, W 0 m (upd H1 D (.lst []))) ∧ ∀ i m H, W i m H →
      (J.stop i H ∧ Q (.ref D) H) ∨ (J.go i H ∧ ∃ Nx : Hp → Prop, (∀ H', Nx H' → ∃ m', m' < m ∧ W (i + 1) m' H') ∧ ∀ x H', J.yld i H x H' → gBlk X scope tg x (wipe σ (own.map (·.2))) H' fun σ2 H2 => wipe σ2 (own.map (·.2)) = wipe σ (own.map (·.2)) ∧ tBlk X scope ifs σ2 H2 fun b H3 =>
        if b = true then eBlk X scope elt σ2 H3 fun y H4 => ∃ acc, H4 D = some (.lst acc) ∧ acc.length < sizeLine ∧ Nx (upd H4 D (.lst (acc ++ [y]))) else Nx H3) := by
  intro D hD
  have hD1 : S1 D = none := g1.sub.free hD
  have hlen : (Ds X.K ds).length = ds.length := ds_len
  refine lc_it (g := gBlk X scope tg) (tt := tBlk X scope ifs) (te := eBlk X scope elt) (vs := own.map (·.2)) (σ := σ) (Qd := Q (.ref D)) it (fun i H' => ∃ S' xs rs, Same S1 S' ∧ Same S' H' ∧ Same H1 H' ∧ (∀ a o, H1 a = some o → NT o → S' a = S1 a) ∧ S' D = none ∧ H' D = some (.lst xs) ∧ Paired G ((ds.take i).filter p) rs ∧ Dts X.K rs xs S' ∧ xs.length ≤ i)
    ⟨S1, [], [], Same.refl _, Same.mut g1.sub hD1, Same.new hD, fun _ _ _ _ => rfl, hD1, upd_same, .nil, .nil, Nat.le_refl _⟩ (fun i H' _ ⟨S', _, _, a, b, _⟩ => a.trans b) ?_ ?_
  · intro i x H2 H3 hi2 ⟨S2, xs, rs, k1, k2, k3, k4, k5, k6, k7, k8, k9⟩ y
    rw [hlen] at hi2
    obtain ⟨S3, g3, P, hP, px⟩ := y S2 k1 k2
    obtain ⟨d, hd⟩ : ∃ d, ds[i]? = some d := ⟨ds[i], List.getElem?_eq_getElem hi2⟩
    rw [ds_get hd] at hP
    obtain rfl := Option.some.inj hP
    have sS3 : Same S S3 := g1.st.trans (k1.trans g3.st)
    obtain ⟨τ, hw, hb⟩ := hel d (List.mem_of_getElem? hd) x S3 sS3 px
    have hf : ∀ q, p d = q → (ds.take (i + 1)).filter p = (ds.take i).filter p ++ (if q = true then [d] else []) := fun q hq => by
      rw [take_snoc hd, List.filter_append]
      cases q with
      | true => simp [hq]
      | false => simp [hq]
    intro sh H0 C cl fp
    refine (hb sh H0 C cl fp).1 H3 g3.sub _ ⟨hw, ?_⟩
    intro sh' H0' C' cl' fp'
    refine (hb sh' H0' C' cl' fp').2.1 H3 g3.sub _ fun S4 H4 g4 => ?_
    have g34 := g3.trans g4
    cases hpd : p d with
    | false =>
      refine iteF ⟨S4, xs, rs, k1.trans g34.st, g34.sub, k3.trans g34.hh, fun a o h n => (g34.old a o (k3 a o h) n).trans (k4 a o h n), (g34.old D _ k6 (fun _ z => nomatch z)).trans k5, g34.hh _ _ k6, ?_, k8.up g34.st, by omega⟩
      rw [hf false hpd]
      simpa using k7
    | true =>
      refine iteT ?_
      intro sh'' H0'' C'' cl'' fp''
      refine ((hb sh'' H0'' C'' cl'' fp'').2.2 hpd).up g4.st H4 g4.sub _ fun w S5 H5 g5 ⟨r, hr, hrw⟩ => ?_
      have g := g34.trans g5
      have hD5 : S5 D = none := (g.old D _ k6 (fun _ z => nomatch z)).trans k5
      refine ⟨xs, g.hh _ _ k6, Nat.lt_of_le_of_lt k9 (Nat.lt_of_lt_of_le hi2 hz), S5, xs ++ [w], rs ++ [r], k1.trans g.st, Same.mut g.sub hD5, fun a o h => ?_, fun a o h n => (g.old a o (k3 a o h) n).trans (k4 a o h n), hD5, upd_same, ?_, (k8.up g.st).snoc hrw, by rw [List.length_append]; show xs.length + 1 ≤ i + 1; omega⟩
      · rw [upd_ne (ne_of_none h hD)]; exact g.hh _ _ (k3 a o h)
      · rw [hf true hpd]
        exact paired_snoc k7 hr
  · intro H2 ⟨S2, xs, rs, k1, k2, k3, k4, k5, k6, k7, k8, k9⟩
    rw [hlen] at k7 k9
    rw [List.take_length] at k7
    refine q _ (upd S2 D (.lst xs)) H2 (g1.trans ⟨k1.trans (Same.new k5), fun a o h => ?_, k3, fun a o h n => by rw [upd_ne (ne_of_none h hD)]; exact k4 a o h n⟩) ⟨rs, k7, D, xs, rfl, g1.st.free hD1, upd_same, k8.up (Same.new k5), Nat.le_trans k9 hz⟩
    by_cases ha : a = D
    · subst ha; rw [upd_same] at h; rw [k6]; exact h
    · rw [upd_ne ha] at h; exact k2 a o h
theorem lc_readNw (hi : EI X σ S tg iter (Ds X.K ds)) (hz : ds.length ≤ sizeLine)
    (hel : ∀ d ∈ ds, ∀ v S', Same S S' → Dt X.K d v S' → ∃ τ, wipe τ (own.map (·.2)) = wipe σ (own.map (·.2)) ∧ ∀ (s : Shared) (H0 : Hp) (C : Addr) (cl : List (Str × Addr)) (fp : List Addr),
      EG (X.blk s H0 scope (compEnvC scope cl C X.env) fp) S' tg v (wipe σ (own.map (·.2))) τ ∧ ETs (X.blk s H0 scope (compEnvC scope cl C X.env) fp) τ S' ifs (p d) ∧ (p d = true → EE (X.blk s H0 scope (compEnvC scope cl C X.env) fp) τ S' elt (Ex X.K (G d)))) {H : Hp} (s : Same S H) (Q : VK) (q : ∀ v S' H', Gr S H S' H' → (∃ rs, Paired G (ds.filter p) rs ∧ NewL X.K S rs v S') → Q v H') :
    tLc (bI X tg iter) (gBlk X scope tg) (tBlk X scope ifs) (eBlk X scope elt) (own.map (·.2)) σ H Q := hi H s _ fun J S1 H1 g1 it => lc_loopNw hz hel Q q g1 it
theorem ee_lcGN (hc : X.calm = true) (hN : X.N.Nodup) (ok : BlkOk X.N X.env.scope scope own) (hi : EI X σ S tg iter (Ds X.K ds)) (hz : ds.length ≤ sizeLine)
    (hel : ∀ d ∈ ds, ∀ v S', Same S S' → Dt X.K d v S' → ∃ τ, wipe τ (own.map (·.2)) = wipe σ (own.map (·.2)) ∧ ∀ (s : Shared) (H0 : Hp) (C : Addr) (cl : List (Str × Addr)) (fp : List Addr),
      EG (X.blk s H0 scope (compEnvC scope cl C X.env) fp) S' tg v (wipe σ (own.map (·.2))) τ ∧ ETs (X.blk s H0 scope (compEnvC scope cl C X.env) fp) τ S' ifs (p d) ∧ (p d = true → EE (X.blk s H0 scope (compEnvC scope cl C X.env) fp) τ S' elt (Ex X.K (G d))))
    (hs : ∀ x, foldedSetIterable iter X.env x = pure x := by intro _; rfl) :
    EE X σ S (.ListComp elt [⟨tg, iter, ifs, 0⟩] scope pos) (fun v S' => ∃ rs, Paired G (ds.filter p) rs ∧ NewL X.K S rs v S') := fun H s Q q =>
  he_of (pe_lc (own := own) (wi := bI X tg iter) (g := gBlk X scope tg) (tt := tBlk X scope ifs) (te := eBlk X scope elt) hc hN pib ok
    (fun s H0 C cl fp => ⟨fun pins sh σ' H' v u Q' I r h => h s H0 C cl fp pins sh u I r⟩) (fun s H0 C cl fp => ⟨fun pins sh σ' H' Q' I h => h s H0 C cl fp pins sh I⟩) (fun s H0 C cl fp => ⟨fun pins sh σ' H' Q' I h => h s H0 C cl fp pins sh I⟩) hs) (lc_readNw hi hz hel s Q q)
end
section
variable {X : Cx} {σ : L2.St} {S : Hp} {elt iter : Expr} {scope : Scope} {pos px : Pos} {ds : List PyData} {α : Type} {enc : α → PyData} {i : Nat} {x : Str}
theorem ee_lcNw {f : PyData → α} (hc : X.calm = true) (hN : X.N.Nodup) (ok : BlkOk X.N X.env.scope scope [(x, i)]) (hi : EI X σ S (.Name x px) iter (Ds X.K ds)) (hz : ds.length ≤ sizeLine)
    (hel : ∀ d ∈ ds, ∀ v S', Same S S' → Dt X.K d v S' → ∀ (s : Shared) (H0 : Hp) (C : Addr) (cl : List (Str × Addr)) (fp : List Addr), EE (X.blk s H0 scope (compEnvC scope cl C X.env) fp) ((wipe σ [i]).set i (some v)) S' elt (Dt X.K (enc (f d))))
    (hix : X.N[i]? = some x := by rfl) (hx : ∀ (s : Shared) (H0 : Hp) (C : Addr) (cl : List (Str × Addr)) (fp : List Addr), Loc (X.blk s H0 scope (compEnvC scope cl C X.env) fp).env.scope x ∧ ((X.blk s H0 scope (compEnvC scope cl C X.env) fp).fn x = true ∨ (X.blk s H0 scope (compEnvC scope cl C X.env) fp).env.scope.names.lookup x = some .local) := by
      intros; exact ⟨by first | exact Or.inl rfl | exact Or.inr rfl, by first | exact .inl rfl | exact .inr rfl⟩)
    (hs : ∀ x, foldedSetIterable iter X.env x = pure x := by intro _; rfl) :
    EE X σ S (.ListComp elt [⟨.Name x px, iter, [], 0⟩] scope pos) (NewL X.K S ((ds.map f).map enc)) := by
  refine (ee_lcGN (own := [(x, i)]) (p := fun _ => true) (G := fun d r => r = enc (f d)) hc hN ok hi hz (fun d hd v S' s hv => ⟨(wipe σ [i]).set i (some v), wipe1, fun sh H0 C cl fp => ?_⟩) hs).imp fun v S' h => ?_
  · obtain ⟨k1, k2⟩ := hx sh H0 C cl fp
    exact ⟨eg_name hN hix k1 k2, ets_nil, fun _ => (hel d hd v S' s hv sh H0 C cl fp).imp fun w S2 hw => ⟨_, rfl, hw⟩⟩
  · obtain ⟨rs, h1, h2⟩ := h
    rw [filter_true] at h1
    rw [paired_map h1] at h2
    have e : ds.map (fun d => enc (f d)) = (ds.map f).map enc := by rw [List.map_map]; rfl
    rw [← e]
    exact h2
theorem NewL.is {K : PySem.W.Frag} {S S' : Hp} {ds ds' : List PyData} {v : V} (h : NewL K S ds v S') (e : ds = ds') : NewL K S ds' v S' := e ▸ h
end
end Y
namespace Y
open PySem PySem.Spec PyProof.Rows L2 Z
/-! ## name = [elt for x, y in iter] on one line, the name a local; the same for one target -/
def unT (d : PyData) : PyData × PyData := match d with
  | .tuple [a, b] => (a, b)
  | _ => (.none, .none)
section
end
end Y
namespace Y
open PySem PySem.Spec PyProof.Rows L2 Z
/-! ## own == with a list on the right -/
section
end
end Y
namespace Y
open PySem PySem.Spec PyProof.Rows L2 Z
/-! ## dict([]), list(d) of a dict with tuple keys -/
section
end
end Y
namespace Y
open PySem PySem.Spec PyProof.Rows L2 Z
section
end
end Y
namespace Y
open PySem PySem.Spec PyProof.Rows L2 Z
/-! ## own + and * of two things of one class -/
section
end
end Y
namespace Y
open PySem PySem.Spec PyProof.Rows L2 Z
/-! ## own ** with an int on the right -/
section
open PySem.W
end
section
end
end Y
namespace Y
open PySem PySem.Spec PyProof.Rows L2 Z
/-! ## a list comprehension with two clauses, the second list the same for each item of the first -/
section
end
end Y
namespace Y
open PySem PySem.Spec PyProof.Rows L2 Z LamX NdefX
/-! ## sorted(e, key=lambda x: x[1]) -/
/-- an item that is a tuple, its second part the key k -/
def PairKey (h : Heap) (v : Value) (k : PyData) : Prop := ∃ t its u, v = .ref t ∧ IsTup h t its ∧ its[1]? = some u ∧ Reads h u k []
theorem PairKey.keeps {h h' : Heap} {v : Value} {k : PyData} (p : PairKey h v k) (hk : ∀ b o, h.get? b = some o → h'.get? b = some o) : PairKey h' v k := by
  obtain ⟨t, its, u, e, ht, hu, hr⟩ := p
  exact ⟨t, its, u, e, ht.keeps hk, hu, PyProof.Rows.Reads.keeps hk hr⟩
section
end
end Y
namespace Y
open PySem PySem.Spec PyProof.Rows L2 Z
/-! ## a dict comprehension whose store is told by a rule (after HandS.DictComp's dc_core, which is for keys that are ints or texts) -/
section
end
end Y
namespace Y
open PySem PySem.Spec PyProof.Rows L2 Z
/-! ## a dict with tuple keys that is not changed any more: locked; what is read of it -/
def DcO (m : MapI) (d : Addr) (S : Hp) : Prop := ∃ o, S d = some (.frz o (.dT (kvM m)))
theorem DcO.up {m : MapI} {d : Addr} {S S' : Hp} (h : DcO m d S) (s : Same S S') : DcO m d S' := h.elim fun o e => ⟨o, s _ _ e⟩
def DcV (m : MapI) (v : V) (S : Hp) : Prop := ∃ d, v = .ref d ∧ DcO m d S
instance {m : MapI} : Mn (DcV m) := ⟨fun s ⟨d, e, h⟩ => ⟨d, e, h.up s⟩⟩
section
end
/-! ### for a, b in o.items() -/
section
end
section
end
end Y
namespace Y
open PySem PySem.Spec PyProof.Rows L2 Z
/-! ## o.items() as a value; list of it; a display of two -/
/-- S, all that is new in T, the tuples of H -/
def grown (S H T : Hp) : Hp := fun a => match S a with
  | some o => some o
  | none => match H a with
    | none => T a
    | some (.tup xs) => some (.tup xs)
    | some _ => none
theorem grown_S {S H T : Hp} {a : Addr} {o : HO} (h : S a = some o) : grown S H T a = some o := by unfold grown; rw [h]
theorem Gr.all {S H T : Hp} (s : Same S H) (st : Same H T) : Gr S H (grown S H T) T := by
  refine ⟨fun a o h => grown_S h, fun a o h => ?_, st, fun a o h n => ?_⟩
  · unfold grown at h
    cases e : S a with
    | some u => rw [e] at h; cases h; exact st a _ (s a _ e)
    | none =>
      rw [e] at h
      cases q : H a with
      | none => simp only [q] at h; exact h
      | some u =>
        cases u <;> simp only [q] at h <;> first | cases h | skip
        exact st a _ q
  · unfold grown
    cases e : S a with
    | some u => rfl
    | none =>
      cases q : H a with
      | none => rw [q] at h; cases h
      | some u =>
        rw [q] at h
        cases h
        cases o <;> first | rfl | exact absurd rfl (n _)
/-- the items view at p of the locked dict at d -/
def ItV (m : MapI) (v : V) (S : Hp) : Prop := ∃ p d, v = .ref p ∧ S p = some (L2.DX.itemsO p d) ∧ DcO m d S
instance {m : MapI} : Mn (ItV m) := ⟨fun s ⟨p, d, e, h, q⟩ => ⟨p, d, e, s _ _ h, q.up s⟩⟩
section
end
end Y
namespace Y
open PySem PySem.Spec PyProof.Rows L2 Z
/-! ## {kx: vx for x in iter}, keys tuples of ints, values ints -/
/-- the dict that the store of the pairs leaves -/
def mkM (ps : List (List Int × Int)) : MapI := ps.foldl (fun m p => putM m p.1 p.2) []
section
end
end Y
namespace Y
open PySem PySem.Spec PyProof.Rows L2 Z
/-! ## == of two dicts with tuple keys and ints as values -/
section
end
section
end
end Y
namespace Y
open PySem PySem.Spec PyProof.Rows L2 Z
/-! ## len(o), bool(o) of an own thing -/
section
variable {X : Cx} {σ : L2.St} {S S' H : Hp} {a e : Expr} {P P0 R : V → Hp → Prop} {pos p apos : Pos} {k : Nat} {x m kn : Str} {sp : Sp} {C : Addr}
theorem call_boolO {prog : Program} {w : World} {A : Around} {E : Value → Shared → Prop} {s : Shared} {x : Value} {Q : Value → Shared → Prop} (h : wpAny (model prog w) A.in1.in1 (truthy x) (fun b s' => Q (.bool b) s') E s) : wpAny (model prog w) A (call (.type "bool") [x]) Q E s := by
  refine callType_codes F.called_bool (F.typeCall_bool_1 x) F.entry_object_init (Q₁ := fun v s' => s'.TypeIs v "bool" ∧ Q v s') ?_ (fun obj s1 h1 => ⟨h1.1, F.args_object_init_2 obj x, object_init_meets F.called_bool.init.lookup F.called_bool.made F.newNe_bool prog w A.in1 _ s1 ⟨h1.1, rfl, h1.2⟩⟩)
  refine codeAny_call_builtin F.called_bool.plain F.entry_bool_new (wpAny_of_eq (F.newCall_bool_1 x) ?_)
  have f1 := F.conv_sub_bool
  unfold Builtin.«bool.__new__»
  repeat (any_goals (first | assumption | (with_reducible refine wpAny_mono h (fun b s' hb => ?_) fun _ _ z => z) | wp_step))
  all_goals first | exact (show s'.TypeIs (Value.bool b) "bool" ∧ Q (.bool b) s' from ⟨rfl, hb⟩) | skip
theorem ee_boolO {bo : Bool} (D : KM X.prog X.w X.K X.mg X.base C "__bool__" k sp) (hr : Room (k + 2) X.A) (hm : X.mg "bool" = none) (ha : EE X σ S a P0) [Mn P0] (hC : ∀ w S1, P0 w S1 → ∃ r dx fs, w = .ref r ∧ S1 r = some (.ins C dx fs)) (hsp : SpE sp S [P0] (Dt X.K (.bool bo))) (hg : Gl X "bool" := by rfl)
    (he : starEach [a] X.env = (false, eval a X.env) :: starEach [] X.env := by rfl) (hpl : (backTo pos (starEach [] X.env)).any (·.1) = false := by rfl) : EE X σ S (.Call (.Name "bool" p) [a] [] pos) (Dt X.K (.bool bo)) := by
  have hc : CallR X (.type "bool") (fun vs H Q => ∃ r dx fs, vs = [.ref r] ∧ H r = some (.ins C dx fs) ∧ sp vs H (fun v H' => v = .bl bo ∧ Q (.bl bo) H') E0) := by
    intro pins s σ H vs us Q I rv hq
    obtain ⟨r, dx, fs, rfl, hx, q⟩ := hq
    obtain ⟨f, fd, ps, F, hm, hf, hk, hb⟩ := D.ex
    rw [Vals.ref1 rv]
    obtain ⟨ox, od, J⟩ := insAt I hx
    obtain ⟨m, hF⟩ := I.fr
    refine call_boolO (PySem.W.truthy_K hF I.ok.mod.kin J hm hf (wpAny_mono (run_fnA (vs := [.ref r]) F (show Room k X.A.in1.in1 from (hr.in1).in1) rfl hb pass0 I (.cons rfl .nil) q) (fun rv s' hq' => ?_) fun _ _ z => z))
    obtain ⟨w, H', I', rw', rfl, q'⟩ := hq'
    obtain rfl : rv = Value.bool bo := rw'
    exact ⟨.bl bo, H', I', rfl, q'⟩
  refine ee_callTy hc hm (by first | rfl | exact boot_bool) (ea_1 ha he) (fun vs S1 H1 st s al Q q => ?_) hg (by decide) (by decide) he hpl
  obtain ⟨v, rfl, pv⟩ := al.one
  obtain ⟨r, dx, fs, rfl, e⟩ := hC v S1 pv
  exact ⟨r, dx, fs, rfl, s _ _ e, hsp _ S1 H1 st s (.cons pv .nil) _ fun v S2 H2 g pv => by
    cases pv
    exact ⟨rfl, q _ S2 H2 g (.bl _)⟩⟩
end
/-! ## a staticmethod def m(*xs, kn=d), called through its class -/
section
end
end Y
namespace Y
open PySem PySem.Spec PyProof.Rows L2 Z
/-! ## a def m(*xs, kn=d) by its body -/
section
end
end Y
namespace Y
open PySem PySem.Spec PyProof.Rows L2 Z
section
end
end Y
namespace Y
open PySem PySem.Spec PyProof.Rows L2 Z LamX NdefX
/-! ## expressions and statements that may raise an own error -/
/-- a kind of own error: its class, its code, the attribute that it keeps -/
structure EK where
  C : Addr
  code : Str
  fn : Option Str
/-- E is met by an error of the kind k that keeps g -/
def XErr (K : PySem.W.Frag) (k : EK) (g : PyData) (S H : Hp) (E : XK) : Prop := ∀ d fs S3 H3, Gr S H S3 H3 → H d = none → S3 d = some (.xd fs) → fs.lookup ("code" : Str) = some (V.str k.code) → (k.fn = none → g = .none) → (∀ x, k.fn = some x → ∃ v, fs.lookup x = some v ∧ Dt K g v S3) → E (.ref k.C) (some d) H3
theorem XErr.up {K : PySem.W.Frag} {k : EK} {g : PyData} {S H S1 H1 : Hp} {E : XK} (h : XErr K k g S H E) (gr : Gr S H S1 H1) : XErr K k g S1 H1 E := fun d fs S3 H3 g3 hd hx hc hn hf => h d fs S3 H3 (gr.trans g3) (gr.hh.free hd) hx hc hn hf
/-- e gives P, or raises as O -/
def ER (X : Cx) (E : XK) (σ : L2.St) (S : Hp) (e : Expr) (P : V → Hp → Prop) (O : EK → PyData → Prop) : Prop := ∀ H, Same S H → (∀ k g, O k g → XErr X.K k g S H E) → ∀ Q : VK, (∀ v S1 H1, Gr S H S1 H1 → P v S1 → Q v H1) → HE X e σ H Q
section
variable {X : Cx} {σ : L2.St} {S S' H : Hp} {e a b c o : Expr} {es : List Expr} {P Pa Pb P0 P1 R : V → Hp → Prop} {Ps : List (V → Hp → Prop)} {pos p apos pos2 kpos : Pos} {k : Nat} {x m f kn : Str} {sp : Sp} {C : Addr} {D : Ends} {rest : List Stmt} {O : EK → PyData → Prop} {E : XK} {op : Operator}
theorem ER.imp (h : ER X E σ S e P O) (f : ∀ v S', P v S' → R v S') : ER X E σ S e R O := fun H s hx Q q => h H s hx Q fun v S1 H1 g p => q v S1 H1 g (f v S1 p)
theorem ER.up (h : ER X E σ S e P O) (s : Same S S') (hk : ∀ H, Same S' H → (∀ k g, O k g → XErr X.K k g S' H E) → ∀ k g, O k g → XErr X.K k g S H E) (hq : ∀ v S1 H1 H, Same S' H → Gr S H S1 H1 → P v S1 → ∃ S2, Gr S' H S2 H1 ∧ P v S2) : ER X E σ S' e P O := fun H s' hx Q q => h H (s.trans s') (hk H s' hx) Q fun v S1 H1 g p => let ⟨S2, g2, p2⟩ := hq v S1 H1 H s' g p; q v S2 H1 g2 p2
/-! ### statements -/
end
/-! ### kept lambdas that may raise -/
end Y
namespace Y
open PySem PySem.Spec PyProof.Rows L2 Z
/-! ## staticmethods that may raise (after Y45, Y46) -/
section
end
section
end
end Y
namespace Y
open PySem PySem.Spec PyProof.Rows L2 L2H Z LamX NdefX
/-! ## what a caught error keeps: any kind -/
def fldAt : List Str := ["InvalidSystem", "InvalidFact", "InvalidFactor", "InvalidGroup", "InvalidClaim", "InvalidSums", "InvalidDeed", "InvalidCommand", "WrongSchema", "TooHigh", "EqualSums"]
def fldNm : List Str := ["InvalidName", "WrongKind", "DuplicateName", "UnknownName"]
def fldNo : List Str := ["InvalidText", "Boundless", "NoTable", "NotThere", "Empty", "NothingLeft"]
/-- the attribute that is read of an error with a code -/
def fieldOf (c : Str) : Option Str := if (fldAt.any fun m => decide (m = c)) = true then some "at" else if (fldNm.any fun m => decide (m = c)) = true then some "name" else if (fldNo.any fun m => decide (m = c)) = true then none else if decide (c = "InvalidPage") = true then some "line" else if decide (c = "WrongWidth") = true then some "width" else if decide (c = "TooMany") = true then some "most" else if decide (c = "Full") = true then some "limit" else some "given"
/-- what a kind of error must tell to be caught and read -/
structure KOk (K : PySem.W.Frag) (tup : List Value) (k : EK) : Prop where
  T : XfC K k.C
  cd : PySem.W.findIn K (.ref k.C) "code" = some none
  at_ : ∀ x, k.fn = some x → PySem.W.findIn K (.ref k.C) x = some none
  ex : PySem.W.exmAny K (.ref k.C) tup = some true
  fld : k.fn = fieldOf k.code
  nt : decide (k.code = "Tight") = false
  nb : decide (k.code = "BrokenClaim") = false
/-- the pinned exception is of the kind k, and keeps g -/
def ExcG (K : PySem.W.Frag) (k : EK) (g : PyData) (p : Addr × Obj) (S : Hp) : Prop := ∃ (dd : Addr) (fs : List (Str × V)), p.2.cls = .ref k.C ∧ p.2.dict = some dd ∧ (∃ vs, p.2.data = .fields vs) ∧ S dd = some (.xd fs) ∧ fs.lookup ("code" : Str) = some (V.str k.code) ∧ (k.fn = none → g = .none) ∧ ∀ x, k.fn = some x → ∃ v, fs.lookup x = some v ∧ Dt K g v S
theorem ExcG.up {K : PySem.W.Frag} {k : EK} {g : PyData} {p : Addr × Obj} {S S' : Hp} (h : ExcG K k g p S) (s : Same S S') : ExcG K k g p S' := by
  obtain ⟨dd, fs, h1, h2, h3, h4, h5, h6, h7⟩ := h
  exact ⟨dd, fs, h1, h2, h3, s _ _ h4, h5, h6, fun x hx => let ⟨v, a, b⟩ := h7 x hx; ⟨v, a, b.up s⟩⟩
section
end
section
variable {P : Program} {w : World} {K : PySem.W.Frag} {mg : Str → Option Value} {base : Heap}
/-- an ask: a kept lambda with what it may answer -/
structure AskI (P : Program) (w : World) (K : PySem.W.Frag) (mg : Str → Option Value) (base : Heap) (tup : List Value) (k : Nat) where
  Od : PyData → Prop
  O : EK → PyData → Prop
  f : Addr
  F : LF
  fr : List Str
  dvs : List V
  ws : List (Option V)
  L : List (Addr × Obj)
  sp : List (Option V) → Hp → VK → XK → Prop
  S0 : Hp
  lok : LOk P w K mg base (L2.CX P w) k f F fr dvs sp
  ok : ∀ e g, O e g → KOk K tup e
  hR : ∀ S2 H2 Q' E', Same S0 S2 → Same S2 H2 → (∀ v S1 H1, Gr S2 H2 S1 H1 → Ex K Od v S1 → Q' v H1) → (∀ e g, O e g → XErr K e g S2 H2 E') → sp ws H2 Q' E'
def AskJ {tup : List Value} {k : Nat} (it : AskI P w K mg base tup k) (v : V) (S : Hp) : Prop := v = .ref it.f ∧ Kept it.F it.f it.fr it.dvs it.ws it.L S ∧ Same it.S0 (delL S it.L)
theorem delL_mono : ∀ {L : List (Addr × Obj)} {S S' : Hp}, Same S S' → Same (delL S L) (delL S' L)
  | [], _, _, s => s
  | p :: L, S, S', s => delL_mono (L := L) (S := L2.del S p.1) (S' := L2.del S' p.1) fun b o e => by
      by_cases hb : b = p.1
      · rw [hb, L2.del_same] at e; cases e
      · rw [L2.del_ne hb] at e ⊢; exact s b o e
instance askMn {tup : List Value} {k : Nat} {it : AskI P w K mg base tup k} : Mn (AskJ it) := ⟨fun s ⟨h1, h2, h3⟩ => ⟨h1, h2.ext s, h3.trans (delL_mono s)⟩⟩
end
/-! ## lambdas in a list -/
def LamF (e : Expr) (qual : Str) (cells : List (Str × Addr)) (c : Addr) (dT : Option Addr) : LF := match e with
  | .Lambda params body scope _ => ⟨qual, params, body, scope, cloFrom cells scope.names [], c, dT⟩
  | e => ⟨qual, default, e, default, [], c, dT⟩
/-- the lambda at f, in a state -/
def AskS (F : LF) (f : Addr) (dvs : List V) (S : Hp) : Prop := S f = some (LamO f F) ∧ S F.c = some (CodeO F.c F.qual) ∧ LDef F dvs S
theorem AskS.up {F : LF} {f : Addr} {dvs : List V} {S S' : Hp} (h : AskS F f dvs S) (s : Same S S') : AskS F f dvs S' := ⟨s _ _ h.1, s _ _ h.2.1, ⟨h.2.2.1, fun T e => s _ _ (h.2.2.2 T e)⟩⟩
theorem codeO_ne' {c : Addr} {q : Str} (ps : Array Value) : CodeO c q ≠ .tbl ps := fun z => by unfold CodeO at z; cases z
theorem AskS.ext {F : LF} {f : Addr} {dvs : List V} {H H' : Hp} (h : AskS F f dvs H) (s : ExtN H H') : AskS F f dvs H' := ⟨s _ _ h.1 lamO_ne, s _ _ h.2.1 codeO_ne', ⟨h.2.2.1, fun T e => s _ _ (h.2.2.2 T e) (fun _ z => nomatch z)⟩⟩
/-- v is the lambda e (b: it has a default) -/
def AskE (cells : List (Str × Addr)) (q : Str) (e : Expr) (b : Bool) (v : V) (S : Hp) : Prop := ∃ f c dT, v = .ref f ∧ (b = false → dT = none) ∧ (b = true → ∃ T, dT = some T) ∧ AskS (LamF e q cells c dT) f (if b = true then [.int 0] else []) S
theorem AskE.ext {cells : List (Str × Addr)} {q : Str} {e : Expr} {b : Bool} {v : V} {H H' : Hp} (h : AskE cells q e b v H) (s : ExtN H H') : AskE cells q e b v H' := let ⟨f, c, dT, h1, h2, h3, h4⟩ := h; ⟨f, c, dT, h1, h2, h3, h4.ext s⟩
instance {cells : List (Str × Addr)} {q : Str} {e : Expr} {b : Bool} : Mn (AskE cells q e b) := ⟨fun s ⟨f, c, dT, h1, h2, h3, h4⟩ => ⟨f, c, dT, h1, h2, h3, h4.up s⟩⟩
section
end
/-! ## a call to which the running frame's cells are shown -/
section
end
section
end
end Y
namespace Y
open PySem PySem.Spec PyProof.Rows L2 Z
/-! ## staticmethods def m(a, b, ..) of plain parameters, called x.m(e, ..) -/
section
end
end Y
namespace Y
open PySem PySem.Spec PyProof.Rows L2 L2H Z LamX NdefX
/-! ## what stays when cells and tables are hidden -/
def NF (o : HO) : Prop := (∀ x, o ≠ .frz x Tr) ∧ ∀ ps, o ≠ .tbl ps
def Les (S S' : Hp) : Prop := ∀ a o, S a = some o → NF o → S' a = some o
class Rb (P : V → Hp → Prop) : Prop where
  rb : ∀ {v : V} {S S' : Hp}, Les S S' → P v S → P v S'
theorem dt_rb {K : PySem.W.Frag} {d : PyData} {v : V} {S S' : Hp} (h : Dt K d v S) (e : Les S S') : Dt K d v S' := by
  induction h with
  | non => exact .non
  | bl b => exact .bl b
  | int i => exact .int i
  | str x => exact .str x
  | lst h l z _ ih => exact .lst (e _ _ h ⟨(fun _ z => nomatch z), (fun _ z => nomatch z)⟩) l z fun i x d hx hd => ih i x d hx hd e
  | tup h l z _ ih =>
    refine .tup ?_ l z fun i x d hx hd => ih i x d hx hd e
    rcases h with h | ⟨e0, (h | ⟨o', h⟩) | h⟩
    · exact .inl (e _ _ h ⟨(fun _ z => nomatch z), (fun _ z => nomatch z)⟩)
    · exact .inl (e _ _ h ⟨(fun _ z => nomatch z), (fun _ z => nomatch z)⟩)
    · exact .inr ⟨e0, .inl (.inr ⟨o', (e _ _ h ⟨(fun _ z => nomatch z), (fun _ z => nomatch z)⟩)⟩)⟩
    · exact .inr ⟨e0, .inr h⟩
instance {K : PySem.W.Frag} {d : PyData} : Rb (Dt K d) := ⟨fun e h => dt_rb h e⟩
instance {K : PySem.W.Frag} {F : PyData → Prop} : Rb (Ex K F) := ⟨fun e ⟨d, hd, h⟩ => ⟨d, hd, dt_rb h e⟩⟩
def NoV : V → Hp → Prop := fun _ _ => False
instance : Rb NoV := ⟨fun _ h => h⟩
instance : Mn NoV := ⟨fun _ h => h⟩
/-! ## asks whose answers need not be data -/
section
variable {P : Program} {w : World} {K : PySem.W.Frag} {mg : Str → Option Value} {base : Heap}
/-- an ask: a kept lambda with what it may answer -/
structure AskIV (P : Program) (w : World) (K : PySem.W.Frag) (mg : Str → Option Value) (base : Heap) (tup : List Value) (k : Nat) where
  R : V → Hp → Prop
  rb : Rb R
  O : EK → PyData → Prop
  f : Addr
  F : LF
  fr : List Str
  dvs : List V
  ws : List (Option V)
  L : List (Addr × Obj)
  sp : List (Option V) → Hp → VK → XK → Prop
  S0 : Hp
  lok : LOk P w K mg base (L2.CX P w) k f F fr dvs sp
  ok : ∀ e g, O e g → KOk K tup e
  hR : ∀ S2 H2 Q' E', Same S0 S2 → Same S2 H2 → (∀ v S1 H1, Gr S2 H2 S1 H1 → R v S1 → Q' v H1) → (∀ e g, O e g → XErr K e g S2 H2 E') → sp ws H2 Q' E'
def AskJV {tup : List Value} {k : Nat} (it : AskIV P w K mg base tup k) (v : V) (S : Hp) : Prop := v = .ref it.f ∧ Kept it.F it.f it.fr it.dvs it.ws it.L S ∧ Same it.S0 (delL S it.L)
instance askMnV {tup : List Value} {k : Nat} {it : AskIV P w K mg base tup k} : Mn (AskJV it) := ⟨fun s ⟨h1, h2, h3⟩ => ⟨h1, h2.ext s, h3.trans (delL_mono s)⟩⟩
end
/-! ## a list comprehension whose elements are of any kind -/
section
variable {α : Type} {R : α → V → Hp → Prop} {X : Cx} {σ : L2.St} {S : Hp} {elt tg iter : Expr} {ifs : List Expr} {scope : Scope} {own : List (Str × Nat)} {pos : Pos} {ds : List α} {G : α → V → Hp → Prop}
theorem al_map_up {ds : List α} (hG : ∀ d ∈ ds, Mn (G d)) {xs : List V} {S S' : Hp} (s : Same S S') (h : Al (ds.map G) xs S) : Al (ds.map G) xs S' := by
  induction ds generalizing xs with
  | nil => cases h; exact .nil
  | cons d ds ih =>
    rw [List.map_cons] at h ⊢
    cases h with
    | cons a t => exact .cons ((hG d List.mem_cons_self).up s a) (ih (fun x hx => hG x (List.mem_cons_of_mem _ hx)) t)
theorem al_snoc {Ps : List (V → Hp → Prop)} {P : V → Hp → Prop} {xs : List V} {x : V} {S : Hp} (h : Al Ps xs S) (p : P x S) : Al (Ps ++ [P]) (xs ++ [x]) S := by
  induction h with
  | nil => exact .cons p .nil
  | cons a _ ih => exact .cons a (ih p)
end
/-! ## a call to which the running frame's cells are shown -/
section
end
section
end
end Y
namespace Y
open PySem PySem.Spec PyProof.Rows L2 L2H Z LamX NdefX
/-! ## pairs of things of any kind -/
class Mn2 (P : V → V → Hp → Prop) : Prop where
  up : ∀ {v u : V} {H H' : Hp}, Same H H' → P v u H → P v u H'
/-- a pair whose parts are as P says -/
def PrP (P : V → V → Hp → Prop) (v : V) (S : Hp) : Prop := ∃ l a b, v = .ref l ∧ S l = some (.tup [a, b]) ∧ P a b S
instance {P : V → V → Hp → Prop} [m : Mn2 P] : Mn (PrP P) := ⟨fun s ⟨l, a, b, h1, h2, h3⟩ => ⟨l, a, b, h1, s _ _ h2, m.up s h3⟩⟩
section
variable {X : Cx} {σ : L2.St} {S : Hp} {a b e : Expr} {p pos : Pos} {Rs : List (V → V → Hp → Prop)} {l m : Addr} {xs ys : List V}
/-! ## displays of things of any kind -/
def TupP (Ps : List (V → Hp → Prop)) (v : V) (S : Hp) : Prop := ∃ l xs, v = .ref l ∧ S l = some (.tup xs) ∧ Al Ps xs S
theorem ee_tupP {es : List Expr} {x1} {Ps : List (V → Hp → Prop)} (h : EA X σ S es Ps) (hz : Ps.length ≤ sizeLine := by show _ ≤ 16777216; exact Nat.le_of_ble_eq_true rfl) : EE X σ S (.Tuple es x1 pos) (TupP Ps) :=
  ee_tupA (vsP := Al Ps) h.2 (fun vs S' al => by rw [al_len al]; exact hz) fun vs S' p _ hp al => ⟨p, vs, rfl, upd_same, al.up h.1 (Same.new hp)⟩
end
end Y
namespace Y
open PySem PySem.Spec PyProof.Rows L2 L2H Z LamX NdefX
theorem al_mn {Ps : List (V → Hp → Prop)} (h : ∀ P ∈ Ps, Mn P) {xs : List V} {S S' : Hp} (s : Same S S') (a : Al Ps xs S) : Al Ps xs S' := by
  induction a with
  | nil => exact .nil
  | cons p _ ih => exact .cons ((h _ List.mem_cons_self).up s p) (ih (fun P hP => h P (List.mem_cons_of_mem _ hP)) s)
theorem lstP_mn {Ps : List (V → Hp → Prop)} (h : ∀ P ∈ Ps, Mn P) : Mn (LstP Ps) := ⟨fun s ⟨l, xs, a, b, c⟩ => ⟨l, xs, a, s _ _ b, al_mn h s c⟩⟩
section
variable {X : Cx} {σ : L2.St} {S H : Hp} {a b e tg : Expr} {p pos : Pos} {D : Ends} {rest : List Stmt}
/-- ls[i] of a list of things of any kind -/
theorem ee_ixLP {Ps : List (V → Hp → Prop)} {P : V → Hp → Prop} {i : Nat} (hM : ∀ P ∈ Ps, Mn P) (he : Ps[i]? = some P) (ha : EE X σ S a (LstP Ps)) (hb : EE X σ S b (Dt X.K (.int (i : Nat)))) (hs : PlainIx b := by exact fun _ _ => rfl) : EE X σ S (.Subscript a b pos) P := by
  haveI := lstP_mn hM
  exact ee_2 (pe_ix ix_list peb peb hs) ha hb fun x y S1 H1 _ s px py Q q => by
    cases py
    obtain ⟨l, xs, rfl, hl, al⟩ := px
    have hlen := al_len al
    have hi : i < Ps.length := by
      rcases Nat.lt_or_ge i Ps.length with h | h
      · exact h
      · rw [List.getElem?_eq_none h] at he; cases he
    have hx : i < xs.length := by omega
    obtain ⟨P', e1, e2⟩ := al_get al (List.getElem?_eq_getElem hx)
    rw [he] at e1
    obtain rfl := Option.some.inj e1
    exact ⟨l, xs, i, xs[i], rfl, rfl, sql_of (s _ _ hl), L2.atI_nat (List.getElem?_eq_getElem hx), q _ S1 H1 (Gr.refl s) e2⟩
end
end Y
namespace Y
open PySem PySem.Spec PyProof.Rows L2 L2H Z LamX NdefX
/-! ## lambdas where several code tables are told -/
section
end
end Y
namespace Y
open PySem PySem.Spec PyProof.Rows L2 L2H Z
section
end
end Y
namespace Y
open PySem PySem.Spec PyProof.Rows L2 L2H Z LamX NdefX PySem.W
section
end
end Y
namespace L2
open PySem PySem.Spec PyProof.Rows
section
end
end L2
namespace Y
open PySem PySem.Spec PyProof.Rows L2 Z
/-! ## own errors without an attribute -/
section
/-! ## methods def m(self, *xs) that raise -/
end
end Y
namespace Y
open PySem PySem.Spec PyProof.Rows L2 Z
/-! ## texts: count, partition, split, index -/
section
end
end Y
noncomputable section
namespace Y
open PySem PySem.Spec PyProof.Rows L2 PySem.Froz Z
/-! ## set(text), a text of ascii signs, equal ones among them -/
section
end
section
end
section
end
end Y
namespace Y
open PySem PySem.Spec PyProof.Rows L2 Z
/-! ## zip(text, list), zip(text, tuple) -/
end Y
namespace Y
open PySem PySem.Spec PyProof.Rows L2 L2H Z
section
variable {X : Cx} {σ : L2.St} {S : Hp} {a b : Expr} {p pos : Pos} {ds : List PyData} {z n : Str} {ns : List Str}
/-- [e] * n, told as new -/
theorem ee_repN {i : Int} (h1 : -(2 ^ 63) ≤ i) (h2 : i < 2 ^ 63) (hz : ds.length * i.toNat ≤ sizeLine) (ha : EE X σ S a (Dt X.K (.list ds))) (hb : EE X σ S b (Dt X.K (.int i))) : EE X σ S (.BinOp a .Mult b pos) (NewL X.K S (List.replicate i.toNat ds).flatten) :=
  ee_op op_rep ha hb fun x y S1 H1 s0 s px py Q q => by
    cases py
    obtain ⟨l, xs, rfl, hl, hx, _⟩ := px.lst_inv
    have hz' : xs.length * i.toNat ≤ sizeLine := by rw [hx.1]; exact hz
    exact ⟨l, i, xs, rfl, rfl, s _ _ hl, h1, h2, hz', fun t ht => q _ _ _ (Gr.new s ht) ⟨t, _, rfl, (s0.trans s).free ht, upd_same, (flat_dts (d := .none) rfl hx _).up (Same.new (s.free ht)), by rw [flatten_len]; exact hz'⟩⟩
end
end Y
namespace Y
open PySem PySem.Spec PyProof.Rows L2 Z
/-! ## name = [elt for x, y in iter if t] on one line, the name a local -/
section
end
end Y
namespace Y
open PySem PySem.Spec PyProof.Rows L2 Z
section
variable {X : Cx} {σ : L2.St} {S S' H : Hp} {e a b c o : Expr} {P : V → Hp → Prop} {pos p apos : Pos} {D : Ends} {rest : List Stmt} {r : Addr} {xs : List V} {d1 d2 d3 : PyData}
/-- o.append(e), the list told -/
theorem hs_appendS (ho : EE X σ S o (fun w _ => w = .ref r)) (s : Same S H) (hb : S r = some (.lst xs)) (hz : xs.length < 1000) [Mn P] (ha : EE X σ S e P) (q : ∀ v S' H', Gr S H S' H' → P v S' → HS X D rest σ (upd H' r (.lst (xs ++ [v])))) (hbase : attributeBase o "append" X.env (eval o X.env) = eval o X.env := by rfl) (hline : (apos.endLine == p.line) = true := by rfl)
    (hs : swapsWith (.Call (.Attribute o "append" apos) [e] [] p) none pos.line X.env = pure false := by rfl) (hst : starEach [e] X.env = (false, eval e X.env) :: starEach [] X.env := by rfl)
    (hfew : ((backTo p (starEach [e] X.env)).all (fun x => !x.1) && (backToKw p (keywordEach [] X.env)).all (fun x => x.1.isSome) && decide ([e].length + ([] : List Keyword).length + (if ([] : List Keyword).isEmpty then 0 else 1) < 30)) = true := by rfl) : HS X D (.Expr (.Call (.Attribute o "append" apos) [e] [] p) pos :: rest) σ H :=
  hs_cons (ps_expr (pe_bm PySem.F.plainAttrs_list PySem.F.slot_list_append PySem.F.type_list_append mt_append peb (pa_cons (te := bE X e) (t := tNil) peb pa_nil hst) hbase hfew hline hst (by rfl)) hs) (ho H s _ fun w S1 H1 g1 pw => by
    subst pw
    have h1 := g1.st _ _ hb
    refine ⟨.inl ⟨rfl, _, .inl (.inl (g1.sub _ _ h1))⟩, ?_⟩
    exact (ha.up g1.st) H1 g1.sub _ fun v S2 H2 g2 pv => ⟨r, xs, v, rfl, rfl, g2.sub _ _ (g2.st _ _ h1), by show _ < 16777216; omega, q v S2 H2 (g1.trans g2) pv⟩)
end
end Y
namespace Y
open PySem PySem.Spec PyProof.Rows L2 Z
section
end
end Y
namespace Y
open PySem PySem.Spec PyProof.Rows L2 Z
section
end
end Y
namespace Y
open PySem PySem.Spec PyProof.Rows L2 Z
section
end
end Y
namespace Y
open PySem PySem.Spec PyProof.Rows L2 L2H Z
section
end
end Y
namespace Y
open PySem PySem.Spec PyProof.Rows L2 Z
/-- a list l that grows: H knows it, S does not; all else that is known is S -/
structure Acc (K : PySem.W.Frag) (Sb Hb : Hp) (l : Addr) (ds : List PyData) (S H : Hp) : Prop where
  g : Gr Sb Hb S H
  n : S l = none
  sb : Same Sb Hb
  nb : Hb l = none
  ex : ∃ xs, H l = some (.lst xs) ∧ Dts K ds xs S ∧ xs.length ≤ sizeLine
section
variable {X : Cx} {σ : L2.St} {S H Sb Hb : Hp} {e o : Expr} {pos p apos : Pos} {D : Ends} {rest body : List Stmt} {l : Addr} {ds : List PyData} {d : PyData}
theorem Acc.put {K : PySem.W.Frag} {xs : List V} {es : List PyData} {ys : List V} (a : Acc K Sb Hb l ds S H) (hl : H l = some (.lst xs)) (hd : Dts K es ys S) (hz : xs.length + ys.length ≤ sizeLine) : Acc K Sb Hb l (ds ++ es) S (upd H l (.lst (xs ++ ys))) := by
  obtain ⟨xs', h1, h2, h3⟩ := a.ex
  rw [hl] at h1
  cases h1
  have G2 := Gr.cut (o := .lst (xs ++ ys)) a.g a.sb a.nb
  have e : del S l = S := by
    funext b
    by_cases hb : b = l
    · subst hb; rw [del_self, a.n]
    · rw [del_ne hb]
  rw [e] at G2
  exact ⟨G2, a.n, a.sb, a.nb, _, upd_same, h2.append hd, by rw [List.length_append]; exact hz⟩
end
end Y
namespace Y
open PySem PySem.Spec PyProof.Rows L2 Z
/-! ## a staticmethod of plain parameters, called x.m(k1=e1, k2=e2, k3=e3) in reversed order -/
def g3r {α : Type} : List α → List α → List α
  | us, [a, b, c] => us ++ [c, b, a]
  | us, ws => us ++ ws
theorem g3r_rel {vs zs : List V} {us ws : List Value} (r1 : Vals vs us) (r3 : Vals zs ws) : Vals (g3r vs zs) (g3r us ws) := by
  cases r3 with
  | nil => exact r1.append .nil
  | cons a t =>
    cases t with
    | nil => exact r1.append (.cons a .nil)
    | cons b t =>
      cases t with
      | nil => exact r1.append (.cons a (.cons b .nil))
      | cons c t =>
        cases t with
        | nil => exact r1.append (.cons c (.cons b (.cons a .nil)))
        | cons d t => exact r1.append (.cons a (.cons b (.cons c (.cons d t))))
section
end
end Y
namespace Y
open PySem PySem.Spec PyProof.Rows L2 Z
/-! ## name = [elt for x in iter if ..] on one line, the name a local -/
section
end
end Y
namespace Y
open PySem PySem.Spec PyProof.Rows L2 Z
/-! ## a new instance of a class whose __init__ takes things -/
section
end
/-! ## o(e), o an instance with an own __call__ -/
section
end
end Y
namespace Y
open PySem PySem.Spec PyProof.Rows L2 Z
section
end
end Y
namespace Y
open PySem PySem.Spec PyProof.Rows L2 Z
section
end
end Y
namespace Y
open PySem PySem.Spec PyProof.Rows L2 Z
/-! ## (e0)(e): e0 any expression that answers an instance with an own __call__; C(e1, e2, ..) whose e2 raises -/
section
end
end Y
namespace Y
open PySem PySem.Spec PyProof.Rows L2 Z
section
end
end Y
namespace Y
open PySem PySem.W PySem.Spec PyProof.Rows
open Builtin Builtin.ObjectAttr
/-! ## stores on an exception whose class is over any built-in one (as HandS.Exc's exc_osa and HandS.ExcInit's osa_old are over ValueError) -/
section
end
end Y
namespace Y
open PySem PySem.Spec PyProof.Rows L2 Z
/-- an own exception class over the built-in B, its instances to be made and read -/
structure OexG (K : PySem.W.Frag) (C : Addr) : Prop where
  ex : ∃ (B newId initId : String) (bmB : List Value), ExcBaseFacts B newId initId bmB ∧ StoreFacts B bmB "object.__setattr__" "object" ∧ PySem.W.excInitIn K C bmB newId = true ∧ PySem.W.excOver K C bmB = true
  sa : PySem.W.findIn K (.ref C) "__setattr__" = some (some (.builtin "object.__setattr__"))
  xf : XfC K C
  kC : PySem.W.keepIn K (.ref C) = true
  ha : PySem.W.findIn K (.ref C) "__class__" = some (some (.builtin "object.__class__"))
  om : PySem.W.mroIn K C (.type "object") = some true
theorem OexG.dict {K : PySem.W.Frag} {C : Addr} (T : XfC K C) {cd : ClassData} (h : PySem.W.clsIn K C = some cd) : cd.hasDict = true := by
  obtain ⟨cd', hc, ho⟩ := PySem.W.any_some T.hdC
  rw [hc] at h
  cases h
  exact ho
section
end
section
end
end Y
namespace PySem
namespace HandSPX
open PySem.W PySem.Calls PyProof.Rows
/-! ### an own exception class called with keywords (as call_own and what it rests on, there without) -/
section
end
section
end
end HandSPX
end PySem
namespace Y
open PySem PySem.Spec PyProof.Rows L2 Z
section
end
/-- a made error of the kind k that keeps g -/
def ErV (K : PySem.W.Frag) (k : EK) (g : PyData) (v : V) (S : Hp) : Prop := ∃ a dx fs, v = .ref a ∧ S a = some (exo a k.C (some dx)) ∧ S dx = some (exd dx fs) ∧ fs.lookup ("code" : Str) = some (V.str k.code) ∧ ∀ x, k.fn = some x → ∃ w, fs.lookup x = some w ∧ Dt K g w S
instance {K : PySem.W.Frag} {k : EK} {g : PyData} : Mn (ErV K k g) := ⟨fun s ⟨a, dx, fs, h1, h2, h3, h4, h5⟩ => ⟨a, dx, fs, h1, s _ _ h2, s _ _ h3, h4, fun x hx => let ⟨w, e, d⟩ := h5 x hx; ⟨w, e, d.up s⟩⟩⟩
section
variable {X : Cx} {σ : L2.St} {S S' H : Hp} {e e1 o a b : Expr} {P P0 : V → Hp → Prop} {pos p pos2 q1 : Pos} {x fname n : Str} {k : EK} {g : PyData}
theorem ErV.code {K : PySem.W.Frag} {w : V} {S1 : Hp} (h : ErV K k g w S1) : ∃ a dx fs v, w = .ref a ∧ S1 a = some (exo a k.C (some dx)) ∧ S1 dx = some (exd dx fs) ∧ fs.lookup ("code" : Str) = some v ∧ Dt K (.str k.code) v S1 := by
  obtain ⟨a, dx, fs, h1, h2, h3, h4, _⟩ := h
  exact ⟨a, dx, fs, _, h1, h2, h3, h4, .str _⟩
theorem ErV.kept {K : PySem.W.Frag} {w : V} {S1 : Hp} (hf : k.fn = some n) (h : ErV K k g w S1) : ∃ a dx fs v, w = .ref a ∧ S1 a = some (exo a k.C (some dx)) ∧ S1 dx = some (exd dx fs) ∧ fs.lookup n = some v ∧ Dt K g v S1 := by
  obtain ⟨a, dx, fs, h1, h2, h3, _, h5⟩ := h
  obtain ⟨v, e, pv⟩ := h5 n hf
  exact ⟨a, dx, fs, v, h1, h2, h3, e, pv⟩
end
end Y
namespace Y
open PySem PySem.Spec PyProof.Rows L2 Z
/-! ## lists of things, put together -/
section
end
/-! ## an own error to be made, told by Bools -/
end Y
/-! ## set comprehensions of tuples of ints (as HandS.SetBool's of truth values, over HandS.TupSets' sets) -/
namespace PpSetT
open PySem PySem.Spec PyProof.Rows L2 PpSet
section
end
section
end
section
end
end PpSetT
namespace Y
open PySem PySem.Spec PyProof.Rows L2 Z
/-! ## sets of tuples of ints -/
/-- a set of tuples of ints: its members are those of ks -/
def SetP (P : Program) (w : World) (K : PySem.W.Frag) (ks : List (List Int)) (v : V) (S : Hp) : Prop := ∃ a L, v = .ref a ∧ S a = some (SetTO P w a L) ∧ (∀ p ∈ L, SqT K S p.1 (p.2.map V.int)) ∧ (∀ k, k ∈ L.map (·.2) ↔ k ∈ ks) ∧ (L.map (·.2)).Nodup ∧ L.length ≤ ks.length
instance {P : Program} {w : World} {K : PySem.W.Frag} {ks : List (List Int)} : Mn (SetP P w K ks) := ⟨fun s ⟨a, L, e, h1, h2, h3⟩ => ⟨a, L, e, s _ _ h1, fun p hp => sqt_up s (h2 p hp), h3⟩⟩
section
end
section
end
section
end
end Y
namespace Y
open PySem PySem.Spec PyProof.Rows L2 Z
/-! ## isdigit, startswith; a walk with both ends that never raises -/
section
end
theorem EW.is {X : Cx} {σ : L2.St} {S : Hp} {e : Expr} {k k' : Bool} (h : EW X σ S e k) (f : k = k') : EW X σ S e k' := f ▸ h
/-- a, b = e1, e2 with plain local names -/
theorem hs_par {X : Cx} {σ : L2.St} {S H : Hp} {a b : Expr} {Pa Pb : V → Hp → Prop} {D : Ends} {rest : List Stmt} {pos : Pos} {i j : Nat} {x y : Str} {px py pt : Pos} {kt k2 pt2} [Mn Pa] [Mn Pb] (hc : X.calm = true) (hN : X.N.Nodup) (ha : EE X σ S a Pa) (hb : EE X σ S b Pb) (s : Same S H)
    (q : ∀ v w S' H', Pa v S' → Pb w S' → Gr S H S' H' → HS X D rest ((σ.set i (some v)).set j (some w)) H')
    (hi : X.N[i]? = some x := by rfl) (hj : X.N[j]? = some y := by rfl) (hij : i ≠ j := by decide) (hx : X.env.scope.names.lookup x = some .local := by rfl) (hy : X.env.scope.names.lookup y = some .local := by rfl)
    (hw : swappedStores [.Tuple [.Name x px, .Name y py] kt pt] (.Tuple [a, b] k2 pt2) X.env = pure (some [x, y]) := by first | rfl | with_unfolding_all rfl)
    (hss : swapsWithSole [.Tuple [.Name x px, .Name y py] kt pt] (.Tuple [a, b] k2 pt2) pos.line X.env = pure false := by rfl)
    (hs1 : starEach [a, b] X.env = (false, eval a X.env) :: starEach [b] X.env := by rfl) (hs2 : starEach [b] X.env = (false, eval b X.env) :: starEach [] X.env := by rfl) : HS X D (.Assign [.Tuple [.Name x px, .Name y py] kt pt] (.Tuple [a, b] k2 pt2) pos :: rest) σ H :=
  hs_cons (ps_par hc hN hi hj hij hx hy pab hw hss) ((ea_2 ha hb hs1 hs2).2 H s _ fun vs S' H' g al => by
    obtain ⟨v, w, rfl, p1, p2⟩ := al.two
    exact ⟨v, w, rfl, q v w S' H' p1 p2 g⟩)
section
end
end Y
namespace Y
open PySem PySem.Spec PyProof.Rows L2 L2H Z
section
end
section
end
section
end
end Y
namespace Y
open PySem PySem.Spec PyProof.Rows L2 Z
/-! ## things that change, told exactly: targets, calls, while -/
section
variable {X : Cx} {σ : L2.St} {S S' H : Hp} {e a b c o i : Expr} {es : List Expr} {P P0 Pa Pb Pc R : V → Hp → Prop} {Ps : List (V → Hp → Prop)} {pos p apos : Pos} {k : Nat} {x m f : Str} {sp : Sp} {C dx r t l : Addr} {fs : List (Str × V)} {v : V} {xs : List V} {D : Ends} {rest body : List Stmt}
/-- o[i] as a target, o a list that is told -/
theorem hg_sub {n : Int} {j : Nat} {Q : L2.St → Hp → Prop} (ho : EE X σ H o (fun w _ => w = .ref l)) (hi : EE X σ H i (Dt X.K (.int n))) (hb : H l = some (.lst xs)) (hk : ixN xs.length n = some j) (q : ∀ H', Same H H' → Q σ (upd H' l (.lst (xs.set j v))))
    (ha : ∀ v, assign (.Subscript o i pos) X.env v = (do
      let ov ← holding [v] (eval o X.env)
      let iv ← holding [v, ov] (eval i X.env)
      standAt pos
      holding [v, ov, iv] (setItem ov iv v)
      release [v, ov, iv] []) := by intro _; rfl) : HG X (.Subscript o i pos) v σ H Q := by
  refine hg_of (pg_sub peb peb set_list ha) ?_
  show HE X o σ H _
  exact ho H (Same.refl H) _ fun w S2 H2 g2 pw => hi H2 g2.hh _ fun u S3 H3 g3 pu => by
    subst pw
    cases pu
    have s3 := g2.hh.trans g3.hh
    exact ⟨l, xs, n, j, rfl, rfl, s3 _ _ hb, hk, q H3 s3⟩
def gFld (K : PySem.W.Frag) (to : TE) (f : Str) : TG := fun v σ H Q => to σ H fun x H1 => ∃ a C dx fs, x = .ref a ∧ H1 a = some (.ins C dx fs) ∧ Cls K C ∧ NoAttr K C f ∧ fs.length < 1000 ∧ Q σ (upd H1 a (.ins C dx (putF f v fs)))
theorem pg_fld {to : TE} (ho : PE X o to) : PG X (.Attribute o f pos) (gFld X.K to f) := by
  refine ⟨fun pins s σ H v u Q I r h => ?_⟩
  rw [assign_Attribute]
  refine wpAny_bind (wpAny_holding (thn (ho.run pins s σ H _ I h) fun ov s1 ⟨x, H1, I1, r1, a, C, dx, fs, ex, ea, c, n, l, q⟩ => ?_))
  subst ex
  obtain rfl : ov = Value.ref a := r1
  refine wpAny_bind (wpAny_standAt (wpAny_bind (wpAny_holding (setattr_ok I1 ea c n l r fun s3 I3 => ?_))))
  exact wpAny_release ⟨σ, _, I3, q⟩
/-- o.f as a target -/
theorem hg_fld {Q : L2.St → Hp → Prop} (ho : EE X σ H o (fun w _ => w = .ref t)) (hH : H t = some (.ins C dx fs)) (c : Cls X.K C) (n : NoAttr X.K C f) (hl : fs.length < 1000) (q : ∀ H', Same H H' → Q σ (upd H' t (.ins C dx (putF f v fs)))) : HG X (.Attribute o f pos) v σ H Q := by
  refine hg_of (pg_fld peb) ?_
  show HE X o σ H _
  exact ho H (Same.refl H) _ fun w S2 H2 g2 pw => by
    subst pw
    exact ⟨t, C, dx, fs, rfl, g2.hh _ _ hH, c, n, hl, q H2 g2.hh⟩
/-- t1, t2 = a pair -/
theorem hs_asgT2 {t1 t2 : Expr} {d1 d2 : PyData} {kt : Nat} {pt : Pos} (hc : X.calm = true) (he : EE X σ H e (Dt X.K (.tuple [d1, d2])))
    (q : ∀ v1 v2 H', Same H H' → Dt X.K d1 v1 H' → Dt X.K d2 v2 H' → HG X t1 v1 σ H' fun σ1 H1 => HG X t2 v2 σ1 H1 fun σ2 H2 => HS X D rest σ2 H2)
    (hn : (assignEach [t1, t2] X.env).length = 2 := by rfl) (hst : (assignEach [t1, t2] X.env).findIdx? (·.1) = none := by rfl)
    (h1 : (assignEach [t1, t2] X.env).map (·.2) = assign t1 X.env :: (assignEach [t2] X.env).map (·.2) := by rfl) (h2 : (assignEach [t2] X.env).map (·.2) = assign t2 X.env :: (assignEach [] X.env).map (·.2) := by rfl)
    (hss : swapsWithSole [.Tuple [t1, t2] kt pt] e pos.line X.env = pure false := by rfl) (hw : swappedStores [.Tuple [t1, t2] kt pt] e X.env = pure none := by rfl)
    (h3 : (assignEach [.Tuple [t1, t2] kt pt] X.env).map (·.2) = [assign (.Tuple [t1, t2] kt pt) X.env] := by rfl) : HS X D (.Assign [.Tuple [t1, t2] kt pt] e pos :: rest) σ H := by
  refine hs_cons (ps_asg peb (pg_tup hc (pgs_cons pgb (pgs_cons pgb pgs_nil h2) h1) hn hst) hss hw h3) (he H (Same.refl H) _ fun v S1 H1 g1 pv => ?_)
  obtain ⟨l, xs, rfl, hl, hx', _⟩ := pv.tup_inv
  obtain ⟨v1, e1, p1⟩ := hx'.get (i := 0) rfl
  obtain ⟨v2, e2, p2⟩ := hx'.get (i := 1) rfl
  have hxs : xs = [v1, v2] := by
    have hl2 := hx'.1
    match xs, hl2 with
    | [u, w], _ => simp at e1 e2; rw [e1, e2]
  subst hxs
  refine ⟨l, _, rfl, sqt_up g1.sub hl, rfl, v1, _, rfl, ?_⟩
  have h := q v1 v2 H1 g1.hh (p1.up g1.sub) (p2.up g1.sub)
  exact fun pins s u I r => thn (h pins s u I r) fun _ s2 ⟨σ', H', I', k⟩ => ⟨σ', H', I', v2, _, rfl, fun pins s u I r => thn (k pins s u I r) fun _ s3 ⟨σ2, H2, I2, k2⟩ => ⟨σ2, H2, I2, rfl, k2⟩⟩
/-- a, b, c = x, y, z with plain locals -/
theorem hs_par3 {i j m : Nat} {x y z : Str} {px py pz pt : Pos} {kt k2 pt2} [Mn Pa] [Mn Pb] [Mn Pc] (hc : X.calm = true) (hN : X.N.Nodup) (ha : EE X σ S a Pa) (hb : EE X σ S b Pb) (hcc : EE X σ S c Pc) (s : Same S H)
    (q : ∀ u v w S' H', Pa u S' → Pb v S' → Pc w S' → Gr S H S' H' → HS X D rest (((σ.set i (some u)).set j (some v)).set m (some w)) H')
    (hi : X.N[i]? = some x := by rfl) (hj : X.N[j]? = some y := by rfl) (hl : X.N[m]? = some z := by rfl) (hij : i ≠ j := by decide) (hil : i ≠ m := by decide) (hjl : j ≠ m := by decide) (hx : X.env.scope.names.lookup x = some .local := by rfl) (hy : X.env.scope.names.lookup y = some .local := by rfl) (hz : X.env.scope.names.lookup z = some .local := by rfl)
    (hw : swappedStores [.Tuple [.Name x px, .Name y py, .Name z pz] kt pt] (.Tuple [a, b, c] k2 pt2) X.env = pure (some [x, y, z]) := by first | rfl | with_unfolding_all rfl)
    (hss : swapsWithSole [.Tuple [.Name x px, .Name y py, .Name z pz] kt pt] (.Tuple [a, b, c] k2 pt2) pos.line X.env = pure false := by rfl)
    (hs1 : starEach [a, b, c] X.env = (false, eval a X.env) :: starEach [b, c] X.env := by rfl) (hs2 : starEach [b, c] X.env = (false, eval b X.env) :: starEach [c] X.env := by rfl) (hs3 : starEach [c] X.env = (false, eval c X.env) :: starEach [] X.env := by rfl) : HS X D (.Assign [.Tuple [.Name x px, .Name y py, .Name z pz] kt pt] (.Tuple [a, b, c] k2 pt2) pos :: rest) σ H :=
  hs_cons (ps_par3 hc hN hi hj hl hij hil hjl hx hy hz pab hw hss) ((ea_cons ha (ea_cons hb (ea_cons hcc ea_nil hs3) hs2) hs1).2 H s _ fun vs S' H' g al => by
    obtain ⟨u, v, w, rfl, p1, p2, p3⟩ := al.three
    exact ⟨u, v, w, rfl, q u v w S' H' p1 p2 p3 g⟩)
/-- o.m(e, ..), the promise read over the whole heap -/
theorem he_methH {pl : Sem Bool} {Q : VK} (D : KM X.prog X.w X.K X.mg X.base C m k sp) (c : Cls X.K C) (hr : Room k X.A) (ho : EE X σ H o (fun w _ => w = .ref t)) (hH : H t = some (.ins C dx fs)) (hm : fs.lookup m = none) (ha : EA X σ H (e :: es) Ps) (q : ∀ vs S' H', Gr H H S' H' → Al Ps vs S' → sp (.ref t :: vs) H' Q E0)
    (hst : starEach (e :: es) X.env = (false, eval e X.env) :: starEach es X.env := by rfl) (hpl : (backTo pos (starEach es X.env)).any (·.1) = false := by rfl)
    (ht : eval (.Call (.Attribute o m apos) (e :: es) [] pos) X.env = (do
      let ov ← eval o X.env
      standAt apos.atName
      let (f, first) ← holding [ov] (getMethod ov m pl)
      callWith pos f first (backTo pos (starEach (e :: es) X.env)) (backToKw pos (keywordEach [] X.env))) := by rfl) : HE X (.Call (.Attribute o m apos) (e :: es) [] pos) σ H Q := by
  obtain ⟨f, fd, ps, F, hmm, hf, hk, hb⟩ := D.ex
  refine he_of (pe_meth peb c ⟨hmm, hf, hk⟩ F hr hb .nil pass0 pab hst hpl ht) ?_
  show HE X o σ H _
  refine ho H (Same.refl H) _ fun w S1 H1 g1 pw => ?_
  subst pw
  refine ⟨t, dx, fs, rfl, g1.hh _ _ hH, hm, (ha.up g1.st).2 H1 g1.sub _ fun vs S2 H2 g2 al => ?_⟩
  rw [List.append_nil]
  exact q vs S2 H2 (g1.trans g2) al
theorem he_methH0 {pl : Sem Bool} {Q : VK} (D : KM X.prog X.w X.K X.mg X.base C m k sp) (c : Cls X.K C) (hr : Room k X.A) (ho : EE X σ H o (fun w _ => w = .ref t)) (hH : H t = some (.ins C dx fs)) (hm : fs.lookup m = none) (q : ∀ H', Same H H' → sp [.ref t] H' Q E0)
    (ht : eval (.Call (.Attribute o m apos) [] [] pos) X.env = (do
      let ov ← eval o X.env
      standAt apos.atName
      let (f, first) ← holding [ov] (getMethod ov m pl)
      callWith pos f first (backTo pos (starEach [] X.env)) (backToKw pos (keywordEach [] X.env))) := by rfl) : HE X (.Call (.Attribute o m apos) [] [] pos) σ H Q := by
  obtain ⟨f, fd, ps, F, hmm, hf, hk, hb⟩ := D.ex
  refine he_of (pe_meth0 peb c ⟨hmm, hf, hk⟩ F hr hb .nil pass0 ht) ?_
  show HE X o σ H _
  refine ho H (Same.refl H) _ fun w S1 H1 g1 pw => ?_
  subst pw
  exact ⟨t, dx, fs, rfl, g1.hh _ _ hH, hm, q H1 g1.hh⟩
theorem hs_exprH (h : HE X e σ H fun _ H' => HS X D rest σ H') (hs : swapsWith e none pos.line X.env = pure false := by rfl) : HS X D (.Expr e pos :: rest) σ H := hs_cons (ps_expr peb hs) h
theorem hs_setH {i : Nat} {x : Str} {pos' : Pos} (hN : X.N.Nodup) (h : HE X e σ H fun v H' => HS X D rest (σ.set i (some v)) H') (hi : X.N[i]? = some x := by rfl) (hx : Loc X.env.scope x := by first | exact Or.inl rfl | exact Or.inr rfl) (hs : swapsWith e (some (.Name x pos')) pos.line X.env = pure false := by rfl)
    (hf : X.fn x = true ∨ X.env.scope.names.lookup x = some .local := by first | exact .inl rfl | exact .inr rfl) : HS X D (.Assign [.Name x pos'] e pos :: rest) σ H :=
  hs_cons (ps_set hN hi hx peb hs hf) h
theorem hs_retH (h : HE X e σ H fun v H' => D.rt v H') : HS X D (.Return (some e) pos :: rest) σ H := hs_cons (ps_ret peb) h
/-- while, an invariant over the whole heap -/
theorem hs_whileH (Iv : Nat → L2.St → Hp → Prop) (m0 : Nat) (hp : PassesOwn (model X.prog X.w) X.A X.env X.xe) (h0 : Iv m0 σ H)
    (step : ∀ m σ1 H1, Iv m σ1 H1 → HT X c σ1 H1 fun b H2 => if b = true then HS X { D with nx := fun σ' H' => ∃ m', m' < m ∧ Iv m' σ' H', ct := fun σ' H' => ∃ m', m' < m ∧ Iv m' σ' H', bk := fun σ' H' => HS X D rest σ' H' } body σ1 H2 else HS X D rest σ1 H2) :
    HS X D (.While c body [] pos :: rest) σ H :=
  hs_cons (ps_while hp ptb psb) ⟨Iv, ⟨m0, h0⟩, fun m σ1 H1 iv => ht_mono (step m σ1 H1 iv) fun b H2 q => by
    cases b with
    | true => exact ⟨fun σ' H' => ∃ m', m' < m ∧ Iv m' σ' H', fun _ _ z => z, q⟩
    | false => exact q⟩
/-! ## list(range(..)), told as new -/
theorem ee_listRg2 {i j : Int} {a b : Expr} {p2 pos2 : Pos} (hc : X.calm = true) (hl : X.mg "list" = none) (hm : X.mg "range" = none) (ok : RgOk i j) (ha : EE X σ S a (Dt X.K (.int i))) (hb : EE X σ S b (Dt X.K (.int j))) (hgl : Gl X "list" := by rfl) (hg : Gl X "range" := by rfl)
    (na : starEach [a, b] X.env = (false, eval a X.env) :: starEach [b] X.env := by rfl) (nb : starEach [b] X.env = (false, eval b X.env) :: starEach [] X.env := by rfl) (hp : (backTo pos (starEach [b] X.env)).any (·.1) = false := by rfl) (ne : starEach [.Call (.Name "range" p) [a, b] [] pos] X.env = (false, eval (.Call (.Name "range" p) [a, b] [] pos) X.env) :: starEach [] X.env := by rfl) :
    EE X σ S (.Call (.Name "list" p2) [.Call (.Name "range" p) [a, b] [] pos] [] pos2) (NewL X.K S ((List.range (j - i).toNat).map fun k : Nat => .int (i + (k : Nat)))) := fun H s Q q =>
  he_of (pe_listRg hc hgl hl (prg_2 hg hm peb peb na nb hp) ne) (by
    refine ha H s _ fun v S1 H1 g1 pv => ?_
    refine (hb.up g1.st) H1 g1.sub _ fun w S2 H2 g2 pw => ?_
    cases pv; cases pw
    refine ⟨i, j, rfl, rfl, ok, fun l hl => ?_⟩
    have g := (g1.trans g2).trans (Gr.new (o := .lst (rgV i j)) g2.sub hl)
    refine q _ _ _ g ⟨l, rgV i j, rfl, s.free (g1.hh.free (g2.hh.free hl)), upd_same, ?_, by rw [rgV_length]; have := ok.2.2.2.2; exact Nat.le_trans this (by decide)⟩
    have e : rgV i j = ((List.range (j - i).toNat).map fun k : Nat => i + (k : Nat)).map V.int := by unfold rgV; rw [List.map_map]; rfl
    have e2 : ((List.range (j - i).toNat).map fun k : Nat => PyData.int (i + (k : Nat))) = ((List.range (j - i).toNat).map fun k : Nat => i + (k : Nat)).map PyData.int := by rw [List.map_map]; rfl
    rw [e, e2]
    exact int_dts _ _)
theorem ee_listRg1 {j : Int} {a : Expr} {p2 pos2 : Pos} (hc : X.calm = true) (hl : X.mg "list" = none) (hm : X.mg "range" = none) (ok : RgOk 0 j) (ha : EE X σ S a (Dt X.K (.int j))) (hgl : Gl X "list" := by rfl) (hg : Gl X "range" := by rfl)
    (na : starEach [a] X.env = (false, eval a X.env) :: starEach [] X.env := by rfl) (ne : starEach [.Call (.Name "range" p) [a] [] pos] X.env = (false, eval (.Call (.Name "range" p) [a] [] pos) X.env) :: starEach [] X.env := by rfl) :
    EE X σ S (.Call (.Name "list" p2) [.Call (.Name "range" p) [a] [] pos] [] pos2) (NewL X.K S ((List.range j.toNat).map fun k : Nat => .int (k : Nat))) := fun H s Q q =>
  he_of (pe_listRg hc hgl hl (prg_1 hg hm peb na) ne) (by
    refine ha H s _ fun v S1 H1 g1 pv => ?_
    cases pv
    refine ⟨j, rfl, ok, fun l hl => ?_⟩
    have g := g1.trans (Gr.new (o := .lst (rgV 0 j)) g1.sub hl)
    refine q _ _ _ g ⟨l, rgV 0 j, rfl, s.free (g1.hh.free hl), upd_same, ?_, by rw [rgV_length]; have := ok.2.2.2.2; exact Nat.le_trans this (by decide)⟩
    have e : rgV 0 j = ((List.range j.toNat).map fun k : Nat => (k : Int)).map V.int := by unfold rgV; rw [List.map_map, Int.sub_zero]; exact List.map_congr_left fun k _ => by simp
    have e2 : ((List.range j.toNat).map fun k : Nat => PyData.int (k : Nat)) = ((List.range j.toNat).map fun k : Nat => (k : Int)).map PyData.int := by rw [List.map_map]; rfl
    rw [e, e2]
    exact int_dts _ _)
end
/-! ## a comprehension whose items are told by themselves, its list told as new (after Y52's) -/
/-- a new list: its items stand in a heap without it -/
def LstPN (S : Hp) (Ps : List (V → Hp → Prop)) (v : V) (S' : Hp) : Prop := ∃ l xs S2, v = .ref l ∧ S l = none ∧ Same S S2 ∧ S2 l = none ∧ Same S2 S' ∧ S' l = some (.lst xs) ∧ Al Ps xs S2
instance {S : Hp} {Ps : List (V → Hp → Prop)} : Mn (LstPN S Ps) := ⟨fun s ⟨l, xs, S2, a, b, c, d, e, f, g⟩ => ⟨l, xs, S2, a, b, c, d, e.trans s, s _ _ f, g⟩⟩
section
variable {α : Type} {R : α → V → Hp → Prop} {X : Cx} {σ : L2.St} {S : Hp} {elt tg iter : Expr} {ifs : List Expr} {scope : Scope} {own : List (Str × Nat)} {pos : Pos} {ds : List α} {G : α → V → Hp → Prop}
theorem lc_loopNB (hG : ∀ d ∈ ds, Mn (G d)) (hz : ds.length ≤ sizeLine)
    (hel : ∀ d ∈ ds, ∀ v S', Same S S' → R d v S' → ∃ τ, wipe τ (own.map (·.2)) = wipe σ (own.map (·.2)) ∧ ∀ (s : Shared) (H0 : Hp) (C : Addr) (cl : List (Str × Addr)) (fp : List Addr),
      EG (X.blk s H0 scope (compEnvC scope cl C X.env) fp) S' tg v (wipe σ (own.map (·.2))) τ ∧ ETs (X.blk s H0 scope (compEnvC scope cl C X.env) fp) τ S' ifs true ∧ EE (X.blk s H0 scope (compEnvC scope cl C X.env) fp) τ S' elt (G d)) {H : Hp} (Q : VK) (q : ∀ v S' H', Gr S H S' H' → LstPN S (ds.map G) v S' → Q v H') {J : It} {S1 H1 : Hp} (g1 : Gr S H S1 H1) (it : ItP J S1 (ds.map R)) :
    ∀ D, H1 D = none → ∃ W : Nat → Nat → Hp → Prop, (∃ m, W 0 m (upd H1 D (.lst []))) ∧ ∀ i m H, W i m H →
      (J.stop i H ∧ Q (.ref D) H) ∨ (J.go i H ∧ ∃ Nx : Hp → Prop, (∀ H', Nx H' → ∃ m', m' < m ∧ W (i + 1) m' H') ∧ ∀ x H', J.yld i H x H' → gBlk X scope tg x (wipe σ (own.map (·.2))) H' fun σ2 H2 => wipe σ2 (own.map (·.2)) = wipe σ (own.map (·.2)) ∧ tBlk X scope ifs σ2 H2 fun b H3 =>
        if b = true then eBlk X scope elt σ2 H3 fun y H4 => ∃ acc, H4 D = some (.lst acc) ∧ acc.length < sizeLine ∧ Nx (upd H4 D (.lst (acc ++ [y]))) else Nx H3) := by
  intro D hD
  have hD1 : S1 D = none := g1.sub.free hD
  have hlen : (List.map R ds).length = ds.length := List.length_map ..
  refine lc_it (g := gBlk X scope tg) (tt := tBlk X scope ifs) (te := eBlk X scope elt) (vs := own.map (·.2)) (σ := σ) (Qd := Q (.ref D)) it (fun i H' => ∃ S' xs, Same S1 S' ∧ Same S' H' ∧ Same H1 H' ∧ (∀ a o, H1 a = some o → NT o → S' a = S1 a) ∧ S' D = none ∧ H' D = some (.lst xs) ∧ Al ((ds.take i).map G) xs S' ∧ xs.length ≤ i)
    ⟨S1, [], Same.refl _, Same.mut g1.sub hD1, Same.new hD, fun _ _ _ _ => rfl, hD1, upd_same, .nil, Nat.le_refl _⟩ (fun i H' _ ⟨S', _, a, b, _⟩ => a.trans b) ?_ ?_
  · intro i x H2 H3 hi2 ⟨S2, xs, k1, k2, k3, k4, k5, k6, k8, k9⟩ y
    rw [hlen] at hi2
    obtain ⟨S3, g3, P, hP, px⟩ := y S2 k1 k2
    obtain ⟨d, hd⟩ : ∃ d, ds[i]? = some d := ⟨ds[i], List.getElem?_eq_getElem hi2⟩
    rw [List.getElem?_map, hd] at hP
    obtain rfl := Option.some.inj hP
    have sS3 : Same S S3 := g1.st.trans (k1.trans g3.st)
    obtain ⟨τ, hw, hb⟩ := hel d (List.mem_of_getElem? hd) x S3 sS3 px
    intro sh H0 C cl fp
    refine (hb sh H0 C cl fp).1 H3 g3.sub _ ⟨hw, ?_⟩
    intro sh' H0' C' cl' fp'
    refine (hb sh' H0' C' cl' fp').2.1 H3 g3.sub _ fun S4 H4 g4 => ?_
    have g34 := g3.trans g4
    refine iteT ?_
    intro sh'' H0'' C'' cl'' fp''
    haveI := hG d (List.mem_of_getElem? hd)
    refine (EE.up g4.st (hb sh'' H0'' C'' cl'' fp'').2.2) H4 g4.sub _ fun w S5 H5 g5 hrw => ?_
    have g := g34.trans g5
    have hD5 : S5 D = none := (g.old D _ k6 (fun _ z => nomatch z)).trans k5
    refine ⟨xs, g.hh _ _ k6, Nat.lt_of_le_of_lt k9 (Nat.lt_of_lt_of_le hi2 hz), S5, xs ++ [w], k1.trans g.st, Same.mut g.sub hD5, fun a o h => ?_, fun a o h n => (g.old a o (k3 a o h) n).trans (k4 a o h n), hD5, upd_same, ?_, by rw [List.length_append]; show xs.length + 1 ≤ i + 1; omega⟩
    · rw [upd_ne (ne_of_none h hD)]; exact g.hh _ _ (k3 a o h)
    · rw [take_snoc hd, List.map_append]
      exact al_snoc (al_map_up (fun d hd => hG d (List.mem_of_mem_take hd)) g.st k8) hrw
  · intro H2 ⟨S2, xs, k1, k2, k3, k4, k5, k6, k8, k9⟩
    rw [hlen] at k8 k9
    rw [List.take_length] at k8
    refine q _ (upd S2 D (.lst xs)) H2 (g1.trans ⟨k1.trans (Same.new k5), fun a o h => ?_, k3, fun a o h n => by rw [upd_ne (ne_of_none h hD)]; exact k4 a o h n⟩) ⟨D, xs, S2, rfl, g1.st.free hD1, g1.st.trans k1, k5, Same.new k5, upd_same, k8⟩
    by_cases ha : a = D
    · subst ha; rw [upd_same] at h; rw [k6]; exact h
    · rw [upd_ne ha] at h; exact k2 a o h
theorem lc_readNB (hG : ∀ d ∈ ds, Mn (G d)) (hi : EI X σ S tg iter (ds.map R)) (hz : ds.length ≤ sizeLine)
    (hel : ∀ d ∈ ds, ∀ v S', Same S S' → R d v S' → ∃ τ, wipe τ (own.map (·.2)) = wipe σ (own.map (·.2)) ∧ ∀ (s : Shared) (H0 : Hp) (C : Addr) (cl : List (Str × Addr)) (fp : List Addr),
      EG (X.blk s H0 scope (compEnvC scope cl C X.env) fp) S' tg v (wipe σ (own.map (·.2))) τ ∧ ETs (X.blk s H0 scope (compEnvC scope cl C X.env) fp) τ S' ifs true ∧ EE (X.blk s H0 scope (compEnvC scope cl C X.env) fp) τ S' elt (G d)) {H : Hp} (s : Same S H) (Q : VK) (q : ∀ v S' H', Gr S H S' H' → LstPN S (ds.map G) v S' → Q v H') :
    tLc (bI X tg iter) (gBlk X scope tg) (tBlk X scope ifs) (eBlk X scope elt) (own.map (·.2)) σ H Q := hi H s _ fun J S1 H1 g1 it => lc_loopNB hG hz hel Q q g1 it
theorem ee_lcNB (hG : ∀ d ∈ ds, Mn (G d)) (hc : X.calm = true) (hN : X.N.Nodup) (ok : BlkOk X.N X.env.scope scope own) (hi : EI X σ S tg iter (ds.map R)) (hz : ds.length ≤ sizeLine)
    (hel : ∀ d ∈ ds, ∀ v S', Same S S' → R d v S' → ∃ τ, wipe τ (own.map (·.2)) = wipe σ (own.map (·.2)) ∧ ∀ (s : Shared) (H0 : Hp) (C : Addr) (cl : List (Str × Addr)) (fp : List Addr),
      EG (X.blk s H0 scope (compEnvC scope cl C X.env) fp) S' tg v (wipe σ (own.map (·.2))) τ ∧ ETs (X.blk s H0 scope (compEnvC scope cl C X.env) fp) τ S' ifs true ∧ EE (X.blk s H0 scope (compEnvC scope cl C X.env) fp) τ S' elt (G d))
    (hs : ∀ x, foldedSetIterable iter X.env x = pure x := by intro _; rfl) :
    EE X σ S (.ListComp elt [⟨tg, iter, ifs, 0⟩] scope pos) (LstPN S (ds.map G)) := fun H s Q q =>
  he_of (pe_lc (own := own) (wi := bI X tg iter) (g := gBlk X scope tg) (tt := tBlk X scope ifs) (te := eBlk X scope elt) hc hN pib ok
    (fun s H0 C cl fp => ⟨fun pins sh σ' H' v u Q' I r h => h s H0 C cl fp pins sh u I r⟩) (fun s H0 C cl fp => ⟨fun pins sh σ' H' Q' I h => h s H0 C cl fp pins sh I⟩) (fun s H0 C cl fp => ⟨fun pins sh σ' H' Q' I h => h s H0 C cl fp pins sh I⟩) hs) (lc_readNB hG hi hz hel s Q q)
end
end Y
namespace Y
open PySem PySem.Spec PyProof.Rows L2 Z NdefX ClX
/-! ## an __init__ that begins with super().__init__(..) -/
/-- a def with the cell __class__, the class at D in it -/
structure FunS (P : Program) (K : PySem.W.Frag) (x qual : Str) (params : Arguments) (body : List Stmt) (scope : Scope) (D f : Addr) (fd : FuncData) : Prop where
  ex : ∃ (oc : Value) (od : Option Addr) (dV kV doc pm : Value) (an : Option Addr) (c cc : Addr) (ct : Value) (osl : Array (Option Value)),
    fd = PySem.W.ksFn x qual params body scope dV kV doc pm an (.ref c) ct cc ∧ K.lookup f = some ⟨oc, od, .func fd, osl⟩ ∧ PySem.W.codeIn K (.ref c) qual = true ∧
    (∃ ccl cld csl, K.lookup cc = some ⟨ccl, cld, .cell (some (.ref D)), csl⟩) ∧ (∃ cd, PySem.W.clsIn K D = some cd) ∧ ∃ ccl cdd vs ccs file tf, K.lookup c = some ⟨ccl, cdd, .fields vs, ccs⟩ ∧ vs[2]? = some (.str file tf) ∧ ((P.main.file : Str) == file) = true
  kp : PySem.W.keepIn K (.ref f) = true
  dv : fd.defaults = .none
/-- what K tells of super and of the classes -/
structure SupK (P : Program) (K : PySem.W.Frag) (mg : Str → Option Value) (C D f2 : Addr) : Prop where
  mg : mg "super" = none
  top : (P.main.scope.names.lookup ("super" : Str)).isSome = false
  no : PySem.W.nsIn K cStatics "thirdparty.any" = some none
  at_ : PySem.W.ks_superIn K C D "__init__" = some (some (.ref f2))
  sub : PySem.W.mroIn K C (.ref D) = some true
  fn : PySem.W.fnIn K f2 = true
  ty : PySem.W.typeIn K (.ref f2) = some (.type "function")
/-- the context of its body -/
abbrev scx (P : Program) (w : World) (K : PySem.W.Frag) (mg : Str → Option Value) (base : Heap) (N : List Str) (x qual : Str) (params : Arguments) (scope : Scope) (c cc f : Addr) (A : Around) (outer : List Env) (s : Shared) (H : Hp) (E : XK) : Cx :=
  ncx CX0 P w K mg base N ⟨x, qual, params, [], scope, [("__class__", cc)], c⟩ f A outer s H E
section
variable {P : Program} {w : World} {K : PySem.W.Frag} {mg : Str → Option Value} {base : Heap} {x qual : Str} {params : Arguments} {scope : Scope} {D C f f2 : Addr} {fd fd2 : FuncData} {N ps ps2 : List Str} {k : Nat} {sp sp2 : Sp} {e : Expr} {es : List Expr} {rest : List Stmt} {p0 p1 apos pos pos2 : Pos}
theorem fn_super {ar : Arg} {pl : Env → Sem Bool} (F : FunS P K x qual params (.Expr (.Call (.Attribute (.Call (.Name "super" p0) [] [] p1) "__init__" apos) (e :: es) [] pos) pos2 :: rest) scope D f fd) (S : NScope N ps ["__class__"] scope) (G : FnOk P w K mg base CX0 k f2 fd2 ps2 sp2) (hb2 : Binds K fd2 ps2 []) (U : SupK P K mg C D f2)
    (hp : (params.posonlyargs ++ params.args).head? = some ar) (hN : N[0]? = some ar.arg) (hs0 : scope.names.lookup ar.arg = some .local) (hks : scope.names.lookup ("super" : Str) = some .globalImplicit)
    (len : ∀ vs H Q E, sp vs H Q E → vs.length = ps.length)
    (hbody : ∀ (c cc : Addr) (A : Around) (outer : List Env) (s : Shared) (H : Hp) (vs : List V) (Q : VK) (E : XK), Room k (A.deeper (envF ⟨x, qual, params, [], scope, [("__class__", cc)], c⟩ f s.heap.objs.size)) → sp vs H Q E →
      ∃ a dx fs ws, vs = .ref a :: ws ∧ H a = some (.ins C dx fs) ∧ HA (scx P w K mg base N x qual params scope c cc f A outer s H E).nox (e :: es) (startF N vs [none]) H fun us H1 => sp2 (.ref a :: us) H1 (fun _ H2 => HS (scx P w K mg base N x qual params scope c cc f A outer s H E).nox { nx := fun _ H' => Q .non H', rt := Q } rest (startF N vs [none]) H2) E0)
    (hss : ∀ env, swapsWith (.Call (.Attribute (.Call (.Name "super" p0) [] [] p1) "__init__" apos) (e :: es) [] pos) none pos2.line env = pure false := by intro _; rfl)
    (hst : ∀ env, starEach (e :: es) env = (false, eval e env) :: starEach es env := by intro _; rfl) (hpl : ∀ env, (backTo pos (starEach es env)).any (·.1) = false := by intro _; rfl)
    (ht : ∀ env, eval (.Call (.Attribute (.Call (.Name "super" p0) [] [] p1) "__init__" apos) (e :: es) [] pos) env = (do
      let ov ← attributeBase (.Call (.Name "super" p0) [] [] p1) "__init__" env (eval (.Call (.Name "super" p0) [] [] p1) env)
      standAt apos.atName
      let (f, first) ← holding [ov] (getMethod ov "__init__" (pl env))
      callWith pos f first (backTo pos (starEach (e :: es) env)) []) := by intro _; rfl) :
    FnOk P w K mg base CX0 (k + 1) f fd ps sp := by
  obtain ⟨oc, od, dV, kV, doc, pm, an, c, cc, ct, osl, rfl, lk, hcd, ⟨ccl, cld, csl, hcell⟩, ⟨cdD, hD⟩, ccl2, cdd, vsc, ccs, file, tf, hcode, hvs, hfile⟩ := F.ex
  refine ⟨len, fun A outer s H args us vs Q E hr e0 hb r hsp => ?_⟩
  have hl := len _ _ _ _ hsp
  have KB : K.In base := e0.mod.kin
  have KX : K.In s.heap := e0.mod.kin.keeps fun b o e => (e0.bs b o e).1
  have lim : s.heap.NoLimit := e0.mod.nolimit.keeps fun b o e => (e0.bs b o e).1
  have CA : CellsAt [("__class__", cc)] ["__class__"] [none] s.heap H := by
    refine ⟨rfl, fun y c' e => ?_, fun x y c' e1 e2 => ?_, fun i y e => ?_⟩
    · have : c' = cc := by
        simp only [List.lookup] at e
        split at e
        · exact (Option.some.inj e).symm
        · cases e
      subst this
      exact ⟨(e0.bs _ _ (KB _ _ hcell)).2, _, _, KX _ _ hcell, rfl⟩
    · simp only [List.lookup] at e1 e2
      split at e1
      · split at e2
        · rename_i h1 _ h2
          rw [beq_iff_eq.mp h1, beq_iff_eq.mp h2]
        · cases e2
      · cases e1
    · cases i with
      | zero => cases e; exact ⟨cc, rfl, fun v q => by simp at q⟩
      | succ i => simp at e
  refine ks_codeAny_call_defAt (fd := PySem.W.ksFn x qual params (.Expr (.Call (.Attribute (.Call (.Name "super" p0) [] [] p1) "__init__" apos) (e :: es) [] pos) pos2 :: rest) scope dV kV doc pm an (.ref c) ct cc) hr.depth (KX _ _ lk) rfl lim (PySem.W.codeRec_of KX hcd) rfl hb S.nocell (fun ⟨n, _⟩ hy => S.par n (List.of_mem_zip hy).1) (fun h₁ hns kp => ?_) S.co S.gen S.kind
  have I0 : Inv (scx P w K mg base N x qual params scope c cc f A outer s H E) [] (startF N vs [none]) H { s with heap := h₁, toks := s.toks + (ps.zip us).length } := inv_startN (F := ⟨x, qual, params, [], scope, [("__class__", cc)], c⟩) S hr.hd e0 hl r CA hns kp
  have I := I0.wish fun _ _ => False
  obtain ⟨a, dx, fs, ws, rfl, hH, hA⟩ := hbody c cc A outer s H vs Q E (hr.deeper _) hsp
  generalize hs1 : ({ s with heap := h₁, toks := s.toks + (ps.zip us).length } : Shared) = s1 at *
  -- the end
  have fin : ∀ {fl : Flow} {s' : Shared}, SP (scx P w K mg base N x qual params scope c cc f A outer s H E).nox [] { nx := fun _ H' => Q .non H', rt := Q } fl s' → CR CX0 outer P w H s Q E (.ok (.ret (match fl with | .ret v => v | _ => .none))) s' := fun {fl s'} hs => by
    cases fl with
    | ret u =>
      obtain ⟨v, σ', H', J, rv, q⟩ := hs
      exact ⟨v, H', J.os, J.bare, J.base, J.hok, rv, q⟩
    | next =>
      obtain ⟨σ', H', J, q⟩ := hs
      exact ⟨V.non, H', J.os, J.bare, J.base, J.hok, rfl, q⟩
    | brk =>
      obtain ⟨_, _, _, q⟩ := hs
      exact False.elim q
    | cont =>
      obtain ⟨_, _, _, q⟩ := hs
      exact False.elim q
  refine ks_wpAt_mono (Q := SP (scx P w K mg base N x qual params scope c cc f A outer s H E).nox [] { nx := fun _ H' => Q .non H', rt := Q }) (E := fun _ _ => False) ?_ (fun fl s' hs => fin hs) (fun _ _ z => z.elim)
  refine ks_wpAt_execs_cons (ks_wpAt_Expr_any (ks_wpAt_MethodCall ?_ (ht _)) I.quiet (hss _))
  have hkc : scope.names.lookup ("__class__" : Str) = some .free := S.frk _ (List.mem_singleton.mpr rfl)
  have KX1 : K.In s1.heap := I.kIn
  refine ks_wpAt_super_base (env := envF ⟨x, qual, params, [], scope, [("__class__", cc)], c⟩ f s.heap.objs.size) hks hkc rfl rfl (KX1 _ _ lk) rfl hp rfl (KX1 _ _ hcode) rfl hvs hfile U.top ?_
  obtain ⟨mb, hb1, hb2'⟩ := I.mod.blt
  refine PySem.W.ks_loadName_global S.kind hks (Calls.loadGlobal_builtin (I.mod.glob.keeps I.bk) U.mg (hb1.keeps I.bk) ((hb2' "super" (by decide)).trans (by rfl)) ⟨rfl, ?_⟩)
  refine wpAny_loadName_free S.kind hkc rfl ⟨_, KX1 _ _ hcell, rfl⟩ ?_
  obtain ⟨m, hns', hloc⟩ := I.loc
  obtain ⟨u0, ru0, look0⟩ := hloc 0 ar.arg (.ref a) hN (by unfold startF; rfl) (.inl hs0)
  obtain rfl : u0 = Value.ref a := ru0
  have hv0 : m ar.arg = some (.ref a) := by
    rcases look0 with ⟨_, h⟩ | ⟨h, _⟩
    · exact h
    · have : scope.names.lookup ar.arg = some .cell ∨ scope.names.lookup ar.arg = some .free := h
      rw [hs0] at this
      rcases this with h | h <;> cases h
  refine wpAny_loadName_local S.kind hs0 hns' hv0 ?_
  obtain ⟨oD, hD1, hD2⟩ : ∃ oD, s1.heap.get? D = some oD ∧ oD.data = .cls cdD := by
    unfold PySem.W.clsIn at hD
    split at hD
    · rename_i c d cd' sl ho
      cases hD
      exact ⟨_, KX1 _ _ ho, rfl⟩
    · cases hD
  obtain ⟨ox, od', J⟩ := insAt I hH
  refine ks_wpAny_isType_cls hD1 hD2 ⟨rfl, ?_⟩
  refine ks_wpAny_call_super hD1 hD2 J.at_ J.cls (fun c e => ?_) (PySem.W.looks_mroIn KX1 U.sub) (fun h' e' k' => ?_)
  · have := J.no
    unfold PySem.W.notCls at this
    rw [e] at this
    exact Bool.noConfusion this
  -- the super object
  have I2 : Inv (scx P w K mg base N x qual params scope c cc f A outer s H E).nox [] (startF N (.ref a :: ws) [none]) H { s1 with heap := h' } := I.kept (t' := s1.toks) k'
  have KX2 : K.In h' := I2.kIn
  have hsup := U.at_
  unfold PySem.W.ks_superIn at hsup
  cases hc : PySem.W.clsIn K C with
  | none => rw [hc] at hsup; cases hsup
  | some cd =>
    rw [hc] at hsup
    obtain ⟨of, hof, hofc⟩ : ∃ of, h'.get? f2 = some of ∧ of.cls = .type "function" := by
      have ht' : (K.lookup f2).map (·.cls) = some (.type "function") := U.ty
      cases z : K.lookup f2 with
      | none => rw [z] at ht'; cases ht'
      | some of => rw [z] at ht'; exact ⟨of, KX2 _ _ z, Option.some.inj ht'⟩
    refine ks_wpAny_getMethod_super e' (PySem.W.looks_opaque KX2 U.no) (l₀ := cd.mro) ?_ rfl KX2 hsup hof hofc (PySem.W.ks_ne KX1 J hc) rfl ?_
    · exact fun A Q E s k q => wpAny_bind ((PySem.W.looks_clsIn KX2 hc) A _ E s k (wpAny_pure q))
    have I3 := met_new (g := f2) (C := a) I2
    have base_q := base_none I2 (Nat.le_refl _)
    refine wpAny_mono (callwith_cm (A := (A.deeper (envF ⟨x, qual, params, [], scope, [("__class__", cc)], c⟩ f s.heap.objs.size))) (Q := fun _ s' => ∃ H2, Inv (scx P w K mg base N x qual params scope c cc f A outer s H E).nox [] (startF N (.ref a :: ws) [none]) H2 s' ∧ HS (scx P w K mg base N x qual params scope c cc f A outer s H E).nox { nx := fun _ H' => Q .non H', rt := Q } rest (startF N (.ref a :: ws) [none]) H2) (E := fun _ _ => False) I3 base_q U.fn ?_ (hst _) (hpl _)) (fun v s' ⟨H2, I5, hh⟩ => ?_) (fun _ _ z => z)
    · refine thn (hA pos _ _ I3) fun us s3 ⟨vs, H2, I4, rv, q2⟩ => ⟨⟨pin_at I4, I4.kIn⟩, ?_⟩
      have FR : FnR P w K mg base CX0 k f2 sp2 := (G.raw hb2 .nil).imp fun vs H Q E h => by rw [List.append_nil]; exact h
      exact thn (run_cm (X := (scx P w K mg base N x qual params scope c cc f A outer s H E).nox) FR (hr.deeper _) pass0 I4 rv q2) fun u s4 ⟨_, H3, I5, _, q5⟩ => ⟨H3, I5, q5⟩
    · exact wpAt_of_wpAny (hh [] s' I5)
end
theorem FunS.bindsN {P : Program} {K : PySem.W.Frag} {x qual : Str} {params : Arguments} {body : List Stmt} {scope : Scope} {D f : Addr} {fd : FuncData} {ps : List Str} (F : FunS P K x qual params body scope D f fd)
    (h : ∀ (kV doc pm : Value) (an : Option Addr) (cdv ct : Value) (cc : Addr) (us : List Value), us.length = ps.length → bindArgs (PySem.W.ksFn x qual params body scope .none kV doc pm an cdv ct cc) ⟨us, []⟩ = pure (ps.zip us)) : Binds K fd ps [] := by
  obtain ⟨oc, od, dV, kV, doc, pm, an, c, cc, ct, osl, rfl, _⟩ := F.ex
  have := F.dv
  have hd : dV = .none := this
  subst hd
  exact .all (h kV doc pm an (.ref c) ct cc)
end Y
namespace Y
open PySem PySem.Spec PyProof.Rows L2 Z
section
variable {X : Cx} {σ : L2.St} {S S' H : Hp} {e a b c o i : Expr} {es : List Expr} {P P0 Pa Pb Pc R : V → Hp → Prop} {Ps : List (V → Hp → Prop)} {pos p apos : Pos} {k : Nat} {x m f : Str} {sp : Sp} {C dx r t l : Addr} {fs : List (Str × V)} {v : V} {xs : List V} {D : Ends} {rest body : List Stmt}
/-- f(e, ..), the promise read over the whole heap -/
theorem he_callH {Q : VK} (D : KD X.prog X.w X.K X.mg X.base x k sp) (hr : Room k X.A) (ha : EA X σ H (e :: es) Ps) (q : ∀ vs S' H', Gr H H S' H' → Al Ps vs S' → sp vs H' Q E0) (hg : Gl X x := by rfl) (hdb : (x == ("__debug__" : Str)) = false := by decide)
    (he : starEach (e :: es) X.env = (false, eval e X.env) :: starEach es X.env := by rfl) (hpl : (backTo pos (starEach es X.env)).any (·.1) = false := by rfl) : HE X (.Call (.Name x p) (e :: es) [] pos) σ H Q := by
  obtain ⟨f, fd, ps, F, hm, hk, hb⟩ := D.ex
  refine he_of (pe_call F hr hg hm hk hb .nil pass0 pab hdb he hpl) (ha.2 H (Same.refl H) _ fun vs S1 H1 g1 al => ?_)
  rw [List.append_nil]
  exact q vs S1 H1 g1 al
/-- t1, t2 = e, e's pair told over the whole heap -/
theorem hs_asgT2H {t1 t2 : Expr} {kt : Nat} {pt : Pos} (hc : X.calm = true)
    (he : HE X e σ H fun v H1 => ∃ tp v1 v2, v = .ref tp ∧ H1 tp = some (.tup [v1, v2]) ∧ HG X t1 v1 σ H1 fun σ1 H2 => HG X t2 v2 σ1 H2 fun σ2 H3 => HS X D rest σ2 H3)
    (hn : (assignEach [t1, t2] X.env).length = 2 := by rfl) (hst : (assignEach [t1, t2] X.env).findIdx? (·.1) = none := by rfl)
    (h1 : (assignEach [t1, t2] X.env).map (·.2) = assign t1 X.env :: (assignEach [t2] X.env).map (·.2) := by rfl) (h2 : (assignEach [t2] X.env).map (·.2) = assign t2 X.env :: (assignEach [] X.env).map (·.2) := by rfl)
    (hss : swapsWithSole [.Tuple [t1, t2] kt pt] e pos.line X.env = pure false := by rfl) (hw : swappedStores [.Tuple [t1, t2] kt pt] e X.env = pure none := by rfl)
    (h3 : (assignEach [.Tuple [t1, t2] kt pt] X.env).map (·.2) = [assign (.Tuple [t1, t2] kt pt) X.env] := by rfl) : HS X D (.Assign [.Tuple [t1, t2] kt pt] e pos :: rest) σ H := by
  refine hs_cons (ps_asg peb (pg_tup hc (pgs_cons pgb (pgs_cons pgb pgs_nil h2) h1) hn hst) hss hw h3) (he_mono he fun v H1 ⟨tp, v1, v2, e, hl, h⟩ => ?_)
  subst e
  refine ⟨tp, _, rfl, sqt_of hl, rfl, v1, _, rfl, ?_⟩
  exact fun pins s u I r => thn (h pins s u I r) fun _ s2 ⟨σ', H', I', k⟩ => ⟨σ', H', I', v2, _, rfl, fun pins s u I r => thn (k pins s u I r) fun _ s3 ⟨σ2, H2, I2, k2⟩ => ⟨σ2, H2, I2, rfl, k2⟩⟩
end
section
end
end Y
namespace Y
open PySem PySem.Spec PyProof.Rows L2 Z
/-! ## name = [..] on one line, the list told as new -/
section
variable {X : Cx} {σ : L2.St} {S : Hp} {elt tg iter : Expr} {ifs : List Expr} {scope : Scope} {own : List (Str × Nat)} {pos : Pos} {ds : List PyData} {p : PyData → Bool} {G : PyData → PyData → Prop}
/-- name = [..] on one line, the name a local -/
theorem hs_setLcGN {D : Ends} {rest : List Stmt} {i : Nat} {y : Str} {py spos : Pos} {H : Hp} (hc : X.calm = true) (hN : X.N.Nodup) (hy : X.N[i]? = some y) (hyl : X.env.scope.names.lookup y = some .local)
    (hsw : swapsWith (.ListComp elt [⟨tg, iter, ifs, 0⟩] scope pos) (some (.Name y py)) spos.line X.env = pure true) (ok : BlkOk X.N X.env.scope scope own) (hi : EI X σ S tg iter (Ds X.K ds)) (hz : ds.length ≤ sizeLine)
    (hel : ∀ d ∈ ds, ∀ v S', Same S S' → Dt X.K d v S' → ∃ τ, wipe τ (own.map (·.2)) = wipe σ (own.map (·.2)) ∧ ∀ (s : Shared) (H0 : Hp) (C : Addr) (cl : List (Str × Addr)) (fp : List Addr),
      EG (X.blk s H0 scope (compEnvC scope cl C X.env) fp) S' tg v (wipe σ (own.map (·.2))) τ ∧ ETs (X.blk s H0 scope (compEnvC scope cl C X.env) fp) τ S' ifs (p d) ∧ (p d = true → EE (X.blk s H0 scope (compEnvC scope cl C X.env) fp) τ S' elt (Ex X.K (G d)))) (s : Same S H)
    (q : ∀ v S' H', Gr S H S' H' → (∃ rs, Paired G (ds.filter p) rs ∧ NewL X.K S rs v S') → HS X D rest (σ.set i (some v)) H')
    (hs : ∀ x, foldedSetIterable iter X.env x = pure x := by intro _; rfl) : HS X D (.Assign [.Name y py] (.ListComp elt [⟨tg, iter, ifs, 0⟩] scope pos) spos :: rest) σ H :=
  hs_of (pss_cons (ps_setLc (i := i) (own := own) (wi := bI X tg iter) (g := gBlk X scope tg) (tt := tBlk X scope ifs) (te := eBlk X scope elt) hc hN hy hyl hsw pib ok
    (fun s H0 C cl fp => ⟨fun pins sh σ' H' v u Q' I r h => h s H0 C cl fp pins sh u I r⟩) (fun s H0 C cl fp => ⟨fun pins sh σ' H' Q' I h => h s H0 C cl fp pins sh I⟩) (fun s H0 C cl fp => ⟨fun pins sh σ' H' Q' I h => h s H0 C cl fp pins sh I⟩) hs) psb) (lc_readNw hi hz hel s _ q)
end
section
variable {X : Cx} {σ : L2.St} {S H : Hp} {elt iter : Expr} {scope : Scope} {pos px py tp py0 spos : Pos} {ds : List PyData} {ps : List (PyData × PyData)} {i j kk m : Nat} {x y z : Str} {D : Ends} {rest : List Stmt}
theorem hs_setLc2N {f : PyData × PyData → PyData} (hc : X.calm = true) (hN : X.N.Nodup) (s : Same S H) (ok : BlkOk X.N X.env.scope scope [(x, i), (y, j)]) (hi : EI X σ S (.Tuple [.Name x px, .Name y py] kk tp) iter (Ds X.K (ps.map tupP))) (hz : ps.length ≤ sizeLine)
    (hel : ∀ q ∈ ps, ∀ v w S', Same S S' → Dt X.K q.1 v S' → Dt X.K q.2 w S' → ∀ (s : Shared) (H0 : Hp) (C : Addr) (cl : List (Str × Addr)) (fp : List Addr), EE (X.blk s H0 scope (compEnvC scope cl C X.env) fp) (((wipe σ [i, j]).set i (some v)).set j (some w)) S' elt (Dt X.K (f q)))
    (q : ∀ v S' H', Gr S H S' H' → NewL X.K S (ps.map f) v S' → HS X D rest (σ.set m (some v)) H')
    (hij : i ≠ j := by decide) (hix : X.N[i]? = some x := by rfl) (hjy : X.N[j]? = some y := by rfl) (hx : ∀ (s : Shared) (H0 : Hp) (C : Addr) (cl : List (Str × Addr)) (fp : List Addr), (Loc (X.blk s H0 scope (compEnvC scope cl C X.env) fp).env.scope x ∧ ((X.blk s H0 scope (compEnvC scope cl C X.env) fp).fn x = true ∨ (X.blk s H0 scope (compEnvC scope cl C X.env) fp).env.scope.names.lookup x = some .local)) ∧
      (Loc (X.blk s H0 scope (compEnvC scope cl C X.env) fp).env.scope y ∧ ((X.blk s H0 scope (compEnvC scope cl C X.env) fp).fn y = true ∨ (X.blk s H0 scope (compEnvC scope cl C X.env) fp).env.scope.names.lookup y = some .local)) := by
      intros; exact ⟨⟨by first | exact Or.inl rfl | exact Or.inr rfl, by first | exact .inl rfl | exact .inr rfl⟩, ⟨by first | exact Or.inl rfl | exact Or.inr rfl, by first | exact .inl rfl | exact .inr rfl⟩⟩)
    (ha : ∀ (s : Shared) (H0 : Hp) (C : Addr) (cl : List (Str × Addr)) (fp : List Addr), (assignEach [.Name x px, .Name y py] (X.blk s H0 scope (compEnvC scope cl C X.env) fp).env).length = 2 ∧ (assignEach [.Name x px, .Name y py] (X.blk s H0 scope (compEnvC scope cl C X.env) fp).env).findIdx? (·.1) = none ∧
      (assignEach [.Name x px, .Name y py] (X.blk s H0 scope (compEnvC scope cl C X.env) fp).env).map (·.2) = assign (.Name x px) (X.blk s H0 scope (compEnvC scope cl C X.env) fp).env :: (assignEach [.Name y py] (X.blk s H0 scope (compEnvC scope cl C X.env) fp).env).map (·.2) ∧ (assignEach [.Name y py] (X.blk s H0 scope (compEnvC scope cl C X.env) fp).env).map (·.2) = assign (.Name y py) (X.blk s H0 scope (compEnvC scope cl C X.env) fp).env :: (assignEach [] (X.blk s H0 scope (compEnvC scope cl C X.env) fp).env).map (·.2) := by intros; exact ⟨rfl, rfl, rfl, rfl⟩)
    (hs : ∀ x, foldedSetIterable iter X.env x = pure x := by intro _; rfl)
    (hy : X.N[m]? = some z := by rfl) (hyl : X.env.scope.names.lookup z = some .local := by rfl)
    (hsw : swapsWith (.ListComp elt [⟨.Tuple [.Name x px, .Name y py] kk tp, iter, [], 0⟩] scope pos) (some (.Name z py0)) spos.line X.env = pure true := by rfl) :
    HS X D (.Assign [.Name z py0] (.ListComp elt [⟨.Tuple [.Name x px, .Name y py] kk tp, iter, [], 0⟩] scope pos) spos :: rest) σ H := by
  refine hs_setLcGN (i := m) (own := [(x, i), (y, j)]) (p := fun _ => true) (G := fun d r => r = f (unT d)) hc hN hy hyl hsw ok hi (by rw [List.length_map]; exact hz) (fun d hd v S' s hv => ?_) s (fun v S' H' g ⟨rs, h1, h2⟩ => q v S' H' g ?_) hs
  · obtain ⟨q, hq, rfl⟩ := List.mem_map.mp hd
    obtain ⟨l, xs, rfl, hl, hx', _⟩ := Dt.tup_inv (ds := [q.1, q.2]) hv
    obtain ⟨v1, e1, p1⟩ := hx'.get (i := 0) (d := q.1) rfl
    obtain ⟨v2, e2, p2⟩ := hx'.get (i := 1) (d := q.2) rfl
    have hxs : xs = [v1, v2] := by
      have hl2 := hx'.1
      match xs, hl2 with
      | [u, w], _ => simp at e1 e2; rw [e1, e2]
    subst hxs
    refine ⟨((wipe σ [i, j]).set i (some v1)).set j (some v2), wipe2 hij, fun sh H0 C cl fp => ?_⟩
    have h2 := hel q hq v1 v2 S' s p1 p2 sh H0 C cl fp
    obtain ⟨⟨k1, k2⟩, ⟨k3, k4⟩⟩ := hx sh H0 C cl fp
    obtain ⟨a1, a2, a3, a4⟩ := ha sh H0 C cl fp
    refine ⟨fun H s2 Q qq => ?_, ets_nil, fun hp => h2.imp fun w S2 hw => ⟨_, rfl, hw⟩⟩
    exact hg_of (pg_tup hc (pgs_cons (pg_name hN hix k1 k2) (pgs_cons (pg_name hN hjy k3 k4) pgs_nil a4) a3) a1 a2) ⟨l, _, rfl, sqt_up s2 hl, rfl, _, _, rfl, _, _, rfl, rfl, qq⟩
  · rw [filter_true] at h1
    rw [paired_map h1, List.map_map] at h2
    exact h2
end
end Y
namespace PySem.W
open PySem PySem.Spec PySem.Calls PyProof.Rows
/-- unpacking a list with a starred target: the iterator is walked, the list is made -/
theorem unp_star {prog : Program} {w : World} {A : Around} {E : Value → Shared → Prop} {s : Shared} {l : Addr} {items : Array Value} {n i : Nat} {Q : List Value → Shared → Prop} (hl : s.heap.IsList l items) (hh : A.handled = none) (hi : i < n) (hn : n ≤ items.size + 1) (hz : items.size ≤ sizeLine)
    (h : ∀ h' tk, (∀ b o, s.heap.get? b = some o → h'.get? b = some o) → wpAny (model prog w) A (newList ((items.toList.drop i).take (items.size + 1 - n))) (fun d s' => Q (items.toList.take i ++ [d] ++ (items.toList.drop i).drop (items.size + 1 - n)) s') E { s with heap := h', toks := tk }) : wpAny (model prog w) A (unpackItems (.ref l) n (some i)) Q E s := by
  have hlt : l ≠ s.heap.objs.size := by obtain ⟨o, ho, _⟩ := hl; exact Nat.ne_of_lt (Heap.lt_size ho)
  have hll : l < s.heap.objs.size := by obtain ⟨o, ho, _⟩ := hl; exact Heap.lt_size ho
  unfold unpackItems
  refine wpAny_bind ?_
  unfold notIterableAtAll
  refine wpAny_bind (wpAny_specialOf hl.typeIs slot_list_iter.lookup ?_)
  refine wpAny_pure ?_
  simp only [Bool.false_eq_true, if_false]
  refine wpAny_bind (wpAny_holding (wpAny_pyIter_list hl ?_))
  refine wpAny_bind (wpAny_holding (kun_draw hlt i 0 _ _ ⟨_, Heap.get?_push_size _ rfl, rfl, rfl⟩ (hl.push _) (by omega) fun h₁ hit₁ hs₁ => ?_))
  have hl₁ : h₁.IsList l items := (hl.push _).extBut hs₁.extBut hlt
  rw [Nat.zero_add] at hit₁
  have hit₁' := hit₁
  obtain ⟨oi, hoi, _⟩ := hit₁'
  have hl₁' := hl₁
  obtain ⟨ol, hol, _⟩ := hl₁'
  rw [List.drop_zero]
  have hfl : (items.toList.take i).length = i := by rw [List.length_take, Array.length_toList]; omega
  rw [if_neg (show ¬ ((items.toList.take i).length < i) by rw [hfl]; omega)]
  refine wpAny_bind (wpAny_holding (kun_collect (s := { s with heap := h₁ }) (T := "list_iterator") (.inr (.inr (.inl rfl))) (Walks.list (A := A.in1) hh s.heap.objs.size l hlt items) (fun j u st => st.1.typeIs) (k := i) (by omega) ⟨hit₁, hl₁⟩ (Heap.lt_size hoi) (Heap.lt_size hol) (fun h₂ tk hk => ?_) hz))
  have hrl : (items.toList.drop i).length = items.size - i := by rw [List.length_drop, Array.length_toList]
  have hmid : (items.toList.drop i).length - (n - 1 - i) = items.size + 1 - n := by rw [hrl]; omega
  show wpAny _ _ (if (items.toList.drop i).length < n - 1 - i then _ else _) _ _ _
  rw [if_neg (by rw [hrl]; omega)]
  show wpAny _ _ (newList ((items.toList.drop i).take ((items.toList.drop i).length - (n - 1 - i))) >>= fun d => pure (items.toList.take i ++ [d] ++ (items.toList.drop i).drop ((items.toList.drop i).length - (n - 1 - i)))) _ _ _
  rw [hmid]
  refine wpAny_bind (wpAny_mono (h h₂ tk fun b o e => hk b o (Nat.ne_of_lt (Heap.lt_size e)) (hs₁.extBut b o (Nat.ne_of_lt (Heap.lt_size e)) (Heap.get?_push_of_some _ e))) (fun d s' hq => wpAny_pure hq) fun _ _ z => z)
end PySem.W
namespace Y
open PySem PySem.Spec PyProof.Rows L2 Z
section
variable {X : Cx} {σ : L2.St} {S H : Hp} {e : Expr} {D : Ends} {rest : List Stmt} {pos px py pq pt : Pos} {x y : Str} {i j kt : Nat} {d : PyData} {ds : List PyData}
/-- (x, *y) = a list: its first item, and a new list of the others -/
def gStar1 (K : PySem.W.Frag) (i j : Nat) : TG := fun v σ H Q => ∃ a x xs, v = .ref a ∧ SqL K H a (x :: xs) ∧ ∀ l, H l = none → Q ((σ.set i (some x)).set j (some (.ref l))) (upd H l (.lst xs))
theorem pg_star1 (hc : X.calm = true) (hN : X.N.Nodup) (hi : X.N[i]? = some x) (hj : X.N[j]? = some y) (hx : Loc X.env.scope x) (hy : Loc X.env.scope y) (hfx : X.fn x = true ∨ X.env.scope.names.lookup x = some .local) (hfy : X.fn y = true ∨ X.env.scope.names.lookup y = some .local)
    (hn : (assignEach [.Name x px, .Starred (.Name y py) pq] X.env).length = 2 := by rfl) (hst : (assignEach [.Name x px, .Starred (.Name y py) pq] X.env).findIdx? (·.1) = some 1 := by rfl)
    (h1 : (assignEach [.Name x px, .Starred (.Name y py) pq] X.env).map (·.2) = [assign (.Name x px) X.env, assign (.Name y py) X.env] := by rfl) : PG X (.Tuple [.Name x px, .Starred (.Name y py) pq] kt pos) (gStar1 X.K i j) := by
  refine ⟨fun pins s σ H v u Q I r hw => ?_⟩
  obtain ⟨a, v0, xs, e1, hq, hw⟩ := hw
  subst e1
  cases r
  obtain ⟨its, rv, pl, hz⟩ := I.list hq
  have hl' : s.heap.IsList a its.toArray := by
    obtain ⟨o, m, e, c, d, q⟩ := pl
    exact ⟨o, e, c, m, q⟩
  obtain ⟨u0, us, rfl, r0, rs⟩ : ∃ u0 us, its = u0 :: us ∧ RelV v0 u0 ∧ Vals xs us := by
    cases rv with
    | cons a b => exact ⟨_, _, rfl, a, b⟩
  have hsz : (u0 :: us).toArray.size ≤ sizeLine := by rw [List.size_toArray, ← rv.length]; exact hz
  rw [PyProof.Rows.assign_Tuple]
  refine wpAny_bind (wpAny_standAt ?_)
  unfold unpack
  rw [hn, hst]
  refine wpAny_bind (wpAny_holding (PySem.W.unp_star hl' (I.ok.hd hc) (by decide) (by simp) hsz fun h' tk k => ?_))
  have I1 : Inv X pins σ H { s with heap := h', toks := tk } := I.kept k
  have e2 : ((u0 :: us).toArray.toList.drop 1).take ((u0 :: us).toArray.size + 1 - 2) = us := by simp
  have e3 : ((u0 :: us).toArray.toList.drop 1).drop ((u0 :: us).toArray.size + 1 - 2) = [] := by simp
  have e4 : (u0 :: us).toArray.toList.take 1 = [u0] := by simp
  rw [e2, e3, e4]
  have hus : us.length ≤ sizeLine := by have := hsz; simp at this; omega
  have hxs : xs.length ≤ sizeLine := by rw [rs.length]; exact hus
  refine wpAny_newList ?_ hus
  rw [h1]
  have I2 : Inv X pins σ (upd H h'.objs.size (.lst xs)) { s with heap := h'.push { cls := .type "list", data := .seq us.toArray }, toks := tk } :=
    I1.laid (t' := tk) (fun b o e => Heap.get?_push_of_some _ e) (Nat.le_refl _) (show ObjOk X.prog X.w _ _ _ (.lst xs) from ⟨hxs, us, 0, rs, Heap.get?_push_size _ rfl⟩)
  refine assignInOrder_cons (wpAny_assign_Name (store_ok I2 hN hi hx r0 (fun s3 I3 => ?_) hfx))
  refine assignInOrder_cons (wpAny_assign_Name (store_ok I3 hN hj hy (show RelV (.ref h'.objs.size) (.ref h'.objs.size) from rfl) (fun s4 I4 => ?_) hfy))
  exact assignInOrder_nil ⟨_, _, I4, hw _ (I1.hok.fresh (Nat.le_refl _))⟩
/-- x, *y = e -/
theorem hs_star1 (hc : X.calm = true) (hN : X.N.Nodup) (he : EE X σ S e (Dt X.K (.list (d :: ds)))) (s : Same S H) (q : ∀ v S' H', Gr S H S' H' → Dt X.K d v S' → ∀ w, NewL X.K S ds w S' → HS X D rest ((σ.set i (some v)).set j (some w)) H')
    (hi : X.N[i]? = some x := by rfl) (hj : X.N[j]? = some y := by rfl) (hx : Loc X.env.scope x := by first | exact Or.inl rfl | exact Or.inr rfl) (hy : Loc X.env.scope y := by first | exact Or.inl rfl | exact Or.inr rfl)
    (hfx : X.fn x = true ∨ X.env.scope.names.lookup x = some .local := by first | exact .inl rfl | exact .inr rfl) (hfy : X.fn y = true ∨ X.env.scope.names.lookup y = some .local := by first | exact .inl rfl | exact .inr rfl)
    (hn : (assignEach [.Name x px, .Starred (.Name y py) pq] X.env).length = 2 := by rfl) (hst : (assignEach [.Name x px, .Starred (.Name y py) pq] X.env).findIdx? (·.1) = some 1 := by rfl)
    (h1 : (assignEach [.Name x px, .Starred (.Name y py) pq] X.env).map (·.2) = [assign (.Name x px) X.env, assign (.Name y py) X.env] := by rfl)
    (hss : swapsWithSole [.Tuple [.Name x px, .Starred (.Name y py) pq] kt pt] e pos.line X.env = pure false := by rfl) (hw : swappedStores [.Tuple [.Name x px, .Starred (.Name y py) pq] kt pt] e X.env = pure none := by rfl)
    (h3 : (assignEach [.Tuple [.Name x px, .Starred (.Name y py) pq] kt pt] X.env).map (·.2) = [assign (.Tuple [.Name x px, .Starred (.Name y py) pq] kt pt) X.env] := by rfl) : HS X D (.Assign [.Tuple [.Name x px, .Starred (.Name y py) pq] kt pt] e pos :: rest) σ H := by
  refine hs_cons (ps_asg peb (pg_star1 hc hN hi hj hx hy hfx hfy hn hst h1) hss hw h3) (he H s _ fun v S1 H1 g1 pv => ?_)
  obtain ⟨l, xs, rfl, hl, hx', hz⟩ := pv.lst_inv
  match xs, hl, hx', hz with
  | [], _, hx', _ => exact absurd hx'.1 (by simp)
  | v0 :: xs, hl, hx', hz =>
    refine ⟨l, v0, xs, rfl, sql_of (g1.sub _ _ hl), fun l2 h2 => ?_⟩
    have g := g1.trans (Gr.new (o := .lst xs) g1.sub h2)
    refine q v0 _ _ g ((hx'.2 0 v0 d rfl rfl).up (Same.new (g1.sub.free h2))) _ ⟨l2, xs, rfl, g1.st.free (g1.sub.free h2), upd_same, ?_, by have : xs.length + 1 ≤ sizeLine := hz; omega⟩
    refine Dts.up (Same.new (g1.sub.free h2)) ⟨by have := hx'.1; simpa using this, fun i x d hi hd => hx'.2 (i + 1) x d (by simpa using hi) (by simpa using hd)⟩
end
end Y
namespace Y
open PySem PySem.Spec PyProof.Rows L2 Z
section
variable {X : Cx} {σ : L2.St} {S H : Hp} {e a b : Expr} {es : List Expr} {Ps : List (V → Hp → Prop)} {pos p : Pos} {k : Nat} {x : Str} {sp : Sp} {C f : Addr} {fd : FuncData} {ps : List Str} {d : PyData} {ds : List PyData}
/-- [a, *b] -/
theorem ee_lstS1 {p2 : Pos} {d2 : PyData} (h2 : d2 = .list ds ∨ d2 = .tuple ds) (hz : ds.length + 1 ≤ sizeLine) (ha : EE X σ S a (Dt X.K d)) (hb : EE X σ S b (Dt X.K d2)) (hs1 : starEach [a, .Starred b p2] X.env = (false, eval a X.env) :: starEach [.Starred b p2] X.env := by rfl) (hs2 : starEach [.Starred b p2] X.env = (true, eval b X.env) :: starEach [] X.env := by rfl) :
    EE X σ S (.List [a, .Starred b p2] pos) (Dt X.K (.list (d :: ds))) := by
  refine ee_lstA (vsP := fun vs S' => Dts X.K (d :: ds) vs S') (fun H s Q q => ?_) (fun vs S' h => by rw [h.1]; exact hz) (fun vs S' p st hp h => Dt.lst_mk upd_same (h.up (Same.new hp)) (by rw [h.1]; exact hz))
  refine ha_of (pa_cons (te := bE X a) (t := StX.tStar X.K (bE X b) tNil) peb (StX.pa_star peb pa_nil hs2) hs1) (ha H s _ fun v S1 H1 g1 pv => (hb.up g1.st) H1 g1.sub _ fun w S2 H2 g2 pw => ?_)
  have key : ∃ p xs, w = .ref p ∧ (SqT X.K H2 p xs ∨ SqL X.K H2 p xs) ∧ Dts X.K ds xs S2 := by
    rcases h2 with rfl | rfl
    · obtain ⟨l, xs, rfl, hl, hx, _⟩ := pw.lst_inv
      exact ⟨l, xs, rfl, .inr (sql_of (g2.sub _ _ hl)), hx⟩
    · obtain ⟨l, xs, rfl, hl, hx, _⟩ := pw.tup_inv
      exact ⟨l, xs, rfl, .inl (sqt_up g2.sub hl), hx⟩
  obtain ⟨l, xs, rfl, hl, hx⟩ := key
  exact ⟨l, xs, rfl, hl, by
    show Q (v :: (xs ++ [])) H2
    rw [List.append_nil]
    exact q _ S2 H2 (g1.trans g2) (Dts.cons (pv.up g2.st) hx)⟩
/-- C(e, ..), the promise of __init__ read over the whole heap -/
theorem he_makeH {Q : VK} (M : Mk X.K C f) (G : FnOk X.prog X.w X.K X.mg X.base CX0 k f fd ps sp) (hr : Room (k + 1) X.A) (hm : X.mg x = some (.ref C)) (hb : Binds X.K fd ps []) (ha : EA X σ H (e :: es) Ps)
    (q : ∀ vs S' H' a dx, Gr H H S' H' → Al Ps vs S' → H' a = none → H' dx = none → dx ≠ a → sp (.ref a :: vs) (upd (upd H' dx (.own a)) a (.ins C dx [])) (fun v H2 => v = .non ∧ Q (.ref a) H2) E0)
    (hg : Gl X x := by rfl) (hdb : (x == ("__debug__" : Str)) = false := by decide) (he : starEach (e :: es) X.env = (false, eval e X.env) :: starEach es X.env := by rfl) (hpl : (backTo pos (starEach es X.env)).any (·.1) = false := by rfl) : HE X (.Call (.Name x p) (e :: es) [] pos) σ H Q :=
  he_of (pe_make M G hr hg hm hb .nil pass0 pab hdb he hpl) (ha.2 H (Same.refl H) _ fun vs S1 H1 g1 al a dx h1 h2 h3 => by
    rw [List.append_nil]
    exact q vs S1 H1 a dx g1 al h1 h2 h3)
end
end Y
namespace Y
open PySem PySem.Spec PyProof.Rows L2 Z
/-- a, b = e, the pair told over the whole heap, the names plain ones -/
theorem hs_unpH {X : Cx} {σ : L2.St} {H : Hp} {e : Expr} {D : Ends} {rest : List Stmt} {pos px py pt : Pos} {kt i j : Nat} {x y : Str} (hc : X.calm = true) (hN : X.N.Nodup)
    (he : HE X e σ H fun v H1 => ∃ l v1 v2, v = .ref l ∧ SqT X.K H1 l [v1, v2] ∧ HS X D rest ((σ.set i (some v1)).set j (some v2)) H1)
    (hi : X.N[i]? = some x := by rfl) (hj : X.N[j]? = some y := by rfl) (hx : Loc X.env.scope x := by first | exact Or.inl rfl | exact Or.inr rfl) (hy : Loc X.env.scope y := by first | exact Or.inl rfl | exact Or.inr rfl)
    (hfx : X.fn x = true ∨ X.env.scope.names.lookup x = some .local := by first | exact .inl rfl | exact .inr rfl) (hfy : X.fn y = true ∨ X.env.scope.names.lookup y = some .local := by first | exact .inl rfl | exact .inr rfl)
    (hn : (assignEach [.Name x px, .Name y py] X.env).length = 2 := by rfl) (hst : (assignEach [.Name x px, .Name y py] X.env).findIdx? (·.1) = none := by rfl)
    (h1 : (assignEach [.Name x px, .Name y py] X.env).map (·.2) = assign (.Name x px) X.env :: (assignEach [.Name y py] X.env).map (·.2) := by rfl) (h2 : (assignEach [.Name y py] X.env).map (·.2) = assign (.Name y py) X.env :: (assignEach [] X.env).map (·.2) := by rfl)
    (hss : swapsWithSole [.Tuple [.Name x px, .Name y py] kt pt] e pos.line X.env = pure false := by rfl) (hw : swappedStores [.Tuple [.Name x px, .Name y py] kt pt] e X.env = pure none := by rfl)
    (h3 : (assignEach [.Tuple [.Name x px, .Name y py] kt pt] X.env).map (·.2) = [assign (.Tuple [.Name x px, .Name y py] kt pt) X.env] := by rfl) : HS X D (.Assign [.Tuple [.Name x px, .Name y py] kt pt] e pos :: rest) σ H :=
  hs_cons (ps_asg peb (pg_tup hc (pgs_cons (pg_name hN hi hx hfx) (pgs_cons (pg_name hN hj hy hfy) pgs_nil h2) h1) hn hst) hss hw h3) (he_mono he fun v H1 ⟨l, v1, v2, e, hl, h⟩ => by
    subst e
    exact ⟨l, _, rfl, hl, rfl, _, _, rfl, _, _, rfl, rfl, h⟩)
end Y
namespace Y
open PySem PySem.Spec PyProof.Rows L2 Z
section
end
end Y
namespace Y
open PySem PySem.Spec PyProof.Rows L2 Z LamX NdefX
section
variable {X : Cx} {σ : L2.St} {S S' H : Hp} {e a b c o : Expr} {pos : Pos}
/-- o.f, f a property -/
theorem ee_prp {o : Expr} {P0 R : V → Hp → Prop} {C p g : Addr} {f : Str} {fd : FuncData} {ps : List Str} {sp : Sp} {k : Nat} [Mn P0] (c : Cls X.K C) (hp : PropOf X.K C f p g) (F : FnOk X.prog X.w X.K X.mg X.base CX0 k g fd ps sp) (hr : Room (k + 1) X.A) (hb : L2.Binds X.K fd ps []) (ho : EE X σ S o P0) (hP : ∀ w S1, P0 w S1 → ∃ a dx fs, w = .ref a ∧ S1 a = some (.ins C dx fs)) (hsp : SpE sp S [P0] R) (hab : attributeBase o f X.env (eval o X.env) = eval o X.env := by rfl) : EE X σ S (.Attribute o f pos) R := fun H s Q q =>
  he_of (pe_prop (E := E0) peb c hp F hr hb .nil pass0 hab) (ho H s _ fun w S1 H1 g1 pw => by
    obtain ⟨a, dx, fs, rfl, h⟩ := hP w S1 pw
    exact ⟨a, dx, fs, rfl, g1.sub _ _ h, hsp _ S1 H1 g1.st g1.sub (.cons pw .nil) Q fun v S3 H3 g3 rv => q v S3 H3 (g1.trans g3) rv⟩)
end
end Y
namespace Y
open PySem PySem.Spec PyProof.Rows L2 L2H Z
section
end
end Y
namespace Y
open PySem PySem.Spec PyProof.Rows L2 Z
section
end
end Y
namespace Y
open PySem PySem.Spec PyProof.Rows L2 Z
/-! ## f(k1=, k2=, k3=), the parameters in the order k2, k3, k1 -/
section
end
end Y
namespace Y
open PySem PySem.Spec PyProof.Rows L2 Z
section
end
end Y
namespace Y
open PySem PySem.Spec PyProof.Rows L2 Z
/-! ## dict(a list of pairs) whose keys are tuples of ints, whose values are ints -/
/-- v is a dict that holds m -/
def DctP (m : MapI) (v : V) (S : Hp) : Prop := ∃ b, v = .ref b ∧ S b = some (.dT (kvM m))
instance {m : MapI} : Mn (DctP m) := ⟨fun s ⟨b, e, h⟩ => ⟨b, e, s _ _ h⟩⟩
section
end
section
end
/-! ## a not in b as a value -/
section
end
/-! ## any(a tuple of ints) -/
section
end
end Y
namespace Y
open PySem PySem.Spec PyProof.Rows L2 Z
/-! ## C(e1, e2, e3, ..) whose third part raises -/
section
end
/-! ## tests and calls over the whole heap -/
section
end
end Y
namespace Y
open PySem PySem.Spec PyProof.Rows L2 Z
/-! ## enumerate over zip of two tuples: the zip's own tuple is never let go, so its marks are any -/
section
open Sem (wp)
end
end Y
namespace Y
open PySem PySem.Spec PyProof.Rows L2 Z
section
end
end Y
namespace Y
open PySem PySem.Spec PyProof.Rows L2 Z
/-! ## if o: .., o an own thing with __bool__ -/
section
end
end Y
namespace Y
open PySem PySem.Spec PyProof.Rows L2 Z
/-! ## o.m(k1=a, k2=b) -/
section
end
end Y
namespace Y
open PySem PySem.Spec PyProof.Rows L2 Z
/-! ## zip of three tuples -/
section
end
end Y
namespace Y
open PySem PySem.Spec PyProof.Rows L2 Z
/-! ## zip of a list and a tuple -/
section
end
end Y
namespace Y
open PySem PySem.Spec PyProof.Rows L2 Z
/-! ## enumerate over a tuple of things of any kind -/
theorem tupP_mn {Ps : List (V → Hp → Prop)} (h : ∀ P ∈ Ps, Mn P) : Mn (TupP Ps) := ⟨fun s ⟨l, xs, a, b, c⟩ => ⟨l, xs, a, s _ _ b, al_mn h s c⟩⟩
instance tupP2_mn {A B : V → Hp → Prop} [ma : Mn A] [mb : Mn B] : Mn (TupP [A, B]) := tupP_mn fun P hP => by
  simp only [List.mem_cons, List.not_mem_nil, or_false] at hP
  rcases hP with rfl | rfl
  · exact ma
  · exact mb
section
end
/-! ## f(k1 = e1, k2 = e2), the values in the def's order or the other way round -/
section
end
end Y
namespace Y
open PySem PySem.Spec PyProof.Rows L2 Z
section
variable {X : Cx} {σ : L2.St} {S : Hp} {a b elt iter : Expr} {pos p px py tp : Pos} {ds1 : List PyData} {scope : Scope} {i j kk : Nat} {x y : Str} {d : PyData}
/-- x is None, x data -/
def isNn (d : PyData) : Bool := match d with
  | .none => true
  | _ => false
theorem dt_non {K : PySem.W.Frag} {v : V} {S : Hp} (h : Dt K d v S) : decide (v = .non) = isNn d := by
  cases h <;> simp [isNn]
end
end Y
namespace K04
open PySem PySem.Spec PyProof.Rows L2
/-! ## the head's facts: K with the statics, without the empty tables; getters of properties -/
/-- what an object names, as far as the facts want it (not behind a code object) -/
def refsS (o : Obj) : List Addr := match o.data with
  | .seq its _ => its.toList.flatMap He.refV
  | .dict es _ => es.toList.flatMap fun e => He.refV e.val
  | .func fd => He.refV fd.code ++ (He.refV fd.defaults ++ (He.refV fd.kwdefaults ++ fd.closure.map (·.2)))
  | .cls cd => cd.ns :: cd.mro.flatMap He.refV
  | .fields vs => (match Nat.ble vs.size 8 with
    | true => vs.toList.flatMap He.refV
    | false => [])
  | _ => []
/-- what the module's names reach in n steps, each once (m: those met, as bits), and the statics -/
def addN : List Addr → Nat → List Addr → List Addr × Nat
  | [], m, acc => (acc, m)
  | r :: rs, m, acc => match Nat.beq (Nat.mod (Nat.shiftRight m r) 2) 1 with
    | true => addN rs m acc
    | false => HandSHeadRun.frNat (Nat.lor m (Nat.shiftLeft 1 r)) fun m2 => addN rs m2 (r :: acc)
def growN (g : Addr → Option Obj) : List Addr → Nat → List Addr → List Addr × Nat
  | [], m, acc => (acc, m)
  | a :: fr, m, acc => match addN (match g a with
      | some o => refsS o
      | none => []) m acc with
    | (acc2, m2) => growN g fr m2 acc2
def asN (g : Addr → Option Obj) : Nat → List Addr → Nat → List Addr
  | 0, fr, _ => fr
  | n + 1, fr, m => match growN g fr m [] with
    | (new, m2) => fr ++ asN g n new m2
def asE (g : Addr → Option Obj) (n : Nat) : List Addr := asN g n [mainGlobals] (Nat.shiftLeft 1 mainGlobals) ++ [cStatics]
def gtA (K : PySem.W.Frag) (p : He.Defn) : Addr := match PySem.W.recIn K (He.fAd K p) "property" with
  | some (.ref g :: _) => g
  | _ => 0
def gtW (K : PySem.W.Frag) (p : He.Defn) : He.FnW := match K.lookup (gtA K p) with
  | some ⟨_, _, .func fd, _⟩ => some (fd.name, fd.qualname, fd.params, fd.body, fd.scope, fd.globals, fd.closure, fd.builtins)
  | _ => none
def gtB (K : PySem.W.Frag) (d : He.DefD) : Bool :=
  (He.eqO (PySem.W.findIn K (.ref (He.ga K d.at_.1)) d.name) (some (some (.ref (He.fAd K d.at_)))) && (He.eqO (PySem.W.specialIn K (.ref (He.fAd K d.at_)) "__get__") (some (some (.builtin "property.__get__"))) && (decide (PySem.W.takesIn K (.ref (He.fAd K d.at_)) = some true) && (match PySem.W.recIn K (He.fAd K d.at_) "property" with
  | some (.ref _ :: _) => true
  | _ => false)))) && (PySem.W.keepIn K (.ref (gtA K d.at_)) && match K.lookup (gtA K d.at_) with
  | some ⟨_, _, .func fd, _⟩ => PySem.W.codeIn K fd.code d.qual && (He.dflB K fd.defaults [] && He.kwdB K fd.kwdefaults [])
  | _ => false)
/-- a staticmethod's def -/
def stA (K : PySem.W.Frag) (p : He.Defn) : Addr := match PySem.W.recIn K (He.fAd K p) "staticmethod" with
  | some (.ref g :: _) => g
  | _ => 0
def stW (K : PySem.W.Frag) (p : He.Defn) : He.FnW := match K.lookup (stA K p) with
  | some ⟨_, _, .func fd, _⟩ => some (fd.name, fd.qualname, fd.params, fd.body, fd.scope, fd.globals, fd.closure, fd.builtins)
  | _ => none
def stB (K : PySem.W.Frag) (d : He.DefD) : Bool :=
  ((match PySem.W.findCls K (.ref (He.ga K d.at_.1)) (.type "type") d.name with
    | some (.get (.builtin g) (.ref p) .none (.ref D)) => decide (g = "staticmethod.__get__") && (decide (p = He.fAd K d.at_) && decide (D = He.ga K d.at_.1))
    | _ => false) && (match PySem.W.recIn K (He.fAd K d.at_) "staticmethod" with
    | some (.ref _ :: _) => true
    | _ => false)) && (PySem.W.keepIn K (.ref (stA K d.at_)) && match K.lookup (stA K d.at_) with
  | some ⟨_, _, .func fd, _⟩ => PySem.W.codeIn K fd.code d.qual && (He.dflB K fd.defaults (d.dvs K) && He.kwdB K fd.kwdefaults (d.kws K))
  | _ => false)
/-- a def with super(): its cell __class__ holds its class, its code stands in the main file -/
def suW (K : PySem.W.Frag) (p : He.Defn) : He.FnW := match K.lookup (He.fAd K p) with
  | some ⟨_, _, .func fd, _⟩ => some (fd.name, fd.qualname, fd.params, fd.body, fd.scope, fd.globals, [], fd.builtins)
  | _ => none
def suB (mf : Str) (K : PySem.W.Frag) (d : He.DefD) : Bool := PySem.W.keepIn K (.ref (He.fAd K d.at_)) && (PySem.W.isClsIn K (He.ga K d.at_.1) && match K.lookup (He.fAd K d.at_) with
  | some ⟨_, _, .func fd, _⟩ => (match fd.defaults with
    | .none => true
    | _ => false) && (PySem.W.codeIn K fd.code d.qual && ((match fd.code with
    | .ref c => (match K.lookup c with
      | some ⟨_, _, .fields vs, _⟩ => (match (vs[2]? : Option Value) with
        | some (.str file _) => mf == file
        | _ => false)
      | _ => false)
    | _ => false) && (match fd.closure with
    | [(n, cc)] => decide (n = "__class__") && (match K.lookup cc with
      | some ⟨_, _, .cell (some (.ref D)), _⟩ => decide (D = He.ga K d.at_.1)
      | _ => false)
    | _ => false)))
  | _ => false)
abbrev AlP := (((He.AlD × Bool) × List He.FnW) × List He.FnW) × List He.FnW
structure SaysG (mf : Str) (fa : List He.Fa) (fn pn sn un : List He.DefD) (tf : List He.Defn) (ex : PySem.W.Frag → Bool) (h : Heap) (K : PySem.W.Frag) : Prop where
  d : He.SaysD fa fn K
  more : ex K = true
  tab : ∀ p ∈ tf, PySem.W.codeHdIn K (He.cT K p).1 (He.cT K p).2 = true ∧ K.lookup (He.cT K p).2 = none ∧ h.get? (He.cT K p).2 = some { cls := .none, data := .fields #[] }
  gets : ∀ d ∈ pn, gtB K d = true ∧ gtW K d.at_ = He.DefD.val d
  stats : ∀ d ∈ sn, stB K d = true ∧ stW K d.at_ = He.DefD.val d
  sups : ∀ d ∈ un, suB mf K d = true ∧ suW K d.at_ = He.DefD.val d
def obsG (mf : Str) (n : Nat) (fa : List He.Fa) (fn pn sn un : List He.DefD) (tf : List He.Defn) (ex : PySem.W.Frag → Bool) (g : Addr → Option Obj) : AlP :=
  ((((He.obsD fa fn (He.frT g (asE g n)), (((ex (He.frT g (asE g n)) && pn.all fun d => gtB (He.frT g (asE g n)) d) && sn.all fun d => stB (He.frT g (asE g n)) d) && un.all fun d => suB mf (He.frT g (asE g n)) d) && He.tabsB g tf (He.frT g (asE g n))), pn.map fun d => gtW (He.frT g (asE g n)) d.at_), sn.map fun d => stW (He.frT g (asE g n)) d.at_), un.map fun d => suW (He.frT g (asE g n)) d.at_)
theorem saysG_of {mf : Str} {n : Nat} {fa : List He.Fa} {fn pn sn un : List He.DefD} {tf : List He.Defn} {ex : PySem.W.Frag → Bool} {h : Heap} (e : obsG mf n fa fn pn sn un tf ex h.get? = ((((He.valD fn, true), pn.map He.DefD.val), sn.map He.DefD.val), un.map He.DefD.val)) : SaysG mf fa fn pn sn un tf ex h (He.frT h.get? (asE h.get? n)) := by
  have e2 : ((((ex (He.frT h.get? (asE h.get? n)) && pn.all fun d => gtB (He.frT h.get? (asE h.get? n)) d) && sn.all fun d => stB (He.frT h.get? (asE h.get? n)) d) && un.all fun d => suB mf (He.frT h.get? (asE h.get? n)) d) && He.tabsB h.get? tf (He.frT h.get? (asE h.get? n))) = true := congrArg (fun z : AlP => z.1.1.1.2) e
  have e4 : pn.map (fun d => gtW (He.frT h.get? (asE h.get? n)) d.at_) = pn.map He.DefD.val := congrArg (fun z : AlP => z.1.1.2) e
  have e5 : sn.map (fun d => stW (He.frT h.get? (asE h.get? n)) d.at_) = sn.map He.DefD.val := congrArg (fun z : AlP => z.1.2) e
  have e6 : un.map (fun d => suW (He.frT h.get? (asE h.get? n)) d.at_) = un.map He.DefD.val := congrArg (fun z : AlP => z.2) e
  rw [Bool.and_eq_true, Bool.and_eq_true, Bool.and_eq_true, Bool.and_eq_true] at e2
  refine ⟨congrArg (fun z : AlP => z.1.1.1.1) e, e2.1.1.1.1, fun p hp => ?_, fun d hd => ⟨List.all_eq_true.mp e2.1.1.1.2 d hd, List.map_inj_left.mp e4 d hd⟩, fun d hd => ⟨List.all_eq_true.mp e2.1.1.2 d hd, List.map_inj_left.mp e5 d hd⟩, fun d hd => ⟨List.all_eq_true.mp e2.1.2 d hd, List.map_inj_left.mp e6 d hd⟩⟩
  have e3 := List.all_eq_true.mp e2.2 p hp
  rw [Bool.and_eq_true] at e3
  cases q : h.get? (He.cT (He.frT h.get? (asE h.get? n)) p).2 with
  | none => rw [q] at e3; exact absurd e3.2 Bool.false_ne_true
  | some o =>
    rw [q] at e3
    exact ⟨e3.1, He.frT_none q e3.2, by rw [He.emptyTab_eq e3.2]⟩
def hookG (mf : Str) (n : Nat) (fa : List He.Fa) (fn pn sn un : List He.DefD) (tf : List He.Defn) (ex : PySem.W.Frag → Bool) : PySem.W.Hook where
  α := AlP
  obs := fun s => obsG mf n fa fn pn sn un tf ex s.heap.get?
  val := fun _ => ((((He.valD fn, true), pn.map He.DefD.val), sn.map He.DefD.val), un.map He.DefD.val)
  says := fun _ h => ∃ K : PySem.W.Frag, K.In h ∧ SaysG mf fa fn pn sn un tf ex h K
  of := fun _ _ e => ⟨_, He.frT_in, saysG_of e⟩
  keeps := fun _ _ _ ⟨K, hK, c⟩ k => ⟨K, PySem.W.Frag.In.keeps hK k, ⟨c.d, c.more, fun p hp => ⟨(c.tab p hp).1, (c.tab p hp).2.1, k _ _ (c.tab p hp).2.2⟩, c.gets, c.stats, c.sups⟩⟩
theorem obsG_eq {mf : Str} {n : Nat} {fa : List He.Fa} {fn pn sn un : List He.DefD} {tf : List He.Defn} {ex : PySem.W.Frag → Bool} {g : Addr → Option Obj} {s : Shared} (h : ∀ a, g a = s.heap.get? a) : obsG mf n fa fn pn sn un tf ex g = (hookG mf n fa fn pn sn un tf ex).obs s := by
  have e : g = s.heap.get? := funext h
  rw [e] <;> rfl
/-- a def with super(), as fn_super wants it -/
theorem super_ {P : Program} {mf : Str} {fa : List He.Fa} {fn pn sn un : List He.DefD} {tf : List He.Defn} {ex : PySem.W.Frag → Bool} {h : Heap} {K : PySem.W.Frag} (c : SaysG mf fa fn pn sn un tf ex h K) (hm : P.main.file = mf) (i : Nat) {d : He.DefD} (hi : un[i]? = some d := by rfl) :
    ∃ fd, Y.FunS P K d.name d.qual d.params d.body d.scope (He.ga K d.at_.1) (He.fAd K d.at_) fd := by
  obtain ⟨h1, h2⟩ := c.sups d (List.mem_of_getElem? hi)
  unfold suB at h1
  rw [Bool.and_eq_true, Bool.and_eq_true] at h1
  obtain ⟨a1, a2, a3⟩ := h1
  unfold suW He.DefD.val at h2
  split at h2
  · rename_i oc od fd osl heq
    rw [heq] at a3
    simp only [Bool.and_eq_true] at a3
    obtain ⟨b0, b1, b2, b3⟩ := a3
    obtain ⟨cd, hcd⟩ := Option.isSome_iff_exists.mp (show (PySem.W.clsIn K (He.ga K d.at_.1)).isSome = true from a2)
    cases fd with
    | mk fname fqual fparams fbody fscope fglobals fclosure fdefaults fkw fdoc fmod fann fcode fct fblt =>
      simp only [Option.some.injEq, Prod.mk.injEq] at h2
      obtain ⟨rfl, rfl, rfl, rfl, rfl, rfl, _, rfl⟩ := h2
      have hdv : fdefaults = .none := by
        split at b0
        · rename_i e0; exact e0
        · cases b0
      subst hdv
      split at b2
      · rename_i cc0 hc0
        have hc0 : fcode = .ref cc0 := hc0
        subst hc0
        split at b2
        · rename_i ccl cdd vs ccs hc
          split at b2
          · rename_i file tf2 hv
            split at b3
            · rename_i n cc e1
              have e1 : fclosure = [(n, cc)] := e1
              subst e1
              simp only [Bool.and_eq_true, decide_eq_true_eq] at b3
              obtain ⟨b4, b5⟩ := b3
              subst b4
              split at b5
              · rename_i k1 k2 D k3 hk
                have := of_decide_eq_true b5
                subst this
                exact ⟨_, ⟨⟨oc, od, .none, fkw, fdoc, fmod, fann, cc0, cc, fct, osl, rfl, heq, b1, ⟨k1, k2, k3, hk⟩, ⟨cd, hcd⟩, ccl, cdd, vs, ccs, file, tf2, hc, hv, by rw [hm]; exact b2⟩, a1, rfl⟩⟩
              · cases b5
            · cases b3
          · cases b2
        · cases b2
      · cases b2
  · cases h2
/-- a getter, and what is told of its property -/
theorem getter {mf : Str} {fa : List He.Fa} {fn pn sn un : List He.DefD} {tf : List He.Defn} {ex : PySem.W.Frag → Bool} {h : Heap} {K : PySem.W.Frag} (c : SaysG mf fa fn pn sn un tf ex h K) (i : Nat) {d : He.DefD} (hi : pn[i]? = some d := by rfl) : (∃ fd, FunD K d.name d.qual d.params d.body d.scope [] [] (gtA K d.at_) fd) ∧ PropOf K (He.ga K d.at_.1) d.name (He.fAd K d.at_) (gtA K d.at_) := by
  obtain ⟨h1, h2⟩ := c.gets d (List.mem_of_getElem? hi)
  unfold gtB at h1
  rw [Bool.and_eq_true, Bool.and_eq_true, Bool.and_eq_true, Bool.and_eq_true, Bool.and_eq_true] at h1
  obtain ⟨⟨a1, a2, a3, a4⟩, b1, b2⟩ := h1
  refine ⟨?_, ⟨He.eqO_ok a1, He.eqO_ok a2, of_decide_eq_true a3, ?_⟩⟩
  · unfold gtW He.DefD.val at h2
    split at h2
    · rename_i oc od fd osl heq
      rw [heq] at b2
      simp only [Bool.and_eq_true] at b2
      obtain ⟨c1, c2, c3⟩ := b2
      cases fd
      simp only [Option.some.injEq, Prod.mk.injEq] at h2
      obtain ⟨rfl, rfl, rfl, rfl, rfl, rfl, rfl, rfl⟩ := h2
      exact ⟨_, ⟨⟨_, _, _, _, _, _, _, _, _, _, rfl, heq, c1, He.dflB_ok c2, He.kwdB_ok c3⟩, b1⟩⟩
    · cases h2
  · unfold gtA
    split at a4
    · rename_i g rest heq
      rw [heq]
      exact ⟨rest, rfl⟩
    · cases a4
def top (i : Nat) : Stmt := PySem.Challenge.pw_dealtpowers_k04_papers_of_systems_judged.main.body.getD i (.Pass ⟨0, 0, 0, 0⟩)
abbrev sis_number : Stmt := top 4
def dis_number : He.DefD := ⟨("is_number", none), "is_number", "is_number", defArgs sis_number, defBody sis_number, defScope sis_number, [], []⟩
abbrev slowest : Stmt := top 5
def dlowest : He.DefD := ⟨("lowest", none), "lowest", "lowest", defArgs slowest, defBody slowest, defScope slowest, [], []⟩
abbrev scopied : Stmt := top 6
def dcopied : He.DefD := ⟨("copied", none), "copied", "copied", defArgs scopied, defBody scopied, defScope scopied, [], []⟩
abbrev sOutcome____init__ : Stmt := inClass (top 8) 0
def dOutcome____init__ : He.DefD := ⟨("Outcome", some "__init__"), "__init__", "Outcome.__init__", defArgs sOutcome____init__, defBody sOutcome____init__, defScope sOutcome____init__, [], []⟩
abbrev sOutcome__rows : Stmt := inClass (top 8) 1
def dOutcome__rows : He.DefD := ⟨("Outcome", some "rows"), "rows", "Outcome.rows", defArgs sOutcome__rows, defBody sOutcome__rows, defScope sOutcome__rows, [], []⟩
abbrev sOutcome__bounds : Stmt := inClass (top 8) 2
def dOutcome__bounds : He.DefD := ⟨("Outcome", some "bounds"), "bounds", "Outcome.bounds", defArgs sOutcome__bounds, defBody sOutcome__bounds, defScope sOutcome__bounds, [], []⟩
abbrev sOutcome__holds : Stmt := inClass (top 8) 3
def dOutcome__holds : He.DefD := ⟨("Outcome", some "holds"), "holds", "Outcome.holds", defArgs sOutcome__holds, defBody sOutcome__holds, defScope sOutcome__holds, [], []⟩
abbrev sOutcome__told : Stmt := inClass (top 8) 4
def dOutcome__told : He.DefD := ⟨("Outcome", some "told"), "told", "Outcome.told", defArgs sOutcome__told, defBody sOutcome__told, defScope sOutcome__told, [], []⟩
abbrev sOutcome____bool__ : Stmt := inClass (top 8) 5
def dOutcome____bool__ : He.DefD := ⟨("Outcome", some "__bool__"), "__bool__", "Outcome.__bool__", defArgs sOutcome____bool__, defBody sOutcome____bool__, defScope sOutcome____bool__, [], []⟩
abbrev sOutcome____repr__ : Stmt := inClass (top 8) 6
def dOutcome____repr__ : He.DefD := ⟨("Outcome", some "__repr__"), "__repr__", "Outcome.__repr__", defArgs sOutcome____repr__, defBody sOutcome____repr__, defScope sOutcome____repr__, [], []⟩
abbrev sSolution____init__ : Stmt := inClass (top 9) 0
def dSolution____init__ : He.DefD := ⟨("Solution", some "__init__"), "__init__", "Solution.__init__", defArgs sSolution____init__, defBody sSolution____init__, defScope sSolution____init__, [], []⟩
abbrev sSolution__numbers : Stmt := inClass (top 9) 2
def dSolution__numbers : He.DefD := ⟨("Solution", some "numbers"), "numbers", "Solution.numbers", defArgs sSolution__numbers, defBody sSolution__numbers, defScope sSolution__numbers, [], []⟩
abbrev sSolution__told : Stmt := inClass (top 9) 3
def dSolution__told : He.DefD := ⟨("Solution", some "told"), "told", "Solution.told", defArgs sSolution__told, defBody sSolution__told, defScope sSolution__told, [], []⟩
abbrev sSolution__holds : Stmt := inClass (top 9) 4
def dSolution__holds : He.DefD := ⟨("Solution", some "holds"), "holds", "Solution.holds", defArgs sSolution__holds, defBody sSolution__holds, defScope sSolution__holds, [], []⟩
abbrev sSolution____bool__ : Stmt := inClass (top 9) 5
def dSolution____bool__ : He.DefD := ⟨("Solution", some "__bool__"), "__bool__", "Solution.__bool__", defArgs sSolution____bool__, defBody sSolution____bool__, defScope sSolution____bool__, [], []⟩
abbrev sMirror____init__ : Stmt := inClass (top 10) 0
def dMirror____init__ : He.DefD := ⟨("Mirror", some "__init__"), "__init__", "Mirror.__init__", defArgs sMirror____init__, defBody sMirror____init__, defScope sMirror____init__, [], []⟩
abbrev sMirror__numbers : Stmt := inClass (top 10) 1
def dMirror__numbers : He.DefD := ⟨("Mirror", some "numbers"), "numbers", "Mirror.numbers", defArgs sMirror__numbers, defBody sMirror__numbers, defScope sMirror__numbers, [], []⟩
abbrev sMirror__told : Stmt := inClass (top 10) 2
def dMirror__told : He.DefD := ⟨("Mirror", some "told"), "told", "Mirror.told", defArgs sMirror__told, defBody sMirror__told, defScope sMirror__told, [], []⟩
abbrev sMirror__holds : Stmt := inClass (top 10) 3
def dMirror__holds : He.DefD := ⟨("Mirror", some "holds"), "holds", "Mirror.holds", defArgs sMirror__holds, defBody sMirror__holds, defScope sMirror__holds, [], []⟩
abbrev sare_numbers : Stmt := top 11
def dare_numbers : He.DefD := ⟨("are_numbers", none), "are_numbers", "are_numbers", defArgs sare_numbers, defBody sare_numbers, defScope sare_numbers, [], []⟩
abbrev sis_whole : Stmt := top 12
def dis_whole : He.DefD := ⟨("is_whole", none), "is_whole", "is_whole", defArgs sis_whole, defBody sis_whole, defScope sis_whole, [], []⟩
abbrev scheck_system : Stmt := top 13
def dcheck_system : He.DefD := ⟨("check_system", none), "check_system", "check_system", defArgs scheck_system, defBody scheck_system, defScope scheck_system, [], []⟩
abbrev sTableau____init__ : Stmt := inClass (top 14) 0
def dTableau____init__ : He.DefD := ⟨("Tableau", some "__init__"), "__init__", "Tableau.__init__", defArgs sTableau____init__, defBody sTableau____init__, defScope sTableau____init__, [], []⟩
abbrev sTableau__leaving : Stmt := inClass (top 14) 1
def dTableau__leaving : He.DefD := ⟨("Tableau", some "leaving"), "leaving", "Tableau.leaving", defArgs sTableau__leaving, defBody sTableau__leaving, defScope sTableau__leaving, [], []⟩
abbrev sTableau__entering : Stmt := inClass (top 14) 2
def dTableau__entering : He.DefD := ⟨("Tableau", some "entering"), "entering", "Tableau.entering", defArgs sTableau__entering, defBody sTableau__entering, defScope sTableau__entering, [], []⟩
abbrev sTableau__pivot : Stmt := inClass (top 14) 3
def dTableau__pivot : He.DefD := ⟨("Tableau", some "pivot"), "pivot", "Tableau.pivot", defArgs sTableau__pivot, defBody sTableau__pivot, defScope sTableau__pivot, [], []⟩
abbrev sTableau__run : Stmt := inClass (top 14) 4
def dTableau__run : He.DefD := ⟨("Tableau", some "run"), "run", "Tableau.run", defArgs sTableau__run, defBody sTableau__run, defScope sTableau__run, [], []⟩
abbrev smixed : Stmt := top 15
def dmixed : He.DefD := ⟨("mixed", none), "mixed", "mixed", defArgs smixed, defBody smixed, defScope smixed, [], []⟩
abbrev spoint_of : Stmt := top 16
def dpoint_of : He.DefD := ⟨("point_of", none), "point_of", "point_of", defArgs spoint_of, defBody spoint_of, defScope spoint_of, [], []⟩
abbrev smirror_of : Stmt := top 17
def dmirror_of : He.DefD := ⟨("mirror_of", none), "mirror_of", "mirror_of", defArgs smirror_of, defBody smirror_of, defScope smirror_of, [], []⟩
abbrev ssolve : Stmt := top 18
def dsolve : He.DefD := ⟨("solve", none), "solve", "solve", defArgs ssolve, defBody ssolve, defScope ssolve, [], []⟩
abbrev sL_open : Stmt := top 20
def dL_open : He.DefD := ⟨("_law_open", none), "_law_open", "_law_open", defArgs sL_open, defBody sL_open, defScope sL_open, [], []⟩
abbrev sL_take : Stmt := top 21
def dL_take : He.DefD := ⟨("_law_take", none), "_law_take", "_law_take", defArgs sL_take, defBody sL_take, defScope sL_take, [], []⟩
abbrev sL_one : Stmt := top 22
def dL_one : He.DefD := ⟨("_law_one", none), "_law_one", "_law_one", defArgs sL_one, defBody sL_one, defScope sL_one, [], []⟩
abbrev sL_kind : Stmt := top 23
def dL_kind : He.DefD := ⟨("_law_kind", none), "_law_kind", "_law_kind", defArgs sL_kind, defBody sL_kind, defScope sL_kind, [], []⟩
abbrev sL_same : Stmt := top 24
def dL_same : He.DefD := ⟨("_law_same", none), "_law_same", "_law_same", defArgs sL_same, defBody sL_same, defScope sL_same, [], []⟩
abbrev sL_point_fits : Stmt := top 25
def dL_point_fits : He.DefD := ⟨("_law_point_fits", none), "_law_point_fits", "_law_point_fits", defArgs sL_point_fits, defBody sL_point_fits, defScope sL_point_fits, [], []⟩
abbrev sL_mirror_fits : Stmt := top 26
def dL_mirror_fits : He.DefD := ⟨("_law_mirror_fits", none), "_law_mirror_fits", "_law_mirror_fits", defArgs sL_mirror_fits, defBody sL_mirror_fits, defScope sL_mirror_fits, [], []⟩
abbrev sL_some_rows : Stmt := top 27
def dL_some_rows : He.DefD := ⟨("_law_some_rows", none), "_law_some_rows", "_law_some_rows", defArgs sL_some_rows, defBody sL_some_rows, defScope sL_some_rows, [], []⟩
abbrev sL_numbers_from : Stmt := top 28
def dL_numbers_from : He.DefD := ⟨("_law_numbers_from", none), "_law_numbers_from", "_law_numbers_from", defArgs sL_numbers_from, defBody sL_numbers_from, defScope sL_numbers_from, [], []⟩
abbrev sL_outcomes_so : Stmt := top 29
def dL_outcomes_so : He.DefD := ⟨("_law_outcomes_so", none), "_law_outcomes_so", "_law_outcomes_so", defArgs sL_outcomes_so, defBody sL_outcomes_so, defScope sL_outcomes_so, [], []⟩
abbrev slaw : Stmt := top 30
def dlaw : He.DefD := ⟨("law", none), "law", "law", defArgs slaw, defBody slaw, defScope slaw, [], []⟩
def fn : List He.DefD := [dis_number, dlowest, dcopied, dOutcome____init__, dOutcome__rows, dOutcome__bounds, dOutcome__holds, dOutcome__told, dOutcome____bool__, dOutcome____repr__, dSolution__numbers, dSolution__told, dSolution__holds, dSolution____bool__, dMirror__numbers, dMirror__told, dMirror__holds, dare_numbers, dis_whole, dcheck_system, dTableau____init__, dTableau__leaving, dTableau__entering, dTableau__pivot, dTableau__run, dmixed, dpoint_of, dmirror_of, dsolve, dL_open, dL_take, dL_one, dL_kind, dL_same, dL_point_fits, dL_mirror_fits, dL_some_rows, dL_numbers_from, dL_outcomes_so, dlaw]
abbrev sSolution__scale : Stmt := inClass (top 9) 1
def dSolution__scale : He.DefD := ⟨("Solution", some "scale"), "scale", "Solution.scale", defArgs sSolution__scale, defBody sSolution__scale, defScope sSolution__scale, [], []⟩
def pn : List He.DefD := [dSolution__scale]
def sn : List He.DefD := []
def un : List He.DefD := [dSolution____init__, dMirror____init__]
def mf : Str := PySem.Challenge.pw_dealtpowers_k04_papers_of_systems_judged.main.file
def fa : List He.Fa := [.glo "is_number", .glo "lowest", .glo "copied", .glo "are_numbers", .glo "is_whole", .glo "check_system", .glo "mixed", .glo "point_of", .glo "mirror_of", .glo "solve", .glo "Outcome", .glo "Solution", .glo "Mirror", .glo "Tableau", .glo "_law_open", .glo "_law_take", .glo "_law_one", .glo "_law_kind", .glo "_law_same", .glo "_law_point_fits", .glo "_law_mirror_fits", .glo "_law_some_rows", .glo "_law_numbers_from", .glo "_law_outcomes_so", .glo "law", .free "isinstance", .free "bool", .free "int", .free "list", .free "tuple", .free "len", .free "all", .free "any", .free "sum", .free "zip", .free "range", .free "enumerate", .free "abs", .free "max", .free "super", .free "str", .free "repr", .cls "Outcome", .mkr "Outcome", .noat "Outcome" "_rows", .noat "Outcome" "_bounds", .meth "Outcome" "rows", .meth "Outcome" "bounds", .meth "Outcome" "holds", .meth "Outcome" "told", .meth "Outcome" "__bool__", .meth "Outcome" "__repr__", .meth "Outcome" "__init__", .cls "Solution", .mkr "Solution", .noat "Solution" "_rows", .noat "Solution" "_bounds", .noat "Solution" "_scale", .noat "Solution" "_numbers", .meth "Solution" "rows", .meth "Solution" "bounds", .meth "Solution" "holds", .meth "Solution" "numbers", .meth "Solution" "told", .meth "Solution" "__bool__", .meth "Solution" "__repr__", .cls "Mirror", .mkr "Mirror", .noat "Mirror" "_rows", .noat "Mirror" "_bounds", .noat "Mirror" "_numbers", .meth "Mirror" "rows", .meth "Mirror" "bounds", .meth "Mirror" "holds", .meth "Mirror" "numbers", .meth "Mirror" "told", .meth "Mirror" "__bool__", .meth "Mirror" "__repr__", .cls "Tableau", .mkr "Tableau", .noat "Tableau" "free", .noat "Tableau" "basic", .noat "Tableau" "parts", .noat "Tableau" "starts", .noat "Tableau" "costs", .noat "Tableau" "total", .noat "Tableau" "whole", .meth "Tableau" "leaving", .meth "Tableau" "entering", .meth "Tableau" "pivot", .meth "Tableau" "run"]
def nm0 : List PySem.Str := ["__name__", "DealError", "InvalidSystem", "is_number", "lowest", "copied", "Outcome", "Solution", "Mirror", "are_numbers", "is_whole", "check_system", "Tableau", "mixed", "point_of", "mirror_of", "solve", "_law_open", "_law_take", "_law_one", "_law_kind", "_law_same", "_law_point_fits", "_law_mirror_fits", "_law_some_rows", "_law_numbers_from", "_law_outcomes_so"]
def nms : List PySem.Str := nm0
def ex : PySem.W.Frag → Bool := fun K => decide (PySem.W.mroIn K (He.ga K "Outcome") (.type "object") = some true) && (He.eqO (PySem.W.findIn K (.ref (He.ga K "Outcome")) "__class__") (some (some (.builtin "object.__class__"))) && (decide (PySem.W.kitOne K (.type "str") (.ref (He.ga K "Outcome")) = some false) && (He.eqO (PySem.W.specialIn K (.builtin "object.__class__") "__get__") (some (some (.builtin "getset_descriptor.__get__"))) && (decide (PySem.W.takesIn K (.builtin "object.__class__") = some true) && (decide (PySem.W.mroIn K (He.ga K "Solution") (.type "object") = some true) && (He.eqO (PySem.W.findIn K (.ref (He.ga K "Solution")) "__class__") (some (some (.builtin "object.__class__"))) && (decide (PySem.W.kitOne K (.type "str") (.ref (He.ga K "Solution")) = some false) && (He.eqO (PySem.W.specialIn K (.builtin "object.__class__") "__get__") (some (some (.builtin "getset_descriptor.__get__"))) && (decide (PySem.W.takesIn K (.builtin "object.__class__") = some true) && (decide (PySem.W.mroIn K (He.ga K "Mirror") (.type "object") = some true) && (He.eqO (PySem.W.findIn K (.ref (He.ga K "Mirror")) "__class__") (some (some (.builtin "object.__class__"))) && (decide (PySem.W.kitOne K (.type "str") (.ref (He.ga K "Mirror")) = some false) && (He.eqO (PySem.W.specialIn K (.builtin "object.__class__") "__get__") (some (some (.builtin "getset_descriptor.__get__"))) && (decide (PySem.W.takesIn K (.builtin "object.__class__") = some true) && (He.eqO (PySem.W.ks_superIn K (He.ga K "Solution") (He.ga K "Solution") "__init__") (some (some (.ref (He.ma K (He.ga K "Outcome") "__init__")))) && (decide (PySem.W.mroIn K (He.ga K "Solution") (.ref (He.ga K "Solution")) = some true) && (decide (He.ma K (He.ga K "Solution") "rows" = He.ma K (He.ga K "Outcome") "rows") && (decide (He.ma K (He.ga K "Solution") "bounds" = He.ma K (He.ga K "Outcome") "bounds") && (decide (He.ma K (He.ga K "Solution") "__repr__" = He.ma K (He.ga K "Outcome") "__repr__") && (He.eqO (PySem.W.ks_superIn K (He.ga K "Mirror") (He.ga K "Mirror") "__init__") (some (some (.ref (He.ma K (He.ga K "Outcome") "__init__")))) && (decide (PySem.W.mroIn K (He.ga K "Mirror") (.ref (He.ga K "Mirror")) = some true) && (decide (He.ma K (He.ga K "Mirror") "rows" = He.ma K (He.ga K "Outcome") "rows") && (decide (He.ma K (He.ga K "Mirror") "bounds" = He.ma K (He.ga K "Outcome") "bounds") && (decide (He.ma K (He.ga K "Mirror") "__repr__" = He.ma K (He.ga K "Outcome") "__repr__") && (decide (He.ma K (He.ga K "Mirror") "__bool__" = He.ma K (He.ga K "Outcome") "__bool__") && (decide (PySem.W.kitOne K (.ref (He.ga K "Solution")) (.ref (He.ga K "Outcome")) = some true) && (decide (PySem.W.kitOne K (.ref (He.ga K "Mirror")) (.ref (He.ga K "Outcome")) = some true) && (He.eqO (PySem.W.nsIn K cStatics "thirdparty.any") (some none) && (PySem.W.fnIn K (He.ma K (He.ga K "Outcome") "__init__") && (decide (PySem.W.typeIn K (.ref (He.ma K (He.ga K "Outcome") "__init__")) = some (.type "function"))))))))))))))))))))))))))))))))
abbrev R : PySem.W.OpenRow := PySem.W.OpenLaw.row PySem.Challenge.rw_dealtpowers_k04_papers_of_systems_judged
def tf : List He.Defn := []
abbrev hk : PySem.W.Hook := hookG mf 5 fa fn pn sn un tf ex
def ob (s : PySem.W.SharedT) : AlP := obsG mf 5 fa fn pn sn un tf ex (HandSHeadRun.getT s)
theorem ob_eq (s : PySem.W.SharedT) : ob s = hk.obs s.abs := obsG_eq (HandSHeadRun.getT_eq s)
theorem run (w : World) : HandSHeadRun.RunEq R (PySem.W.view R.prog [30]) hk ob 20000 nms w := by
  intro os
  kernel_rfl
end K04
/-! # Whole-valued determinants, plainly -/
namespace Sv
/-- a sum over the numbers below n -/
def sm (n : Nat) (f : Nat → Int) : Int := match n with
  | 0 => 0
  | n + 1 => sm n f + f n
theorem sm_congr {n : Nat} {f g : Nat → Int} (h : ∀ i, i < n → f i = g i) : sm n f = sm n g := by
  induction n with
  | zero => rfl
  | succ n ih => show sm n f + f n = sm n g + g n; rw [ih fun i hi => h i (by omega), h n (by omega)]
theorem sm_zero {n : Nat} {f : Nat → Int} (h : ∀ i, i < n → f i = 0) : sm n f = 0 := by
  induction n with
  | zero => rfl
  | succ n ih => show sm n f + f n = 0; rw [ih fun i hi => h i (by omega), h n (by omega)]; rfl
theorem sm_add (n : Nat) (f g : Nat → Int) : sm n (fun i => f i + g i) = sm n f + sm n g := by
  induction n with
  | zero => rfl
  | succ n ih => show sm n (fun i => f i + g i) + (f n + g n) = sm n f + f n + (sm n g + g n); rw [ih]; omega
theorem sm_mul (n : Nat) (c : Int) (f : Nat → Int) : sm n (fun i => c * f i) = c * sm n f := by
  induction n with
  | zero => exact (Int.mul_zero c).symm
  | succ n ih => show sm n (fun i => c * f i) + c * f n = c * (sm n f + f n); rw [ih, Int.mul_add]
theorem sm_neg (n : Nat) (f : Nat → Int) : sm n (fun i => -f i) = -sm n f := by
  induction n with
  | zero => rfl
  | succ n ih => show sm n (fun i => -f i) + -f n = -(sm n f + f n); rw [ih]; omega
theorem sm_sub (n : Nat) (f g : Nat → Int) : sm n (fun i => f i - g i) = sm n f - sm n g := by
  induction n with
  | zero => rfl
  | succ n ih => show sm n (fun i => f i - g i) + (f n - g n) = sm n f + f n - (sm n g + g n); rw [ih]; omega
theorem sm_swap (m n : Nat) (f : Nat → Nat → Int) : sm m (fun i => sm n fun j => f i j) = sm n (fun j => sm m fun i => f i j) := by
  induction m with
  | zero => exact (sm_zero fun _ _ => rfl).symm
  | succ m ih => show sm m (fun i => sm n fun j => f i j) + sm n (fun j => f m j) = sm n (fun j => sm m (fun i => f i j) + f m j); rw [ih, sm_add]
theorem sm_one {n k : Nat} {f : Nat → Int} (hk : k < n) (h : ∀ i, i < n → i ≠ k → f i = 0) : sm n f = f k := by
  induction n with
  | zero => omega
  | succ n ih =>
    show sm n f + f n = f k
    by_cases e : k = n
    · subst e
      rw [sm_zero fun i hi => h i (by omega) (by omega)]; omega
    · rw [ih (by omega) fun i hi => h i (by omega), h n (by omega) (fun q => e q.symm)]; omega
theorem sm_two {n k l : Nat} {f : Nat → Int} (hk : k < n) (hl : l < n) (hkl : k ≠ l) (h : ∀ i, i < n → i ≠ k → i ≠ l → f i = 0) : sm n f = f k + f l := by
  have e : sm n f = sm n (fun i => (if i = k then f k else 0) + (if i = l then f l else 0)) := sm_congr fun i hi => by
    by_cases h1 : i = k
    · subst h1; rw [if_pos rfl, if_neg hkl]; omega
    · by_cases h2 : i = l
      · subst h2; rw [if_neg h1, if_pos rfl]; omega
      · rw [if_neg h1, if_neg h2, h i hi h1 h2]; rfl
  rw [e, sm_add, sm_one hk fun i _ hi => if_neg hi, sm_one hl fun i _ hi => if_neg hi, if_pos rfl, if_pos rfl]
/-- pairs that cancel -/
theorem sm_cancel (n : Nat) (F : Nat → Nat → Int) (h : ∀ k l, k ≤ l → l < n → F k l = -F (l + 1) k) : sm (n + 1) (fun k => sm n fun l => F k l) = 0 := by
  induction n with
  | zero => rfl
  | succ n ih =>
    have e1 : sm (n + 2) (fun k => sm (n + 1) fun l => F k l) = sm (n + 1) (fun k => sm (n + 1) fun l => F k l) + sm (n + 1) (fun l => F (n + 1) l) := rfl
    have e2 : sm (n + 1) (fun k => sm (n + 1) fun l => F k l) = sm (n + 1) (fun k => sm n fun l => F k l) + sm (n + 1) (fun k => F k n) := by
      rw [← sm_add]; exact sm_congr fun i _ => rfl
    rw [e1, e2, ih fun k l a b => h k l a (by omega)]
    have e3 : sm (n + 1) (fun k => F k n) + sm (n + 1) (fun l => F (n + 1) l) = sm (n + 1) (fun k => F k n + F (n + 1) k) := (sm_add _ _ _).symm
    have e4 : sm (n + 1) (fun k => F k n + F (n + 1) k) = 0 := sm_zero fun k hk => by rw [h k n (by omega) (by omega)]; omega
    omega
/-- a sign -/
def sg (k : Nat) : Int := if k % 2 = 0 then 1 else -1
theorem sg_succ (k : Nat) : sg (k + 1) = -sg k := by
  unfold sg
  by_cases h : k % 2 = 0
  · rw [if_neg (by omega), if_pos h]
  · rw [if_pos (by omega), if_neg h]; rfl
def skp (k j : Nat) : Nat := if j < k then j else j + 1
theorem skp_skp {k l : Nat} (h : k ≤ l) (j : Nat) : skp k (skp l j) = skp (l + 1) (skp k j) := by
  unfold skp
  repeat' split
  all_goals omega
abbrev Mat := Nat → Nat → Int
def mnr (M : Mat) (k : Nat) : Mat := fun i j => M (i + 1) (skp k j)
def det : Nat → Mat → Int
  | 0, _ => 1
  | m + 1, M => sm (m + 1) fun k => sg k * (M 0 k * det m (mnr M k))
theorem det_congr : ∀ {m : Nat} {M N : Mat}, (∀ i j, i < m → j < m → M i j = N i j) → det m M = det m N
  | 0, _, _, _ => rfl
  | m + 1, M, N, h => sm_congr fun k hk => by
    rw [h 0 k (by omega) hk, det_congr (M := mnr M k) (N := mnr N k) fun i j hi hj => h _ _ (by omega) (by unfold skp; split <;> omega)]
def setR (M : Mat) (r : Nat) (v : Nat → Int) : Mat := fun i => if i = r then v else M i
theorem setR_same (M : Mat) (r : Nat) (v : Nat → Int) : setR M r v r = v := by unfold setR; rw [if_pos rfl]
theorem setR_ne (M : Mat) {r i : Nat} (v : Nat → Int) (h : i ≠ r) : setR M r v i = M i := by unfold setR; rw [if_neg h]
theorem mnr_set0 (M : Mat) (v : Nat → Int) (k : Nat) : mnr (setR M 0 v) k = mnr M k := by
  funext i j
  unfold mnr
  rw [setR_ne M v (by omega)]
theorem mnr_setS (M : Mat) (r : Nat) (v : Nat → Int) (k : Nat) : mnr (setR M (r + 1) v) k = setR (mnr M k) r (fun j => v (skp k j)) := by
  funext i
  by_cases h : i = r
  · subst h; rw [setR_same]; funext j; unfold mnr; rw [setR_same]
  · rw [setR_ne _ _ h]; funext j; unfold mnr; rw [setR_ne M v (by omega)]
/-- linear in each place -/
theorem det_add : ∀ {m : Nat} (M : Mat) {r : Nat} (u v : Nat → Int), r < m → det m (setR M r fun j => u j + v j) = det m (setR M r u) + det m (setR M r v)
  | 0, _, r, _, _, h => by omega
  | m + 1, M, 0, u, v, _ => by
    show sm (m + 1) _ = sm (m + 1) _ + sm (m + 1) _
    rw [← sm_add]
    exact sm_congr fun k _ => by rw [setR_same, setR_same, setR_same, mnr_set0, mnr_set0, mnr_set0, Int.add_mul, Int.mul_add]
  | m + 1, M, r + 1, u, v, h => by
    show sm (m + 1) _ = sm (m + 1) _ + sm (m + 1) _
    rw [← sm_add]
    exact sm_congr fun k _ => by
      rw [setR_ne _ _ (by omega), setR_ne _ _ (by omega), setR_ne _ _ (by omega), mnr_setS, mnr_setS, mnr_setS, det_add (mnr M k) _ _ (by omega), Int.mul_add, Int.mul_add]
theorem det_mul : ∀ {m : Nat} (M : Mat) {r : Nat} (c : Int) (v : Nat → Int), r < m → det m (setR M r fun j => c * v j) = c * det m (setR M r v)
  | 0, _, r, _, _, h => by omega
  | m + 1, M, 0, c, v, _ => by
    show sm (m + 1) _ = c * sm (m + 1) _
    rw [← sm_mul]
    exact sm_congr fun k _ => by
      rw [setR_same, setR_same, mnr_set0, mnr_set0]
      simp only [Int.mul_assoc, Int.mul_left_comm]
  | m + 1, M, r + 1, c, v, h => by
    show sm (m + 1) _ = c * sm (m + 1) _
    rw [← sm_mul]
    exact sm_congr fun k _ => by
      rw [setR_ne _ _ (by omega), setR_ne _ _ (by omega), mnr_setS, mnr_setS, det_mul (mnr M k) _ _ (by omega)]
      simp only [Int.mul_assoc, Int.mul_left_comm]
theorem det_zero {m : Nat} (M : Mat) {r : Nat} (h : r < m) : det m (setR M r fun _ => 0) = 0 := by
  have e := det_mul M 0 (fun _ => 0) h
  simp only [Int.zero_mul] at e
  exact e
theorem det_sum {m : Nat} (M : Mat) {r : Nat} (h : r < m) : ∀ (n : Nat) (v : Nat → Nat → Int), det m (setR M r fun j => sm n fun k => v k j) = sm n fun k => det m (setR M r (v k))
  | 0, _ => det_zero M h
  | n + 1, v => by
    show det m (setR M r fun j => sm n (fun k => v k j) + v n j) = _
    rw [det_add M _ _ h, det_sum M h n v]; rfl
/-- two neighbours that are alike -/
theorem det_01 {m : Nat} {M : Mat} (h : M 0 = M 1) : det (m + 2) M = 0 := by
  have e : det (m + 2) M = sm (m + 2) fun k => sm (m + 1) fun l => (sg k * sg l) * ((M 0 k * M 0 (skp k l)) * det m (mnr (mnr M k) l)) := sm_congr fun k _ => by
    show sg k * (M 0 k * sm (m + 1) fun l => sg l * (mnr M k 0 l * det m (mnr (mnr M k) l))) = _
    rw [← sm_mul, ← sm_mul]
    exact sm_congr fun l _ => by
      have : mnr M k 0 l = M 0 (skp k l) := by show M 1 (skp k l) = _; rw [h]
      rw [this]
      simp only [Int.mul_assoc, Int.mul_left_comm]
  rw [e]
  refine sm_cancel (m + 1) _ fun k l hkl hl => ?_
  have s1 : skp k l = l + 1 := by unfold skp; rw [if_neg (by omega)]
  have s2 : skp (l + 1) k = k := by unfold skp; rw [if_pos (by omega)]
  have dd : mnr (mnr M k) l = mnr (mnr M (l + 1)) k := by
    funext i j
    show M (i + 1 + 1) (skp k (skp l j)) = M (i + 1 + 1) (skp (l + 1) (skp k j))
    rw [skp_skp hkl]
  rw [s1, s2, dd, sg_succ, Int.mul_comm (M 0 (l + 1)) (M 0 k), Int.neg_mul, Int.neg_mul, Int.neg_neg, Int.mul_comm (sg l) (sg k)]
theorem det_adj : ∀ {m r : Nat} {M : Mat}, r + 1 < m → M r = M (r + 1) → det m M = 0
  | 0, _, _, h, _ => by omega
  | 1, _, _, h, _ => by omega
  | m + 2, 0, M, _, e => det_01 e
  | m + 2, r + 1, M, h, e => sm_zero fun k _ => by
    rw [det_adj (m := m + 1) (r := r) (M := mnr M k) (by omega) (by funext j; show M (r + 1) _ = M (r + 1 + 1) _; rw [e])]
    simp
theorem setR_comm (M : Mat) {r s : Nat} (h : r ≠ s) (u v : Nat → Int) : setR (setR M r u) s v = setR (setR M s v) r u := by
  funext i
  by_cases h1 : i = r
  · subst h1; rw [setR_ne _ _ h, setR_same, setR_same]
  · by_cases h2 : i = s
    · subst h2; rw [setR_same, setR_ne _ _ h1, setR_same]
    · rw [setR_ne _ _ h2, setR_ne _ _ h1, setR_ne _ _ h1, setR_ne _ _ h2]
theorem setR_self (M : Mat) (r : Nat) : setR M r (M r) = M := by
  funext i
  by_cases h : i = r
  · subst h; rw [setR_same]
  · rw [setR_ne _ _ h]
/-- a form that is zero when two places are alike changes its sign when they are exchanged -/
theorem swap_of {m r s : Nat} (hr : r < m) (hs : s < m) (hrs : r ≠ s) (alt : ∀ N : Mat, N r = N s → det m N = 0) (M : Mat) (u v : Nat → Int) : det m (setR (setR M r u) s v) = -det m (setR (setR M r v) s u) := by
  have z : ∀ w : Nat → Int, det m (setR (setR M r w) s w) = 0 := fun w => alt _ (by rw [setR_ne _ _ hrs, setR_same, setR_same])
  have h := z fun j => u j + v j
  rw [det_add _ _ _ hs, setR_comm M hrs _ u, setR_comm M hrs _ v, det_add _ _ _ hr, det_add _ _ _ hr, ← setR_comm M hrs u u, ← setR_comm M hrs v u, ← setR_comm M hrs u v, ← setR_comm M hrs v v, z u, z v] at h
  omega
theorem det_alt : ∀ (d : Nat) {m r : Nat} {M : Mat}, r + d + 1 < m → M r = M (r + d + 1) → det m M = 0
  | 0, m, r, M, h, e => det_adj h e
  | d + 1, m, r, M, h, e => by
    -- exchange the places r + d + 1 and r + d + 2
    have a := swap_of (m := m) (r := r + d + 1) (s := r + d + 2) (by omega) (by omega) (by omega) (fun N hN => det_adj (by omega) hN) M (M (r + d + 1)) (M (r + d + 2))
    have i1 : setR (setR M (r + d + 1) (M (r + d + 1))) (r + d + 2) (M (r + d + 2)) = M := by rw [setR_self, setR_self]
    rw [i1] at a
    have z : det m (setR (setR M (r + d + 1) (M (r + d + 2))) (r + d + 2) (M (r + d + 1))) = 0 := det_alt d (r := r) (by omega) (by
      rw [setR_ne _ _ (by omega), setR_ne _ _ (by omega), setR_ne _ _ (by omega), setR_same]
      exact e)
    rw [a, z]; rfl
theorem det_same {m r s : Nat} {M : Mat} (hr : r < m) (hs : s < m) (hrs : r ≠ s) (e : M r = M s) : det m M = 0 := by
  rcases Nat.lt_or_ge r s with h | h
  · obtain ⟨d, rfl⟩ : ∃ d, s = r + d + 1 := ⟨s - r - 1, by omega⟩
    exact det_alt d hs e
  · obtain ⟨d, rfl⟩ : ∃ d, r = s + d + 1 := ⟨r - s - 1, by omega⟩
    exact det_alt d hr e.symm
theorem det_swap {m r s : Nat} (hr : r < m) (hs : s < m) (hrs : r ≠ s) (M : Mat) (u v : Nat → Int) : det m (setR (setR M r u) s v) = -det m (setR (setR M r v) s u) :=
  swap_of hr hs hrs (fun N hN => det_same hr hs hrs hN) M u v
/-- the unit vectors, negated or not -/
def unit (c : Int) : Mat := fun i j => if i = j then c else 0
theorem det_unit (c : Int) : ∀ m, det m (unit c) = c ^ m
  | 0 => (Int.pow_zero c).symm
  | m + 1 => by
    have e : det (m + 1) (unit c) = sg 0 * (unit c 0 0 * det m (mnr (unit c) 0)) := sm_one (by omega) fun k _ hk => by
      have : unit c 0 k = 0 := by unfold unit; rw [if_neg (fun h => hk h.symm)]
      rw [this]; simp
    have n : mnr (unit c) 0 = unit c := by
      funext i j
      show (if i + 1 = skp 0 j then c else 0) = if i = j then c else 0
      have sk : skp 0 j = j + 1 := by unfold skp; rw [if_neg (by omega)]
      rw [sk]
      by_cases h : i = j
      · rw [if_pos h, if_pos (by omega)]
      · rw [if_neg h, if_neg (by omega)]
    rw [e, n, det_unit c m]
    have u : unit c 0 0 = c := by unfold unit; rw [if_pos rfl]
    rw [u, Int.pow_succ, Int.mul_comm (c ^ m)]
    show 1 * (c * c ^ m) = _
    omega
/-- a crude bound -/
theorem det_bd {b : Nat} : ∀ {m : Nat} {M : Mat}, (∀ i j, i < m → j < m → (M i j).natAbs ≤ b) → (det m M).natAbs ≤ (m * b) ^ m
  | 0, _, _ => by show (1 : Int).natAbs ≤ _; exact Nat.le_refl 1
  | m + 1, M, h => by
    have key : ∀ n, n ≤ m + 1 → (sm n fun k => sg k * (M 0 k * det m (mnr M k))).natAbs ≤ n * (b * ((m + 1) * b) ^ m) := fun n => by
      induction n with
      | zero => intro _; exact Nat.zero_le _
      | succ n ih =>
        intro hn
        show ((sm n fun k => sg k * (M 0 k * det m (mnr M k))) + sg n * (M 0 n * det m (mnr M n))).natAbs ≤ _
        have a := ih (by omega)
        have d := det_bd (b := b) (m := m) (M := mnr M n) fun i j hi hj => h _ _ (by omega) (by unfold skp; split <;> omega)
        have e : (m * b) ^ m ≤ ((m + 1) * b) ^ m := Nat.pow_le_pow_left (Nat.mul_le_mul_right b (by omega)) m
        have s : (sg n).natAbs = 1 := by unfold sg; split <;> rfl
        have p : (sg n * (M 0 n * det m (mnr M n))).natAbs ≤ b * ((m + 1) * b) ^ m := by
          rw [Int.natAbs_mul, Int.natAbs_mul, s, Nat.one_mul]
          exact Nat.mul_le_mul (h 0 n (by omega) (by omega)) (Nat.le_trans d e)
        rw [Nat.succ_mul]
        have := Int.natAbs_add_le (sm n fun k => sg k * (M 0 k * det m (mnr M k))) (sg n * (M 0 n * det m (mnr M n)))
        omega
    have := key (m + 1) (Nat.le_refl _)
    show (sm (m + 1) fun k => sg k * (M 0 k * det m (mnr M k))).natAbs ≤ _
    rw [Nat.pow_succ, Nat.mul_comm _ ((m + 1) * b), Nat.mul_assoc]
    exact this
end Sv
/-! # Dictionaries in whole numbers over one denominator: pivots, exactness, bounds -/
namespace Sv
structure Dic where
  T : Nat → Nat → Int
  w : Int
  be : Nat → Nat
  fr : Nat → Nat
def Dic.piv (D : Dic) (r c : Nat) : Dic where
  T := fun i j => if i = r then (if j = c then D.w else -D.T r j) else if j = c then D.T i c else (D.T r c * D.T i j - D.T i c * D.T r j) / D.w
  w := D.T r c
  be := fun i => if i = r then D.fr c else D.be i
  fr := fun j => if j = c then D.be r else D.fr j
section
variable {D : Dic} {r c i j M N : Nat}
theorem piv_rc : (D.piv r c).T r c = D.w := by show (if _ then _ else _) = _; rw [if_pos rfl, if_pos rfl]
theorem piv_rj (h : j ≠ c) : (D.piv r c).T r j = -D.T r j := by show (if _ then _ else _) = _; rw [if_pos rfl, if_neg h]
theorem piv_ic (h : i ≠ r) : (D.piv r c).T i c = D.T i c := by show (if _ then _ else _) = _; rw [if_neg h, if_pos rfl]
theorem piv_ij (h : i ≠ r) (k : j ≠ c) : (D.piv r c).T i j = (D.T r c * D.T i j - D.T i c * D.T r j) / D.w := by show (if _ then _ else _) = _; rw [if_neg h, if_neg k]
theorem piv_w : (D.piv r c).w = D.T r c := rfl
theorem piv_ber : (D.piv r c).be r = D.fr c := if_pos rfl
theorem piv_be (h : i ≠ r) : (D.piv r c).be i = D.be i := if_neg h
theorem piv_frc : (D.piv r c).fr c = D.be r := if_pos rfl
theorem piv_fr (h : j ≠ c) : (D.piv r c).fr j = D.fr j := if_neg h
/-- all divisions of a pivot are exact -/
def Exa (D : Dic) (M N r c : Nat) : Prop := ∀ i j, i < M → j < N → i ≠ r → j ≠ c → D.w * (D.piv r c).T i j = D.T r c * D.T i j - D.T i c * D.T r j
theorem sm_split {n k : Nat} (f : Nat → Int) (h : k < n) : sm n f = f k + sm n (fun j => if j = k then 0 else f j) := by
  have e : sm n f = sm n (fun j => (if j = k then f k else 0) + (if j = k then 0 else f j)) := sm_congr fun j _ => by
    by_cases q : j = k
    · subst q; rw [if_pos rfl, if_pos rfl]; omega
    · rw [if_neg q, if_neg q]; omega
  rw [e, sm_add, sm_one h fun j _ hj => if_neg hj, if_pos rfl]
/-- how far values miss the equation of a row -/
def er (D : Dic) (N : Nat) (y : Nat → Int) (i : Nat) : Int := D.w * y (D.be i) - sm N fun j => D.T i j * y (D.fr j)
theorem er_r (hc : c < N) (y : Nat → Int) : er (D.piv r c) N y r = -er D N y r := by
  unfold er
  rw [piv_ber, piv_w, sm_split (fun j => (D.piv r c).T r j * y ((D.piv r c).fr j)) hc, sm_split (fun j => D.T r j * y (D.fr j)) hc, piv_rc, piv_frc]
  have e : (sm N fun j => if j = c then 0 else (D.piv r c).T r j * y ((D.piv r c).fr j)) = -sm N fun j => if j = c then 0 else D.T r j * y (D.fr j) := by
    rw [← sm_neg]
    exact sm_congr fun j _ => by
      by_cases q : j = c
      · rw [if_pos q, if_pos q]; rfl
      · rw [if_neg q, if_neg q, piv_rj q, piv_fr q, Int.neg_mul]
  rw [e]
  omega
theorem er_i (hx : Exa D M N r c) (hi : i < M) (hir : i ≠ r) (hc : c < N) (y : Nat → Int) : D.w * er (D.piv r c) N y i = D.T r c * er D N y i - D.T i c * er D N y r := by
  unfold er
  rw [piv_be hir, piv_w, sm_split (fun j => (D.piv r c).T i j * y ((D.piv r c).fr j)) hc, piv_ic hir, piv_frc, sm_split (fun j => D.T i j * y (D.fr j)) hc, sm_split (fun j => D.T r j * y (D.fr j)) hc]
  have e : D.w * (sm N fun j => if j = c then 0 else (D.piv r c).T i j * y ((D.piv r c).fr j)) = D.T r c * (sm N fun j => if j = c then 0 else D.T i j * y (D.fr j)) - D.T i c * sm N fun j => if j = c then 0 else D.T r j * y (D.fr j) := by
    rw [← sm_mul, ← sm_mul, ← sm_mul, ← sm_sub]
    refine sm_congr fun j hj => ?_
    by_cases q : j = c
    · rw [if_pos q, if_pos q, if_pos q]; simp
    · rw [if_neg q, if_neg q, if_neg q, piv_fr q, ← Int.mul_assoc, hx i j hi hj hir q, Int.sub_mul, Int.mul_assoc, Int.mul_assoc]
  generalize sm N (fun j => if j = c then 0 else (D.piv r c).T i j * y ((D.piv r c).fr j)) = A at *
  generalize sm N (fun j => if j = c then 0 else D.T i j * y (D.fr j)) = B at *
  generalize sm N (fun j => if j = c then 0 else D.T r j * y (D.fr j)) = C at *
  rw [Int.mul_sub, Int.mul_add, e]
  simp only [Int.mul_sub, Int.mul_add]
  have a1 : D.w * (D.T r c * y (D.be i)) = D.T r c * (D.w * y (D.be i)) := by rw [Int.mul_left_comm]
  have a2 : D.w * (D.T i c * y (D.be r)) = D.T i c * (D.w * y (D.be r)) := by rw [Int.mul_left_comm]
  have a3 : D.T r c * (D.T i c * y (D.fr c)) = D.T i c * (D.T r c * y (D.fr c)) := by rw [Int.mul_left_comm]
  rw [a1, a2, a3]
  omega
/-- the equations of a dictionary -/
def Eqs (D : Dic) (M N : Nat) (y : Nat → Int) : Prop := ∀ i, i < M → D.w * y (D.be i) = sm N fun j => D.T i j * y (D.fr j)
theorem eqs_er {y : Nat → Int} : Eqs D M N y ↔ ∀ i, i < M → er D N y i = 0 := by
  constructor
  · intro h i hi; unfold er; rw [h i hi]; omega
  · intro h i hi; have := h i hi; unfold er at this; omega
theorem mul_z {a b : Int} (ha : a ≠ 0) (h : a * b = 0) : b = 0 := (Int.mul_eq_zero.mp h).resolve_left ha
theorem eqs_piv (hx : Exa D M N r c) (hr : r < M) (hc : c < N) (hw : D.w ≠ 0) (hp : D.T r c ≠ 0) (y : Nat → Int) : Eqs (D.piv r c) M N y ↔ Eqs D M N y := by
  rw [eqs_er, eqs_er]
  constructor
  · intro h i hi
    have h0 : er D N y r = 0 := by have := h r hr; rw [er_r hc] at this; omega
    by_cases q : i = r
    · subst q; exact h0
    · have e := er_i hx hi q hc y
      rw [h i hi, h0] at e
      exact mul_z hp (by simpa using e.symm)
  · intro h i hi
    by_cases q : i = r
    · subst q; rw [er_r hc, h i hi]; rfl
    · have e := er_i hx hi q hc y
      rw [h i hi, h r hr] at e
      exact mul_z hw (by simpa using e)
/-! ## exactness -/
/-- the vectors of the variables -/
def col (D : Dic) (M : Nat) (z : Nat → Int) (j : Nat) : Int := D.w * z (D.fr j) + sm M fun i => D.T i j * z (D.be i)
theorem col_c (hr : r < M) (z : Nat → Int) : col (D.piv r c) M z c = col D M z c := by
  unfold col
  rw [piv_frc, piv_w, sm_split (fun i => (D.piv r c).T i c * z ((D.piv r c).be i)) hr, sm_split (fun i => D.T i c * z (D.be i)) hr, piv_rc, piv_ber]
  have e : (sm M fun i => if i = r then 0 else (D.piv r c).T i c * z ((D.piv r c).be i)) = sm M fun i => if i = r then 0 else D.T i c * z (D.be i) := sm_congr fun i _ => by
    by_cases q : i = r
    · rw [if_pos q, if_pos q]
    · rw [if_neg q, if_neg q, piv_ic q, piv_be q]
  rw [e]
  omega
theorem col_j (hx : Exa D M N r c) (hj : j < N) (hjc : j ≠ c) (hr : r < M) (z : Nat → Int) : D.w * col (D.piv r c) M z j = D.T r c * col D M z j - D.T r j * col D M z c := by
  unfold col
  rw [piv_fr hjc, piv_w, sm_split (fun i => (D.piv r c).T i j * z ((D.piv r c).be i)) hr, piv_rj hjc, piv_ber, sm_split (fun i => D.T i j * z (D.be i)) hr, sm_split (fun i => D.T i c * z (D.be i)) hr]
  have e : D.w * (sm M fun i => if i = r then 0 else (D.piv r c).T i j * z ((D.piv r c).be i)) = D.T r c * (sm M fun i => if i = r then 0 else D.T i j * z (D.be i)) - D.T r j * sm M fun i => if i = r then 0 else D.T i c * z (D.be i) := by
    rw [← sm_mul, ← sm_mul, ← sm_mul, ← sm_sub]
    refine sm_congr fun i hi => ?_
    by_cases q : i = r
    · rw [if_pos q, if_pos q, if_pos q]; simp
    · rw [if_neg q, if_neg q, if_neg q, piv_be q, ← Int.mul_assoc, hx i j hi hj q hjc, Int.sub_mul, Int.mul_assoc, Int.mul_assoc, Int.mul_left_comm (D.T i c)]
  generalize sm M (fun i => if i = r then 0 else (D.piv r c).T i j * z ((D.piv r c).be i)) = A at *
  generalize sm M (fun i => if i = r then 0 else D.T i j * z (D.be i)) = B at *
  generalize sm M (fun i => if i = r then 0 else D.T i c * z (D.be i)) = C at *
  simp only [Int.mul_sub, Int.mul_add, Int.neg_mul, Int.mul_neg, e]
  have a1 : D.w * (D.T r c * z (D.fr j)) = D.T r c * (D.w * z (D.fr j)) := by rw [Int.mul_left_comm]
  have a2 : D.w * (D.T r j * z (D.fr c)) = D.T r j * (D.w * z (D.fr c)) := by rw [Int.mul_left_comm]
  have a3 : D.T r c * (D.T r j * z (D.be r)) = D.T r j * (D.T r c * z (D.be r)) := by rw [Int.mul_left_comm]
  rw [a1, a2, a3]
  omega
/-- the matrix of the basic variables -/
def bas (D : Dic) (a : Nat → Nat → Int) : Mat := fun i => a (D.be i)
/-- what holds of every dictionary that pivots make -/
structure Inv (D : Dic) (M N : Nat) (a : Nat → Nat → Int) : Prop where
  pos : 0 < D.w
  cols : ∀ j, j < N → ∀ k, col D M (fun v => a v k) j = 0
  bs : ∃ e : Int, (e = 1 ∨ e = -1) ∧ D.w = e * det M (bas D a)
variable {a : Nat → Nat → Int}
theorem Inv.vec (I : Inv D M N a) (hj : j < N) : (fun k => D.w * a (D.fr j) k) = fun k => sm M fun i => -D.T i j * a (D.be i) k := by
  funext k
  have h : D.w * a (D.fr j) k + (sm M fun i => D.T i j * a (D.be i) k) = 0 := I.cols j hj k
  have e : (sm M fun i => -D.T i j * a (D.be i) k) = -sm M fun i => D.T i j * a (D.be i) k := by rw [← sm_neg]; exact sm_congr fun i _ => Int.neg_mul _ _
  show D.w * a (D.fr j) k = sm M fun i => -D.T i j * a (D.be i) k
  rw [e]
  omega
/-- a place of a basis taken by a free variable -/
theorem Inv.put (I : Inv D M N a) (hj : j < N) (B : Mat) {i : Nat} (hi : i < M) : D.w * det M (setR B i (a (D.fr j))) = sm M fun k => -D.T k j * det M (setR B i (a (D.be k))) := by
  rw [← det_mul B _ _ hi, I.vec hj, det_sum B hi]
  exact sm_congr fun k _ => det_mul B _ _ hi
theorem Inv.one (I : Inv D M N a) (hj : j < N) (hi : i < M) : D.w * det M (setR (bas D a) i (a (D.fr j))) = -D.T i j * det M (bas D a) := by
  rw [I.put hj _ hi, sm_one hi fun k hk hki => ?_]
  · have : setR (bas D a) i (a (D.be i)) = bas D a := setR_self _ _
    rw [this]
  · rw [det_same hk hi hki (by rw [setR_ne _ _ hki, setR_same]; rfl)]; simp
theorem sq_one {e : Int} (h : e = 1 ∨ e = -1) : e * e = 1 := by rcases h with rfl | rfl <;> rfl
theorem Inv.ent (I : Inv D M N a) (hj : j < N) (hi : i < M) : ∃ e : Int, (e = 1 ∨ e = -1) ∧ D.w = e * det M (bas D a) ∧ D.T i j = -e * det M (setR (bas D a) i (a (D.fr j))) := by
  obtain ⟨e, he, hw⟩ := I.bs
  refine ⟨e, he, hw, ?_⟩
  have h := I.one hj hi
  have hw0 : D.w ≠ 0 := by have := I.pos; omega
  have hd : det M (bas D a) = e * D.w := by rw [hw, ← Int.mul_assoc, sq_one he, Int.one_mul]
  rw [hd] at h
  have : D.w * (D.T i j - -e * det M (setR (bas D a) i (a (D.fr j)))) = 0 := by
    have h2 : D.w * (e * det M (setR (bas D a) i (a (D.fr j)))) = e * (D.w * det M (setR (bas D a) i (a (D.fr j)))) := Int.mul_left_comm _ _ _
    rw [h] at h2
    have h3 : e * (-D.T i j * (e * D.w)) = -(D.w * D.T i j) := by
      have : e * (-D.T i j * (e * D.w)) = (e * e) * (-D.T i j * D.w) := by simp only [Int.mul_assoc, Int.mul_left_comm, Int.mul_comm]
      rw [this, sq_one he, Int.one_mul, Int.neg_mul, Int.mul_comm]
    rw [h3] at h2
    rw [Int.mul_sub, Int.neg_mul, Int.mul_neg, h2]
    omega
  have := mul_z hw0 this
  omega
theorem bas_piv : bas (D.piv r c) a = setR (bas D a) r (a (D.fr c)) := by
  funext i
  by_cases q : i = r
  · subst q; show a ((D.piv i c).be i) = _; rw [piv_ber, setR_same]
  · show a ((D.piv r c).be i) = _; rw [piv_be q, setR_ne _ _ q]; rfl
theorem Inv.exa (I : Inv D M N a) (hr : r < M) (hc : c < N) : Exa D M N r c := by
  intro i j hi hj hir hjc
  obtain ⟨e, he, hw, hp⟩ := I.ent hc hr
  have hw0 : D.w ≠ 0 := by have := I.pos; omega
  have hd : det M (bas D a) = e * D.w := by rw [hw, ← Int.mul_assoc, sq_one he, Int.one_mul]
  -- whole times the two-fold exchange
  have h := I.put hj (setR (bas D a) r (a (D.fr c))) hi
  have sic := I.one hc hi
  have src := I.one hc hr
  rw [hd] at sic src
  have dic : det M (setR (bas D a) i (a (D.fr c))) = -(e * D.T i c) := by
    have : D.w * (det M (setR (bas D a) i (a (D.fr c))) + e * D.T i c) = 0 := by
      rw [Int.mul_add, sic]
      have : D.w * (e * D.T i c) = D.T i c * (e * D.w) := by simp only [Int.mul_assoc, Int.mul_left_comm, Int.mul_comm]
      rw [this, Int.neg_mul]; omega
    have := mul_z hw0 this; omega
  have drc : det M (setR (bas D a) r (a (D.fr c))) = -(e * D.T r c) := by
    have : D.w * (det M (setR (bas D a) r (a (D.fr c))) + e * D.T r c) = 0 := by
      rw [Int.mul_add, src]
      have : D.w * (e * D.T r c) = D.T r c * (e * D.w) := by simp only [Int.mul_assoc, Int.mul_left_comm, Int.mul_comm]
      rw [this, Int.neg_mul]; omega
    have := mul_z hw0 this; omega
  have two := sm_two (f := fun k => -D.T k j * det M (setR (setR (bas D a) r (a (D.fr c))) i (a (D.be k)))) hi hr hir fun k hk k1 k2 => by
    show -D.T k j * det M _ = 0
    rw [det_same hk hi k1 (by rw [setR_ne _ _ k1, setR_ne _ _ k2, setR_same]; rfl)]; simp
  rw [two] at h
  have f1 : setR (setR (bas D a) r (a (D.fr c))) i (a (D.be i)) = setR (bas D a) r (a (D.fr c)) := by
    rw [setR_comm _ (Ne.symm hir)]
    have : setR (bas D a) i (a (D.be i)) = bas D a := setR_self _ _
    rw [this]
  have f2 : det M (setR (setR (bas D a) r (a (D.fr c))) i (a (D.be r))) = -det M (setR (bas D a) i (a (D.fr c))) := by
    rw [det_swap hr hi (Ne.symm hir)]
    have : setR (bas D a) r (a (D.be r)) = bas D a := setR_self _ _
    rw [this]
  rw [f1, f2, dic, drc] at h
  have key : D.T r c * D.T i j - D.T i c * D.T r j = D.w * (e * det M (setR (setR (bas D a) r (a (D.fr c))) i (a (D.fr j)))) := by
    have : D.w * (e * det M (setR (setR (bas D a) r (a (D.fr c))) i (a (D.fr j)))) = e * (D.w * det M (setR (setR (bas D a) r (a (D.fr c))) i (a (D.fr j)))) := Int.mul_left_comm _ _ _
    rw [this, h, Int.neg_neg, Int.mul_add]
    have g1 : e * (-D.T i j * -(e * D.T r c)) = (e * e) * (D.T r c * D.T i j) := by simp only [Int.neg_mul, Int.mul_neg, Int.neg_neg, Int.mul_assoc, Int.mul_left_comm, Int.mul_comm]
    have g2 : e * (-D.T r j * (e * D.T i c)) = -((e * e) * (D.T i c * D.T r j)) := by simp only [Int.neg_mul, Int.mul_neg, Int.mul_assoc, Int.mul_left_comm, Int.mul_comm]
    rw [g1, g2, sq_one he]; omega
  rw [piv_ij hir hjc, key, Int.mul_ediv_cancel_left _ hw0]
theorem Inv.piv (I : Inv D M N a) (hr : r < M) (hc : c < N) (hp : 0 < D.T r c) : Inv (D.piv r c) M N a := by
  have hx := I.exa hr hc
  have hw0 : D.w ≠ 0 := by have := I.pos; omega
  refine ⟨hp, fun j hj k => ?_, ?_⟩
  · by_cases q : j = c
    · subst q; rw [col_c hr]; exact I.cols j hj k
    · have e := col_j hx hj q hr (fun v => a v k)
      rw [I.cols j hj k, I.cols c hc k] at e
      exact mul_z hw0 (by simpa using e)
  · obtain ⟨e, he, hw, ht⟩ := I.ent hc hr
    refine ⟨-e, by rcases he with rfl | rfl; exact .inr rfl; exact .inl rfl, ?_⟩
    rw [bas_piv, piv_w]
    exact ht
theorem setR_bd {b : Nat} {B : Mat} {v : Nat → Int} (h : ∀ i j, i < M → j < M → (B i j).natAbs ≤ b) (hv : ∀ j, j < M → (v j).natAbs ≤ b) : ∀ i j, i < M → j < M → (setR B r v i j).natAbs ≤ b := fun i j hi hj => by
  by_cases q : i = r
  · subst q; rw [setR_same]; exact hv j hj
  · rw [setR_ne _ _ q]; exact h i j hi hj
theorem Inv.bd {b : Nat} (I : Inv D M N a) (h : ∀ v k, k < M → (a v k).natAbs ≤ b) (hi : i < M) (hj : j < N) : (D.T i j).natAbs ≤ (M * b) ^ M := by
  obtain ⟨e, he, hw, ht⟩ := I.ent hj hi
  rw [ht, Int.natAbs_mul]
  have : (-e).natAbs = 1 := by rcases he with rfl | rfl <;> rfl
  rw [this, Nat.one_mul]
  exact det_bd (setR_bd (fun i j _ hj => h _ _ hj) fun j hj => h _ _ hj)
theorem Inv.bdw {b : Nat} (I : Inv D M N a) (h : ∀ v k, k < M → (a v k).natAbs ≤ b) : D.w.natAbs ≤ (M * b) ^ M := by
  obtain ⟨e, he, hw⟩ := I.bs
  rw [hw, Int.natAbs_mul]
  have : e.natAbs = 1 := by rcases he with rfl | rfl <;> rfl
  rw [this, Nat.one_mul]
  exact det_bd (fun i j _ hj => h _ _ hj)
end
end Sv
/-! # The rule of the least index ends -/
namespace Sv
/-- row r leaves, column c enters; row m holds the costs, column n the starts -/
structure Rul (D : Dic) (m n r c : Nat) : Prop where
  hr : r < m
  neg : D.T r n < 0
  least : ∀ i, i < m → D.T i n < 0 → D.be r ≤ D.be i
  hc : c < n
  pos : 0 < D.T r c
  ratio : ∀ j, j < n → 0 < D.T r j → D.T m c * D.T r j ≤ D.T m j * D.T r c
  tie : ∀ j, j < n → 0 < D.T r j → D.T m c * D.T r j = D.T m j * D.T r c → D.fr c ≤ D.fr j
/-- the variables are different ones -/
structure Dj (D : Dic) (m n V : Nat) : Prop where
  bi : ∀ i k, i < m → k < m → D.be i = D.be k → i = k
  bf : ∀ i j, i < m → j < n → D.be i ≠ D.fr j
  ff : ∀ j k, j < n → k < n → D.fr j = D.fr k → j = k
  bV : ∀ i, i < m → D.be i < V
  fV : ∀ j, j < n → D.fr j < V
  bz : D.be m = V + 1
  fc : D.fr n = V
variable {D E : Dic} {m n V r c : Nat} {a : Nat → Nat → Int}
theorem Dj.piv (J : Dj D m n V) (hr : r < m) (hc : c < n) : Dj (D.piv r c) m n V := by
  have be' : ∀ i, (D.piv r c).be i = if i = r then D.fr c else D.be i := fun i => rfl
  have fr' : ∀ j, (D.piv r c).fr j = if j = c then D.be r else D.fr j := fun j => rfl
  refine ⟨fun i k hi hk h => ?_, fun i j hi hj h => ?_, fun j k hj hk h => ?_, fun i hi => ?_, fun j hj => ?_, ?_, ?_⟩
  · rw [be', be'] at h
    by_cases q : i = r <;> by_cases q2 : k = r
    · omega
    · rw [if_pos q, if_neg q2] at h; exact absurd h.symm (J.bf k c hk hc)
    · rw [if_neg q, if_pos q2] at h; exact absurd h (J.bf i c hi hc)
    · rw [if_neg q, if_neg q2] at h; exact J.bi i k hi hk h
  · rw [be', fr'] at h
    by_cases q : i = r <;> by_cases q2 : j = c
    · rw [if_pos q, if_pos q2] at h; exact J.bf r c hr hc h.symm
    · rw [if_pos q, if_neg q2] at h; exact q2 (J.ff c j hc hj h).symm
    · rw [if_neg q, if_pos q2] at h; exact q (J.bi i r hi hr h)
    · rw [if_neg q, if_neg q2] at h; exact J.bf i j hi hj h
  · rw [fr', fr'] at h
    by_cases q : j = c <;> by_cases q2 : k = c
    · omega
    · rw [if_pos q, if_neg q2] at h; exact absurd h (J.bf r k hr hk)
    · rw [if_neg q, if_pos q2] at h; exact absurd h.symm (J.bf r j hr hj)
    · rw [if_neg q, if_neg q2] at h; exact J.ff j k hj hk h
  · rw [be']; split
    · exact J.fV c hc
    · exact J.bV i hi
  · rw [fr']; split
    · exact J.bV r hr
    · exact J.fV j hj
  · rw [be', if_neg (by omega)]; exact J.bz
  · rw [fr', if_neg (by omega)]; exact J.fc
theorem nonneg_of_mul' {a b : Int} (h : 0 ≤ a * b) (ha : 0 < a) : 0 ≤ b := by
  rcases Int.lt_or_le b 0 with q | q
  · have := Int.mul_pos ha (show 0 < -b by omega)
    rw [Int.mul_neg] at this
    omega
  · exact q
def Cst (D : Dic) (m n : Nat) : Prop := ∀ j, j < n → 0 ≤ D.T m j
theorem Cst.piv (C : Cst D m n) (w : 0 < D.w) (hx : Exa D (m + 1) (n + 1) r c) (R : Rul D m n r c) : Cst (D.piv r c) m n := by
  intro j hj
  have mr : m ≠ r := by have := R.hr; omega
  by_cases q : j = c
  · subst q; rw [piv_ic mr]; exact C j hj
  · have e := hx m j (by omega) (by omega) mr q
    have : 0 ≤ D.w * (D.piv r c).T m j := by
      rw [e]
      by_cases p : 0 < D.T r j
      · have := R.ratio j hj p
        rw [Int.mul_comm (D.T r c)]; omega
      · have h1 := Int.mul_nonneg (Int.le_of_lt R.pos) (C j hj)
        have h2 := Int.mul_nonneg (C c R.hc) (show 0 ≤ -D.T r j by omega)
        rw [Int.mul_neg] at h2
        omega
    exact nonneg_of_mul' this w
/-- the point of a dictionary -/
def pt (D : Dic) (m n V v : Nat) : Int := if v = V then D.w else if v = V + 1 then D.T m n else sm m fun i => if D.be i = v then D.T i n else 0
theorem pt_be (J : Dj D m n V) {i : Nat} (hi : i < m) : pt D m n V (D.be i) = D.T i n := by
  have := J.bV i hi
  unfold pt
  rw [if_neg (by omega), if_neg (by omega), sm_one hi fun k hk q => if_neg fun h => q (J.bi k i hk hi h), if_pos rfl]
theorem pt_no (h : ∀ i, i < m → D.be i ≠ v) (hv : v < V) : pt D m n V v = 0 := by
  unfold pt
  rw [if_neg (by omega), if_neg (by omega)]
  exact sm_zero fun i hi => if_neg (h i hi)
theorem pt_eqs (J : Dj D m n V) : Eqs D (m + 1) (n + 1) (pt D m n V) := by
  intro i hi
  have e : (sm (n + 1) fun j => D.T i j * pt D m n V (D.fr j)) = D.T i n * pt D m n V (D.fr n) := sm_one (by omega) fun j hj q => by
    rw [pt_no (fun k hk => J.bf k j hk (by omega)) (J.fV j (by omega))]; simp
  have ev : pt D m n V (D.fr n) = D.w := by rw [J.fc]; exact if_pos rfl
  rw [e, ev, Int.mul_comm]
  congr 1
  by_cases q : i = m
  · subst q; rw [J.bz]; unfold pt; rw [if_neg (by omega), if_pos rfl]
  · exact pt_be J (by omega)
theorem sm_nonpos {n : Nat} {f : Nat → Int} (h : ∀ j, j < n → f j ≤ 0) : sm n f ≤ 0 := by
  induction n with
  | zero => exact Int.le_refl 0
  | succ n ih => have a := ih fun j hj => h j (by omega); have b := h n (by omega); show sm n f + f n ≤ 0; omega
theorem sm_nonneg {n : Nat} {f : Nat → Int} (h : ∀ j, j < n → 0 ≤ f j) : 0 ≤ sm n f := by
  induction n with
  | zero => exact Int.le_refl 0
  | succ n ih => have a := ih fun j hj => h j (by omega); have b := h n (by omega); show 0 ≤ sm n f + f n; omega
/-- a variable that leaves one dictionary cannot enter another one of the same equations, if all greater ones stay -/
theorem bland {D1 D2 : Dic} {r1 c1 r2 c2 : Nat} (J1 : Dj D1 m n V) (J2 : Dj D2 m n V) (w1 : 0 < D1.w) (w2 : 0 < D2.w) (eq : ∀ y, Eqs D1 (m + 1) (n + 1) y → Eqs D2 (m + 1) (n + 1) y) (R1 : Rul D1 m n r1 c1) (R2 : Rul D2 m n r2 c2) (ht : D1.be r1 = D2.fr c2) (hle : D2.be r2 ≤ D2.fr c2)
    (hyp : ∀ j, j < n → j ≠ c2 → (D2.fr c2 < D2.fr j ∨ 0 < D2.T r2 j) → ∀ i, i < m → D1.be i ≠ D2.fr j) : False := by
  have e := eq _ (pt_eqs J1) r2 (by have := R2.hr; omega)
  have hne := J2.bf r2 c2 R2.hr R2.hc
  have low : ∀ v, v < D2.fr c2 → 0 ≤ pt D1 m n V v := fun v hv => by
    have hV := J2.fV c2 R2.hc
    by_cases q : ∃ i, i < m ∧ D1.be i = v
    · obtain ⟨i, hi, rfl⟩ := q
      rw [pt_be J1 hi]
      by_cases p : D1.T i n < 0
      · have := R1.least i hi p; omega
      · omega
    · rw [pt_no (fun i hi h => q ⟨i, hi, h⟩) (by omega)]; exact Int.le_refl 0
  have lhs : 0 ≤ D2.w * pt D1 m n V (D2.be r2) := Int.mul_nonneg (Int.le_of_lt w2) (low _ (by omega))
  have last : D2.T r2 n * pt D1 m n V (D2.fr n) < 0 := by
    have : pt D1 m n V (D2.fr n) = D1.w := by rw [J2.fc]; exact if_pos rfl
    rw [this]
    exact Int.mul_neg_of_neg_of_pos R2.neg w1
  have rest : (sm n fun j => D2.T r2 j * pt D1 m n V (D2.fr j)) ≤ 0 := sm_nonpos fun j hj => by
    by_cases q : j = c2
    · subst q
      rw [← ht, pt_be J1 R1.hr]
      exact Int.le_of_lt (Int.mul_neg_of_pos_of_neg R2.pos R1.neg)
    · by_cases p : D2.fr c2 < D2.fr j ∨ 0 < D2.T r2 j
      · rw [pt_no (hyp j hj q p) (J2.fV j hj)]; simp
      · have hn : D2.fr j ≠ D2.fr c2 := fun h => q (J2.ff j c2 hj R2.hc h)
        have h1 := low (D2.fr j) (by omega)
        have h2 : 0 ≤ -D2.T r2 j := by omega
        have := Int.mul_nonneg h2 h1
        rw [Int.neg_mul] at this
        omega
  have e2 : (sm (n + 1) fun j => D2.T r2 j * pt D1 m n V (D2.fr j)) = (sm n fun j => D2.T r2 j * pt D1 m n V (D2.fr j)) + D2.T r2 n * pt D1 m n V (D2.fr n) := rfl
  rw [e2] at e
  omega
/-- what is kept all the way -/
structure Good (D : Dic) (m n V : Nat) (a : Nat → Nat → Int) : Prop where
  I : Inv D (m + 1) (n + 1) a
  J : Dj D m n V
  C : Cst D m n
theorem Good.piv (G : Good D m n V a) (R : Rul D m n r c) : Good (D.piv r c) m n V a := by
  have h1 := R.hr; have h2 := R.hc
  exact ⟨G.I.piv (by omega) (by omega) R.pos, G.J.piv h1 h2, G.C.piv G.I.pos (G.I.exa (by omega) (by omega)) R⟩
theorem Good.eqs (G : Good D m n V a) (R : Rul D m n r c) (y : Nat → Int) : Eqs (D.piv r c) (m + 1) (n + 1) y ↔ Eqs D (m + 1) (n + 1) y := by
  have h1 := R.hr; have h2 := R.hc; have h3 := G.I.pos; have h4 := R.pos
  exact eqs_piv (G.I.exa (by omega) (by omega)) (by omega) (by omega) (by omega) (by omega) y
/-- a step at which the cost stays, of variables below t -/
def Stp (D : Dic) (m n t r c : Nat) : Prop := Rul D m n r c ∧ D.T m c = 0 ∧ D.be r < t ∧ D.fr c < t
inductive Path (m n t : Nat) : Nat → Dic → Dic → Prop
  | nil (D : Dic) : Path m n t 0 D D
  | cons {D E : Dic} {k r c : Nat} : Stp D m n t r c → Path m n t k (D.piv r c) E → Path m n t (k + 1) D E
def Fre (D : Dic) (n v : Nat) : Prop := ∃ j, j < n ∧ D.fr j = v
def Psv (D : Dic) (m n v : Nat) : Prop := ∃ j, j < n ∧ D.fr j = v ∧ 0 < D.T m j
theorem Int.pos_of_mul_pos_left' {a b : Int} (h : 0 < a * b) (ha : 0 < a) : 0 < b := by
  rcases Int.lt_or_le 0 b with q | q
  · exact q
  · have := Int.mul_nonneg (Int.le_of_lt ha) (show 0 ≤ -b by omega)
    rw [Int.mul_neg] at this
    omega
theorem psv_step (G : Good D m n V a) (R : Rul D m n r c) (z : D.T m c = 0) (v : Nat) : Psv (D.piv r c) m n v ↔ Psv D m n v := by
  have mr : m ≠ r := by have := R.hr; omega
  have hx := G.I.exa (show r < m + 1 by have := R.hr; omega) (show c < n + 1 by have := R.hc; omega)
  have key : ∀ j, j < n → j ≠ c → (0 < (D.piv r c).T m j ↔ 0 < D.T m j) := fun j hj q => by
    have e := hx m j (by omega) (by omega) mr q
    rw [z, Int.zero_mul, Int.sub_zero] at e
    constructor
    · intro h
      have h2 := Int.mul_pos G.I.pos h
      rw [e] at h2
      exact Int.pos_of_mul_pos_left' h2 R.pos
    · intro h
      have h2 := Int.mul_pos R.pos h
      rw [← e] at h2
      exact Int.pos_of_mul_pos_left' h2 G.I.pos
  constructor
  · rintro ⟨j, hj, e, p⟩
    by_cases q : j = c
    · subst q; rw [piv_ic mr, z] at p; omega
    · exact ⟨j, hj, by rw [← e, piv_fr q], (key j hj q).mp p⟩
  · rintro ⟨j, hj, e, p⟩
    by_cases q : j = c
    · subst q; rw [z] at p; omega
    · exact ⟨j, hj, by rw [← e, piv_fr q], (key j hj q).mpr p⟩
theorem fre_step {t v : Nat} (S : Stp D m n t r c) (hv : t ≤ v) : Fre (D.piv r c) n v ↔ Fre D n v := by
  obtain ⟨R, _, hb, hf⟩ := S
  constructor
  · rintro ⟨j, hj, e⟩
    by_cases q : j = c
    · subst q; rw [piv_frc] at e; omega
    · exact ⟨j, hj, by rw [← e, piv_fr q]⟩
  · rintro ⟨j, hj, e⟩
    by_cases q : j = c
    · subst q; omega
    · exact ⟨j, hj, by rw [← e, piv_fr q]⟩
theorem path_inv {t k : Nat} (G : Good D m n V a) (P : Path m n t k D E) : Good E m n V a ∧ (∀ y, Eqs E (m + 1) (n + 1) y ↔ Eqs D (m + 1) (n + 1) y) ∧ (∀ v, t ≤ v → (Fre E n v ↔ Fre D n v)) ∧ ∀ v, Psv E m n v ↔ Psv D m n v := by
  induction P with
  | nil D => exact ⟨G, fun _ => Iff.rfl, fun _ _ => Iff.rfl, fun _ => Iff.rfl⟩
  | cons S P ih =>
    obtain ⟨g, e, f, p⟩ := ih (G.piv S.1)
    exact ⟨g, fun y => (e y).trans (G.eqs S.1 y), fun v hv => (f v hv).trans (fre_step S hv), fun v => (p v).trans (psv_step G S.1 S.2.1 v)⟩
theorem Path.snoc {t k : Nat} {D E : Dic} {r c : Nat} (P : Path m n t k D E) (S : Stp E m n t r c) : Path m n t (k + 1) D (E.piv r c) := by
  induction P with
  | nil D => exact .cons S (.nil _)
  | cons s _ ih => exact .cons s (ih S)
theorem path_split {t k : Nat} (P : Path m n (t + 1) k D E) : Path m n t k D E ∨ ∃ k1 k2 D1 r c, Path m n t k1 D D1 ∧ Stp D1 m n (t + 1) r c ∧ (D1.be r = t ∨ D1.fr c = t) ∧ Path m n (t + 1) k2 (D1.piv r c) E ∧ k = k1 + 1 + k2 := by
  induction P with
  | nil D => exact .inl (.nil D)
  | cons S P ih =>
    rename_i D E k r c
    by_cases q : D.be r = t ∨ D.fr c = t
    · exact .inr ⟨0, k, D, r, c, .nil D, S, q, P, by omega⟩
    · have S' : Stp D m n t r c := ⟨S.1, S.2.1, by have := S.2.2.1; omega, by have := S.2.2.2; omega⟩
      rcases ih with h | ⟨k1, k2, D1, r1, c1, h1, h2, h3, h4, h5⟩
      · exact .inl (.cons S' h)
      · exact .inr ⟨k1 + 1, k2, D1, r1, c1, .cons S' h1, h2, h3, h4, by omega⟩
theorem nobasic (J : Dj D m n V) {v : Nat} (h : Fre D n v) : ∀ i, i < m → D.be i ≠ v := fun i hi e => by
  obtain ⟨j, hj, rfl⟩ := h
  exact J.bf i j hi hj e
/-- for bland: what is asked of the free variables of the one where t enters -/
theorem hyp_of {D2 : Dic} {t r2 c2 j : Nat} (G2 : Good D2 m n V a) (S2 : Stp D2 m n (t + 1) r2 c2) (ht : D2.fr c2 = t) (hj : j < n) (hjc : j ≠ c2) (h : D2.fr c2 < D2.fr j ∨ 0 < D2.T r2 j) : (t + 1 ≤ D2.fr j ∧ Fre D2 n (D2.fr j)) ∨ Psv D2 m n (D2.fr j) := by
  have hn : D2.fr j ≠ D2.fr c2 := fun h => hjc (G2.J.ff j c2 hj S2.1.hc h)
  by_cases q : D2.fr c2 < D2.fr j
  · exact .inl ⟨by omega, j, hj, rfl⟩
  · have hp := h.resolve_left q
    have cj := G2.C j hj
    by_cases z : D2.T m j = 0
    · have := S2.1.tie j hj hp (by rw [S2.2.1, z]; simp)
      omega
    · exact .inr ⟨j, hj, rfl, by omega⟩
theorem psv_fre {v : Nat} (h : Psv D m n v) : Fre D n v := let ⟨j, hj, e, _⟩ := h; ⟨j, hj, e⟩
theorem path_len : ∀ (t : Nat) {D E : Dic} {k : Nat}, Good D m n V a → Path m n t k D E → k < 2 ^ t
  | 0, D, E, k, G, P => by
    cases P with
    | nil => decide
    | cons S _ => have := S.2.2.1; omega
  | t + 1, D, E, k, G, P => by
    have two : (2 : Nat) ^ (t + 1) = 2 ^ t + 2 ^ t := by rw [Nat.pow_succ]; omega
    rcases path_split P with h | ⟨k1, k2, D1, r1, c1, P1, S1, q1, P2, rfl⟩
    · have := path_len t G h; omega
    · have l1 := path_len t G P1
      have G1 := (path_inv G P1).1
      have G1' := G1.piv S1.1
      rcases path_split P2 with h | ⟨k3, k4, D2, r2, c2, P3, S2, q2, P4, rfl⟩
      · have := path_len t G1' h; omega
      · exfalso
        obtain ⟨G2, e3, f3, p3⟩ := path_inv G1' P3
        have st := path_inv G1 (Path.cons S1 (.nil _))
        rcases q1 with q1 | q1 <;> rcases q2 with q2 | q2
        · -- leaves, leaves
          have : Fre (D1.piv r1 c1) n t := ⟨c1, S1.1.hc, by rw [piv_frc]; exact q1⟩
          exact nobasic G2.J ((f3 t (Nat.le_refl _)).mpr this) r2 S2.1.hr q2
        · -- leaves, then enters
          refine bland G1.J G2.J G1.I.pos G2.I.pos (fun y h => (e3 y).mpr ((st.2.1 y).mpr h)) S1.1 S2.1 (q1.trans q2.symm) (by have := S2.2.2.1; omega) fun j hj hjc h => ?_
          rcases hyp_of G2 S2 q2 hj hjc h with ⟨hv, hf⟩ | hp
          · exact nobasic G1.J ((st.2.2.1 _ hv).mp ((f3 _ (by omega)).mp hf))
          · exact nobasic G1.J (psv_fre ((st.2.2.2 _).mp ((p3 _).mp hp)))
        · -- enters, then leaves
          refine bland G2.J G1.J G2.I.pos G1.I.pos (fun y h => (st.2.1 y).mp ((e3 y).mp h)) S2.1 S1.1 (q2.trans q1.symm) (by have := S1.2.2.1; omega) fun j hj hjc h => ?_
          rcases hyp_of G1 S1 q1 hj hjc h with ⟨hv, hf⟩ | hp
          · exact nobasic G2.J ((f3 _ (by omega)).mpr ((st.2.2.1 _ hv).mpr hf))
          · exact nobasic G2.J (psv_fre ((p3 _).mpr ((st.2.2.2 _).mpr hp)))
        · -- enters, enters
          have h2 : Fre D2 n t := ⟨c2, S2.1.hc, q2⟩
          exact nobasic G1'.J ((f3 t (Nat.le_refl _)).mp h2) r1 S1.1.hr (by rw [piv_ber]; exact q1)
/-! ## the cost grows -/
def mu (B : Int) (D : Dic) (m n : Nat) : Int := (D.T m n * (B * B)) / D.w
theorem mu_step {B x x' w p : Int} (e : Int) (hw : 0 < w) (hp : 0 < p) (hb : p * w ≤ B * B) (he : e = 0 ∨ e = 1) (h : p * x + e ≤ w * x') : (x * (B * B)) / w + e ≤ (x' * (B * B)) / p := by
  have hB : 0 < B * B := Int.lt_of_lt_of_le (Int.mul_pos hp hw) hb
  refine (Int.le_ediv_iff_mul_le hp).mpr ?_
  have h1 : (x * (B * B)) / w * w ≤ x * (B * B) := Int.ediv_mul_le _ (by omega)
  have h2 : p * ((x * (B * B)) / w * w) ≤ p * (x * (B * B)) := Int.mul_le_mul_of_nonneg_left h1 (Int.le_of_lt hp)
  have h3 : (p * x + e) * (B * B) ≤ (w * x') * (B * B) := Int.mul_le_mul_of_nonneg_right h (Int.le_of_lt hB)
  generalize (x * (B * B)) / w = q at *
  have h4 : w * ((q + e) * p) ≤ w * (x' * (B * B)) := by
    have a1 : w * ((q + e) * p) = p * (q * w) + e * (p * w) := by
      rw [Int.add_mul, Int.mul_add]
      congr 1
      · simp only [Int.mul_assoc, Int.mul_left_comm, Int.mul_comm]
      · simp only [Int.mul_assoc, Int.mul_left_comm, Int.mul_comm]
    have a2 : (p * x + e) * (B * B) = p * (x * (B * B)) + e * (B * B) := by rw [Int.add_mul, Int.mul_assoc]
    have a3 : (w * x') * (B * B) = w * (x' * (B * B)) := Int.mul_assoc _ _ _
    have a4 : e * (p * w) ≤ e * (B * B) := by rcases he with rfl | rfl <;> omega
    omega
  exact Int.le_of_mul_le_mul_left h4 hw
theorem Good.mu {B : Int} (G : Good D m n V a) (R : Rul D m n r c) (hb : D.T r c * D.w ≤ B * B) : mu B D m n ≤ mu B (D.piv r c) m n ∧ (0 < D.T m c → mu B D m n + 1 ≤ mu B (D.piv r c) m n) := by
  have h1 := R.hr; have h2 := R.hc
  have hx := G.I.exa (show r < m + 1 by omega) (show c < n + 1 by omega) m n (by omega) (by omega) (by omega) (by omega)
  have c0 := G.C c h2
  have ng := R.neg
  constructor
  · have := mu_step (B := B) (x := D.T m n) (x' := (D.piv r c).T m n) 0 G.I.pos R.pos hb (.inl rfl) (by
      show D.T r c * D.T m n + 0 ≤ D.w * (D.piv r c).T m n
      rw [hx]
      have := Int.mul_nonneg c0 (show 0 ≤ -D.T r n by omega)
      rw [Int.mul_neg] at this
      omega)
    rw [Int.add_zero] at this
    exact this
  · intro hp
    exact mu_step (B := B) (x := D.T m n) (x' := (D.piv r c).T m n) 1 G.I.pos R.pos hb (.inr rfl) (by
      show D.T r c * D.T m n + 1 ≤ D.w * (D.piv r c).T m n
      rw [hx]
      have := Int.mul_pos hp (show 0 < -D.T r n by omega)
      rw [Int.mul_neg] at this
      omega)
def Rel (m n : Nat) (E D : Dic) : Prop := ∃ r c, Rul D m n r c ∧ E = D.piv r c
theorem ends {b : Nat} (hb : ∀ v k, k < m + 1 → (a v k).natAbs ≤ b) : ∀ (N : Nat) (d : Nat) {D0 D : Dic} {k : Nat}, Good D0 m n V a → Path m n V k D0 D → 2 ^ V ≤ k + d → ((((m + 1) * b) ^ (m + 1) : Nat) : Int) * (((((m + 1) * b) ^ (m + 1) : Nat) : Int) * ((((m + 1) * b) ^ (m + 1) : Nat) : Int)) - mu ((((m + 1) * b) ^ (m + 1) : Nat) : Int) D m n < N → Acc (Rel m n) D
  | N, 0, D0, D, k, G0, P, hk, h => by have := path_len V G0 P; omega
  | 0, d + 1, D0, D, k, G0, P, hk, h => by
    exfalso
    have G := (path_inv G0 P).1
    have e1 := G.I.bd hb (i := m) (j := n) (by omega) (by omega)
    have e2 : (((m + 1) * b) ^ (m + 1) : Nat) = ((((m + 1) * b) ^ (m + 1) : Nat) : Int).natAbs := by rfl
    have hB0 : (0 : Int) ≤ ((((m + 1) * b) ^ (m + 1) : Nat) : Int) := Int.natCast_nonneg _
    have ebw := G.I.bdw hb
    rw [e2] at e1 ebw
    generalize ((((m + 1) * b) ^ (m + 1) : Nat) : Int) = B at *
    have w0 := G.I.pos
    have : mu B D m n ≤ B * (B * B) := by
      unfold mu
      refine Int.ediv_le_of_le_mul w0 ?_
      have h1 : D.T m n ≤ B := by omega
      have h2 := Int.mul_le_mul_of_nonneg_right h1 (Int.mul_nonneg hB0 hB0)
      have h3 := Int.mul_le_mul_of_nonneg_left (show (1 : Int) ≤ D.w by omega) (Int.mul_nonneg hB0 (Int.mul_nonneg hB0 hB0))
      omega
    omega
  | N + 1, d + 1, D0, D, k, G0, P, hk, h => by
    have G := (path_inv G0 P).1
    refine Acc.intro D fun E hE => ?_
    obtain ⟨r, c, R, rfl⟩ := hE
    have h1 := R.hr; have h2 := R.hc
    have hbb : D.T r c * D.w ≤ ((((m + 1) * b) ^ (m + 1) : Nat) : Int) * ((((m + 1) * b) ^ (m + 1) : Nat) : Int) := by
      have e1 := G.I.bd hb (i := r) (j := c) (by omega) (by omega)
      have e2 := G.I.bdw hb
      have p := R.pos; have w := G.I.pos
      exact Int.mul_le_mul (by omega) (by omega) (by omega) (by omega)
    have hm := G.mu R hbb
    by_cases z : D.T m c = 0
    · have S : Stp D m n V r c := ⟨R, z, G.J.bV r h1, G.J.fV c h2⟩
      exact ends hb (N + 1) d G0 (P.snoc S) (by omega) (by omega)
    · have := G.C c h2
      have := hm.2 (by omega)
      exact ends hb N (2 ^ V) (G.piv R) (.nil _) (by omega) (by omega)
  termination_by N d => (N, d)
theorem Good.acc {b : Nat} (hb : ∀ v k, k < m + 1 → (a v k).natAbs ≤ b) (G : Good D m n V a) : Acc (Rel m n) D :=
  ends hb _ (2 ^ V) G (.nil D) (by omega) (Int.lt_of_le_of_lt (Int.self_le_toNat _) (by exact Int.ofNat_lt.mpr (Nat.lt_succ_self _)))
end Sv
/-! # The first dictionary, and what the last one says -/
namespace Sv
/-- the first dictionary of rows R, bounds B and costs C -/
def ini (m n : Nat) (R : Nat → Nat → Int) (B C : Nat → Int) : Dic where
  T := fun i j => if i < m then (if j < n then R i j else -B i) else if j < n then C j else 0
  w := 1
  be := fun i => if i = m then n + m + 1 else n + i
  fr := fun j => if j = n then n + m else j
def iniA (m n : Nat) (R : Nat → Nat → Int) (B C : Nat → Int) (v k : Nat) : Int := if m < k then 0 else if v < n then (ini m n R B C).T k v else if v < n + m then (if v - n = k then -1 else 0) else if v = n + m then (ini m n R B C).T k n else if k = m then -1 else 0
section
variable {m n : Nat} {R : Nat → Nat → Int} {B C : Nat → Int}
theorem ini_dj : Dj (ini m n R B C) m n (n + m) := by
  have be : ∀ i, (ini m n R B C).be i = if i = m then n + m + 1 else n + i := fun _ => rfl
  have fr : ∀ j, (ini m n R B C).fr j = if j = n then n + m else j := fun _ => rfl
  refine ⟨fun i k hi hk h => ?_, fun i j hi hj h => ?_, fun j k hj hk h => ?_, fun i hi => ?_, fun j hj => ?_, ?_, ?_⟩
  · rw [be, be, if_neg (by omega), if_neg (by omega)] at h; omega
  · rw [be, fr, if_neg (by omega), if_neg (by omega)] at h; omega
  · rw [fr, fr, if_neg (by omega), if_neg (by omega)] at h; omega
  · rw [be, if_neg (by omega)]; omega
  · rw [fr, if_neg (by omega)]; omega
  · rw [be, if_pos rfl]
  · rw [fr, if_pos rfl]
theorem iniA_fr {j k : Nat} (hj : j < n + 1) (hk : k < m + 1) : iniA m n R B C ((ini m n R B C).fr j) k = (ini m n R B C).T k j := by
  have fr : (ini m n R B C).fr j = if j = n then n + m else j := rfl
  unfold iniA
  rw [fr, if_neg (show ¬ m < k by omega)]
  by_cases q : j = n
  · subst q; rw [if_pos rfl, if_neg (by omega), if_neg (by omega), if_pos rfl]
  · rw [if_neg q, if_pos (by omega)]
theorem iniA_be {i k : Nat} (hi : i < m + 1) (hk : k < m + 1) : iniA m n R B C ((ini m n R B C).be i) k = unit (-1) i k := by
  have be : (ini m n R B C).be i = if i = m then n + m + 1 else n + i := rfl
  unfold iniA
  rw [be, if_neg (show ¬ m < k by omega)]
  by_cases q : i = m
  · subst q; rw [if_pos rfl, if_neg (by omega), if_neg (by omega), if_neg (by omega)]
    unfold unit
    by_cases h : k = i
    · rw [if_pos h, if_pos h.symm]
    · rw [if_neg h, if_neg (Ne.symm h)]
  · rw [if_neg q, if_neg (by omega), if_pos (by omega)]
    unfold unit
    by_cases h : i = k
    · rw [if_pos (by omega), if_pos h]
    · rw [if_neg (by omega), if_neg h]
theorem ini_inv : Inv (ini m n R B C) (m + 1) (n + 1) (iniA m n R B C) := by
  refine ⟨(by decide : (0 : Int) < 1), fun j hj k => ?_, ?_⟩
  · by_cases hk : k < m + 1
    · show 1 * iniA m n R B C ((ini m n R B C).fr j) k + (sm (m + 1) fun i => (ini m n R B C).T i j * iniA m n R B C ((ini m n R B C).be i) k) = 0
      rw [iniA_fr hj hk, sm_one hk fun i hi q => by rw [iniA_be hi hk]; unfold unit; rw [if_neg q]; simp, iniA_be hk hk]
      unfold unit
      rw [if_pos rfl]
      omega
    · show 1 * iniA m n R B C ((ini m n R B C).fr j) k + (sm (m + 1) fun i => (ini m n R B C).T i j * iniA m n R B C ((ini m n R B C).be i) k) = 0
      have z : ∀ v, iniA m n R B C v k = 0 := fun v => if_pos (by omega)
      rw [z, sm_zero fun i _ => by rw [z]; simp]
      rfl
  · refine ⟨(-1) ^ (m + 1), ?_, ?_⟩
    · have : ∀ k : Nat, (-1 : Int) ^ k = 1 ∨ (-1 : Int) ^ k = -1 := fun k => by
        induction k with
        | zero => exact .inl rfl
        | succ k ih => rw [Int.pow_succ]; rcases ih with h | h <;> rw [h]; exact .inr rfl; exact .inl rfl
      exact this _
    · have e : det (m + 1) (bas (ini m n R B C) (iniA m n R B C)) = (-1) ^ (m + 1) := by
        rw [← det_unit]
        exact det_congr fun i k hi hk => iniA_be hi hk
      rw [e]
      have : ∀ k : Nat, (-1 : Int) ^ k * (-1 : Int) ^ k = 1 := fun k => by
        rw [← Int.mul_pow]
        exact Int.one_pow
      exact (this _).symm
/-- entries' bound -/
theorem iniA_bd {b : Nat} (h1 : 1 ≤ b) (hR : ∀ i j, i < m → j < n → (R i j).natAbs ≤ b) (hB : ∀ i, i < m → (B i).natAbs ≤ b) (hC : ∀ j, j < n → (C j).natAbs ≤ b) (v k : Nat) : (iniA m n R B C v k).natAbs ≤ b := by
  have T : ∀ i j, (ini m n R B C).T i j = if i < m then (if j < n then R i j else -B i) else if j < n then C j else 0 := fun _ _ => rfl
  have hT : ∀ i j, ((ini m n R B C).T i j).natAbs ≤ b := fun i j => by
    rw [T]
    split
    · split
      · exact hR _ _ ‹_› ‹_›
      · rw [Int.natAbs_neg]; exact hB _ ‹_›
    · split
      · exact hC _ ‹_›
      · exact Nat.zero_le _
  unfold iniA
  split
  · exact Nat.zero_le _
  split
  · exact hT _ _
  split
  · split <;> first | exact h1 | exact Nat.zero_le _
  split
  · exact hT _ _
  split <;> first | exact h1 | exact Nat.zero_le _
theorem ini_good (hC : ∀ j, j < n → 0 ≤ C j) : Good (ini m n R B C) m n (n + m) (iniA m n R B C) := by
  refine ⟨ini_inv, ini_dj, fun j hj => ?_⟩
  show 0 ≤ if m < m then (if j < n then R m j else -B m) else if j < n then C j else 0
  rw [if_neg (by omega), if_pos hj]
  exact hC j hj
/-! ## what the end says -/
structure Sol (m n : Nat) (R : Nat → Nat → Int) (B : Nat → Int) (w : Int) (x : Nat → Int) : Prop where
  w0 : 0 < w
  x0 : ∀ j, j < n → 0 ≤ x j
  ge : ∀ i, i < m → B i * w ≤ sm n fun j => R i j * x j
structure Mir (m n : Nat) (R : Nat → Nat → Int) (B : Nat → Int) (u : Nat → Int) : Prop where
  u0 : ∀ k, k < m → 0 ≤ u k
  gt : 0 < sm m fun k => u k * B k
  le : ∀ j, j < n → (sm m fun k => u k * R k j) ≤ 0
/-- a system has not both -/
theorem sol_mir {w : Int} {x u : Nat → Int} (S : Sol m n R B w x) (U : Mir m n R B u) : False := by
  have h1 : (sm m fun k => u k * (B k * w)) ≤ sm m fun k => u k * sm n fun j => R k j * x j := by
    have : 0 ≤ sm m fun k => u k * (sm n (fun j => R k j * x j) - B k * w) := sm_nonneg fun k hk => Int.mul_nonneg (U.u0 k hk) (by have := S.ge k hk; omega)
    have e : (sm m fun k => u k * (sm n (fun j => R k j * x j) - B k * w)) = (sm m fun k => u k * sm n fun j => R k j * x j) - sm m fun k => u k * (B k * w) := by
      rw [← sm_sub]; exact sm_congr fun k _ => Int.mul_sub _ _ _
    omega
  have h2 : (sm m fun k => u k * (B k * w)) = w * sm m fun k => u k * B k := by
    rw [← sm_mul]; exact sm_congr fun k _ => by rw [Int.mul_comm (B k), Int.mul_left_comm]
  have h3 : (sm m fun k => u k * sm n fun j => R k j * x j) = sm n fun j => x j * sm m fun k => u k * R k j := by
    have e1 : (sm m fun k => u k * sm n fun j => R k j * x j) = sm m fun k => sm n fun j => u k * (R k j * x j) := sm_congr fun k _ => by rw [← sm_mul]
    have e2 : (sm n fun j => x j * sm m fun k => u k * R k j) = sm n fun j => sm m fun k => u k * (R k j * x j) := sm_congr fun j _ => by
      rw [← sm_mul]; exact sm_congr fun k _ => by simp only [Int.mul_left_comm, Int.mul_comm]
    rw [e1, e2, sm_swap]
  have h4 : (sm n fun j => x j * sm m fun k => u k * R k j) ≤ 0 := sm_nonpos fun j hj => by
    have := Int.mul_nonneg (S.x0 j hj) (show 0 ≤ -(sm m fun k => u k * R k j) by have := U.le j hj; omega)
    rw [Int.mul_neg] at this; omega
  have h5 := Int.mul_pos S.w0 U.gt
  omega
/-- the first equations: the slacks -/
theorem eqs_ini {y : Nat → Int} : Eqs (ini m n R B C) (m + 1) (n + 1) y ↔ (∀ i, i < m → y (n + i) = (sm n fun j => R i j * y j) - B i * y (n + m)) ∧ y (n + m + 1) = sm n fun j => C j * y j := by
  have w : (ini m n R B C).w = 1 := rfl
  have T : ∀ i j, (ini m n R B C).T i j = if i < m then (if j < n then R i j else -B i) else if j < n then C j else 0 := fun _ _ => rfl
  have be : ∀ i, (ini m n R B C).be i = if i = m then n + m + 1 else n + i := fun _ => rfl
  have fr : ∀ j, (ini m n R B C).fr j = if j = n then n + m else j := fun _ => rfl
  have s : ∀ i, (sm (n + 1) fun j => (ini m n R B C).T i j * y ((ini m n R B C).fr j)) = (sm n fun j => (if i < m then R i j else C j) * y j) + (if i < m then -B i else 0) * y (n + m) := fun i => by
    show (sm n fun j => (ini m n R B C).T i j * y ((ini m n R B C).fr j)) + (ini m n R B C).T i n * y ((ini m n R B C).fr n) = _
    rw [sm_congr (g := fun j => (if i < m then R i j else C j) * y j) fun j hj => by rw [fr, if_neg (by omega), T, if_pos hj, if_pos hj], fr, if_pos rfl, T, if_neg (Nat.lt_irrefl n), if_neg (Nat.lt_irrefl n)]
  constructor
  · intro h
    constructor
    · intro i hi
      have := h i (by omega)
      rw [w, be, if_neg (by omega), s, if_pos hi, sm_congr (g := fun j => R i j * y j) fun j _ => by rw [if_pos hi], Int.neg_mul] at this
      omega
    · have := h m (by omega)
      rw [w, be, if_pos rfl, s, if_neg (Nat.lt_irrefl m), sm_congr (g := fun j => C j * y j) fun j _ => by rw [if_neg (Nat.lt_irrefl m)], Int.zero_mul] at this
      omega
  · intro ⟨h1, h2⟩ i hi
    by_cases q : i < m
    · rw [w, be, if_neg (by omega), s, if_pos q, sm_congr (g := fun j => R i j * y j) fun j _ => by rw [if_pos q], h1 i q, Int.neg_mul]
      omega
    · obtain rfl : i = m := by omega
      rw [w, be, if_pos rfl, s, if_neg q, sm_congr (g := fun j => C j * y j) fun j _ => by rw [if_neg q], h2, Int.zero_mul]
      omega
/-- dictionaries that pivots make of the first one -/
structure From (D : Dic) (m n : Nat) (R : Nat → Nat → Int) (B C : Nat → Int) : Prop where
  G : Good D m n (n + m) (iniA m n R B C)
  E : ∀ y, Eqs D (m + 1) (n + 1) y ↔ Eqs (ini m n R B C) (m + 1) (n + 1) y
theorem From.ini (hC : ∀ j, j < n → 0 ≤ C j) : From (ini m n R B C) m n R B C := ⟨ini_good hC, fun _ => Iff.rfl⟩
theorem From.piv {D : Dic} {r c : Nat} (F : From D m n R B C) (U : Rul D m n r c) : From (D.piv r c) m n R B C := ⟨F.G.piv U, fun y => (F.G.eqs U y).trans (F.E y)⟩
theorem From.acc {D : Dic} (F : From D m n R B C) : Acc (Rel m n) D := by
  -- some bound of all entries
  have key : ∀ (f : Nat → Int) (k : Nat), ∃ b : Nat, ∀ i, i < k → (f i).natAbs ≤ b := fun f k => by
    induction k with
    | zero => exact ⟨0, fun i hi => by omega⟩
    | succ k ih =>
      obtain ⟨b, hb⟩ := ih
      refine ⟨max b (f k).natAbs, fun i hi => ?_⟩
      by_cases q : i = k
      · subst q; omega
      · have := hb i (by omega); omega
  obtain ⟨b2, h2⟩ := key B m
  obtain ⟨b3, h3⟩ := key C n
  have key2 : ∀ k, ∃ b : Nat, ∀ i j, i < k → j < n → (R i j).natAbs ≤ b := fun k => by
    induction k with
    | zero => exact ⟨0, fun i j hi => by omega⟩
    | succ k ih =>
      obtain ⟨b, hb⟩ := ih
      obtain ⟨b', hb'⟩ := key (R k) n
      refine ⟨max b b', fun i j hi hj => ?_⟩
      by_cases q : i = k
      · subst q; have := hb' j hj; omega
      · have := hb i j (by omega) hj; omega
  obtain ⟨b1, h1⟩ := key2 m
  exact F.G.acc (b := b1 + b2 + b3 + 1) fun v k _ => iniA_bd (by omega) (fun i j hi hj => by have := h1 i j hi hj; omega) (fun i hi => by have := h2 i hi; omega) (fun j hj => by have := h3 j hj; omega) v k
/-- all starts from 0 on: the point -/
theorem From.sol {D : Dic} (F : From D m n R B C) (h : ∀ i, i < m → 0 ≤ D.T i n) : Sol m n R B D.w (pt D m n (n + m)) := by
  have y0 : ∀ v, v < n + m → 0 ≤ pt D m n (n + m) v := fun v hv => by
    by_cases q : ∃ i, i < m ∧ D.be i = v
    · obtain ⟨i, hi, rfl⟩ := q; rw [pt_be F.G.J hi]; exact h i hi
    · rw [pt_no (fun i hi e => q ⟨i, hi, e⟩) hv]; exact Int.le_refl 0
  have e := (eqs_ini.mp ((F.E _).mp (pt_eqs F.G.J))).1
  refine ⟨F.G.I.pos, fun j hj => y0 j (by omega), fun i hi => ?_⟩
  have := e i hi
  have a := y0 (n + i) (by omega)
  have v : pt D m n (n + m) (n + m) = D.w := if_pos rfl
  rw [v] at this
  omega
/-- and its cost is the least one -/
theorem From.least {D : Dic} (F : From D m n R B C) {w : Int} {x : Nat → Int} (S : Sol m n R B w x) : D.T m n * w ≤ D.w * sm n fun j => C j * x j := by
  have hx : ∃ y : Nat → Int, (∀ j, j < n → y j = x j) ∧ y (n + m) = w ∧ (∀ i, i < m → y (n + i) = (sm n fun j => R i j * x j) - B i * w) ∧ y (n + m + 1) = sm n fun j => C j * x j :=
    ⟨fun v => if v < n then x v else if v < n + m then (sm n fun j => R (v - n) j * x j) - B (v - n) * w else if v = n + m then w else sm n fun j => C j * x j,
      fun j hj => if_pos hj, by show (if _ then _ else _) = _; rw [if_neg (by omega), if_neg (by omega), if_pos rfl],
      fun i hi => by show (if _ then _ else _) = _; rw [if_neg (by omega), if_pos (by omega), show n + i - n = i by omega],
      by show (if _ then _ else _) = _; rw [if_neg (by omega), if_neg (by omega), if_neg (by omega)]⟩
  obtain ⟨y, y1, y2, y3, y4⟩ := hx
  have e : Eqs (Sv.ini m n R B C) (m + 1) (n + 1) y := eqs_ini.mpr ⟨fun i hi => by rw [y3 i hi, y2]; congr 1; exact sm_congr fun j hj => by rw [y1 j hj], by rw [y4]; exact sm_congr fun j hj => by rw [y1 j hj]⟩
  have z := (F.E y).mpr e m (by omega)
  rw [F.G.J.bz, y4] at z
  have z2 : (sm (n + 1) fun j => D.T m j * y (D.fr j)) = (sm n fun j => D.T m j * y (D.fr j)) + D.T m n * y (D.fr n) := rfl
  rw [z2, F.G.J.fc, y2] at z
  have : 0 ≤ sm n fun j => D.T m j * y (D.fr j) := sm_nonneg fun j hj => by
    refine Int.mul_nonneg (F.G.C j hj) ?_
    have hv := F.G.J.fV j hj
    by_cases q : D.fr j < n
    · rw [y1 _ q]; exact S.x0 _ q
    · have := S.ge (D.fr j - n) (by omega)
      have y3' := y3 (D.fr j - n) (by omega)
      rw [show n + (D.fr j - n) = D.fr j by omega] at y3'
      omega
  omega
/-- the mirror of a row that cannot be kept -/
def mir (D : Dic) (n r k : Nat) : Int := (if D.be r = n + k then D.w else 0) + sm n fun j => if D.fr j = n + k then -D.T r j else 0
theorem mir_sum {D : Dic} (J : Dj D m n (n + m)) {r : Nat} (hr : r < m) (y : Nat → Int) : (sm m fun k => mir D n r k * y (n + k)) = (if n ≤ D.be r then D.w * y (D.be r) else 0) + sm n fun j => if n ≤ D.fr j then -D.T r j * y (D.fr j) else 0 := by
  have pick : ∀ (v : Nat) (c : Int), v < n + m → (sm m fun k => (if v = n + k then c else 0) * y (n + k)) = if n ≤ v then c * y v else 0 := fun v c hv => by
    by_cases q : n ≤ v
    · rw [if_pos q, sm_one (k := v - n) (by omega) fun k hk h => by rw [if_neg (by omega)]; simp, if_pos (by omega), show n + (v - n) = v by omega]
    · rw [if_neg q]; exact sm_zero fun k hk => by rw [if_neg (by omega)]; simp
  have e : (sm m fun k => mir D n r k * y (n + k)) = (sm m fun k => (if D.be r = n + k then D.w else 0) * y (n + k)) + sm n fun j => sm m fun k => (if D.fr j = n + k then -D.T r j else 0) * y (n + k) := by
    rw [sm_swap n m, ← sm_add]
    refine sm_congr fun k _ => ?_
    unfold mir
    rw [Int.add_mul]
    congr 1
    rw [Int.mul_comm, ← sm_mul]
    exact sm_congr fun j _ => Int.mul_comm _ _
  rw [e, pick _ _ (J.bV r hr)]
  congr 1
  exact sm_congr fun j hj => pick _ _ (J.fV j hj)
theorem From.mirror {D : Dic} {r : Nat} (F : From D m n R B C) (hr : r < m) (hs : D.T r n < 0) (h : ∀ j, j < n → D.T r j ≤ 0) : Mir m n R B (mir D n r) := by
  -- for every point of the equations
  have key : ∀ y : Nat → Int, Eqs (Sv.ini m n R B C) (m + 1) (n + 1) y → (sm m fun k => mir D n r k * y (n + k)) = D.T r n * y (n + m) - (if n ≤ D.be r then 0 else D.w * y (D.be r)) + sm n fun j => if n ≤ D.fr j then 0 else D.T r j * y (D.fr j) := fun y hy => by
    have e := (F.E y).mpr hy r (by omega)
    have e2 : (sm (n + 1) fun j => D.T r j * y (D.fr j)) = (sm n fun j => D.T r j * y (D.fr j)) + D.T r n * y (D.fr n) := rfl
    rw [e2, F.G.J.fc] at e
    rw [mir_sum F.G.J hr]
    have s : (sm n fun j => if n ≤ D.fr j then -D.T r j * y (D.fr j) else 0) = (sm n fun j => if n ≤ D.fr j then 0 else D.T r j * y (D.fr j)) - sm n fun j => D.T r j * y (D.fr j) := by
      rw [← sm_sub]
      exact sm_congr fun j _ => by
        by_cases q : n ≤ D.fr j
        · rw [if_pos q, if_pos q, Int.neg_mul]; omega
        · rw [if_neg q, if_neg q]; omega
    rw [s]
    by_cases q : n ≤ D.be r
    · rw [if_pos q, if_pos q]; omega
    · rw [if_neg q, if_neg q]; omega
  have mk : ∀ (x : Nat → Int) (c : Int), ∃ y : Nat → Int, (∀ j, j < n → y j = x j) ∧ y (n + m) = c ∧ (∀ i, i < m → y (n + i) = (sm n fun j => R i j * x j) - B i * c) ∧ Eqs (Sv.ini m n R B C) (m + 1) (n + 1) y := fun x w => by
    refine ⟨fun v => if v < n then x v else if v < n + m then (sm n fun j => R (v - n) j * x j) - B (v - n) * w else if v = n + m then w else sm n fun j => C j * x j,
      fun j hj => if_pos hj, by show (if _ then _ else _) = _; rw [if_neg (by omega), if_neg (by omega), if_pos rfl],
      fun i hi => by show (if _ then _ else _) = _; rw [if_neg (by omega), if_pos (by omega), show n + i - n = i by omega], ?_⟩
    refine eqs_ini.mpr ⟨fun i hi => ?_, ?_⟩
    · show (if _ then _ else _) = _
      rw [if_neg (by omega), if_pos (by omega), show n + i - n = i by omega]
      congr 1
      · exact sm_congr fun j hj => by rw [if_pos hj]
      · congr 1; show _ = if _ then _ else _; rw [if_neg (by omega), if_neg (by omega), if_pos rfl]
    · show (if _ then _ else _) = _
      rw [if_neg (by omega), if_neg (by omega), if_neg (by omega)]
      exact sm_congr fun j hj => by rw [if_pos hj]
  refine ⟨fun k hk => ?_, ?_, fun q hq => ?_⟩
  · unfold mir
    have h1 : 0 ≤ if D.be r = n + k then D.w else 0 := by split; exact Int.le_of_lt F.G.I.pos; exact Int.le_refl 0
    have h2 : 0 ≤ sm n fun j => if D.fr j = n + k then -D.T r j else 0 := sm_nonneg fun j hj => by
      split
      · have := h j hj; omega
      · exact Int.le_refl 0
    omega
  · obtain ⟨y, y1, y2, y3, hy⟩ := mk (fun _ => 0) 1
    have e := key y hy
    have s0 : ∀ i, (sm n fun j => R i j * (0 : Int)) = 0 := fun i => sm_zero fun j _ => by simp
    have e1 : (sm m fun k => mir D n r k * y (n + k)) = -sm m fun k => mir D n r k * B k := by
      rw [← sm_neg]; exact sm_congr fun k hk => by rw [y3 k hk, s0, Int.mul_one, Int.zero_sub, Int.mul_neg]
    have e2 : (if n ≤ D.be r then (0 : Int) else D.w * y (D.be r)) = 0 := by
      by_cases q : n ≤ D.be r
      · rw [if_pos q]
      · rw [if_neg q, y1 _ (by omega)]; simp
    have e3 : (sm n fun j => if n ≤ D.fr j then (0 : Int) else D.T r j * y (D.fr j)) = 0 := sm_zero fun j hj => by
      by_cases q : n ≤ D.fr j
      · rw [if_pos q]
      · rw [if_neg q, y1 _ (by omega)]; simp
    rw [e1, e2, e3, y2] at e
    omega
  · obtain ⟨y, y1, y2, y3, hy⟩ := mk (fun j => if j = q then 1 else 0) 0
    have e := key y hy
    have s1 : ∀ i, (sm n fun j => R i j * (if j = q then (1 : Int) else 0)) = R i q := fun i => by
      rw [sm_one hq fun j _ hj => by rw [if_neg hj]; simp, if_pos rfl]; simp
    have e1 : (sm m fun k => mir D n r k * y (n + k)) = sm m fun k => mir D n r k * R k q := sm_congr fun k hk => by rw [y3 k hk, s1]; simp
    have e2 : 0 ≤ if n ≤ D.be r then (0 : Int) else D.w * y (D.be r) := by
      by_cases q' : n ≤ D.be r
      · rw [if_pos q']; exact Int.le_refl 0
      · rw [if_neg q', y1 _ (by omega)]
        split
        · have := F.G.I.pos; omega
        · simp
    have e3 : (sm n fun j => if n ≤ D.fr j then (0 : Int) else D.T r j * y (D.fr j)) ≤ 0 := sm_nonpos fun j hj => by
      by_cases q' : n ≤ D.fr j
      · rw [if_pos q']; exact Int.le_refl 0
      · rw [if_neg q', y1 _ (by omega)]
        split
        · have := h j hj; omega
        · simp
    rw [e1, y2] at e
    omega
end
end Sv
/-! # Runs of the rule -/
namespace Sv
/-- the rule stops here -/
def Trm (D : Dic) (m n : Nat) : Prop := (∀ i, i < m → 0 ≤ D.T i n) ∨ ∃ r, r < m ∧ D.T r n < 0 ∧ (∀ i, i < m → D.T i n < 0 → D.be r ≤ D.be i) ∧ ∀ j, j < n → D.T r j ≤ 0
inductive Runs (m n : Nat) : Dic → Dic → Prop
  | stop {D : Dic} : Trm D m n → Runs m n D D
  | step {D E : Dic} {r c : Nat} : Rul D m n r c → Runs m n (D.piv r c) E → Runs m n D E
def EndsIn (m n : Nat) : Nat → Dic → Prop
  | 0, D => ∀ r c, ¬ Rul D m n r c
  | k + 1, D => ∀ r c, Rul D m n r c → EndsIn m n k (D.piv r c)
section
variable {m n V : Nat} {D E E' : Dic} {a : Nat → Nat → Int}
theorem rul_uniq (J : Dj D m n V) {r c r' c' : Nat} (U : Rul D m n r c) (W : Rul D m n r' c') : r = r' ∧ c = c' := by
  have e1 := U.least r' W.hr W.neg
  have e2 := W.least r U.hr U.neg
  obtain rfl := J.bi r r' U.hr W.hr (by omega)
  refine ⟨rfl, ?_⟩
  have a1 := U.ratio c' W.hc W.pos
  have a2 := W.ratio c U.hc U.pos
  have b1 := U.tie c' W.hc W.pos (by omega)
  have b2 := W.tie c U.hc U.pos (by omega)
  exact J.ff c c' U.hc W.hc (by omega)
theorem ends_in (G : Good D m n V a) (h : Acc (Rel m n) D) : ∃ k, EndsIn m n k D := by
  induction h with
  | intro D _ ih =>
    by_cases e : ∃ r c, Rul D m n r c
    · obtain ⟨r, c, U⟩ := e
      obtain ⟨k, hk⟩ := ih (D.piv r c) ⟨r, c, U, rfl⟩ (G.piv U)
      refine ⟨k + 1, fun r' c' U' => ?_⟩
      obtain ⟨rfl, rfl⟩ := rul_uniq G.J U U'
      exact hk
    · exact ⟨0, fun r c U => e ⟨r, c, U⟩⟩
theorem runs_from {R : Nat → Nat → Int} {B C : Nat → Int} (F : From D m n R B C) (h : Runs m n D E) : From E m n R B C := by
  induction h with
  | stop _ => exact F
  | step U _ ih => exact ih (F.piv U)
end
end Sv
namespace K04
open PySem PySem.Spec PyProof.Rows L2 Z Y
abbrev FnT (K : PySem.W.Frag) (x : Str) (st : Stmt) (f : Addr) (fd : FuncData) : Prop := FunD K x x (defArgs st) (defBody st) (defScope st) [] [] f fd
/-! ## data in short -/
def tI (l : List Int) : PyData := .tuple (l.map .int)
def lI (l : List Int) : PyData := .list (l.map .int)
def isNum (d : PyData) (l : Int) : Bool := match d with
  | .int i => decide (l ≤ i)
  | _ => false
def dotI (a b : List Int) : Int := ((a.zip b).map fun p => p.1 * p.2).sum
theorem map_all {α : Type} (f : α → Bool) (l : List α) : (l.map f).all (fun b => b) = l.all f := by
  induction l with
  | nil => rfl
  | cons a l ih => simp [List.map_cons, List.all_cons, ih]
theorem tI_zip (a b : List Int) : (a.map PyData.int).zip (b.map PyData.int) = (a.zip b).map fun p => (PyData.int p.1, PyData.int p.2) := by
  rw [List.zip_map]; rfl
def mulD (q : PyData × PyData) : Int := match q with
  | (.int x, .int y) => x * y
  | _ => 0
theorem zip_int (a b : List Int) : zipD (a.map PyData.int) (b.map PyData.int) = ((a.zip b).map fun p => (PyData.int p.1, PyData.int p.2)).map tupP := by
  rw [zipD_eq, tI_zip]
def kindN : PyData → Nat
  | .none => 0
  | .bool _ => 1
  | .int _ => 2
  | .str _ => 3
  | .list _ => 4
  | .tuple _ => 5
  | .dict _ => 6
def marksL (d : PyData) : List Bool := [decide (kindN d = 0), isD d "bool", isD d "int", isD d "str"] ++ [isD d "list", isD d "tuple", true]
theorem marks_at (d : PyData) : (marksL d)[kindN d]? = some true := by cases d <;> rfl
theorem marks_no (d : PyData) : ∀ m, m < kindN d → (marksL d)[m]? = some false := by
  cases d with
  | none => exact fun m h => absurd h (Nat.not_lt_zero _)
  | bool b => exact fun
    | 0, _ => rfl
    | m + 1, h => absurd (show m + 1 < 1 from h) (by omega)
  | int b => exact fun
    | 0, _ => rfl
    | 1, _ => rfl
    | m + 2, h => absurd (show m + 2 < 2 from h) (by omega)
  | str b => exact fun
    | 0, _ => rfl
    | 1, _ => rfl
    | 2, _ => rfl
    | m + 3, h => absurd (show m + 3 < 3 from h) (by omega)
  | list b => exact fun
    | 0, _ => rfl
    | 1, _ => rfl
    | 2, _ => rfl
    | 3, _ => rfl
    | m + 4, h => absurd (show m + 4 < 4 from h) (by omega)
  | tuple b => exact fun
    | 0, _ => rfl
    | 1, _ => rfl
    | 2, _ => rfl
    | 3, _ => rfl
    | 4, _ => rfl
    | m + 5, h => absurd (show m + 5 < 5 from h) (by omega)
  | dict b => exact fun
    | 0, _ => rfl
    | 1, _ => rfl
    | 2, _ => rfl
    | 3, _ => rfl
    | 4, _ => rfl
    | 5, _ => rfl
    | m + 6, h => absurd (show m + 6 < 6 from h) (by omega)
theorem dt_non {K : PySem.W.Frag} {d : PyData} {v : V} {S : Hp} (h : Dt K d v S) : decide (v = .non) = decide (kindN d = 0) := by
  cases h <;> rfl
/-- data without dicts, at most n deep -/
def Bd : Nat → PyData → Prop
  | _, .none => True
  | _, .bool _ => True
  | _, .int _ => True
  | _, .str _ => True
  | 0, .list _ => False
  | 0, .tuple _ => False
  | n + 1, .list xs => ∀ x ∈ xs, Bd n x
  | n + 1, .tuple xs => ∀ x ∈ xs, Bd n x
  | _, .dict _ => False
theorem zip_self (xs : List PyData) : xs.zip xs = xs.map fun x => (x, x) := by
  induction xs with
  | nil => rfl
  | cons a l ih => simp [ih]
section
variable {P : Program} {w : World} {K : PySem.W.Frag} {mg : Str → Option Value} {base : Heap} {f : Addr} {fd : FuncData}
def FisNumber : List PyData → PyData → Prop := fun ds r => ∃ d l, ds = [d, .int l] ∧ r = .bool (isNum d l)
theorem sc_is_number : FnScope ["value", "least"] ["value", "least"] (defScope sis_number) := ⟨rfl, rfl, rfl, by decide +kernel, rfl, by decide +kernel, by decide +kernel⟩
theorem ok_is_number (F : FnT K "is_number" sis_number f fd) (g1 : mg "isinstance" = none) (g2 : mg "int" = none) (g3 : mg "bool" = none) : FnOk P w K mg base CX0 1 f fd ["value", "least"] (spD K FisNumber) := by
  refine fn_hs F sc_is_number (fun vs H Q E h => ?_) (fun cdv A outer sh H vs Q E hr h => ?_)
  · obtain ⟨S, ds, d, _, hd, ⟨_, _, rfl, _⟩, _⟩ := h
    exact hd.1
  · obtain ⟨S, ds, r, s, hd, ⟨d, l, rfl, rfl⟩, q⟩ := h
    obtain ⟨v1, v2, rfl, p1, p2⟩ := hd.two
    refine hs_ret ((ee_and (ee_isi (isD_ok d (T := "int") (by simp)) g1 g2 boot_int (ee_var 0 rfl p1)) fun h1 =>
      ee_and (ee_not (ee_isi (isD_ok d (T := "bool") (by simp)) g1 g3 boot_bool (ee_var 0 rfl p1))) fun h2 => ee_one (P := Dt K (.bool (isNum d l))) ?_).isd ?_) s q
    · cases d <;> first | (exact ee_ge (ee_var 0 rfl p1) (ee_var 1 rfl p2)) | (exfalso; simp [isDi, isDb] at h1 h2; done)
    · cases d <;> rfl
def spOpen0 (K : PySem.W.Frag) : Sp := fun vs H Q _ => ∃ (a : Addr) (ns : List Int), vs = [.ref a] ∧ SqL K H a (ns.map V.int) ∧ ns.length ≤ 63 ∧ ∀ (b c : Addr) (ms : List Int) (k : Int) (H' : Hp), H b = none → H c = none → b ≠ c → Same H H' → ms.length ≤ 63 → 0 ≤ k → k < 100000 →
  H' c = some (.lst (ms.map V.int)) → H' b = some (.lst [.ref c, .int 0, .int 0, .int k, .int 0]) → Q (.ref b) H'
def spOpen (K : PySem.W.Frag) : Sp := fun vs H Q _ => ∃ (a : Addr) (ns : List Int), vs = [.ref a] ∧ SqL K H a (ns.map V.int) ∧ ns.length ≤ 63 ∧ ∀ v H', Same H H' → BX v H' → Q v H'
theorem scL_open : FnScope ["_law_script"] ["_law_script"] (defScope sL_open) := ⟨rfl, rfl, rfl, by decide +kernel, rfl, by decide +kernel, by decide +kernel⟩
theorem cut_ints (ns : List Int) (k : Nat) : cutV (ns.map V.int) none (some (k : Int)) = (ns.take k).map V.int := by
  unfold cutV
  rw [HT.sIx_none, HT.sIx_nat, List.drop_zero, List.map_take, Nat.sub_zero]
  by_cases h : k ≤ (ns.map V.int).length
  · rw [Nat.min_eq_left h]
  · rw [Nat.min_eq_right (by omega), List.take_of_length_le (Nat.le_refl _), List.take_of_length_le (by omega)]
theorem ok_L_open0 (F : FnT K "_law_open" sL_open f fd) (g1 : mg "list" = none) (g2 : mg "len" = none) : FnOk P w K mg base CX0 1 f fd ["_law_script"] (spOpen0 K) := by
  refine fn_hs F scL_open (fun vs H Q E h => ?_) (fun cdv A outer sh H vs Q E hr h => ?_)
  · obtain ⟨a, ns, rfl, _⟩ := h
    rfl
  · obtain ⟨a, ns, rfl, hS, hl, q⟩ := h
    refine hs_cons (ps_ret (pe_lst (pa_cons (pe_callTy call_list_of (by rfl) g1 boot_list (pa_cons (pe_slice sl_list (pv 0) po_none (po_some pe_int)) pa_nil)) (pa_cons pe_int (pa_cons pe_int (pa_cons (pe_op op_add pe_int (pe_op op_mul pe_int (pe_callB call_len_seq (by rfl) g2 PySem.boot_len (pa_cons (pv 0) pa_nil)))) (pa_cons pe_int pa_nil))))))) ?_
    refine ⟨_, rfl, _, rfl, a, _, rfl, hS, fun p hp => ⟨p, _, rfl, .inl (sql_of upd_same), fun c hc => ?_⟩⟩
    have s1 : Same H (upd H p (.lst (cutV (ns.map V.int) none (some 63)))) := Same.new hp
    have hcp : p ≠ c := ne_of_none upd_same hc
    have hc0 : H c = none := s1.free hc
    have s2 := s1.trans (Same.new (o := .lst (cutV (ns.map V.int) none (some 63))) hc)
    refine ⟨_, rfl, a, _, rfl, .inl (sql_up s2 hS), 7, ((ns.map V.int).length : Int), rfl, rfl, .inl (by decide), 12016, 7 * ((ns.map V.int).length : Int), rfl, rfl, (by show 5 ≤ 16777216; decide), fun b hb => ?_⟩
    have hbc : b ≠ c := (ne_of_none upd_same hb).symm
    rw [List.length_map]
    refine q b c (ns.take 63) _ _ (s2.free hb) hc0 hbc (s2.trans (Same.new hb)) (by rw [List.length_take]; omega) (by omega) (by omega) ?_ upd_same
    rw [upd_ne hbc.symm, upd_same]
    exact congrArg (fun l => some (HO.lst l)) (cut_ints ns 63)
theorem ok_L_open (F : FnT K "_law_open" sL_open f fd) (g1 : mg "list" = none) (g2 : mg "len" = none) : FnOk P w K mg base CX0 1 f fd ["_law_script"] (spOpen K) := by
  refine FnOk.close (ok_L_open0 F g1 g2) (fun vs H Q E h => by obtain ⟨a, ns, rfl, _⟩ := h; rfl) fun vs H Q E h => ?_
  obtain ⟨a, ns, rfl, hS, hl, q⟩ := h
  refine ⟨a, ns, rfl, hS, hl, fun b c ms k H' nb nc nbc sm hm k0 k1 hc hb => ⟨b, _, boxPhi b c, nb, hb, sm, fun h' o => box_of ⟨0, 0, k, 0, rfl, by omega, by omega, k0, by omega, by omega⟩ o, box_stab, ?_⟩⟩
  refine q _ _ (fun x o e => by rw [upd_ne (ne_of_none e nb)]; exact sm _ _ e) ⟨b, c, ms, rfl, nbc, upd_same, by rw [upd_ne nbc.symm]; exact hc, hm⟩
def spTake0 : Sp := fun vs H Q _ => ∃ (b c : Addr) (ns : List Int) (sz : Int) (xs : List V), vs = [.ref b, .int sz] ∧ b ≠ c ∧ H b = some (.lst xs) ∧ BoxV c xs ∧ H c = some (.lst (ns.map V.int)) ∧ ns.length ≤ 63 ∧ 0 < sz ∧ sz < 1073741824 ∧
  ∀ (n : Int) (H' : Hp) (ys : List V), 0 ≤ n → n < sz → (∀ a o, H a = some o → a ≠ b → H' a = some o) → H' b = some (.lst ys) → BoxV c ys → Q (.int n) H'
def Ftake : List PyData → (PyData → Prop) → Prop := fun ds G => ∃ sz, ds = [.int sz] ∧ 0 < sz ∧ sz < 1073741824 ∧ G = fun d => ∃ n, d = .int n ∧ 0 ≤ n ∧ n < sz
theorem scL_take : FnScope ["_law_box", "_law_size", "_law_cell", "_law_digit", "_law_seed"] ["_law_box", "_law_size"] (defScope sL_take) := ⟨rfl, rfl, rfl, by decide +kernel, rfl, by decide +kernel, by decide +kernel⟩
theorem bound_mod {x y : Int} (h : 0 < y) : 0 ≤ x % y ∧ x % y < y := ⟨Int.emod_nonneg x (by omega), Int.emod_lt_of_pos x h⟩
/-- the box at b in H', all else as in H -/
structure TkI (H : Hp) (b c : Addr) (H' : Hp) (i g m k : Int) : Prop where
  hb : H' b = some (.lst [.ref c, .int i, .int g, .int m, .int k])
  ot : ∀ a o, H a = some o → a ≠ b → H' a = some o
  i0 : 0 ≤ i
  g0 : 0 ≤ g
  m0 : 0 ≤ m
  m1 : m < 2147483648
  k0 : 0 ≤ k
theorem TkI.up {H : Hp} {b c : Addr} {H1 H2 : Hp} {i g m k : Int} (t : TkI H b c H1 i g m k) (s : Same H1 H2) : TkI H b c H2 i g m k := ⟨s _ _ t.hb, fun a o h n => s _ _ (t.ot a o h n), t.i0, t.g0, t.m0, t.m1, t.k0⟩
theorem TkI.put {H : Hp} {b c : Addr} {H1 : Hp} {i g m k i' g' m' k' : Int} (t : TkI H b c H1 i g m k) (xs : List V) (e : xs = [.ref c, .int i', .int g', .int m', .int k']) (a0 : 0 ≤ i') (a1 : 0 ≤ g') (a2 : 0 ≤ m') (a3 : m' < 2147483648) (a4 : 0 ≤ k') : TkI H b c (upd H1 b (.lst xs)) i' g' m' k' := by
  subst e
  exact ⟨upd_same, fun a o h n => by rw [upd_ne n]; exact t.ot a o h n, a0, a1, a2, a3, a4⟩
theorem small64' {z : Int} (h0 : 0 ≤ z) (h : z < 2147483648) : -(2 ^ 64) < z ∧ z < 2 ^ 64 := by
  have e : (2 : Int) ^ 64 = 18446744073709551616 := by decide
  omega
theorem ok_L_take0 (F : FnT K "_law_take" sL_take f fd) (g1 : mg "len" = none) (g2 : mg "int" = none) : FnOk P w K mg base CX0 1 f fd ["_law_box", "_law_size"] spTake0 := by
  refine fn_hs F scL_take (fun vs H Q E h => ?_) (fun cdv A outer sh H vs Q E hr h => ?_)
  · obtain ⟨b, c, ns, sz, xs, rfl, _⟩ := h
    rfl
  · obtain ⟨b, c, ns, sz, xs, rfl, hbc, hb, hx, hc, hl, z0, z1, q⟩ := h
    obtain ⟨i, g, m, k, rfl, i0, g0, m0, m1, k0⟩ := hx.ex
    have T0 : TkI H b c H i g m k := ⟨hb, fun a o h _ => h, i0, g0, m0, m1, k0⟩
    have eb : ∀ {σ : L2.St} {S : Hp} {pos : Pos}, σ[0]? = some (some (V.ref b)) → EE (cxOf CX0 P w K mg base ["_law_box", "_law_size", "_law_cell", "_law_digit", "_law_seed"] "_law_take" (defScope sL_take) f cdv A outer sh H E).nox σ S (.Name "_law_box" pos) (fun w _ => w = .ref b) := fun h => ee_var 0 h rfl
    have hnz : ns.length ≤ sizeLine := Nat.le_trans hl (by decide)
    have ec : ∀ {S : Hp} {i g m k : Int} {σ : L2.St} {p1 p2 p3 : Pos} {n : Nat}, TkI H b c S i g m k → σ[0]? = some (some (V.ref b)) → EE (cxOf CX0 P w K mg base ["_law_box", "_law_size", "_law_cell", "_law_digit", "_law_seed"] "_law_take" (defScope sL_take) f cdv A outer sh H E).nox σ S (.Subscript (.Name "_law_box" p1) (.Constant (.int 0) n p2) p3) (Dt K (lI ns)) := fun {S i g m k} _ _ _ _ _ T h =>
      ee_ixB T.hb (eb h) ee_int (v := .ref c) rfl fun S' s => Dt.lst_mk (s _ _ (T.ot _ _ hc hbc.symm)) (int_dts ns S') (by rw [List.length_map]; exact hnz)
    refine hs_ifR (S := H) (fun σ' H' => ∃ (v : Option V) (i g m k : Int), σ' = [some (.ref b), some (.int sz), v, none, none] ∧ TkI H b c H' i g m k)
      (et_w (ew_and (et_eqI (ee_ixB hb (eb rfl) ee_int (v := .int g) rfl fun _ _ => .int g) ee_int) fun _ => ew_and1 (et_lt (ee_ixB hb (eb rfl) ee_int (v := .int i) rfl fun _ _ => .int i) (ee_len g1 (n := ns.length) (by simp [lI, lenD]) (ec T0 rfl))))) (Same.refl H) (fun hk S1 H1 g1' => ?_) (fun hk S1 H1 g1' => hs_nil ⟨none, i, g, m, k, rfl, T0.up g1'.hh⟩) ?_
    · -- a cell is taken
      have hi : i < (ns.length : Int) := by
        have h2 := (Bool.and_eq_true_iff.mp hk).2
        exact of_decide_eq_true h2
      have T1 := T0.up g1'.hh
      have hget : atI (ns.map PyData.int) i = some (.int (ns[i.toNat]'(by omega))) := by
        unfold atI ixN
        rw [if_pos i0, List.length_map, if_pos hi]
        show (ns.map PyData.int)[i.toNat]? = _
        rw [List.getElem?_map, List.getElem?_eq_getElem (by omega)]
        rfl
      refine hs_set (S := H1) (i := 2) (ee_ixL hget (ec T1 rfl) (ee_ixB T1.hb (eb rfl) ee_int (v := .int i) rfl fun _ _ => .int i)) (Same.refl _) scL_take.nd fun v S2 H2 g2' pv => ?_
      cases pv
      have T2 := T1.up g2'.hh
      refine hs_setL (ee_add (ee_ixB T2.hb (eb rfl) ee_int (v := .int i) rfl fun _ _ => .int i) ee_int) (eb rfl) ee_int T2.hb (j := 1) rfl fun v H3 s3 pv => ?_
      cases pv
      have T3 := (T2.up s3).put ([.ref c, .int i, .int g, .int m, .int k].set 1 (.int (i + 1))) rfl (by omega) g0 m0 m1 k0
      refine hs_if (S := _) (et_ge (ee_var 2 rfl (Dt.int (K := K) _)) (ee_pow (by exact ⟨by decide, by decide, by decide⟩) ee_int ee_int)) (Same.refl _) (fun hk4 S4 H4 g4 => ?_) (fun hk4 S4 H4 g4 => ?_)
      · have T4 := T3.up g4.hh
        have hge := of_decide_eq_true hk4
        refine hs_setL (ee_var 2 rfl (Dt.int (K := K) _)) (eb rfl) ee_int T4.hb (j := 2) rfl fun v H5 s5 pv => hs_nil (hs_nil ?_)
        cases pv
        have e18 : (0 : Int) ≤ 10 ^ (18 : Int).toNat := by decide
        exact ⟨_, i + 1, _, m, k, rfl, (T4.up s5).put _ rfl (by omega) (by omega) m0 m1 k0⟩
      · have T4 := T3.up g4.hh
        have b1 := @bound_mod (ns[i.toNat]'(by omega)) 2147483497 (by decide)
        refine hs_setL (ee_mod (by decide) (ee_intOf g2 (ee_add (ee_add (ee_mulS (.inr (by decide)) (ee_ixB T4.hb (eb rfl) ee_int (v := .int m) rfl fun _ _ => .int m) ee_int) (ee_mulS (.inr (by decide)) (ee_mod (by decide) (ee_intOf g2 (ee_var 2 rfl (Dt.int (K := K) _))) ee_int) ee_int)) ee_int)) ee_int) (eb rfl) ee_int T4.hb (j := 3) rfl fun v H5 s5 pv => hs_nil (hs_nil ?_)
        cases pv
        have b2 := @bound_mod (m * 39119 + ns[i.toNat]'(by omega) % 2147483497 * 6143 + 53) 2147483563 (by decide)
        exact ⟨_, i + 1, g, _, k, rfl, (T4.up s5).put _ rfl (by omega) g0 b2.1 (by omega) k0⟩
    · rintro σ' H2 ⟨v, i, g, m, k, rfl, T2⟩
      have g0 := T2.g0
      have m0 := T2.m0
      refine hs_if (S := H2) (et_gt (ee_ixB T2.hb (eb rfl) ee_int (v := .int g) rfl fun _ _ => .int g) ee_int) (Same.refl _) (fun hk S3 H3 g3 => ?_) (fun hk S3 H3 g3 => hs_nil ?_)
      · have T3 := T2.up g3.hh
        refine hs_set (S := H3) (i := 3) (ee_mod z0 (ee_intOf g2 (ee_ixB T3.hb (eb rfl) ee_int (v := .int g) rfl fun _ _ => .int g)) (ee_var 1 rfl (Dt.int (K := K) sz))) (Same.refl _) scL_take.nd fun v S4 H4 g4 pv => ?_
        cases pv
        have T4 := T3.up g4.hh
        have b3 := @bound_mod g sz z0
        refine hs_setL (ee_fdiv (wide_div (b := 31) z0 (by omega) (by decide) (by decide)) (ee_ixB T4.hb (eb rfl) ee_int (v := .int g) rfl fun _ _ => .int g) (ee_var 1 rfl (Dt.int (K := K) sz))) (eb rfl) ee_int T4.hb (j := 2) rfl fun v H5 s5 pv => ?_
        cases pv
        have T5 := (T4.up s5).put ([.ref c, .int i, .int g, .int m, .int k].set 2 (.int (g / sz))) rfl T2.i0 (Int.ediv_nonneg g0 (by omega)) T2.m0 T2.m1 T2.k0
        refine hs_ret (S := _) (ee_var 3 rfl (Dt.int (K := K) _)) (Same.refl _) fun v S6 H6 g6 pv => ?_
        cases pv
        have T6 := T5.up g6.hh
        exact q _ H6 _ b3.1 b3.2 T6.ot T6.hb ⟨i, g / sz, m, k, rfl, T6.i0, T6.g0, T6.m0, T6.m1, T6.k0⟩
      · have T3 := T2.up g3.hh
        refine hs_setL (ee_add (ee_ixB T3.hb (eb rfl) ee_int (v := .int k) rfl fun _ _ => .int k) ee_int) (eb rfl) ee_int T3.hb (j := 4) rfl fun v H4 s4 pv => ?_
        cases pv
        have k0 := T3.k0
        have T4 := (T3.up s4).put ([.ref c, .int i, .int g, .int m, .int k].set 4 (.int (k + 1))) rfl T3.i0 T3.g0 T3.m0 T3.m1 (by omega)
        refine hs_set (S := _) (i := 4) (ee_ixB (P := Dt K (.int m)) T4.hb (eb rfl) ee_int (v := .int m) rfl fun _ _ => .int m) (Same.refl _) scL_take.nd fun v S5 H5 g5 pv => ?_
        cases pv
        have T5 := T4.up g5.hh
        refine hs_setL (ee_mod (by decide) (ee_intOf g2 (ee_add (ee_add (ee_add (ee_mulS (.inl (small64' m0 T2.m1)) (ee_var 4 rfl (Dt.int (K := K) m)) (ee_var 4 rfl (Dt.int (K := K) m))) (ee_mulS (.inr (by decide)) (ee_var 4 rfl (Dt.int (K := K) m)) ee_int)) (ee_mulS (.inr (by decide)) (ee_ixB T5.hb (eb rfl) ee_int (v := .int (k + 1)) rfl fun _ _ => .int (k + 1)) ee_int)) ee_int)) ee_int) (eb rfl) ee_int T5.hb (j := 3) rfl fun v H6 s6 pv => ?_
        cases pv
        have b2 := @bound_mod (m * m + m * 28411 + (k + 1) * 1500007 + 90001) 2147483587 (by decide)
        have T6 := (T5.up s6).put ([.ref c, .int i, .int g, .int m, .int (k + 1)].set 3 (.int ((m * m + m * 28411 + (k + 1) * 1500007 + 90001) % 2147483587))) rfl T5.i0 T5.g0 b2.1 (by omega) (by omega)
        refine hs_ret (S := _) (ee_mod z0 (ee_intOf g2 (ee_add (ee_fdiv (wide_div (b := 31) (by decide) (by decide) (by decide) (by decide)) (ee_ixB T6.hb (eb rfl) ee_int (P := Dt K (.int ((m * m + m * 28411 + (k + 1) * 1500007 + 90001) % 2147483587))) (v := .int ((m * m + m * 28411 + (k + 1) * 1500007 + 90001) % 2147483587)) rfl fun _ _ => .int _) ee_int) (ee_mulS (.inr (by decide)) (ee_mod (by decide) (ee_intOf g2 (ee_ixB T6.hb (eb rfl) ee_int (P := Dt K (.int ((m * m + m * 28411 + (k + 1) * 1500007 + 90001) % 2147483587))) (v := .int ((m * m + m * 28411 + (k + 1) * 1500007 + 90001) % 2147483587)) rfl fun _ _ => .int _)) ee_int) ee_int))) (ee_var 1 rfl (Dt.int (K := K) sz))) (Same.refl _) fun v S7 H7 g7 pv => ?_
        cases pv
        have T7 := T6.up g7.hh
        exact q _ H7 _ (bound_mod z0).1 (bound_mod z0).2 T7.ot T7.hb ⟨_, _, _, _, rfl, T7.i0, T7.g0, T7.m0, T7.m1, T7.k0⟩
theorem ok_L_take (F : FnT K "_law_take" sL_take f fd) (g1 : mg "len" = none) (g2 : mg "int" = none) : FnOk P w K mg base CX0 1 f fd ["_law_box", "_law_size"] (spB K Ftake) := by
  refine FnOk.box (ok_L_take0 F g1 g2) (fun vs H Q E h => ?_) fun vs H Q E h => ?_
  · obtain ⟨S, v, ws, ds, G, rfl, _, _, hd, ⟨sz, rfl, _⟩, _⟩ := h
    have := hd.1
    simp at this
    simp [this]
  · obtain ⟨S, v, ws, ds, G, rfl, s, ⟨b, c, ns, rfl, hbc, hb, hc, hl⟩, hd, ⟨sz, rfl, z0, z1, rfl⟩, q⟩ := h
    obtain ⟨u, rfl, pu⟩ := hd.one
    cases pu
    refine ⟨b, boxPhi b c, s _ _ hb, fun h p => ?_⟩
    obtain ⟨xs, hx, ox⟩ := of_box (P := P) (w := w) (H := H) p
    refine ⟨xs, ox, b, c, ns, sz, xs, rfl, hbc, upd_same, hx, by rw [upd_ne hbc.symm]; exact s _ _ hc, hl, z0, z1, fun n H' ys n0 n1 ot hy hys => ⟨ys, hy, fun h' o => box_of hys o, fun a o e ne => ot a o (by rw [upd_ne ne]; exact e) ne, ?_⟩⟩
    have sm : Same H (upd H' b (.ext (boxPhi b c))) := fun a o e => by
      by_cases ha : a = b
      · subst ha; rw [upd_same]; rw [s _ _ hb] at e; exact e
      · rw [upd_ne ha]; exact ot a o (by rw [upd_ne ha]; exact e) ha
    exact q (.int n) ⟨n, rfl, n0, n1⟩ _ S _ ⟨Same.refl S, s.trans sm, sm, fun _ _ _ _ => rfl⟩ (Dt.int n)
def Fone : List PyData → (PyData → Prop) → Prop := fun ds G => ∃ xs, ds = [.list xs] ∧ 0 < xs.length ∧ xs.length < 1073741824 ∧ G = fun d => d ∈ xs
theorem scL_one : FnScope ["_law_box", "_law_some"] ["_law_box", "_law_some"] (defScope sL_one) := ⟨rfl, rfl, rfl, by decide +kernel, rfl, by decide +kernel, by decide +kernel⟩
theorem ok_L_one (F : FnT K "_law_one" sL_one f fd) (D1 : KD P w K mg base "_law_take" 1 (spB K Ftake)) (g1 : mg "len" = none) : FnOk P w K mg base CX0 2 f fd ["_law_box", "_law_some"] (spB K Fone) := by
  refine fn_hs F scL_one (fun vs H Q E h => ?_) (fun cdv A outer sh H vs Q E hr h => ?_)
  · obtain ⟨S, v, ws, ds, G, rfl, _, _, hd, ⟨xs, rfl, _⟩, _⟩ := h
    have := hd.1
    simp at this
    simp [this]
  · obtain ⟨S, v, ws, ds, G, rfl, s, hb, hd, ⟨xs, rfl, z0, z1, rfl⟩, q⟩ := h
    obtain ⟨u, rfl, pu⟩ := hd.one
    refine hs_ret (ee_ixE (ee_var 1 rfl pu) ((ee_callBx D1 hr ⟨xs.length, rfl, by omega, by omega, rfl⟩ (ea_2 (ee_var 0 rfl hb) (ee_len g1 rfl (ee_var 1 rfl pu)))).exi fun d ⟨n, e, n0, n1⟩ => ⟨n, e, n0, n1⟩)) s ?_
    rintro v S' H' g ⟨d, hd, pd⟩
    exact q d hd v S' H' g pd
def Fkind : List PyData → PyData → Prop := fun ds r => ∃ d, ds = [d] ∧ r = .int (kindN d : Nat)
theorem scL_kind : FnScope ["_law_thing", "_law_marks"] ["_law_thing"] (defScope sL_kind) := ⟨rfl, rfl, rfl, by decide +kernel, rfl, by decide +kernel, by decide +kernel⟩
theorem ok_L_kind (F : FnT K "_law_kind" sL_kind f fd) (g1 : mg "isinstance" = none) (g2 : mg "bool" = none) (g3 : mg "int" = none) (g4 : mg "str" = none) (g5 : mg "list" = none) (g6 : mg "tuple" = none) : FnOk P w K mg base CX0 1 f fd ["_law_thing"] (spD K Fkind) := by
  refine fn_hs F scL_kind (fun vs H Q E h => ?_) (fun cdv A outer sh H vs Q E hr h => ?_)
  · obtain ⟨S, ds, d, _, hd, ⟨_, rfl, _⟩, _⟩ := h
    exact hd.1
  · obtain ⟨S, ds, r, s, hd, ⟨d, rfl, rfl⟩, q⟩ := h
    obtain ⟨v, rfl, p⟩ := hd.one
    refine hs_set (i := 1) (ee_lst (ds := [.bool (decide (kindN d = 0)), .bool (isD d "bool"), .bool (isD d "int"), .bool (isD d "str")]) (ea_cons (by rw [← dt_non p]; exact ee_isN (ee_var 0 rfl rfl)) (ea_cons (ee_isi (isD_ok d (T := "bool") (by simp)) g1 g2 boot_bool (ee_var 0 rfl p)) (ea_cons (ee_isi (isD_ok d (T := "int") (by simp)) g1 g3 boot_int (ee_var 0 rfl p)) (ea_cons (ee_isi (isD_ok d (T := "str") (by simp)) g1 g4 boot_str (ee_var 0 rfl p)) ea_nil))))) s scL_kind.nd fun m1 S1 H1 gr1 pm1 => ?_
    have p1 := p.up gr1.st
    refine hs_set (i := 1) (ee_catL (by show _ ≤ 16777216; exact Nat.le_of_ble_eq_true rfl) (ee_var 1 rfl pm1) (ee_lst (ds := [.bool (isD d "list"), .bool (isD d "tuple"), .bool true]) (ea_cons (ee_isi (isD_ok d (T := "list") (by simp)) g1 g5 boot_list (ee_var 0 rfl p1)) (ea_cons (ee_isi (isD_ok d (T := "tuple") (by simp)) g1 g6 boot_tuple (ee_var 0 rfl p1)) (ea_cons ee_bl ea_nil))))) gr1.sub scL_kind.nd fun m2 S2 H2 gr2 pm2 => ?_
    exact hs_ret (ee_indexT (bs := marksL d) (marks_at d) (marks_no d) (ee_var 1 rfl pm2) ee_bl) gr2.sub fun v S3 H3 gr3 pv => q v S3 H3 (gr1.trans (gr2.trans gr3)) pv
def Fsame (n : Nat) : List PyData → PyData → Prop := fun ds r => ∃ d, ds = [d, d] ∧ Bd n d ∧ r = .bool true
theorem scL_same : FnScope ["_law_found", "_law_due", "_law_a", "_law_b"] ["_law_found", "_law_due"] (defScope sL_same) := ⟨rfl, rfl, rfl, by decide +kernel, rfl, by decide +kernel, by decide +kernel⟩
theorem okL_same_all (xs : List PyData) : ((xs.zip xs).map fun _ => true).all (fun b => b) = true := by
  rw [List.all_eq_true]
  intro b hb
  obtain ⟨_, _, rfl⟩ := List.mem_map.mp hb
  rfl
theorem ok_L_same (F : FnT K "_law_same" sL_same f fd) (hm : mg "_law_same" = some (.ref f)) (hb : Binds K fd ["_law_found", "_law_due"] []) (D1 : KD P w K mg base "_law_kind" 1 (spD K Fkind)) (g1 : mg "len" = none) (g2 : mg "all" = none) (g3 : mg "zip" = none) : ∀ n : Nat, FnOk P w K mg base CX0 (n + 2) f fd ["_law_found", "_law_due"] (spD K (Fsame n)) := by
  have step : ∀ n : Nat, (∀ m, n = m + 1 → FnOk P w K mg base CX0 (m + 2) f fd ["_law_found", "_law_due"] (spD K (Fsame m))) → FnOk P w K mg base CX0 (n + 2) f fd ["_law_found", "_law_due"] (spD K (Fsame n)) := fun n ih => by
    refine fn_hs F scL_same (fun vs H Q E h => ?_) (fun cdv A outer sh H vs Q E hr h => ?_)
    · obtain ⟨S, ds, d, _, hd, ⟨_, rfl, _⟩, _⟩ := h
      exact hd.1
    · obtain ⟨S, ds, r, s, hd, ⟨d, rfl, hbd, rfl⟩, q⟩ := h
      obtain ⟨v1, v2, rfl, p1, p2⟩ := hd.two
      refine hs_ifN ((et_neI (ee_callD D1 (hr.mono (by omega)) ⟨d, rfl, rfl⟩ (ea_1 (ee_var 0 rfl p1))) (ee_callD D1 (hr.mono (by omega)) ⟨d, rfl, rfl⟩ (ea_1 (ee_var 1 rfl p2)))).is (by simp)) s fun S1 H1 g4 => ?_
      have p1 := p1.up g4.st
      have p2 := p2.up g4.st
      refine hs_if (et_inT (ns := [4, 5]) (ee_callD D1 (hr.mono (by omega)) ⟨d, rfl, rfl⟩ (ea_1 (ee_var 1 rfl p2))) (ee_tup (ds := [.int 4, .int 5]) (ea_2 ee_int ee_int))) g4.sub (fun hk S2 H2 g5 => ?_) (fun hk S2 H2 g5 => hs_nil ?_)
      · have p1 := p1.up g5.st
        have p2 := p2.up g5.st
        obtain ⟨m, rfl⟩ : ∃ m, n = m + 1 := by
          cases n with
          | zero => exfalso; cases d <;> first | (simp [kindN] at hk; done) | exact hbd
          | succ m => exact ⟨m, rfl⟩
        have D2 : KD P w K mg base "_law_same" (m + 2) (spD K (Fsame m)) := ⟨f, fd, _, ih m rfl, hm, F.kp, hb⟩
        cases d with
        | list xs =>
          have hz : xs.length ≤ sizeLine := by obtain ⟨l, ys, _, _, hx, z⟩ := p1.lst_inv; rw [← hx.1]; exact z
          refine hs_ret ((ee_and (ee_eqI (ee_len g1 rfl (ee_var 0 rfl p1)) (ee_len g1 rfl (ee_var 1 rfl p2))) fun _ => ee_one (ee_all (bs := (xs.zip xs).map fun _ => true) rfl g2
            (ee_lc2 (i := 2) (j := 3) (enc := .bool) (f := fun _ => true) rfl scL_same.nd (blkOk_by (N := ["_law_found", "_law_due", "_law_a", "_law_b"]) (sc := defScope sL_same) (by decide +kernel)) (by rw [← zipD_eq]; exact ei_zipL g3 (ee_var 0 rfl p1) (ee_var 1 rfl p2)) (by rw [zip_self, List.length_map]; exact hz) ?_))).isd ?_) g5.sub fun v S3 H3 g6 pv => q v S3 H3 (g4.trans (g5.trans g6)) pv
          · intro p hp v u S2 s2 pv pu sh' H0 C cl fp
            rw [zip_self] at hp
            obtain ⟨x, hx, rfl⟩ := List.mem_map.mp hp
            exact ee_callD D2 (hr.mono (by omega)) ⟨x, rfl, hbd x hx, rfl⟩ (ea_2 (ee_var 2 rfl pv) (ee_var 3 rfl pu))
          · rw [okL_same_all]; simp
        | tuple xs =>
          have hz : xs.length ≤ sizeLine := by obtain ⟨l, ys, _, _, hx, z⟩ := p1.tup_inv; rw [← hx.1]; exact z
          refine hs_ret ((ee_and (ee_eqI (ee_len g1 rfl (ee_var 0 rfl p1)) (ee_len g1 rfl (ee_var 1 rfl p2))) fun _ => ee_one (ee_all (bs := (xs.zip xs).map fun _ => true) rfl g2
            (ee_lc2 (i := 2) (j := 3) (enc := .bool) (f := fun _ => true) rfl scL_same.nd (blkOk_by (N := ["_law_found", "_law_due", "_law_a", "_law_b"]) (sc := defScope sL_same) (by decide +kernel)) (by rw [← zipD_eq]; exact ei_zipT g3 (ee_var 0 rfl p1) (ee_var 1 rfl p2)) (by rw [zip_self, List.length_map]; exact hz) ?_))).isd ?_) g5.sub fun v S3 H3 g6 pv => q v S3 H3 (g4.trans (g5.trans g6)) pv
          · intro p hp v u S2 s2 pv pu sh' H0 C cl fp
            rw [zip_self] at hp
            obtain ⟨x, hx, rfl⟩ := List.mem_map.mp hp
            exact ee_callD D2 (hr.mono (by omega)) ⟨x, rfl, hbd x hx, rfl⟩ (ea_2 (ee_var 2 rfl pv) (ee_var 3 rfl pu))
          · rw [okL_same_all]; simp
        | _ => exfalso; simp [kindN] at hk; done
      · have p1 := p1.up g5.st
        have p2 := p2.up g5.st
        have fin : ∀ b : Bool, b = true → ∀ v S3 H3, Gr S2 H2 S3 H3 → Dt K (.bool b) v S3 → Q v H3 := fun b hb v S3 H3 g6 pv => q v S3 H3 (g4.trans (g5.trans g6)) (hb ▸ pv)
        cases d with
        | none => exact hs_ret (ee_eq hr (by decide +kernel) (by decide +kernel) (ee_var 0 rfl p1) (ee_var 1 rfl p2)) g5.sub (fin _ rfl)
        | bool b => exact hs_ret (ee_eq hr (by cases b <;> decide +kernel) (by cases b <;> decide +kernel) (ee_var 0 rfl p1) (ee_var 1 rfl p2)) g5.sub (fin _ (by cases b <;> rfl))
        | int i => exact hs_ret (ee_eqI (ee_var 0 rfl p1) (ee_var 1 rfl p2)) g5.sub (fin _ (by simp))
        | str x => exact hs_ret (ee_eqS (ee_var 0 rfl p1) (ee_var 1 rfl p2)) g5.sub (fin _ (by simp))
        | list xs => exfalso; simp [kindN] at hk; done
        | tuple xs => exfalso; simp [kindN] at hk; done
        | dict xs => exfalso; cases n <;> exact hbd
  intro n
  induction n with
  | zero => exact step 0 fun m h => nomatch h
  | succ n ih => exact step (n + 1) fun m h => by cases h; exact ih
end
end K04
namespace K04
open PySem PySem.Spec PyProof.Rows L2 Z Y
def gcdI (l : List Int) : Nat := l.foldl (fun g x => Nat.gcd g x.natAbs) 0
def lowI (l : List Int) : List Int := l.map fun x => x / (max (gcdI l : Int) 1)
def Flowest : List PyData → PyData → Prop := fun ds r => ∃ l : List Int, (ds = [lI l] ∨ ds = [tI l]) ∧ r = lI (lowI l) ∧ l.length ≤ 1000 ∧ ∀ x ∈ l, x.natAbs < 2 ^ 8000
section
variable {P : Program} {w : World} {K : PySem.W.Frag} {mg : Str → Option Value} {base : Heap} {f : Addr} {fd : FuncData}
theorem sc_lowest : FnScope ["numbers", "common", "number", "rest"] ["numbers"] (defScope slowest) := ⟨rfl, rfl, rfl, by decide +kernel, rfl, by decide +kernel, by decide +kernel⟩
theorem gcd_turn (a b : Nat) : Nat.gcd b (a % b) = Nat.gcd a b := by
  rw [Nat.gcd_comm, ← Nat.gcd_rec, Nat.gcd_comm]
theorem gcdI_take (l : List Int) {i : Nat} (hi : i < l.length) : gcdI (l.take (i + 1)) = Nat.gcd (gcdI (l.take i)) (l[i]).natAbs := by
  unfold gcdI
  rw [take_snoc (List.getElem?_eq_getElem hi), List.foldl_append]
  rfl
theorem gcd_lt {l : List Int} (h : ∀ x ∈ l, x.natAbs < 2 ^ 8000) : gcdI l < 2 ^ 8000 := by
  unfold gcdI
  have key : ∀ (l : List Int) (g : Nat), g < 2 ^ 8000 → (∀ x ∈ l, x.natAbs < 2 ^ 8000) → l.foldl (fun g x => Nat.gcd g x.natAbs) g < 2 ^ 8000 := fun l => by
    induction l with
    | nil => intro g hg _; exact hg
    | cons a l ih =>
      intro g hg hl
      refine ih _ ?_ fun x hx => hl x (List.mem_cons_of_mem _ hx)
      by_cases h0 : g = 0
      · subst h0; show Nat.gcd 0 a.natAbs < 2 ^ 8000; rw [Nat.gcd_zero_left]; exact hl a (List.mem_cons_self ..)
      · exact Nat.lt_of_le_of_lt (Nat.gcd_le_left _ (by omega)) hg
  exact key l 0 (Nat.pow_pos (by decide)) h
theorem ee_abs {X : Cx} {σ : L2.St} {S : Hp} {a : Expr} {p pos : Pos} {i : Int} (hm : X.mg "abs" = none) (ha : EE X σ S a (Dt X.K (.int i))) (hg : Gl X "abs" := by rfl) (hs : starEach [a] X.env = (false, eval a X.env) :: starEach [] X.env := by rfl) : EE X σ S (.Call (.Name "abs" p) [a] [] pos) (Dt X.K (.int (i.natAbs : Nat))) :=
  ee_callB call_abs hm (by first | rfl | decide +kernel | exact boot_abs) (ea_1 ha hs) (fun vs S1 H1 _ s al Q q => by
    obtain ⟨v, rfl, pv⟩ := al.one
    cases pv
    refine ⟨i, rfl, ?_⟩
    have e : (if i < 0 then -i else i) = ((i.natAbs : Nat) : Int) := by split <;> omega
    rw [e]
    exact q _ S1 H1 (Gr.refl s) (.int _)) hg (he := hs) (hpl := by rfl)
theorem ee_max2 {X : Cx} {σ : L2.St} {S : Hp} {a b : Expr} {p pos : Pos} {i j : Int} (hc : X.calm = true) (hm : X.mg "max" = none) (ha : EE X σ S a (Dt X.K (.int i))) (hb : EE X σ S b (Dt X.K (.int j))) (hg : Gl X "max" := by rfl) (hs : starEach [a, b] X.env = (false, eval a X.env) :: starEach [b] X.env := by rfl) (hs2 : starEach [b] X.env = (false, eval b X.env) :: starEach [] X.env := by rfl) (hpl : (backTo pos (starEach [b] X.env)).any (·.1) = false := by rfl) : EE X σ S (.Call (.Name "max" p) [a, b] [] pos) (Dt X.K (.int (max i j))) :=
  ee_callB (call_max2 hc) hm (by first | rfl | decide +kernel | exact boot_max) (ea_2 ha hb hs hs2) (fun vs S1 H1 _ s al Q q => by
    obtain ⟨v, w, rfl, pv, pw⟩ := al.two
    cases pv; cases pw
    refine ⟨i, j, rfl, ?_⟩
    have e : (if j > i then j else i) = max i j := by split <;> omega
    rw [e]
    exact q _ S1 H1 (Gr.refl s) (.int _)) hg (he := hs) (hpl := hpl)
theorem ok_lowest (F : FnT K "lowest" slowest f fd) (g1 : mg "abs" = none) (g2 : mg "max" = none) : FnOk P w K mg base CX0 1 f fd ["numbers"] (spD K Flowest) := by
  refine fn_hs F sc_lowest (fun vs H Q E h => ?_) (fun cdv A outer sh H vs Q E hr h => ?_)
  · obtain ⟨S, ds, d, _, hd, ⟨_, h, _⟩, _⟩ := h
    rcases h with rfl | rfl <;> exact hd.1
  · obtain ⟨S, ds, r, s, hd, ⟨l, hds, rfl, hl, hb⟩, q⟩ := h
    have hei : ∀ {σ : L2.St} {S1 : Hp} {tg : Expr} {p : Pos} {v : V}, σ[0]? = some (some v) → Dts K ds [v] S1 → EI (cxOf CX0 P w K mg base ["numbers", "common", "number", "rest"] "lowest" (defScope slowest) f cdv A outer sh H E).nox σ S1 tg (.Name "numbers" p) (Ds K (l.map .int)) := fun h0 hv => by
      rcases hds with rfl | rfl
      · obtain ⟨u, e, pu⟩ := hv.one
        cases e
        exact ei_list (ee_var 0 h0 pu)
      · obtain ⟨u, e, pu⟩ := hv.one
        cases e
        exact ei_tup (ee_var 0 h0 pu)
    obtain ⟨v1, rfl⟩ : ∃ v1, vs = [v1] := by
      rcases hds with rfl | rfl <;> (obtain ⟨u, e, _⟩ := hd.one; exact ⟨u, e⟩)
    refine hs_set (i := 1) ee_int s sc_lowest.nd fun w1 S1 H1 g1' q1 => ?_
    have hlen : ∀ K, (Ds K (l.map PyData.int)).length = l.length := fun K => by rw [ds_len, List.length_map]
    refine hs_for (fun i σ S2 => ∃ x a b, σ = [some v1, some x, a, b] ∧ Dt K (.int ((gcdI (l.take i) : Nat) : Int)) x S2) PassesOwn.never rfl (hei rfl (hd.up g1'.st)) g1'.sub (fun S2 H2 g3 => ⟨w1, none, none, rfl, q1.up g3.st⟩) ?_ ?_
    · rintro i Pi σ1 S2 H2 x S3 H3 hP g3 ⟨y, a, b, rfl, py⟩ g4 px
      have hi : i < l.length := by
        have := (List.getElem?_eq_some_iff.mp hP).1
        rw [hlen] at this; exact this
      have hz : (l.map PyData.int)[i]? = some (.int l[i]) := by rw [List.getElem?_map, List.getElem?_eq_getElem hi]; rfl
      rw [ds_get hz] at hP
      obtain rfl := Option.some.inj hP
      refine (eg_name (i := 2) sc_lowest.nd rfl (Or.inl rfl)) H3 g4.sub _ ?_
      refine hs_set (i := 3) (ee_abs g1 (ee_var 2 rfl px)) g4.sub sc_lowest.nd fun z S4 H4 g5 pz => ?_
      refine hs_while (fun m σ S5 => ∃ c : Nat, Nat.gcd c m = gcdI (l.take (i + 1)) ∧ ∃ y2 z2, σ = [some v1, some y2, some x, some z2] ∧ Dt K (.int ((c : Nat) : Int)) y2 S5 ∧ Dt K (.int ((m : Nat) : Int)) z2 S5) (l[i]).natAbs PassesOwn.never g5.sub ⟨gcdI (l.take i), (gcdI_take l hi).symm, y, z, rfl, py.up (g4.st.trans g5.st), pz⟩ ?_
      rintro m σ S5 H5 g6 ⟨c, hc, y2, z2, rfl, py2, pz2⟩
      refine ⟨decide ((0 : Int) < (m : Nat)), et_gt (ee_var 3 rfl pz2) ee_int, fun hm S6 H6 g7 => ?_, fun hm S6 H6 g7 => ?_⟩
      · have hm : 0 < m := by simpa using hm
        have py2 := py2.up g7.st
        have pz2 := pz2.up g7.st
        refine hs_unp2 (i := 1) (j := 3) rfl sc_lowest.nd (ee_var 3 rfl pz2) ((ee_mod (by omega) (ee_var 1 rfl py2) (ee_var 3 rfl pz2)).isd (d' := .int ((c % m : Nat) : Int)) (by push_cast; rfl)) g7.sub fun u1 u2 S7 H7 pu1 pu2 g8 => hs_nil ?_
        exact ⟨S7, g8, c % m, Nat.mod_lt c hm, m, by rw [gcd_turn]; exact hc, u1, u2, rfl, pu1, pu2⟩
      · have hm : m = 0 := by simpa using hm
        subst hm
        rw [Nat.gcd_zero_right] at hc
        refine hs_nil ⟨S6, g5.trans (g6.trans g7), y2, some x, some z2, rfl, ?_⟩
        rw [← hc]; exact py2.up g7.st
    · rintro σ1 S2 H2 g3 ⟨y, a, b, rfl, py⟩
      rw [hlen, List.take_length] at py
      refine hs_ret ((ee_lc (i := 2) (enc := .int) (f := fun d => (match d with | .int x => x | _ => 0) / max ((gcdI l : Nat) : Int) 1) rfl sc_lowest.nd (blkOk_by (N := ["numbers", "common", "number", "rest"]) (sc := defScope slowest) (by decide +kernel)) (hei rfl (hd.up (g1'.st.trans g3.st))) (by rw [List.length_map]; show _ ≤ 16777216; omega) ?_).isd ?_) g3.sub fun v S3 H3 g4 pv => q v S3 H3 (g1'.trans (g3.trans g4)) pv
      · intro d hd' v S4 s4 pv sh' H0 C cl fp
        obtain ⟨x, hx, rfl⟩ := List.mem_map.mp hd'
        have pv : Dt K (.int x) v S4 := pv
        refine ee_fdiv (wide_div (b := 8001) (by omega) ?_ (by decide) (by decide)) (ee_var 2 rfl pv) (ee_max2 rfl g2 (ee_var 1 rfl (py.up s4)) ee_int)
        have h1 := gcd_lt hb
        have h2 : (2 : Nat) ^ 8000 < 2 ^ 8001 := Nat.pow_lt_pow_right (by decide) (by decide)
        have h3 : 1 < 2 ^ 8001 := Nat.one_lt_two_pow (by decide)
        rcases Int.max_def ((gcdI l : Nat) : Int) 1 with h | h
        have h4 : (max ((gcdI l : Nat) : Int) 1).natAbs = max (gcdI l) 1 := by omega
        rw [h4]
        exact Nat.max_lt.mpr ⟨by omega, h3⟩
      · unfold lI lowI
        simp only [List.map_map, Function.comp_def]
end
end K04
namespace K04
open PySem PySem.Spec PyProof.Rows L2 Z Y
abbrev FnM (K : PySem.W.Frag) (x q : Str) (st : Stmt) (f : Addr) (fd : FuncData) : Prop := FunD K x q (defArgs st) (defBody st) (defScope st) [] [] f fd
/-! ## numbers by a function -/
def lsV (n : Nat) (f : Nat → Int) : List V := (List.range n).map fun j => V.int (f j)
def lsI (n : Nat) (f : Nat → Int) : List Int := (List.range n).map f
def lsD (n : Nat) (f : Nat → Int) : List PyData := (List.range n).map fun j => PyData.int (f j)
section
variable {n k : Nat} {f g : Nat → Int}
theorem lsV_len : (lsV n f).length = n := by unfold lsV; rw [List.length_map, List.length_range]
theorem lsD_len : (lsD n f).length = n := by unfold lsD; rw [List.length_map, List.length_range]
theorem lsI_len : (lsI n f).length = n := by unfold lsI; rw [List.length_map, List.length_range]
theorem lsV_eq : lsV n f = (lsI n f).map V.int := by unfold lsV lsI; rw [List.map_map]; rfl
theorem lsD_eq : lsD n f = (lsI n f).map PyData.int := by unfold lsD lsI; rw [List.map_map]; rfl
theorem lsD_dts {K : PySem.W.Frag} {H : Hp} : Dts K (lsD n f) (lsV n f) H := by rw [lsV_eq, lsD_eq]; exact int_dts _ _
theorem lsV_of {K : PySem.W.Frag} {H : Hp} {xs : List V} (h : Dts K (lsD n f) xs H) : xs = lsV n f := by rw [lsD_eq] at h; rw [lsV_eq]; exact dts_int h
theorem lsV_dt {K : PySem.W.Frag} {H : Hp} {a : Addr} (h : H a = some (.lst (lsV n f))) (hn : n ≤ 1000) : Dt K (.list (lsD n f)) (.ref a) H := Dt.lst_mk h lsD_dts (by rw [lsV_len]; exact Nat.le_trans hn (by decide))
theorem lsV_get (h : k < n) : (lsV n f)[k]? = some (.int (f k)) := by unfold lsV; rw [List.getElem?_map, List.getElem?_range h]; rfl
theorem lsD_get (h : k < n) : (lsD n f)[k]? = some (.int (f k)) := by unfold lsD; rw [List.getElem?_map, List.getElem?_range h]; rfl
theorem ixN_nat {l : Nat} (h : k < l) : ixN l (k : Int) = some k := by
  unfold ixN
  rw [if_pos (by omega), if_pos (by omega)]
  rfl
theorem atI_nat {α : Type} {xs : List α} {x : α} (h : xs[k]? = some x) : atI xs (k : Int) = some x := by
  have hk := (List.getElem?_eq_some_iff.mp h).1
  unfold atI
  rw [ixN_nat hk]
  exact h
theorem lsD_at (h : k < n) : atI (lsD n f) (k : Int) = some (.int (f k)) := atI_nat (lsD_get h)
theorem lsV_congr (h : ∀ j, j < n → f j = g j) : lsV n f = lsV n g := List.map_congr_left fun j hj => by rw [h j (List.mem_range.mp hj)]
theorem lsV_set {x : Int} : (lsV n f).set k (.int x) = lsV n (fun j => if j = k then x else f j) := by
  refine List.ext_getElem? fun i => ?_
  rw [List.getElem?_set]
  by_cases hi : i < n
  · rw [lsV_get hi]
    by_cases q : k = i
    · subst q; rw [if_pos rfl, lsV_len, if_pos hi, lsV_get hi, if_pos rfl]
    · rw [if_neg q, lsV_get hi, if_neg (Ne.symm q)]
  · have e : ∀ h : Nat → Int, (lsV n h)[i]? = none := fun h => List.getElem?_eq_none (by rw [lsV_len]; omega)
    rw [e, e, lsV_len]
    split
    · rw [if_neg (by omega)]
    · rfl
end
/-! ## a tableau in the heap -/
structure TabA where
  t : Addr
  dx : Addr
  fa : Addr
  ba : Addr
  pa : Addr
  sa : Addr
def NotIn (A : TabA) (a : Addr) : Prop := a ≠ A.fa ∧ a ≠ A.ba ∧ a ≠ A.pa ∧ a ≠ A.sa
def fldL (A : TabA) (ca : Addr) (x w : Int) : List (Str × V) := [("free", .ref A.fa), ("basic", .ref A.ba), ("parts", .ref A.pa), ("starts", .ref A.sa), ("costs", .ref ca), ("total", .int x), ("whole", .int w)]
abbrev tbF (A : TabA) (ca : Addr) (D : Sv.Dic) (m n : Nat) : List (Str × V) := fldL A ca (D.T m n) D.w
theorem put_costs (A : TabA) (ca l : Addr) (x w : Int) : putF ("costs" : Str) (.ref l) (fldL A ca x w) = fldL A l x w := rfl
theorem put_total (A : TabA) (ca : Addr) (x y w : Int) : putF ("total" : Str) (.int y) (fldL A ca x w) = fldL A ca y w := rfl
theorem put_whole (A : TabA) (ca : Addr) (x w u : Int) : putF ("whole" : Str) (.int u) (fldL A ca x w) = fldL A ca x u := rfl
structure TabH (C : Addr) (H : Hp) (A : TabA) (m n : Nat) (D : Sv.Dic) : Prop where
  ins : ∃ ca, H A.t = some (.ins C A.dx (tbF A ca D m n)) ∧ H ca = some (.lst (lsV n (D.T m))) ∧ NotIn A ca
  fr : H A.fa = some (.lst (lsV n fun j => (D.fr j : Nat)))
  be : H A.ba = some (.lst (lsV m fun i => (D.be i : Nat)))
  st : H A.sa = some (.lst (lsV m fun i => D.T i n))
  pa : ∃ xs, H A.pa = some (.lst xs) ∧ xs.length = m ∧ ∀ i, i < m → ∃ a, xs[i]? = some (.ref a) ∧ H a = some (.lst (lsV n (D.T i))) ∧ NotIn A a
  ne : A.fa ≠ A.ba ∧ A.fa ≠ A.pa ∧ A.fa ≠ A.sa ∧ A.ba ≠ A.pa ∧ A.ba ≠ A.sa ∧ A.pa ≠ A.sa
/-- what else stood stands -/
def FrmH (A : TabA) (H H' : Hp) : Prop := ∀ a o, H a = some o → a ≠ A.t → NotIn A a → H' a = some o
section
variable {C : Addr} {H H' : Hp} {A : TabA} {m n : Nat} {D E : Sv.Dic}
theorem FrmH.refl : FrmH A H H := fun _ _ h _ _ => h
theorem FrmH.of (s : Same H H') : FrmH A H H' := fun a o h _ _ => s a o h
theorem FrmH.trans {H2 : Hp} (f : FrmH A H H') (g : FrmH A H' H2) : FrmH A H H2 := fun a o h t n => g a o (f a o h t n) t n
theorem FrmH.put {a : Addr} {o : HO} (f : FrmH A H H') (h : a = A.t ∨ ¬ NotIn A a ∨ H a = none) : FrmH A H (upd H' a o) := fun b u e t n => by
  rw [upd_ne]
  · exact f b u e t n
  · rintro rfl
    rcases h with h | h | h
    · exact t h
    · exact h n
    · rw [h] at e; cases e
theorem TabH.up (s : Same H H') (T : TabH C H A m n D) : TabH C H' A m n D := by
  obtain ⟨ca, h1, h2, h3⟩ := T.ins
  obtain ⟨xs, p1, p2, p3⟩ := T.pa
  refine ⟨⟨ca, s _ _ h1, s _ _ h2, h3⟩, s _ _ T.fr, s _ _ T.be, s _ _ T.st, ⟨xs, s _ _ p1, p2, fun i hi => ?_⟩, T.ne⟩
  obtain ⟨a, e1, e2, e3⟩ := p3 i hi
  exact ⟨a, e1, s _ _ e2, e3⟩
theorem TabH.congr (T : TabH C H A m n D) (hT : ∀ i j, i < m + 1 → j < n + 1 → E.T i j = D.T i j) (hw : E.w = D.w) (hb : ∀ i, i < m → E.be i = D.be i) (hf : ∀ j, j < n → E.fr j = D.fr j) : TabH C H A m n E := by
  obtain ⟨ca, h1, h2, h3⟩ := T.ins
  obtain ⟨xs, p1, p2, p3⟩ := T.pa
  refine ⟨⟨ca, ?_, ?_, h3⟩, ?_, ?_, ?_, ⟨xs, p1, p2, fun i hi => ?_⟩, T.ne⟩
  · have : tbF A ca E m n = tbF A ca D m n := by show fldL _ _ _ _ = fldL _ _ _ _; rw [hT m n (by omega) (by omega), hw]
    rw [this]; exact h1
  · rw [lsV_congr fun j hj => hT m j (by omega) (by omega)]; exact h2
  · rw [lsV_congr (g := fun j => ((D.fr j : Nat) : Int)) fun j hj => by rw [hf j hj]]; exact T.fr
  · rw [lsV_congr (g := fun i => ((D.be i : Nat) : Int)) fun i hi => by rw [hb i hi]]; exact T.be
  · rw [lsV_congr (g := fun i => D.T i n) fun i hi => hT i n (by omega) (by omega)]; exact T.st
  · obtain ⟨a, e1, e2, e3⟩ := p3 i hi
    exact ⟨a, e1, by rw [lsV_congr fun j hj => hT i j (by omega) (by omega)]; exact e2, e3⟩
theorem TabH.nt (T : TabH C H A m n D) {a : Addr} {xs : List V} (h : H a = some (.lst xs)) : a ≠ A.t := fun e => by
  obtain ⟨ca, h1, _⟩ := T.ins
  rw [e, h1] at h; cases h
/-- a row gets a list -/
theorem TabH.setPart {i l : Nat} {xs : List V} {g : Nat → Int} (T : TabH C H A m n D) (hp : H A.pa = some (.lst xs)) (hi : i < m) (hl : H l = some (.lst (lsV n g))) (nl : NotIn A l) : TabH C (upd H A.pa (.lst (xs.set i (.ref l)))) A m n { D with T := fun a b => if a = i ∧ b < n then g b else D.T a b } := by
  obtain ⟨ca, h1, h2, h3⟩ := T.ins
  obtain ⟨ys, p1, p2, p3⟩ := T.pa
  rw [hp] at p1
  obtain rfl := HO.lst.inj (Option.some.inj p1)
  have ne := T.ne
  have nt := T.nt hp
  refine ⟨⟨ca, ?_, ?_, h3⟩, ?_, ?_, ?_, ⟨_, upd_same, by rw [List.length_set]; exact p2, fun k hk => ?_⟩, T.ne⟩
  · rw [upd_ne (Ne.symm nt)]
    have : tbF A ca { D with T := fun a b => if a = i ∧ b < n then g b else D.T a b } m n = tbF A ca D m n := by show fldL A ca (if _ then _ else _) _ = _; rw [if_neg (by omega)]
    rw [this]; exact h1
  · rw [upd_ne h3.2.2.1, lsV_congr (g := D.T m) fun j _ => if_neg (by omega)]; exact h2
  · rw [upd_ne ne.2.1]; exact T.fr
  · rw [upd_ne ne.2.2.2.1]; exact T.be
  · rw [upd_ne (Ne.symm ne.2.2.2.2.2), lsV_congr (g := fun i => D.T i n) fun k _ => if_neg (by omega)]; exact T.st
  · by_cases q : k = i
    · subst q
      refine ⟨l, by rw [List.getElem?_set, if_pos rfl, p2, if_pos hi], ?_, nl⟩
      rw [upd_ne nl.2.2.1, lsV_congr (g := g) fun j hj => if_pos ⟨rfl, hj⟩]
      exact hl
    · obtain ⟨a, e1, e2, e3⟩ := p3 k hk
      refine ⟨a, by rw [List.getElem?_set, if_neg (Ne.symm q)]; exact e1, ?_, e3⟩
      rw [upd_ne e3.2.2.1, lsV_congr (g := D.T k) fun j _ => if_neg fun h => q h.1]
      exact e2
theorem TabH.setStart {i : Nat} {x : Int} (T : TabH C H A m n D) (hi : i < m) : TabH C (upd H A.sa (.lst ((lsV m fun i => D.T i n).set i (.int x)))) A m n { D with T := fun a b => if a = i ∧ b = n then x else D.T a b } := by
  obtain ⟨ca, h1, h2, h3⟩ := T.ins
  obtain ⟨ys, p1, p2, p3⟩ := T.pa
  have ne := T.ne
  have nt := T.nt T.st
  refine ⟨⟨ca, ?_, ?_, h3⟩, ?_, ?_, ?_, ⟨ys, ?_, p2, fun k hk => ?_⟩, T.ne⟩
  · rw [upd_ne (Ne.symm nt)]
    have : tbF A ca { D with T := fun a b => if a = i ∧ b = n then x else D.T a b } m n = tbF A ca D m n := by show fldL A ca (if _ then _ else _) _ = _; rw [if_neg (by omega)]
    rw [this]; exact h1
  · rw [upd_ne h3.2.2.2, lsV_congr (g := D.T m) fun j _ => if_neg (by omega)]; exact h2
  · rw [upd_ne ne.2.2.1]; exact T.fr
  · rw [upd_ne ne.2.2.2.2.1]; exact T.be
  · rw [upd_same, lsV_set]
    congr 2
    exact lsV_congr fun k _ => by
      show (if k = i then x else D.T k n) = if k = i ∧ n = n then x else D.T k n
      by_cases q : k = i
      · rw [if_pos q, if_pos ⟨q, rfl⟩]
      · rw [if_neg q, if_neg fun h => q h.1]
  · rw [upd_ne ne.2.2.2.2.2]; exact p1
  · obtain ⟨a, e1, e2, e3⟩ := p3 k hk
    refine ⟨a, e1, ?_, e3⟩
    rw [upd_ne e3.2.2.2, lsV_congr (g := D.T k) fun j hj => if_neg (by omega)]
    exact e2
/-- the instance's fields -/
theorem TabH.setFld {l : Addr} {g : Nat → Int} {x w : Int} (T : TabH C H A m n D) (hs : ∀ a o, a ≠ A.t → H a = some o → H' a = some o) (ht : H' A.t = some (.ins C A.dx (fldL A l x w))) (hl : H' l = some (.lst (lsV n g))) (nl : NotIn A l) : TabH C H' A m n { D with T := fun a b => if a = m then (if b = n then x else g b) else D.T a b, w := w } := by
  obtain ⟨ca, h1, h2, h3⟩ := T.ins
  obtain ⟨ys, p1, p2, p3⟩ := T.pa
  have nt : ∀ {a : Addr} {xs : List V}, H a = some (.lst xs) → H' a = some (.lst xs) := fun h => hs _ _ (T.nt h) h
  refine ⟨⟨l, ?_, ?_, nl⟩, ?_, ?_, ?_, ⟨ys, ?_, p2, fun k hk => ?_⟩, T.ne⟩
  · rw [ht]
    show some (HO.ins C A.dx (fldL A l x w)) = some (.ins C A.dx (fldL A l (if m = m then (if n = n then x else g n) else D.T m n) w))
    rw [if_pos rfl, if_pos rfl]
  · rw [lsV_congr (g := g) fun j hj => by
      show (if m = m then (if j = n then x else g j) else D.T m j) = g j
      rw [if_pos rfl, if_neg (by omega)]]
    exact hl
  · exact nt T.fr
  · exact nt T.be
  · rw [lsV_congr (g := fun i => D.T i n) fun k hk => if_neg (by omega)]; exact nt T.st
  · exact nt p1
  · obtain ⟨a, e1, e2, e3⟩ := p3 k hk
    refine ⟨a, e1, ?_, e3⟩
    rw [lsV_congr (g := D.T k) fun j hj => if_neg (by omega)]
    exact nt e2
theorem TabH.notIn (T : TabH C H A m n D) {l : Addr} (h : H l = none) : NotIn A l ∧ l ≠ A.t := by
  obtain ⟨ca, h1, h2, h3⟩ := T.ins
  obtain ⟨ys, p1, p2, p3⟩ := T.pa
  refine ⟨⟨fun e => ?_, fun e => ?_, fun e => ?_, fun e => ?_⟩, fun e => ?_⟩
  · rw [e, T.fr] at h; cases h
  · rw [e, T.be] at h; cases h
  · rw [e, p1] at h; cases h
  · rw [e, T.st] at h; cases h
  · rw [e, h1] at h; cases h
theorem TabH.setFree {k : Nat} {x : Nat} (T : TabH C H A m n D) : TabH C (upd H A.fa (.lst ((lsV n fun j => (D.fr j : Nat)).set k (.int (x : Nat))))) A m n { D with fr := fun j => if j = k then x else D.fr j } := by
  obtain ⟨ca, h1, h2, h3⟩ := T.ins
  obtain ⟨ys, p1, p2, p3⟩ := T.pa
  have ne := T.ne
  have nt := T.nt T.fr
  refine ⟨⟨ca, ?_, ?_, h3⟩, ?_, ?_, ?_, ⟨ys, ?_, p2, fun k hk => ?_⟩, T.ne⟩
  · rw [upd_ne (Ne.symm nt)]; exact h1
  · rw [upd_ne h3.1]; exact h2
  · rw [upd_same, lsV_set]
    congr 2
    exact lsV_congr fun j _ => by
      show (if j = k then ((x : Nat) : Int) else ((D.fr j : Nat) : Int)) = ((if j = k then x else D.fr j : Nat) : Int)
      split <;> rfl
  · rw [upd_ne (Ne.symm ne.1)]; exact T.be
  · rw [upd_ne (Ne.symm ne.2.2.1)]; exact T.st
  · rw [upd_ne (Ne.symm ne.2.1)]; exact p1
  · obtain ⟨a, e1, e2, e3⟩ := p3 k hk
    exact ⟨a, e1, by rw [upd_ne e3.1]; exact e2, e3⟩
theorem TabH.setBasic {k : Nat} {x : Nat} (T : TabH C H A m n D) : TabH C (upd H A.ba (.lst ((lsV m fun j => (D.be j : Nat)).set k (.int (x : Nat))))) A m n { D with be := fun j => if j = k then x else D.be j } := by
  obtain ⟨ca, h1, h2, h3⟩ := T.ins
  obtain ⟨ys, p1, p2, p3⟩ := T.pa
  have ne := T.ne
  have nt := T.nt T.be
  refine ⟨⟨ca, ?_, ?_, h3⟩, ?_, ?_, ?_, ⟨ys, ?_, p2, fun k hk => ?_⟩, T.ne⟩
  · rw [upd_ne (Ne.symm nt)]; exact h1
  · rw [upd_ne h3.2.1]; exact h2
  · rw [upd_ne ne.1]; exact T.fr
  · rw [upd_same, lsV_set]
    congr 2
    exact lsV_congr fun j _ => by
      show (if j = k then ((x : Nat) : Int) else ((D.be j : Nat) : Int)) = ((if j = k then x else D.be j : Nat) : Int)
      split <;> rfl
  · rw [upd_ne (Ne.symm ne.2.2.2.2.1)]; exact T.st
  · rw [upd_ne (Ne.symm ne.2.2.2.1)]; exact p1
  · obtain ⟨a, e1, e2, e3⟩ := p3 k hk
    exact ⟨a, e1, by rw [upd_ne e3.2.1]; exact e2, e3⟩
end
end K04
namespace K04
open PySem PySem.Spec PyProof.Rows L2 Z Y
theorem enum_get {ds : List PyData} {i : Nat} {d : PyData} (h : ds[i]? = some d) : (enumD ds)[i]? = some (.tuple [.int i, d]) := by
  unfold enumD
  have hi := (List.getElem?_eq_some_iff.mp h).1
  exact zipD_get (upto_get hi) h
theorem enum_len {K : PySem.W.Frag} {ds : List PyData} : (Ds K (enumD ds)).length = ds.length := by
  rw [ds_len]; unfold enumD zipD; rw [List.length_zipWith, upto_len]; omega
section
variable {P : Program} {w : World} {K : PySem.W.Frag} {mg : Str → Option Value} {base : Heap} {f : Addr} {fd : FuncData}
/-! ## the reads of a tableau -/
section
variable {X : Cx} {σ : L2.St} {C : Addr} {H S : Hp} {A : TabA} {m n : Nat} {D : Sv.Dic} {i e : Expr} {p pos pos2 : Pos} {k : Nat}
/-- self.f, a list -/
theorem ee_tb {f : Str} {P : V → Hp → Prop} (T : TabH C S A m n D) (c : Cls X.K C) (nf : NoAttr X.K C f) (hf : ∀ ca, S A.t = some (.ins C A.dx (tbF A ca D m n)) → S ca = some (.lst (lsV n (D.T m))) → ∃ v, (tbF A ca D m n).lookup f = some v ∧ P v S) [Mn P] (hv : σ[0]? = some (some (.ref A.t)) := by rfl) (hN : X.N[0]? = some ("self" : Str) := by rfl) (hl : Loc X.env.scope ("self" : Str) := by first | exact Or.inl rfl | exact Or.inr rfl)
    (hb : attributeBase (.Name "self" p) f X.env (eval (.Name "self" p) X.env) = eval (.Name "self" p) X.env := by rfl) : EE X σ S (.Attribute (.Name "self" p) f pos) P := by
  obtain ⟨ca, h1, h2, _⟩ := T.ins
  obtain ⟨v, h3, h4⟩ := hf ca h1 h2
  exact ee_fld (C := C) (ee_var (P := fun w S' => w = .ref A.t ∧ S' A.t = some (.ins C A.dx (tbF A ca D m n)) ∧ P v S') 0 hv ⟨rfl, h1, h4⟩ hN (hl.elim .inl fun h => .inr (.inl h))) (fun w S1 ⟨e, e1, e2⟩ => ⟨A.t, A.dx, _, v, e, e1, h3, e2⟩) c nf hb
end
section
variable {C : Addr} {H : Hp} {A : TabA} {m n : Nat} {D : Sv.Dic}
theorem TabH.rFree (T : TabH C H A m n D) (hn : n ≤ 1000) : ∀ ca, H A.t = some (.ins C A.dx (tbF A ca D m n)) → H ca = some (.lst (lsV n (D.T m))) → ∃ v, (tbF A ca D m n).lookup ("free" : Str) = some v ∧ Dt K (.list (lsD n fun j => (D.fr j : Nat))) v H := fun _ _ _ => ⟨_, rfl, lsV_dt T.fr hn⟩
theorem TabH.rBasic (T : TabH C H A m n D) (hm : m ≤ 1000) : ∀ ca, H A.t = some (.ins C A.dx (tbF A ca D m n)) → H ca = some (.lst (lsV n (D.T m))) → ∃ v, (tbF A ca D m n).lookup ("basic" : Str) = some v ∧ Dt K (.list (lsD m fun i => (D.be i : Nat))) v H := fun _ _ _ => ⟨_, rfl, lsV_dt T.be hm⟩
theorem TabH.rStarts (T : TabH C H A m n D) (hm : m ≤ 1000) : ∀ ca, H A.t = some (.ins C A.dx (tbF A ca D m n)) → H ca = some (.lst (lsV n (D.T m))) → ∃ v, (tbF A ca D m n).lookup ("starts" : Str) = some v ∧ Dt K (.list (lsD m fun i => D.T i n)) v H := fun _ _ _ => ⟨_, rfl, lsV_dt T.st hm⟩
theorem TabH.rCosts (T : TabH C H A m n D) (hn : n ≤ 1000) : ∀ ca, H A.t = some (.ins C A.dx (tbF A ca D m n)) → H ca = some (.lst (lsV n (D.T m))) → ∃ v, (tbF A ca D m n).lookup ("costs" : Str) = some v ∧ Dt K (.list (lsD n (D.T m))) v H := fun _ _ h => ⟨_, rfl, lsV_dt h hn⟩
theorem TabH.rWhole (T : TabH C H A m n D) : ∀ ca, H A.t = some (.ins C A.dx (tbF A ca D m n)) → H ca = some (.lst (lsV n (D.T m))) → ∃ v, (tbF A ca D m n).lookup ("whole" : Str) = some v ∧ Dt K (.int D.w) v H := fun _ _ _ => ⟨_, rfl, .int _⟩
theorem TabH.rParts (T : TabH C H A m n D) (hm : m ≤ 1000) (hn : n ≤ 1000) : ∀ ca, H A.t = some (.ins C A.dx (tbF A ca D m n)) → H ca = some (.lst (lsV n (D.T m))) → ∃ v, (tbF A ca D m n).lookup ("parts" : Str) = some v ∧ Dt K (.list ((List.range m).map fun i => .list (lsD n (D.T i)))) v H := fun _ _ _ => by
  obtain ⟨xs, p1, p2, p3⟩ := T.pa
  refine ⟨_, rfl, Dt.lst_mk p1 ⟨by rw [List.length_map, List.length_range]; exact p2, fun i x d hx hd => ?_⟩ (by rw [p2]; exact Nat.le_trans hm (by decide))⟩
  have hi : i < m := by rw [← p2]; exact (List.getElem?_eq_some_iff.mp hx).1
  obtain ⟨a, e1, e2, _⟩ := p3 i hi
  rw [e1] at hx
  obtain rfl := Option.some.inj hx
  rw [List.getElem?_map, List.getElem?_range hi] at hd
  obtain rfl := Option.some.inj hd
  exact lsV_dt e2 hn
theorem parts_at {m n i : Nat} {T : Nat → Nat → Int} (hi : i < m) : atI ((List.range m).map fun i => PyData.list (lsD n (T i))) (i : Int) = some (.list (lsD n (T i))) := atI_nat (by rw [List.getElem?_map, List.getElem?_range hi]; rfl)
end
/-! ### leaving -/
def LeavN (D : Sv.Dic) (n k : Nat) (r : Int) : Prop := (r = -1 ∧ ∀ i, i < k → 0 ≤ D.T i n) ∨ ∃ j : Nat, r = j ∧ j < k ∧ D.T j n < 0 ∧ ∀ i, i < k → D.T i n < 0 → D.be j ≤ D.be i
def spLeav (C : Addr) : Sp := fun vs H Q _ => ∃ A m n D, vs = [.ref A.t] ∧ TabH C H A m n D ∧ m ≤ 1000 ∧ n ≤ 1000 ∧ ∀ r H', LeavN D n m r → Same H H' → Q (.int r) H'
theorem sc_leav : FnScope ["self", "found", "at", "start"] ["self"] (defScope sTableau__leaving) := ⟨rfl, rfl, rfl, by decide +kernel, rfl, by decide +kernel, by decide +kernel⟩
theorem ok_leav {C : Addr} (F : FnM K "leaving" "Tableau.leaving" sTableau__leaving f fd) (g1 : mg "enumerate" = none) (c : Cls K C) (nb : NoAttr K C "basic") (ns : NoAttr K C "starts") : FnOk P w K mg base CX0 1 f fd ["self"] (spLeav C) := by
  refine fn_hs F sc_leav (fun vs H Q E h => by obtain ⟨A, m, n, D, rfl, _⟩ := h; rfl) (fun cdv Ar outer sh H vs Q E hr h => ?_)
  obtain ⟨A, m, n, D, rfl, T, hm, hn, q⟩ := h
  refine hs_set (S := H) (i := 1) (P := Dt K (.int (-1))) (ee_neg ee_int) (Same.refl H) sc_leav.nd fun v S1 H1 g1' pv => ?_
  cases pv
  have T1 := T.up g1'.hh
  refine hs_for (S := H1) (Ps := Ds K (enumD (lsD m fun i => D.T i n))) (fun i σ _ => ∃ (r : Int) (x y : Option V), σ = [some (.ref A.t), some (.int r), x, y] ∧ LeavN D n i r) PassesOwn.never rfl (ei_enumL g1 (ee_tb T1 c ns (T1.rStarts hm))) (Same.refl H1) (fun S' H' g => ⟨-1, none, none, rfl, .inl ⟨rfl, fun i hi => by omega⟩⟩) ?_ ?_
  · rintro i P σ2 S2 H2 x S3 H3 hP g2 ⟨r, x0, y0, rfl, hL⟩ g3 px
    have hi : i < m := by
      have := (List.getElem?_eq_some_iff.mp hP).1
      rw [enum_len, lsD_len] at this
      exact this
    rw [ds_get (enum_get (lsD_get hi))] at hP
    obtain rfl := Option.some.inj hP
    obtain ⟨v1, v2, p1, p2, hg⟩ := eg_pair (X := (cxOf CX0 _ _ _ _ _ ["self", "found", "at", "start"] "Tableau.leaving" (defScope sTableau__leaving) f cdv Ar outer sh H E).nox) (σ := [some (.ref A.t), some (.int r), x0, y0]) (i := 2) (j := 3) (x := "at") (y := "start") rfl sc_leav.nd rfl rfl (.inl rfl) (.inl rfl) px
    cases p1; cases p2
    refine hg H3 g3.sub _ ?_
    have T3 : TabH C H3 A m n D := T1.up (g2.hh.trans g3.hh)
    refine hs_if (S := H3) (k := decide (D.T i n < 0) && (decide (r < 0) || decide ((D.be i : Int) < D.be r.toNat))) (et_w (ew_and (et_lt (ee_var 3 rfl (Dt.int (K := K) _)) ee_int) fun h0 => ew_and1 (et_w (ew_or (et_lt (ee_var 1 rfl (Dt.int (K := K) _)) ee_int) fun h1 => ew_or1 ?_)))) (Same.refl H3) (fun hk S4 H4 g4 => ?_) (fun hk S4 H4 g4 => hs_nil (hs_nil ?_))
    · rcases hL with ⟨rfl, _⟩ | ⟨j, rfl, hj, _⟩
      · cases h1
      · exact et_lt (ee_ixL (lsD_at (f := fun i => (D.be i : Nat)) hi) (ee_tb T3 c nb (T3.rBasic hm)) (ee_var 2 rfl (Dt.int (K := K) _))) (ee_ixL (lsD_at (f := fun i => (D.be i : Nat)) (show j < m by omega)) (ee_tb T3 c nb (T3.rBasic hm)) (ee_var 1 rfl (Dt.int (K := K) _)))
    · refine hs_set (S := H4) (i := 1) (P := Dt K (.int (i : Nat))) (ee_var 2 rfl (Dt.int (K := K) _)) (Same.refl H4) sc_leav.nd fun v S5 H5 g5 pv => hs_nil (hs_nil ?_)
      cases pv
      rw [Bool.and_eq_true, decide_eq_true_eq, Bool.or_eq_true, decide_eq_true_eq, decide_eq_true_eq] at hk
      refine ⟨S3, ⟨Same.refl _, (g3.sub.trans g4.hh).trans g5.hh, (Same.refl _ |>.trans g4.hh).trans g5.hh, fun _ _ _ _ => rfl⟩, i, _, _, rfl, .inr ⟨i, rfl, by omega, hk.1, fun l hl hn => ?_⟩⟩
      rcases hL with ⟨rfl, h0⟩ | ⟨j, rfl, hj, h1, h2⟩
      · by_cases q : l = i
        · rw [q]; exact Nat.le_refl _
        · have := h0 l (by omega); omega
      · have hk2 := hk.2.resolve_left (by omega)
        rw [Int.toNat_natCast] at hk2
        by_cases q : l = i
        · rw [q]; exact Nat.le_refl _
        · have := h2 l (by omega) hn; omega
    · rw [Bool.and_eq_false_iff, decide_eq_false_iff_not, Bool.or_eq_false_iff, decide_eq_false_iff_not, decide_eq_false_iff_not] at hk
      refine ⟨S3, ⟨Same.refl _, g3.sub.trans g4.hh, g4.hh, fun _ _ _ _ => rfl⟩, r, _, _, rfl, ?_⟩
      rcases hL with ⟨rfl, h0⟩ | ⟨j, rfl, hj, h1, h2⟩
      · refine .inl ⟨rfl, fun l hl => ?_⟩
        by_cases q : l = i
        · subst q; rcases hk with h | h; omega; omega
        · exact h0 l (by omega)
      · refine .inr ⟨j, rfl, by omega, h1, fun l hl hn => ?_⟩
        by_cases q : l = i
        · subst q
          rcases hk with h | h
          · omega
          · rw [Int.toNat_natCast] at h; omega
        · exact h2 l (by omega) hn
  · rintro σ2 S2 H2 g2 ⟨r, x, y, rfl, hL⟩
    rw [enum_len, lsD_len] at hL
    refine hs_ret (S := H2) (ee_var 1 rfl (Dt.int (K := K) r)) (Same.refl _) fun v S3 H3 g3 pv => ?_
    cases pv
    exact q r H3 hL ((g1'.hh.trans g2.hh).trans g3.hh)
end
end K04
namespace K04
open PySem PySem.Spec PyProof.Rows L2 Z Y
section
variable {P : Program} {w : World} {K : PySem.W.Frag} {mg : Str → Option Value} {base : Heap} {f : Addr} {fd : FuncData}
/-! ### entering -/
def BdD (D : Sv.Dic) (m n : Nat) : Prop := (∀ i j, i < m + 1 → j < n + 1 → (D.T i j).natAbs < 2 ^ 8000) ∧ D.w.natAbs < 2 ^ 8000
theorem cmx {x y : Int} (hx : x.natAbs < 2 ^ 8000) (hy : y.natAbs < 2 ^ 8000) : CMulX x y := mulx_ok hx hy (by decide)
def EntN (D : Sv.Dic) (m r k : Nat) (x : Int) : Prop := (x = -1 ∧ ∀ j, j < k → D.T r j ≤ 0) ∨ ∃ c : Nat, x = c ∧ c < k ∧ 0 < D.T r c ∧ ∀ j, j < k → 0 < D.T r j → D.T m c * D.T r j ≤ D.T m j * D.T r c ∧ (D.T m c * D.T r j = D.T m j * D.T r c → D.fr c ≤ D.fr j)
/-- the ratios' order -/
theorem rat_lt {a b c p q r : Int} (hp : 0 < p) (hq : 0 < q) (hr : 0 < r) (h1 : a * q < b * p) (h2 : b * r ≤ c * q) : a * r < c * p := by
  have e1 : a * q * r < b * p * r := Int.mul_lt_mul_of_pos_right h1 hr
  have e2 : b * r * p ≤ c * q * p := Int.mul_le_mul_of_nonneg_right h2 (Int.le_of_lt hp)
  have e3 : q * (a * r) < q * (c * p) := by
    have a1 : q * (a * r) = a * q * r := by simp only [Int.mul_assoc, Int.mul_left_comm, Int.mul_comm]
    have a2 : q * (c * p) = c * q * p := by simp only [Int.mul_assoc, Int.mul_left_comm, Int.mul_comm]
    have a3 : b * p * r = b * r * p := by simp only [Int.mul_assoc, Int.mul_left_comm, Int.mul_comm]
    omega
  exact Int.lt_of_mul_lt_mul_left e3 (Int.le_of_lt hq)
theorem rat_eq {a b c p q r : Int} (hp : 0 < p) (hq : 0 < q) (hr : 0 < r) (h1 : a * q = b * p) (h2 : b * r ≤ c * q) : a * r ≤ c * p ∧ (a * r = c * p → b * r = c * q) := by
  have key : q * (a * r) = p * (b * r) := by
    have a1 : q * (a * r) = a * q * r := by simp only [Int.mul_assoc, Int.mul_left_comm, Int.mul_comm]
    have a2 : p * (b * r) = b * p * r := by simp only [Int.mul_assoc, Int.mul_left_comm, Int.mul_comm]
    rw [a1, a2, h1]
  have k2 : q * (c * p) = p * (c * q) := by simp only [Int.mul_assoc, Int.mul_left_comm, Int.mul_comm]
  constructor
  · have e2 : p * (b * r) ≤ p * (c * q) := Int.mul_le_mul_of_nonneg_left h2 (Int.le_of_lt hp)
    exact Int.le_of_mul_le_mul_left (show q * (a * r) ≤ q * (c * p) by omega) hq
  · intro h
    have : p * (b * r) = p * (c * q) := by rw [← key, ← k2, h]
    exact Int.eq_of_mul_eq_mul_left (by omega) this
def spEnt (C : Addr) : Sp := fun vs H Q _ => ∃ A m n D, ∃ r : Nat, vs = [.ref A.t, .int r] ∧ TabH C H A m n D ∧ m ≤ 1000 ∧ n ≤ 1000 ∧ r < m ∧ BdD D m n ∧ ∀ x H', EntN D m r n x → Same H H' → Q (.int x) H'
theorem sc_ent : FnScope ["self", "row", "found", "at", "part", "left", "right"] ["self", "row"] (defScope sTableau__entering) := ⟨rfl, rfl, rfl, by decide +kernel, rfl, by decide +kernel, by decide +kernel⟩
theorem ok_ent {C : Addr} (F : FnM K "entering" "Tableau.entering" sTableau__entering f fd) (g1 : mg "enumerate" = none) (c : Cls K C) (np : NoAttr K C "parts") (nc : NoAttr K C "costs") (nf : NoAttr K C "free") : FnOk P w K mg base CX0 1 f fd ["self", "row"] (spEnt C) := by
  refine fn_hs F sc_ent (fun vs H Q E h => by obtain ⟨A, m, n, D, r, rfl, _⟩ := h; rfl) (fun cdv Ar outer sh H vs Q E hr h => ?_)
  obtain ⟨A, m, n, D, r, rfl, T, hm, hn, hr', hbd, q⟩ := h
  refine hs_set (S := H) (i := 2) (P := Dt K (.int (-1))) (ee_neg ee_int) (Same.refl H) sc_ent.nd fun v S1 H1 g1' pv => ?_
  cases pv
  have T1 := T.up g1'.hh
  refine hs_for (S := H1) (Ps := Ds K (enumD (lsD n (D.T r)))) (fun i σ _ => ∃ (x : Int) (a b l1 l2 : Option V), σ = [some (.ref A.t), some (.int r), some (.int x), a, b, l1, l2] ∧ EntN D m r i x) PassesOwn.never rfl (ei_enumL g1 (ee_ixL (parts_at (T := D.T) hr') (ee_tb T1 c np (T1.rParts hm hn)) (ee_var 1 rfl (Dt.int (K := K) _)))) (Same.refl H1) (fun S' H' g => ⟨-1, none, none, none, none, rfl, .inl ⟨rfl, fun i hi => by omega⟩⟩) ?_ ?_
  · rintro i P σ2 S2 H2 x S3 H3 hP g2 ⟨x0, a0, b0, l0, l1, rfl, hL⟩ g3 px
    have hi : i < n := by
      have := (List.getElem?_eq_some_iff.mp hP).1
      rw [enum_len, lsD_len] at this
      exact this
    rw [ds_get (enum_get (lsD_get hi))] at hP
    obtain rfl := Option.some.inj hP
    obtain ⟨v1, v2, p1, p2, hg⟩ := eg_pair (X := (cxOf CX0 _ _ _ _ _ ["self", "row", "found", "at", "part", "left", "right"] "Tableau.entering" (defScope sTableau__entering) f cdv Ar outer sh H E).nox) (σ := [some (.ref A.t), some (.int r), some (.int x0), a0, b0, l0, l1]) (i := 3) (j := 4) (x := "at") (y := "part") rfl sc_ent.nd rfl rfl (.inl rfl) (.inl rfl) px
    cases p1; cases p2
    refine hg H3 g3.sub _ ?_
    have T3 : TabH C H3 A m n D := T1.up (g2.hh.trans g3.hh)
    refine hs_if (S := H3) (et_le (ee_var 4 rfl (Dt.int (K := K) _)) ee_int) (Same.refl H3) (fun hk S4 H4 g4 => hs_cont ?_) (fun hk S4 H4 g4 => hs_nil ?_)
    · have hk := of_decide_eq_true hk
      refine ⟨S3, ⟨Same.refl _, g3.sub.trans g4.hh, g4.hh, fun _ _ _ _ => rfl⟩, x0, _, _, _, _, rfl, ?_⟩
      rcases hL with ⟨rfl, h0⟩ | ⟨c, rfl, hc, h1, h2⟩
      · refine .inl ⟨rfl, fun l hl => ?_⟩
        by_cases q : l = i
        · rw [q]; exact hk
        · exact h0 l (by omega)
      · refine .inr ⟨c, rfl, by omega, h1, fun l hl hp => ?_⟩
        by_cases q : l = i
        · rw [q] at hp; omega
        · exact h2 l (by omega) hp
    · have hpos := of_decide_eq_false hk
      have T4 := T3.up g4.hh
      refine hs_if (S := H4) (et_lt (ee_var 2 rfl (Dt.int (K := K) _)) ee_int) (Same.refl H4) (fun hk S5 H5 g5 => ?_) (fun hk S5 H5 g5 => hs_nil ?_)
      · have hk := of_decide_eq_true hk
        refine hs_set (S := H5) (i := 2) (P := Dt K (.int (i : Nat))) (ee_var 3 rfl (Dt.int (K := K) _)) (Same.refl H5) sc_ent.nd fun v S6 H6 g6 pv => hs_cont ?_
        cases pv
        refine ⟨S3, ⟨Same.refl _, ((g3.sub.trans g4.hh).trans g5.hh).trans g6.hh, (g4.hh.trans g5.hh).trans g6.hh, fun _ _ _ _ => rfl⟩, i, _, _, _, _, rfl, .inr ⟨i, rfl, by omega, by omega, fun l hl hp => ?_⟩⟩
        rcases hL with ⟨rfl, h0⟩ | ⟨c, rfl, hc, h1, h2⟩
        · by_cases q : l = i
          · rw [q]; exact ⟨Int.le_refl _, fun _ => Nat.le_refl _⟩
          · have := h0 l (by omega); omega
        · omega
      · have hk := of_decide_eq_false hk
        obtain ⟨cc, rfl, hc, h1, h2⟩ : ∃ c : Nat, x0 = c ∧ c < i ∧ 0 < D.T r c ∧ ∀ j, j < i → 0 < D.T r j → D.T m c * D.T r j ≤ D.T m j * D.T r c ∧ (D.T m c * D.T r j = D.T m j * D.T r c → D.fr c ≤ D.fr j) := by
          rcases hL with ⟨rfl, h0⟩ | h
          · omega
          · exact h
        have T5 := T4.up g5.hh
        have B := hbd.1
        refine hs_par (S := H5) (i := 5) (j := 6) (x := "left") (y := "right") rfl sc_ent.nd
          (ee_mul (cmx (B m i (by omega) (by omega)) (B r cc (by omega) (by omega))) (ee_ixL (lsD_at (f := D.T m) hi) (ee_tb T5 c nc (T5.rCosts hn)) (ee_var 3 rfl (Dt.int (K := K) _))) (ee_ixL (lsD_at (f := D.T r) (show cc < n by omega)) (ee_ixL (parts_at (T := D.T) hr') (ee_tb T5 c np (T5.rParts hm hn)) (ee_var 1 rfl (Dt.int (K := K) _))) (ee_var 2 rfl (Dt.int (K := K) _))))
          (ee_mul (cmx (B m cc (by omega) (by omega)) (B r i (by omega) (by omega))) (ee_ixL (lsD_at (f := D.T m) (show cc < n by omega)) (ee_tb T5 c nc (T5.rCosts hn)) (ee_var 2 rfl (Dt.int (K := K) _))) (ee_var 4 rfl (Dt.int (K := K) _))) (Same.refl H5) fun v1 v2 S6 H6 pv1 pv2 g6 => ?_
        cases pv1; cases pv2
        have T6 := T5.up g6.hh
        have up6 : Gr S3 H3 S3 H6 := ⟨Same.refl _, ((g3.sub.trans g4.hh).trans g5.hh).trans g6.hh, (g4.hh.trans g5.hh).trans g6.hh, fun _ _ _ _ => rfl⟩
        refine hs_if (S := H6) (k := decide (D.T m i * D.T r cc < D.T m cc * D.T r i) || (decide (D.T m i * D.T r cc = D.T m cc * D.T r i) && decide ((D.fr i : Int) < D.fr cc))) (et_w (ew_or (et_lt (ee_var 5 rfl (Dt.int (K := K) _)) (ee_var 6 rfl (Dt.int (K := K) _))) fun _ => ew_or1 (et_w (ew_and (et_eqI (ee_var 5 rfl (Dt.int (K := K) _)) (ee_var 6 rfl (Dt.int (K := K) _))) fun _ => ew_and1 (et_lt (ee_ixL (lsD_at (f := fun j => (D.fr j : Nat)) hi) (ee_tb T6 c nf (T6.rFree hn)) (ee_var 3 rfl (Dt.int (K := K) _))) (ee_ixL (lsD_at (f := fun j => (D.fr j : Nat)) (show cc < n by omega)) (ee_tb T6 c nf (T6.rFree hn)) (ee_var 2 rfl (Dt.int (K := K) _)))))))) (Same.refl H6) (fun hk S7 H7 g7 => ?_) (fun hk S7 H7 g7 => hs_nil (hs_nil ?_))
        · refine hs_set (S := H7) (i := 2) (P := Dt K (.int (i : Nat))) (ee_var 3 rfl (Dt.int (K := K) _)) (Same.refl H7) sc_ent.nd fun v S8 H8 g8 pv => hs_nil (hs_nil ?_)
          cases pv
          rw [Bool.or_eq_true, decide_eq_true_eq, Bool.and_eq_true, decide_eq_true_eq, decide_eq_true_eq] at hk
          refine ⟨S3, ⟨Same.refl _, (up6.sub.trans g7.hh).trans g8.hh, (up6.hh.trans g7.hh).trans g8.hh, fun _ _ _ _ => rfl⟩, i, _, _, _, _, rfl, .inr ⟨i, rfl, by omega, by omega, fun l hl hp => ?_⟩⟩
          by_cases q : l = i
          · rw [q]; exact ⟨Int.le_refl _, fun _ => Nat.le_refl _⟩
          · obtain ⟨a1, a2⟩ := h2 l (by omega) hp
            rcases hk with hk | ⟨hk, hk2⟩
            · have := rat_lt (show 0 < D.T r i by omega) h1 hp hk a1
              exact ⟨by omega, fun e => by omega⟩
            · obtain ⟨b1, b2⟩ := rat_eq (show 0 < D.T r i by omega) h1 hp hk a1
              exact ⟨b1, fun e => by have := a2 (b2 e); omega⟩
        · rw [Bool.or_eq_false_iff, decide_eq_false_iff_not, Bool.and_eq_false_iff, decide_eq_false_iff_not, decide_eq_false_iff_not] at hk
          refine ⟨S3, ⟨Same.refl _, up6.sub.trans g7.hh, up6.hh.trans g7.hh, fun _ _ _ _ => rfl⟩, cc, _, _, _, _, rfl, .inr ⟨cc, rfl, by omega, h1, fun l hl hp => ?_⟩⟩
          by_cases q : l = i
          · subst q
            exact ⟨by omega, fun e => by rcases hk.2 with h | h; exact absurd e.symm h; omega⟩
          · exact h2 l (by omega) hp
  · rintro σ2 S2 H2 g2 ⟨x, a, b, l1, l2, rfl, hL⟩
    rw [enum_len, lsD_len] at hL
    refine hs_ret (S := H2) (ee_var 2 rfl (Dt.int (K := K) x)) (Same.refl _) fun v S3 H3 g3 pv => ?_
    cases pv
    exact q x H3 hL ((g1'.hh.trans g2.hh).trans g3.hh)
/-! ### mixed -/
def mixF (p o : Nat → Int) (c : Nat) (s : Int) (j : Nat) : Int := if j = c then p c else (o c * p j - p c * o j) / s
def spMix : Sp := fun vs H Q _ => ∃ pl ol, ∃ n c : Nat, ∃ (p o : Nat → Int) (start first s : Int), vs = [.ref pl, .int start, .ref ol, .int first, .int c, .int s] ∧ H pl = some (.lst (lsV n p)) ∧ H ol = some (.lst (lsV n o)) ∧ n ≤ 1000 ∧ c < n ∧ 0 < s ∧ s.natAbs < 2 ^ 8000 ∧ start.natAbs < 2 ^ 8000 ∧ first.natAbs < 2 ^ 8000 ∧ (∀ j, j < n → (p j).natAbs < 2 ^ 8000 ∧ (o j).natAbs < 2 ^ 8000) ∧
  ∀ tp l H', Same H H' → H l = none → H' l = some (.lst (lsV n (mixF p o c s))) → H' tp = some (.tup [.ref l, .int ((o c * start - p c * first) / s)]) → Q (.ref tp) H'
theorem sc_mixed : FnScope ["parts", "start", "old", "first", "column", "scale", "pivot", "part", "found", "one", "other"] ["parts", "start", "old", "first", "column", "scale"] (defScope smixed) := ⟨rfl, rfl, rfl, by decide +kernel, rfl, by decide +kernel, by decide +kernel⟩
theorem zip_map_same {α β γ : Type} (f : α → β) (g : α → γ) : ∀ l : List α, (l.map f).zip (l.map g) = l.map fun a => (f a, g a)
  | [] => rfl
  | a :: l => by rw [List.map_cons, List.map_cons, List.zip_cons_cons, zip_map_same f g l]; rfl
theorem zip_ls (n : Nat) (p o : Nat → Int) : zipD (lsD n p) (lsD n o) = ((List.range n).map fun j => (PyData.int (p j), PyData.int (o j))).map tupP := by
  rw [zipD_eq]
  unfold lsD
  rw [zip_map_same]
def unI1 (d : PyData) : Int := match d with
  | .int i => i
  | _ => 0
theorem ok_mixed (F : FnT K "mixed" smixed f fd) (g1 : mg "zip" = none) : FnOk P w K mg base CX0 1 f fd ["parts", "start", "old", "first", "column", "scale"] spMix := by
  refine fn_hs F sc_mixed (fun vs H Q E h => by obtain ⟨pl, ol, n, c, p, o, a, b, s, rfl, _⟩ := h; rfl) (fun cdv Ar outer sh H vs Q E hr h => ?_)
  obtain ⟨pl, ol, n, c, p, o, start, first, s, rfl, hp, ho, hn, hc, s0, sb, b1, b2, hb, q⟩ := h
  have P0 : ∀ {S : Hp}, Same H S → Dt K (.list (lsD n p)) (.ref pl) S := fun s => lsV_dt (s _ _ hp) hn
  have O0 : ∀ {S : Hp}, Same H S → Dt K (.list (lsD n o)) (.ref ol) S := fun s => lsV_dt (s _ _ ho) hn
  refine hs_unp2 (S := H) (i := 6) (j := 7) (x := "pivot") (y := "part") rfl sc_mixed.nd (ee_ixL (lsD_at (f := o) hc) (ee_var 2 rfl (O0 (Same.refl H))) (ee_var 4 rfl (Dt.int (K := K) _))) (ee_ixL (lsD_at (f := p) hc) (ee_var 0 rfl (P0 (Same.refl H))) (ee_var 4 rfl (Dt.int (K := K) _))) (Same.refl H) fun v1 v2 S1 H1 pv1 pv2 g1' => ?_
  cases pv1; cases pv2
  refine hs_setLc2N (S := H1) (m := 8) (i := 9) (j := 10) (ps := (List.range n).map fun j => (PyData.int (p j), PyData.int (o j))) (f := fun q => .int ((o c * unI1 q.1 - p c * unI1 q.2) / s)) rfl sc_mixed.nd (Same.refl H1) (blkOk_by (N := ["parts", "start", "old", "first", "column", "scale", "pivot", "part", "found", "one", "other"]) (sc := defScope smixed) (by decide +kernel)) (by rw [← zip_ls]; exact ei_zipL g1 (ee_var 0 rfl (P0 g1'.hh)) (ee_var 2 rfl (O0 g1'.hh))) (by rw [List.length_map, List.length_range]; exact Nat.le_trans hn (by decide)) (fun q' hq' v w S' hs hv hw sh' H0 C' cl fp => ?_) (fun v S2 H2 g2 hl => ?_)
  · obtain ⟨j, hj, rfl⟩ := List.mem_map.mp hq'
    have hj := List.mem_range.mp hj
    cases hv; cases hw
    exact ee_fdiv (wide_div s0 sb (by decide) (by decide)) (ee_sub (ee_mul (cmx (hb c hc).2 (hb j hj).1) (ee_var 6 rfl (Dt.int (K := K) _)) (ee_var 9 rfl (Dt.int (K := K) _))) (ee_mul (cmx (hb c hc).1 (hb j hj).2) (ee_var 7 rfl (Dt.int (K := K) _)) (ee_var 10 rfl (Dt.int (K := K) _)))) (ee_var 5 rfl (Dt.int (K := K) _))
  · obtain ⟨l, xs, rfl, hl0, hl1, hl2, _⟩ := hl
    have hxs : xs = lsV n fun j => (o c * p j - p c * o j) / s := by
      refine lsV_of (K := K) (H := S2) ?_
      have e : ((List.range n).map fun j => (PyData.int (p j), PyData.int (o j))).map (fun q : PyData × PyData => PyData.int ((o c * unI1 q.1 - p c * unI1 q.2) / s)) = lsD n fun j => (o c * p j - p c * o j) / s := by
        unfold lsD; rw [List.map_map]; rfl
      rw [e] at hl2
      exact hl2
    subst hxs
    have hH2 : H2 l = some (.lst (lsV n fun j => (o c * p j - p c * o j) / s)) := g2.sub _ _ hl1
    refine hs_setL (b := l) (j := c) (P := Dt K (.int (p c))) (ee_var 7 rfl (Dt.int (K := K) _)) (ee_var 8 rfl rfl) (ee_var 4 rfl (Dt.int (K := K) _)) hH2 (by rw [lsV_len]; exact ixN_nat hc) fun v H3 s3 pv => ?_
    cases pv
    haveI mnE : ∀ u : V, Mn (fun (w : V) (_ : Hp) => w = u) := fun u => ⟨fun _ h => h⟩
    rw [lsV_set]
    have e2 : (lsV n fun j => if j = c then p c else (o c * p j - p c * o j) / s) = lsV n (mixF p o c s) := rfl
    rw [e2]
    refine hs_ret (S := upd H3 l (.lst (lsV n (mixF p o c s)))) (ee_tupP (Ps := [fun w _ => w = V.ref l, fun w _ => w = V.int ((o c * start - p c * first) / s)]) (ea_2 (ee_var 8 rfl rfl) ((ee_fdiv (wide_div s0 sb (by decide) (by decide)) (ee_sub (ee_mul (cmx (hb c hc).2 b1) (ee_var 6 rfl (Dt.int (K := K) _)) (ee_var 1 rfl (Dt.int (K := K) _))) (ee_mul (cmx (hb c hc).1 b2) (ee_var 7 rfl (Dt.int (K := K) _)) (ee_var 3 rfl (Dt.int (K := K) _)))) (ee_var 5 rfl (Dt.int (K := K) _))).imp fun v S' h => h.int_inv))) (Same.refl _) fun v S4 H4 g4 pv => ?_
    obtain ⟨tp, xs, rfl, h1, al⟩ := pv
    obtain ⟨u1, u2, rfl, e1, e3⟩ := al.two
    subst e1; subst e3
    have sH : Same H (upd H3 l (.lst (lsV n (mixF p o c s)))) := Same.mut ((g1'.hh.trans g2.hh).trans s3) (g1'.hh.free hl0)
    exact q tp l H4 (sH.trans g4.hh) (g1'.hh.free hl0) (g4.hh _ _ upd_same) (g4.sub _ _ h1)
end
end K04
namespace K04
open PySem PySem.Spec PyProof.Rows L2 Z Y
section
variable {P : Program} {w : World} {K : PySem.W.Frag} {mg : Str → Option Value} {base : Heap} {f : Addr} {fd : FuncData}
/-! ### pivot -/
def spPiv (C : Addr) : Sp := fun vs H Q _ => ∃ A m n D, ∃ r c : Nat, vs = [.ref A.t, .int r, .int c] ∧ TabH C H A m n D ∧ m ≤ 1000 ∧ n ≤ 1000 ∧ r < m ∧ c < n ∧ BdD D m n ∧ 0 < D.w ∧ ∀ H', TabH C H' A m n (D.piv r c) → FrmH A H H' → Q .non H'
theorem sc_piv : FnScope ["self", "row", "column", "pivot", "scale", "old", "start", "at", "part"] ["self", "row", "column"] (defScope sTableau__pivot) := ⟨rfl, rfl, rfl, by decide +kernel, rfl, by decide +kernel, by decide +kernel⟩
/-- rows below i are done -/
def DI (D : Sv.Dic) (r c i : Nat) : Sv.Dic := { D with T := fun a b => if a < i ∧ a ≠ r then (D.piv r c).T a b else D.T a b }
theorem di_T (D : Sv.Dic) (r c i a b : Nat) : (DI D r c i).T a b = if a < i ∧ a ≠ r then (D.piv r c).T a b else D.T a b := rfl
theorem al_six {P1 P2 P3 P4 P5 P6 : V → Hp → Prop} {vs : List V} {H : Hp} (h : Al [P1, P2, P3, P4, P5, P6] vs H) : ∃ a b c d e g, vs = [a, b, c, d, e, g] ∧ P1 a H ∧ P2 b H ∧ P3 c H ∧ P4 d H ∧ P5 e H ∧ P6 g H := by
  cases h with | cons h1 h => cases h with | cons h2 h => cases h with | cons h3 h => cases h with | cons h4 h => cases h with | cons h5 h => cases h with | cons h6 h => cases h with | nil => exact ⟨_, _, _, _, _, _, rfl, h1, h2, h3, h4, h5, h6⟩
theorem ok_piv {C : Addr} (F : FnM K "pivot" "Tableau.pivot" sTableau__pivot f fd) (g1 : mg "range" = none) (g2 : mg "len" = none) (g3 : mg "list" = none) (D1 : KD P w K mg base "mixed" 1 spMix) (c : Cls K C) (nf : NoAttr K C "free") (nb : NoAttr K C "basic") (np : NoAttr K C "parts") (ns : NoAttr K C "starts") (nc : NoAttr K C "costs") (nt : NoAttr K C "total") (nw : NoAttr K C "whole") : FnOk P w K mg base CX0 2 f fd ["self", "row", "column"] (spPiv C) := by
  refine fn_hs F sc_piv (fun vs H Q E h => by obtain ⟨A, m, n, D, r, cc, rfl, _⟩ := h; rfl) (fun cdv Ar outer sh H vs Q E hr h => ?_)
  obtain ⟨A, m, n, D, r, cc, rfl, T, hm, hn, hr', hc', hbd, w0, q⟩ := h
  have B := hbd.1
  haveI mnE : ∀ u : V, Mn (fun (w : V) (_ : Hp) => w = u) := fun u => ⟨fun _ h => h⟩
  refine hs_par3 (S := H) (i := 3) (j := 4) (m := 5) (x := "pivot") (y := "scale") (z := "old") rfl sc_piv.nd (ee_ixL (lsD_at (f := D.T r) hc') (ee_ixL (parts_at (T := D.T) hr') (ee_tb T c np (T.rParts hm hn)) (ee_var 1 rfl (Dt.int (K := K) _))) (ee_var 2 rfl (Dt.int (K := K) _))) (ee_tb T c nw (T.rWhole (K := K)))
    (ee_listN g3 (.inl rfl) (ee_ixL (parts_at (T := D.T) hr') (ee_tb T c np (T.rParts hm hn)) (ee_var 1 rfl (Dt.int (K := K) _)))) (Same.refl H) fun v1 v2 v3 S1 H1 pv1 pv2 pv3 g1' => ?_
  cases pv1; cases pv2
  obtain ⟨oa, oxs, rfl, ho0, ho1, ho2, _⟩ := pv3
  obtain rfl := lsV_of ho2
  have ho1 : H1 oa = some (.lst (lsV n (D.T r))) := g1'.sub _ _ ho1
  obtain ⟨noa, noat⟩ := T.notIn ho0
  have T1 := T.up g1'.hh
  refine hs_set (S := H1) (i := 6) (P := Dt K (.int (D.T r n))) (ee_ixL (lsD_at (f := fun i => D.T i n) hr') (ee_tb T1 c ns (T1.rStarts hm)) (ee_var 1 rfl (Dt.int (K := K) _))) (Same.refl H1) sc_piv.nd fun v S2 H2 g2' pv => ?_
  cases pv
  have T2 := T1.up g2'.hh
  have lsok : ∀ j, j < n → (D.T r j).natAbs < 2 ^ 8000 := fun j hj => B r j (by omega) (by omega)
  refine hs_forR (S := H2) (n := m) (fun i σ H' => TabH C H' A m n (DI D r cc i) ∧ FrmH A H H' ∧ H' oa = some (.lst (lsV n (D.T r))) ∧ ∃ x : Option V, σ = [some (.ref A.t), some (.int r), some (.int cc), some (.int (D.T r cc)), some (.int D.w), some (.ref oa), some (.int (D.T r n)), x, none]) PassesOwn.never rfl g1 (by omega) (ee_len g2 (n := m) (by simp [lenD]) (ee_tb T2 c np (T2.rParts hm hn))) (Same.refl H2)
    (fun S' H' g => ⟨(T2.up g.hh).congr (fun i j _ _ => by rw [di_T, if_neg (by omega)]) rfl (fun _ _ => rfl) (fun _ _ => rfl), FrmH.of ((g1'.hh.trans g2'.hh).trans g.hh), g.hh _ _ (g2'.hh _ _ ho1), none, rfl⟩) ?_ ?_
  · rintro i σ1 H3 hi ⟨T3, F3, o3, x0, rfl⟩
    refine (eg_name (S := H3) (i := 7) sc_piv.nd rfl (by first | exact Or.inl rfl | exact Or.inr rfl)) H3 (Same.refl H3) _ ?_
    refine hs_if (S := H3) (et_neI (ee_var 7 rfl (Dt.int (K := K) _)) (ee_var 1 rfl (Dt.int (K := K) _))) (Same.refl H3) (fun hk S4 H4 g4 => ?_) (fun hk S4 H4 g4 => hs_nil (hs_nil ?_))
    · have hir : i ≠ r := fun e => by rw [e] at hk; simp at hk
      have T4 := T3.up g4.hh
      have o4 := g4.hh _ _ o3
      obtain ⟨xs, p1, p2, p3⟩ := T4.pa
      obtain ⟨a, e1, e2, e3⟩ := p3 i hi
      have eT : lsV n ((DI D r cc i).T i) = lsV n (D.T i) := lsV_congr fun j _ => by rw [di_T, if_neg (by omega)]
      rw [eT] at e2
      refine hs_asgT2H rfl (he_callH D1 (hr.mono (by decide)) (Ps := [fun w _ => w = .ref a, fun w _ => w = .int (D.T i n), fun w _ => w = .ref oa, fun w _ => w = .int (D.T r n), fun w _ => w = .int cc, fun w _ => w = .int D.w])
        (ea_cons (ee_ixB p1 (ee_tb (P := fun w _ => w = .ref A.pa) T4 c np fun _ _ _ => ⟨_, rfl, rfl⟩) (ee_var 7 rfl (Dt.int (K := K) _)) (atI_nat e1) fun _ _ => rfl) (ea_cons ((ee_ixL (lsD_at (f := fun k => (DI D r cc i).T k n) hi) (ee_tb T4 c ns (T4.rStarts hm)) (ee_var 7 rfl (Dt.int (K := K) _))).imp fun v S h => by obtain rfl := h.int_inv; rw [di_T, if_neg (by omega)]) (ea_cons (ee_var 5 rfl rfl) (ea_cons (ee_var 6 rfl rfl) (ea_2 (ee_var 2 rfl rfl) (ee_var 4 rfl rfl)))))) fun vs S5 H5 g5 al => ?_)
      obtain ⟨_, _, _, _, _, _, rfl, rfl, rfl, rfl, rfl, rfl, rfl⟩ := al_six al
      refine ⟨a, oa, n, cc, D.T i, D.T r, D.T i n, D.T r n, D.w, rfl, g5.hh _ _ e2, g5.hh _ _ o4, hn, hc', w0, hbd.2, B i n (by omega) (by omega), B r n (by omega) (by omega), fun j hj => ⟨B i j (by omega) (by omega), lsok j hj⟩, fun tp l H6 s6 hl0 hl1 htp => ?_⟩
      have T6 := (T4.up g5.hh).up s6
      have s46 : Same H4 H6 := g5.hh.trans s6
      obtain ⟨nl, nlt⟩ := (T4.up g5.hh).notIn hl0
      refine ⟨tp, _, _, rfl, htp, ?_⟩
      have p6 := s46 _ _ p1
      refine hg_sub (l := A.pa) (j := i) (ee_tb (P := fun w _ => w = .ref A.pa) T6 c np fun _ _ _ => ⟨_, rfl, rfl⟩) (ee_var 7 rfl (Dt.int (K := K) _)) p6 (by rw [p2]; exact ixN_nat hi) fun H7 s7 => ?_
      have T7 := (T6.up s7).setPart (i := i) (s7 _ _ p6) hi (s7 _ _ hl1) nl
      refine hg_sub (l := A.sa) (j := i) (ee_tb (P := fun w _ => w = .ref A.sa) T7 c ns fun _ _ _ => ⟨_, rfl, rfl⟩) (ee_var 7 rfl (Dt.int (K := K) _)) T7.st (by rw [lsV_len]; exact ixN_nat hi) fun H8 s8 => hs_nil (hs_nil ?_)
      have T8 := (T7.up s8).setStart (i := i) (x := (D.T r cc * D.T i n - D.T i cc * D.T r n) / D.w) hi
      have F6 : FrmH A H H6 := F3.trans (FrmH.of (g4.hh.trans s46))
      have F8 : FrmH A H (upd H8 A.sa (.lst ((lsV m fun i_1 => ({ DI D r cc i with T := fun a b => if a = i ∧ b < n then mixF (D.T i) (D.T r) cc D.w b else (DI D r cc i).T a b } : Sv.Dic).T i_1 n).set i (.int ((D.T r cc * D.T i n - D.T i cc * D.T r n) / D.w))))) := ((F6.trans (FrmH.of s7)).put (.inr (.inl fun h => h.2.2.1 rfl))).trans (FrmH.of s8) |>.put (.inr (.inl fun h => h.2.2.2 rfl))
      have o8 : ∀ X, (upd H8 A.sa X) oa = some (.lst (lsV n (D.T r))) := fun X => by
        rw [upd_ne noa.2.2.2]
        refine s8 _ _ ?_
        rw [upd_ne noa.2.2.1]
        exact s7 _ _ (s46 _ _ o4)
      refine ⟨T8.congr (fun a b ha hb => ?_) rfl (fun _ _ => rfl) (fun _ _ => rfl), F8, o8 _, _, rfl⟩
      show (DI D r cc (i + 1)).T a b = if a = i ∧ b = n then (D.T r cc * D.T i n - D.T i cc * D.T r n) / D.w else if a = i ∧ b < n then mixF (D.T i) (D.T r) cc D.w b else (DI D r cc i).T a b
      rw [di_T, di_T]
      by_cases ea : a = i
      · subst ea
        rw [if_pos ⟨by omega, hir⟩]
        by_cases eb : b = n
        · subst eb
          rw [if_pos ⟨rfl, rfl⟩, Sv.piv_ij hir (by omega)]
        · rw [if_neg (fun h => eb h.2), if_pos ⟨rfl, by omega⟩]
          unfold mixF
          by_cases ec : b = cc
          · rw [if_pos ec, ec, Sv.piv_ic hir]
          · rw [if_neg ec, Sv.piv_ij hir ec]
      · rw [if_neg (show ¬ (a = i ∧ b = n) from fun h => ea h.1), if_neg (show ¬ (a = i ∧ b < n) from fun h => ea h.1)]
        by_cases er : a < i ∧ a ≠ r
        · rw [if_pos (show a < i ∧ a ≠ r from er), if_pos (show a < i + 1 ∧ a ≠ r from ⟨by omega, er.2⟩)]
        · rw [if_neg (show ¬ (a < i ∧ a ≠ r) from er), if_neg (show ¬ (a < i + 1 ∧ a ≠ r) from fun h => er ⟨by omega, h.2⟩)]
    · have hir : i = r := by
        have := hk
        simp at this
        omega
      refine ⟨(T3.up g4.hh).congr (fun a b _ _ => ?_) rfl (fun _ _ => rfl) (fun _ _ => rfl), F3.trans (FrmH.of g4.hh), g4.hh _ _ o3, _, rfl⟩
      rw [di_T, di_T]
      by_cases er : a < i ∧ a ≠ r
      · rw [if_pos (show a < i ∧ a ≠ r from er), if_pos (show a < i + 1 ∧ a ≠ r from ⟨by omega, er.2⟩)]
      · rw [if_neg (show ¬ (a < i ∧ a ≠ r) from er), if_neg (show ¬ (a < i + 1 ∧ a ≠ r) from fun h => er ⟨by omega, h.2⟩)]
  · rintro σ1 H3 ⟨T3, F3, o3, x0, rfl⟩
    -- the costs
    obtain ⟨ca, ti, tc, tn⟩ := T3.ins
    have eC : lsV n ((DI D r cc m).T m) = lsV n (D.T m) := lsV_congr fun j _ => by rw [di_T, if_neg (by omega)]
    have eCn : (DI D r cc m).T m n = D.T m n := by rw [di_T, if_neg (by omega)]
    have tc' := tc
    rw [eC] at tc'
    refine hs_asgT2H rfl (he_callH D1 (hr.mono (by decide)) (Ps := [fun w _ => w = .ref ca, fun w _ => w = .int (D.T m n), fun w _ => w = .ref oa, fun w _ => w = .int (D.T r n), fun w _ => w = .int cc, fun w _ => w = .int D.w])
      (ea_cons (ee_tb (P := fun w _ => w = .ref ca) T3 c nc fun ca' h1 _ => ⟨_, rfl, by
          rw [ti] at h1
          have := congrArg (fun z : Option HO => match z with | some (.ins _ _ fs) => fs.lookup ("costs" : Str) | _ => none) h1
          exact (Option.some.inj this).symm⟩) (ea_cons (ee_tb (P := fun w _ => w = .int (D.T m n)) T3 c nt fun _ _ _ => ⟨_, rfl, by rw [eCn]⟩) (ea_cons (ee_var 5 rfl rfl) (ea_cons (ee_var 6 rfl rfl) (ea_2 (ee_var 2 rfl rfl) (ee_var 4 rfl rfl)))))) fun vs S5 H5 g5 al => ?_)
    obtain ⟨_, _, _, _, _, _, rfl, rfl, rfl, rfl, rfl, rfl, rfl⟩ := al_six al
    refine ⟨ca, oa, n, cc, D.T m, D.T r, D.T m n, D.T r n, D.w, rfl, g5.hh _ _ tc', g5.hh _ _ o3, hn, hc', w0, hbd.2, B m n (by omega) (by omega), B r n (by omega) (by omega), fun j hj => ⟨B m j (by omega) (by omega), lsok j hj⟩, fun tp l H6 s6 hl0 hl1 htp => ?_⟩
    have s36 : Same H3 H6 := g5.hh.trans s6
    have T6 := T3.up s36
    obtain ⟨nl, nlt⟩ := (T3.up g5.hh).notIn hl0
    have ti6 := s36 _ _ ti
    refine ⟨tp, _, _, rfl, htp, ?_⟩
    refine hg_fld (t := A.t) (ee_var 0 rfl rfl) ti6 c nc (by show 7 < 1000; decide) fun H7 s7 => ?_
    refine hg_fld (t := A.t) (ee_var 0 rfl rfl) upd_same c nt (by show 7 < 1000; decide) fun H8 s8 => ?_
    rw [put_costs, put_total, show (DI D r cc m).w = D.w from rfl]
    have keep8 : ∀ a o, a ≠ A.t → H6 a = some o → (upd H8 A.t (.ins C A.dx (fldL A l ((D.T r cc * D.T m n - D.T m cc * D.T r n) / D.w) D.w))) a = some o := fun a o na e => by
      rw [upd_ne na]
      refine s8 _ _ ?_
      rw [upd_ne na]
      exact s7 _ _ e
    have T9 := T6.setFld (x := (D.T r cc * D.T m n - D.T m cc * D.T r n) / D.w) (w := D.w) keep8 upd_same (keep8 _ _ nlt hl1) nl
    generalize hH9 : (upd H8 A.t (.ins C A.dx (fldL A l ((D.T r cc * D.T m n - D.T m cc * D.T r n) / D.w) D.w))) = H9 at *
    have F9 : FrmH A H H9 := F3.trans fun a o e na nn => keep8 a o na (s36 _ _ e)
    have o9 : H9 oa = some (.lst (lsV n (D.T r))) := keep8 _ _ noat (s36 _ _ o3)
    -- the row itself
    obtain ⟨ys, q1, q2, q3⟩ := T9.pa
    refine hs_setL (b := A.pa) (j := r) (P := NewL K H9 (((lsD n (D.T r)).map fun d => -unI1 d).map PyData.int)) (ee_lcNw (i := 8) (x := "part") rfl sc_piv.nd (blkOk_by (N := ["self", "row", "column", "pivot", "scale", "old", "start", "at", "part"]) (sc := defScope sTableau__pivot) (by decide +kernel)) (ei_list (ee_var 5 rfl (lsV_dt o9 hn))) (by rw [lsD_len]; exact Nat.le_trans hn (by decide)) (fun d hd v S' hs hv sh' H0 C' cl fp => by
            obtain ⟨j, hj, rfl⟩ := List.mem_map.mp hd
            cases hv
            exact ee_neg (ee_var 8 rfl (Dt.int (K := K) _)))) (ee_tb (P := fun w _ => w = .ref A.pa) T9 c np fun _ _ _ => ⟨_, rfl, rfl⟩) (ee_var 1 rfl (Dt.int (K := K) _)) q1 (by rw [q2]; exact ixN_nat hr') fun v H10 s10 pv => ?_
    obtain ⟨na, nxs, rfl, na0, na1, na2, _⟩ := pv
    have e3 : ((lsD n (D.T r)).map fun d => -unI1 d).map PyData.int = lsD n fun j => -D.T r j := by unfold lsD; rw [List.map_map, List.map_map]; rfl
    rw [e3] at na2
    obtain rfl := lsV_of na2
    obtain ⟨nn, nnt⟩ := T9.notIn na0
    have q1' : (upd H10 A.pa (.lst (ys.set r (.ref na)))) A.pa = some (.lst (ys.set r (.ref na))) := upd_same
    have n1 : (upd H10 A.pa (.lst (ys.set r (.ref na)))) na = some (.lst (lsV n fun j => -D.T r j)) := by rw [upd_ne nn.2.2.1]; exact na1
    have T10 := (T9.up s10).setPart (i := r) (s10 _ _ q1) hr' na1 nn
    refine hs_setL (b := na) (j := cc) (P := Dt K (.int D.w)) (ee_var 4 rfl (Dt.int (K := K) _)) (ee_ixB q1' (ee_tb (P := fun w _ => w = .ref A.pa) T10 c np fun _ _ _ => ⟨_, rfl, rfl⟩) (ee_var 1 rfl (Dt.int (K := K) _)) (atI_nat (show (ys.set r (V.ref na))[r]? = some (V.ref na) by rw [List.getElem?_set, if_pos rfl, q2, if_pos hr'])) fun _ _ => rfl) (ee_var 2 rfl (Dt.int (K := K) _)) n1 (by rw [lsV_len]; exact ixN_nat hc') fun v H11 s11 pv => ?_
    cases pv
    rw [lsV_set]
    -- all in one
    have T11 : TabH C (upd H11 na (.lst (lsV n fun j => if j = cc then D.w else -D.T r j))) A m n { DI D r cc m with T := fun a b => if a = r ∧ b < n then (if b = cc then D.w else -D.T r b) else if a = m then (if b = n then (D.T r cc * D.T m n - D.T m cc * D.T r n) / D.w else mixF (D.T m) (D.T r) cc D.w b) else (DI D r cc m).T a b } := by
      have sA : Same H9 (upd H10 na (.lst (lsV n fun j => if j = cc then D.w else -D.T r j))) := Same.mut s10 na0
      have TA := (T9.up sA).setPart (i := r) (sA _ _ q1) hr' (l := na) (g := fun j => if j = cc then D.w else -D.T r j) upd_same nn
      refine (TA.up (H' := upd H11 na (.lst (lsV n fun j => if j = cc then D.w else -D.T r j))) fun z o e => ?_).congr (fun a b _ _ => rfl) rfl (fun _ _ => rfl) (fun _ _ => rfl)
      by_cases hz : z = na
      · subst hz
        rw [upd_same]
        rw [upd_ne nn.2.2.1, upd_same] at e
        exact e
      · rw [upd_ne hz]
        refine s11 _ _ ?_
        by_cases hp : z = A.pa
        · subst hp; rw [upd_same] at e ⊢; exact e
        · rw [upd_ne hp, upd_ne hz] at e; rw [upd_ne hp]; exact e
    have F11 : FrmH A H (upd H11 na (.lst (lsV n fun j => if j = cc then D.w else -D.T r j))) := by
      have f10 : FrmH A H9 (upd H10 A.pa (.lst (ys.set r (.ref na)))) := (FrmH.of s10).put (.inr (.inl fun h => h.2.2.1 rfl))
      refine F9.trans fun a o e na' nn' => ?_
      rw [upd_ne (ne_of_none e na0)]
      exact s11 _ _ (f10 a o e na' nn')
    generalize (upd H11 na (.lst (lsV n fun j => if j = cc then D.w else -D.T r j))) = HA at *
    -- the start
    refine hs_setL (b := A.sa) (j := r) (P := Dt K (.int (-D.T r n))) (ee_neg (ee_var 6 rfl (Dt.int (K := K) _))) (ee_tb (P := fun w _ => w = .ref A.sa) T11 c ns fun _ _ _ => ⟨_, rfl, rfl⟩) (ee_var 1 rfl (Dt.int (K := K) _)) T11.st (by rw [lsV_len]; exact ixN_nat hr') fun v H12 s12 pv => ?_
    cases pv
    have T12 := (T11.up s12).setStart (i := r) (x := -D.T r n) hr'
    have F12 : ∀ X, FrmH A H (upd H12 A.sa X) := fun X => (F11.trans (FrmH.of s12)).put (.inr (.inl fun h => h.2.2.2 rfl))
    generalize hHB : (upd H12 A.sa _) = HB at T12
    have F12 : FrmH A H HB := by rw [← hHB]; exact F12 _
    -- the whole
    obtain ⟨D12, hD12, T12⟩ : ∃ D12, D12 = _ ∧ TabH C HB A m n D12 := ⟨_, rfl, T12⟩
    obtain ⟨ca2, ti2, tc2, tn2⟩ := T12.ins
    refine hs_fld (S := HB) (P := Dt K (.int (D.T r cc))) (r := A.t) (C := C) (ee_var 3 rfl (Dt.int (K := K) _)) (Same.refl HB) (fun S1 _ => ee_var 0 rfl rfl) ti2 c nw (by show 7 < 1000; decide) fun v S13 H13 g13 pv e13 => ?_
    cases pv
    rw [put_whole]
    have keepC : ∀ x, ∀ a o, a ≠ A.t → HB a = some o → (upd H13 A.t x) a = some o := fun x a o na e => by
      rw [upd_ne na]
      exact g13.hh _ _ e
    have nt2 : ca2 ≠ A.t := T12.nt tc2
    have T14 := T12.setFld (x := D12.T m n) (w := D.T r cc) (keepC _) upd_same (keepC _ _ _ nt2 tc2) tn2
    have F14 : ∀ X, FrmH A H (upd H13 A.t X) := fun X => (F12.trans (FrmH.of g13.hh)).put (.inl rfl)
    generalize hHC : (upd H13 A.t _) = HC at T14
    have F14 : FrmH A H HC := by rw [← hHC]; exact F14 _
    -- the exchange
    subst hD12
    refine hs_asgT2 (d1 := .int (D.be r : Nat)) (d2 := .int (D.fr cc : Nat)) rfl (ee_tup (ds := [.int (D.be r : Nat), .int (D.fr cc : Nat)]) (ea_2 (ee_ixL (lsD_at (f := fun i => (D.be i : Nat)) hr') (ee_tb T14 c nb (T14.rBasic hm)) (ee_var 1 rfl (Dt.int (K := K) _))) (ee_ixL (lsD_at (f := fun i => (D.fr i : Nat)) hc') (ee_tb T14 c nf (T14.rFree hn)) (ee_var 2 rfl (Dt.int (K := K) _))))) fun v1 v2 H15 s15 pv1 pv2 => ?_
    cases pv1; cases pv2
    have T15 := T14.up s15
    refine hg_sub (l := A.fa) (j := cc) (ee_tb (P := fun w _ => w = .ref A.fa) T15 c nf fun _ _ _ => ⟨_, rfl, rfl⟩) (ee_var 2 rfl (Dt.int (K := K) _)) T15.fr (by rw [lsV_len]; exact ixN_nat hc') fun H16 s16 => ?_
    have T16 := (T15.up s16).setFree (k := cc) (x := D.be r)
    refine hg_sub (l := A.ba) (j := r) (ee_tb (P := fun w _ => w = .ref A.ba) T16 c nb fun _ _ _ => ⟨_, rfl, rfl⟩) (ee_var 1 rfl (Dt.int (K := K) _)) T16.be (by rw [lsV_len]; exact ixN_nat hr') fun H17 s17 => hs_nil ?_
    have T17 := (T16.up s17).setBasic (k := r) (x := D.fr cc)
    have F17 : ∀ X Y, Same (upd H16 A.fa X) H17 → FrmH A H (upd H17 A.ba Y) := fun X Y s => (((F14.trans (FrmH.of s15)).trans (FrmH.of s16)).put (.inr (.inl fun h => h.1 rfl))).trans (FrmH.of s) |>.put (.inr (.inl fun h => h.2.1 rfl))
    refine q _ (T17.congr (fun a b ha hb => ?_) rfl (fun _ _ => rfl) (fun _ _ => rfl)) (F17 _ _ s17)
    show (D.piv r cc).T a b = if a = m then (if b = n then (if m = r ∧ n = n then -D.T r n else if m = r ∧ n < n then (if n = cc then D.w else -D.T r n) else if m = m then (if n = n then (D.T r cc * D.T m n - D.T m cc * D.T r n) / D.w else mixF (D.T m) (D.T r) cc D.w n) else (DI D r cc m).T m n) else (if m = r ∧ b = n then -D.T r n else if m = r ∧ b < n then (if b = cc then D.w else -D.T r b) else if m = m then (if b = n then (D.T r cc * D.T m n - D.T m cc * D.T r n) / D.w else mixF (D.T m) (D.T r) cc D.w b) else (DI D r cc m).T m b)) else (if a = r ∧ b = n then -D.T r n else if a = r ∧ b < n then (if b = cc then D.w else -D.T r b) else if a = m then (if b = n then (D.T r cc * D.T m n - D.T m cc * D.T r n) / D.w else mixF (D.T m) (D.T r) cc D.w b) else (DI D r cc m).T a b)
    have mr : m ≠ r := by omega
    have nc' : n ≠ cc := by omega
    by_cases ea : a = m
    · subst ea
      rw [if_pos rfl]
      by_cases eb : b = n
      · subst eb
        rw [if_pos rfl, if_neg (fun h => mr h.1), if_neg (fun h => mr h.1), if_pos rfl, if_pos rfl, Sv.piv_ij mr nc']
      · rw [if_neg eb, if_neg (fun h => mr h.1), if_neg (fun h => mr h.1), if_pos rfl, if_neg eb]
        unfold mixF
        by_cases ec : b = cc
        · rw [if_pos ec, ec, Sv.piv_ic mr]
        · rw [if_neg ec, Sv.piv_ij mr ec]
    · rw [if_neg ea]
      by_cases er : a = r
      · subst er
        by_cases eb : b = n
        · subst eb
          rw [if_pos ⟨rfl, rfl⟩, Sv.piv_rj nc']
        · rw [if_neg (fun h => eb h.2), if_pos ⟨rfl, by omega⟩]
          by_cases ec : b = cc
          · rw [if_pos ec, ec, Sv.piv_rc]
          · rw [if_neg ec, Sv.piv_rj ec]
      · rw [if_neg (fun h => er h.1), if_neg (fun h => er h.1), if_neg ea, di_T, if_pos ⟨by omega, er⟩]
end
end K04
namespace K04
open PySem PySem.Spec PyProof.Rows L2 Z Y
section
variable {P : Program} {w : World} {K : PySem.W.Frag} {mg : Str → Option Value} {base : Heap} {f : Addr} {fd : FuncData}
/-! ### run -/
structure RunOk (D : Sv.Dic) (m n : Nat) (R : Nat → Nat → Int) (B Cc : Nat → Int) : Prop where
  F : Sv.From D m n R B Cc
  bd : ∃ b : Nat, (∀ v k, k < m + 1 → (Sv.iniA m n R B Cc v k).natAbs ≤ b) ∧ ((m + 1) * b) ^ (m + 1) < 2 ^ 8000
theorem RunOk.bdD {D : Sv.Dic} {m n : Nat} {R : Nat → Nat → Int} {B Cc : Nat → Int} (h : RunOk D m n R B Cc) : BdD D m n := by
  obtain ⟨b, h1, h2⟩ := h.bd
  exact ⟨fun i j hi hj => Nat.lt_of_le_of_lt (h.F.G.I.bd h1 hi hj) h2, Nat.lt_of_le_of_lt (h.F.G.I.bdw h1) h2⟩
/-- how a run ends -/
def RunE (E : Sv.Dic) (m n : Nat) (r : Int) : Prop := (r = -1 ∧ ∀ i, i < m → 0 ≤ E.T i n) ∨ ∃ k : Nat, r = k ∧ k < m ∧ E.T k n < 0 ∧ (∀ i, i < m → E.T i n < 0 → E.be k ≤ E.be i) ∧ ∀ j, j < n → E.T k j ≤ 0
def spRun (C : Addr) : Sp := fun vs H Q _ => ∃ A m n D R B Cc, vs = [.ref A.t] ∧ TabH C H A m n D ∧ m ≤ 1000 ∧ n ≤ 1000 ∧ RunOk D m n R B Cc ∧ ∀ E r H', Sv.Runs m n D E → RunE E m n r → TabH C H' A m n E → FrmH A H H' → Q (.int r) H'
theorem sc_run : FnScope ["self", "row", "column"] ["self"] (defScope sTableau__run) := ⟨rfl, rfl, rfl, by decide +kernel, rfl, by decide +kernel, by decide +kernel⟩
theorem ok_run {C : Addr} (F : FnM K "run" "Tableau.run" sTableau__run f fd) (c : Cls K C) (D1 : KM P w K mg base C "leaving" 1 (spLeav C)) (D2 : KM P w K mg base C "entering" 1 (spEnt C)) (D3 : KM P w K mg base C "pivot" 2 (spPiv C)) : FnOk P w K mg base CX0 3 f fd ["self"] (spRun C) := by
  refine fn_hs F sc_run (fun vs H Q E h => by obtain ⟨A, m, n, D, R, B, Cc, rfl, _⟩ := h; rfl) (fun cdv Ar outer sh H vs Q E hr h => ?_)
  obtain ⟨A, m, n, D, R, B, Cc, rfl, T, hm, hn, hok, q⟩ := h
  haveI mnE : ∀ u : V, Mn (fun (w : V) (_ : Hp) => w = u) := fun u => ⟨fun _ h => h⟩
  obtain ⟨k0, hk0⟩ := Sv.ends_in hok.F.G hok.F.acc
  refine hs_whileH (fun k σ H' => ∃ D' x y, σ = [some (.ref A.t), x, y] ∧ TabH C H' A m n D' ∧ RunOk D' m n R B Cc ∧ Sv.EndsIn m n k D' ∧ FrmH A H H' ∧ ∀ E, Sv.Runs m n D' E → Sv.Runs m n D E) k0 PassesOwn.never ⟨D, none, none, rfl, T, hok, hk0, FrmH.refl, fun _ h => h⟩ fun k σ1 H1 ⟨D', x, y, hσ, T1, ok1, hk, F1, hR⟩ => ?_
  subst hσ
  refine (et_val ee_bl : ET _ _ H1 _ true) H1 (Same.refl H1) _ fun S2 H2 g2 => ?_
  rw [if_pos rfl]
  have T2 := T1.up g2.hh
  have F2 := F1.trans (FrmH.of g2.hh)
  obtain ⟨ca2, ti2, _⟩ := T2.ins
  refine hs_setH (i := 1) (x := "row") sc_run.nd (he_methH0 D1 c (hr.mono (by decide)) (ee_var 0 rfl rfl) ti2 rfl fun H3 s3 => ⟨A, m, n, D', rfl, T2.up s3, hm, hn, fun r H4 hL s4 => ?_⟩)
  have T4 := (T2.up s3).up s4
  have F4 := F2.trans (FrmH.of (s3.trans s4))
  refine hs_if (S := H4) (et_lt (ee_var 1 rfl (Dt.int (K := K) _)) ee_int) (Same.refl H4) (fun hk5 S5 H5 g5 => ?_) (fun hk5 S5 H5 g5 => hs_nil ?_)
  · refine hs_ret (S := H5) (P := Dt K (.int (-1))) (ee_neg ee_int) (Same.refl H5) fun v S6 H6 g6 pv => ?_
    cases pv
    have hk5 := of_decide_eq_true hk5
    have t : ∀ i, i < m → 0 ≤ D'.T i n := by
      rcases hL with ⟨_, h⟩ | ⟨j, rfl, _⟩
      · exact h
      · omega
    exact q D' (-1) H6 (hR _ (.stop (.inl t))) (.inl ⟨rfl, t⟩) ((T4.up g5.hh).up g6.hh) (F4.trans (FrmH.of (g5.hh.trans g6.hh)))
  · have hk5 := of_decide_eq_false hk5
    obtain ⟨j, rfl, hj, hneg, hle⟩ : ∃ j : Nat, r = j ∧ j < m ∧ D'.T j n < 0 ∧ ∀ i, i < m → D'.T i n < 0 → D'.be j ≤ D'.be i := by
      rcases hL with ⟨rfl, _⟩ | h
      · omega
      · exact h
    have T5 := T4.up g5.hh
    have F5 := F4.trans (FrmH.of g5.hh)
    obtain ⟨ca5, ti5, _⟩ := T5.ins
    refine hs_setH (i := 2) (x := "column") sc_run.nd (he_methH D2 c (hr.mono (by decide)) (Ps := [fun w _ => w = .int j]) (ee_var 0 rfl rfl) ti5 rfl (ea_1 (ee_var 1 rfl rfl)) fun vs S6 H6 g6 al => ?_)
    obtain ⟨_, rfl, rfl⟩ := al.one
    refine ⟨A, m, n, D', j, rfl, T5.up g6.hh, hm, hn, hj, ok1.bdD, fun x7 H7 hE s7 => ?_⟩
    have T7 := (T5.up g6.hh).up s7
    have F7 := F5.trans (FrmH.of (g6.hh.trans s7))
    refine hs_if (S := H7) (et_lt (ee_var 2 rfl (Dt.int (K := K) _)) ee_int) (Same.refl H7) (fun hk8 S8 H8 g8 => ?_) (fun hk8 S8 H8 g8 => hs_nil ?_)
    · refine hs_ret (S := H8) (P := Dt K (.int j)) (ee_var 1 rfl (Dt.int (K := K) _)) (Same.refl H8) fun v S9 H9 g9 pv => ?_
      cases pv
      have hk8 := of_decide_eq_true hk8
      have t : ∀ i, i < n → D'.T j i ≤ 0 := by
        rcases hE with ⟨_, h⟩ | ⟨j, rfl, _⟩
        · exact h
        · omega
      exact q D' j H9 (hR _ (.stop (.inr ⟨j, hj, hneg, hle, t⟩))) (.inr ⟨j, rfl, hj, hneg, hle, t⟩) ((T7.up g8.hh).up g9.hh) (F7.trans (FrmH.of (g8.hh.trans g9.hh)))
    · have hk8 := of_decide_eq_false hk8
      obtain ⟨cc, rfl, hcn, hpos, hrat⟩ : ∃ cc : Nat, x7 = cc ∧ cc < n ∧ 0 < D'.T j cc ∧ ∀ l, l < n → 0 < D'.T j l → D'.T m cc * D'.T j l ≤ D'.T m l * D'.T j cc ∧ (D'.T m cc * D'.T j l = D'.T m l * D'.T j cc → D'.fr cc ≤ D'.fr l) := by
        rcases hE with ⟨rfl, _⟩ | h
        · omega
        · exact h
      have U : Sv.Rul D' m n j cc := ⟨hj, hneg, hle, hcn, hpos, fun l hl hp => (hrat l hl hp).1, fun l hl hp => (hrat l hl hp).2⟩
      have T8 := T7.up g8.hh
      have F8 := F7.trans (FrmH.of g8.hh)
      obtain ⟨ca8, ti8, _⟩ := T8.ins
      refine hs_exprH (he_methH D3 c (hr.mono (by decide)) (Ps := [fun w _ => w = .int j, fun w _ => w = .int cc]) (ee_var 0 rfl rfl) ti8 rfl (ea_2 (ee_var 1 rfl rfl) (ee_var 2 rfl rfl)) fun vs S9 H9 g9 al => ?_)
      obtain ⟨_, _, rfl, rfl, rfl⟩ := al.two
      refine ⟨A, m, n, D', j, cc, rfl, T8.up g9.hh, hm, hn, hj, hcn, ok1.bdD, ok1.F.G.I.pos, fun H10 T10 F10 => hs_nil ?_⟩
      cases k with
      | zero => exact (hk j cc U).elim
      | succ k => exact ⟨k, by omega, D'.piv j cc, _, _, rfl, T10, ⟨ok1.F.piv U, ok1.bd⟩, hk j cc U, (F8.trans (FrmH.of g9.hh)).trans F10, fun E h => hR E (.step U h)⟩
end
end K04
namespace K04
open PySem PySem.Spec PyProof.Rows L2 Z Y
section
variable {P : Program} {w : World} {K : PySem.W.Frag} {mg : Str → Option Value} {base : Heap} {f : Addr} {fd : FuncData}
/-! ### a tableau is made -/
def sqD (t : Bool) (ds : List PyData) : PyData := if t = true then .tuple ds else .list ds
theorem sqD_or (t : Bool) (ds : List PyData) : sqD t ds = .list ds ∨ sqD t ds = .tuple ds := by cases t; exact .inl rfl; exact .inr rfl
theorem lenD_sq (t : Bool) (ds : List PyData) : lenD (sqD t ds) = some ds.length := by cases t <;> rfl
def rowsD (tk : Bool) (rk : Nat → Bool) (m n : Nat) (R : Nat → Nat → Int) : PyData := sqD tk ((List.range m).map fun i => sqD (rk i) (lsD n (R i)))
def bndD (bk : Bool) (m : Nat) (B : Nat → Int) : PyData := sqD bk (lsD m B)
theorem ei_sq {X : Cx} {σ : L2.St} {S : Hp} {tg e : Expr} {t : Bool} {ds : List PyData} (ha : EE X σ S e (Dt X.K (sqD t ds))) : EI X σ S tg e (Ds X.K ds) := by
  cases t
  · exact ei_list ha
  · exact ei_tup ha
theorem ei_sqF {X : Cx} {σ : L2.St} {S : Hp} {tg e : Expr} {t : Bool} {α : Type} {l : List α} {f : α → PyData} (ha : EE X σ S e (Dt X.K (sqD t (l.map f)))) : EI X σ S tg e (l.map fun a => Dt X.K (f a)) := by
  have h := ei_sq (tg := tg) ha
  unfold Ds at h
  rw [List.map_map] at h
  exact h
theorem sq_hz {t : Bool} {ds : List PyData} : ∀ x, sqD t ds = .str x → x.length ≤ sizeLine := fun x h => by cases t <;> cases h
/-- data stand where an instance changes -/
def KpX (a : Addr) (H H' : Hp) : Prop := ∀ z o, z ≠ a → H z = some o → H' z = some o
theorem dt_kx {d : PyData} {v : V} {H H' : Hp} {a C dx : Addr} {fs : List (Str × V)} (e : KpX a H H') (ha : H a = some (.ins C dx fs)) (h : Dt K d v H) : Dt K d v H' := by
  induction h with
  | non => exact .non
  | bl b => exact .bl b
  | int i => exact .int i
  | str x => exact .str x
  | lst h l z _ ih => exact .lst (e _ _ (fun q => by rw [q, ha] at h; cases h) h) l z fun i x d hx hd => ih i x d hx hd e ha
  | tup h l z _ ih =>
    refine .tup ?_ l z fun i x d hx hd => ih i x d hx hd e ha
    rcases h with h | ⟨e0, (h | ⟨o', h⟩) | h⟩
    · exact .inl (e _ _ (fun q => by rw [q, ha] at h; cases h) h)
    · exact .inl (e _ _ (fun q => by rw [q, ha] at h; cases h) h)
    · exact .inr ⟨e0, .inl (.inr ⟨o', e _ _ (fun q => by rw [q, ha] at h; cases h) h⟩)⟩
    · exact .inr ⟨e0, .inr h⟩
theorem KpX.refl {a : Addr} {H : Hp} : KpX a H H := fun _ _ _ h => h
theorem KpX.step {a : Addr} {H H1 H2 : Hp} {o : HO} (k : KpX a H H1) (s : Same H1 H2) : KpX a H (upd H2 a o) := fun z u n h => by rw [upd_ne n]; exact s _ _ (k z u n h)
def spTI (K : PySem.W.Frag) (C : Addr) : Sp := fun vs H Q _ => ∃ a dx vc vr vb, ∃ m n : Nat, ∃ R B Cc tk rk bk, vs = [.ref a, vc, vr, vb] ∧ H a = some (.ins C dx []) ∧ Dt K (.list (lsD n Cc)) vc H ∧ Dt K (rowsD tk rk m n R) vr H ∧ Dt K (bndD bk m B) vb H ∧ m ≤ 1000 ∧ n ≤ 1000 ∧
  ∀ fa ba pa sa H', KpX a H H' → H fa = none → H ba = none → H pa = none → H sa = none → TabH C H' ⟨a, dx, fa, ba, pa, sa⟩ m n (Sv.ini m n R B Cc) → Q .non H'
theorem sc_tini : FnScope ["self", "costs", "rows", "bounds", "width", "many", "row", "bound"] ["self", "costs", "rows", "bounds"] (defScope sTableau____init__) := ⟨rfl, rfl, rfl, by decide +kernel, rfl, by decide +kernel, by decide +kernel⟩
theorem ok_tini {C : Addr} (F : FnM K "__init__" "Tableau.__init__" sTableau____init__ f fd) (g1 : mg "len" = none) (g2 : mg "list" = none) (g3 : mg "range" = none) (c : Cls K C) (nf : NoAttr K C "free") (nb : NoAttr K C "basic") (np : NoAttr K C "parts") (ns : NoAttr K C "starts") (nc : NoAttr K C "costs") (nt : NoAttr K C "total") (nw : NoAttr K C "whole") : FnOk P w K mg base CX0 1 f fd ["self", "costs", "rows", "bounds"] (spTI K C) := by
  refine fn_hs F sc_tini (fun vs H Q E h => by obtain ⟨a, dx, vc, vr, vb, m, n, R, B, Cc, tk, rk, bk, rfl, _⟩ := h; rfl) (fun cdv Ar outer sh H vs Q E hr h => ?_)
  obtain ⟨a, dx, vc, vr, vb, m, n, R, B, Cc, tk, rk, bk, rfl, ha, pc, pr, pb, hm, hn, q⟩ := h
  refine hs_par (S := H) (i := 4) (j := 5) (x := "width") (y := "many") (Pa := Dt K (.int (n : Nat))) (Pb := Dt K (.int (m : Nat))) rfl sc_tini.nd (ee_len g1 (n := n) (by show some (lsD n Cc).length = _; rw [lsD_len]) (ee_var 1 rfl pc)) (ee_len g1 (n := m) (by unfold rowsD; rw [lenD_sq, List.length_map, List.length_range]) (ee_var 2 rfl pr) (hz := sq_hz)) (Same.refl H) fun v1 v2 S1 H1 pv1 pv2 g1' => ?_
  cases pv1; cases pv2
  have a1 := g1'.hh _ _ ha
  have k1 : KpX a H H1 := fun z o _ h => g1'.hh _ _ h
  -- free
  refine hs_fld (S := H1) (P := NewL K H1 ((List.range (n : Int).toNat).map fun k : Nat => .int (k : Nat))) (r := a) (C := C) (dx := dx) (fs := []) (ee_listRg1 rfl g2 g3 (RgOk.of_le (by omega) (by omega) (by omega) (by omega)) (ee_var 4 rfl (Dt.int (K := K) _))) (Same.refl H1) (fun S2 _ => ee_var 0 rfl rfl) a1 c nf (by decide) fun v S2 H2 g2' pv e2 => ?_
  obtain ⟨fa, fx, rfl, f0, f1, f2, _⟩ := pv
  have ef : fx = lsV n fun j => (j : Nat) := lsV_of (K := K) (H := S2) (by unfold lsD; rw [Int.toNat_natCast] at f2; exact f2)
  subst ef
  have kf := g2'.sub _ _ f1
  have nfa : fa ≠ a := fun e => by rw [e, a1] at f0; cases f0
  have k2 := k1.step (o := .ins C dx (putF ("free" : Str) (.ref fa) [])) g2'.hh
  generalize hH3 : upd H2 a (.ins C dx (putF ("free" : Str) (.ref fa) [])) = H3 at k2
  have a3 : H3 a = some (.ins C dx (putF ("free" : Str) (.ref fa) [])) := by rw [← hH3]; exact upd_same
  have kf3 : H3 fa = some (.lst (lsV n fun j => (j : Nat))) := by rw [← hH3, upd_ne nfa]; exact kf
  -- basic
  refine hs_fld (S := H3) (P := NewL K H3 ((List.range ((n : Int) + (m : Nat) - (n : Nat)).toNat).map fun k : Nat => .int ((n : Nat) + (k : Nat)))) (r := a) (C := C) (ee_listRg2 rfl g2 g3 (RgOk.of_le (by omega) (by omega) (by omega) (by omega)) (ee_var 4 rfl (Dt.int (K := K) _)) (ee_add (ee_var 4 rfl (Dt.int (K := K) _)) (ee_var 5 rfl (Dt.int (K := K) _)))) (Same.refl H3) (fun S2 _ => ee_var 0 rfl rfl) a3 c nb (by show 1 < 1000; decide) fun v S4 H4 g4 pv e4 => ?_
  obtain ⟨ba, bx, rfl, b0, b1, b2, _⟩ := pv
  have eb : bx = lsV m fun i => ((n + i : Nat) : Int) := lsV_of (K := K) (H := S4) (by unfold lsD; rw [show ((n : Int) + (m : Nat) - (n : Nat)).toNat = m by omega] at b2; exact b2)
  subst eb
  have kb := g4.sub _ _ b1
  have nba : ba ≠ a := fun e => by rw [e, a3] at b0; cases b0
  have nbf : fa ≠ ba := fun e => by rw [← e, kf3] at b0; cases b0
  have k4 := k2.step (o := .ins C dx (putF ("basic" : Str) (.ref ba) (putF ("free" : Str) (.ref fa) []))) g4.hh
  have k34 : KpX a H3 (upd H4 a (.ins C dx (putF ("basic" : Str) (.ref ba) (putF ("free" : Str) (.ref fa) [])))) := KpX.refl.step g4.hh
  generalize hH5 : upd H4 a (.ins C dx (putF ("basic" : Str) (.ref ba) (putF ("free" : Str) (.ref fa) []))) = H5 at k4 k34
  have a5 : H5 a = some (.ins C dx (putF ("basic" : Str) (.ref ba) (putF ("free" : Str) (.ref fa) []))) := by rw [← hH5]; exact upd_same
  have kb5 : H5 ba = some (.lst (lsV m fun i => ((n + i : Nat) : Int))) := by rw [← hH5, upd_ne nba]; exact kb
  have kf5 := k34 _ _ nfa kf3
  -- parts
  have pr5 : Dt K (rowsD tk rk m n R) vr H5 := dt_kx k4 ha pr
  refine hs_fld (S := H5) (P := LstPN H5 ((List.range m).map fun i => NewL K H5 (lsD n (R i)))) (r := a) (C := C) (ee_lcNB (own := [("row", 6)]) (R := fun i => Dt K (sqD (rk i) (lsD n (R i)))) (G := fun i => NewL K H5 (lsD n (R i))) (ds := List.range m) (fun i _ => inferInstance) rfl sc_tini.nd (blkOk_by (N := ["self", "costs", "rows", "bounds", "width", "many", "row", "bound"]) (sc := defScope sTableau____init__) (by decide +kernel)) (ei_sqF (ee_var 2 rfl pr5)) (by rw [List.length_range]; exact Nat.le_trans hm (by decide)) (fun i hi v S' hs hv => ⟨_, wipe1, fun sh' H0 C' cl fp => ⟨eg_name sc_tini.nd rfl (by first | exact Or.inl rfl | exact Or.inr rfl), ets_nil, (ee_listN g2 (sqD_or _ _) (ee_var 6 rfl hv)).imp fun u S2 h => h.dn hs⟩⟩)) (Same.refl H5) (fun S2 _ => ee_var 0 rfl rfl) a5 c np (by show 2 < 1000; decide) fun v S6 H6 g6 pv e6 => ?_
  obtain ⟨pa, pxs, S7, rfl, p0, s57, p1, s76, p2, al⟩ := pv
  have kp := g6.sub _ _ p2
  have npa : pa ≠ a := fun e => by rw [e, a5] at p0; cases p0
  have npf : fa ≠ pa := fun e => by rw [← e, kf5] at p0; cases p0
  have npb : ba ≠ pa := fun e => by rw [← e, kb5] at p0; cases p0
  have plen : pxs.length = m := by rw [al_len al, List.length_map, List.length_range]
  have prow : ∀ i, i < m → ∃ l, pxs[i]? = some (.ref l) ∧ H6 l = some (.lst (lsV n (R i))) ∧ H5 l = none ∧ l ≠ pa := fun i hi => by
    have hx : pxs[i]? = some (pxs[i]'(by omega)) := List.getElem?_eq_getElem _
    obtain ⟨P, hP, pp⟩ := al_get al hx
    rw [List.getElem?_map, List.getElem?_range hi] at hP
    obtain rfl := Option.some.inj hP
    obtain ⟨l, xs, e, l0, l1, l2, _⟩ := pp
    obtain rfl := lsV_of l2
    exact ⟨l, by rw [hx, e], g6.sub _ _ (s76 _ _ l1), l0, fun e => by rw [e, p1] at l1; cases l1⟩
  have k6 := k4.step (o := .ins C dx (putF ("parts" : Str) (.ref pa) (putF ("basic" : Str) (.ref ba) (putF ("free" : Str) (.ref fa) [])))) g6.hh
  have k56 : KpX a H5 (upd H6 a (.ins C dx (putF ("parts" : Str) (.ref pa) (putF ("basic" : Str) (.ref ba) (putF ("free" : Str) (.ref fa) []))))) := KpX.refl.step g6.hh
  have k66 : KpX a H6 (upd H6 a (.ins C dx (putF ("parts" : Str) (.ref pa) (putF ("basic" : Str) (.ref ba) (putF ("free" : Str) (.ref fa) []))))) := KpX.refl.step (Same.refl _)
  generalize hH7 : upd H6 a (.ins C dx (putF ("parts" : Str) (.ref pa) (putF ("basic" : Str) (.ref ba) (putF ("free" : Str) (.ref fa) [])))) = H7 at k6 k56 k66
  have a7 : H7 a = some (.ins C dx (putF ("parts" : Str) (.ref pa) (putF ("basic" : Str) (.ref ba) (putF ("free" : Str) (.ref fa) [])))) := by rw [← hH7]; exact upd_same
  -- starts
  have pb7 : Dt K (bndD bk m B) vb H7 := dt_kx k6 ha pb
  refine hs_fld (S := H7) (P := NewL K H7 (((lsD m B).map fun d => -unI1 d).map PyData.int)) (r := a) (C := C) (ee_lcNw (i := 7) (x := "bound") rfl sc_tini.nd (blkOk_by (N := ["self", "costs", "rows", "bounds", "width", "many", "row", "bound"]) (sc := defScope sTableau____init__) (by decide +kernel)) (ei_sq (ee_var 3 rfl pb7)) (by rw [lsD_len]; exact Nat.le_trans hm (by decide)) (fun d hd v S' hs hv sh' H0 C' cl fp => by
      obtain ⟨j, hj, rfl⟩ := List.mem_map.mp hd
      cases hv
      exact ee_neg (ee_var 7 rfl (Dt.int (K := K) _)))) (Same.refl H7) (fun S2 _ => ee_var 0 rfl rfl) a7 c ns (by show 3 < 1000; decide) fun v S8 H8 g8 pv e8 => ?_
  obtain ⟨sa, sx, rfl, s0, s1, s2, _⟩ := pv
  have es : sx = lsV m fun i => -B i := lsV_of (K := K) (H := S8) (by
    have e3 : ((lsD m B).map fun d => -unI1 d).map PyData.int = lsD m fun i => -B i := by unfold lsD; rw [List.map_map, List.map_map]; rfl
    rw [e3] at s2
    exact s2)
  subst es
  have ks := g8.sub _ _ s1
  have nsa : sa ≠ a := fun e => by rw [e, a7] at s0; cases s0
  have kf7 := k56 _ _ nfa kf5
  have kb7 := k56 _ _ nba kb5
  have kp7 := k66 _ _ npa kp
  have nsf : fa ≠ sa := fun e => by rw [← e, kf7] at s0; cases s0
  have nsb : ba ≠ sa := fun e => by rw [← e, kb7] at s0; cases s0
  have nsp : pa ≠ sa := fun e => by rw [← e, kp7] at s0; cases s0
  have k8 := k6.step (o := .ins C dx (putF ("starts" : Str) (.ref sa) (putF ("parts" : Str) (.ref pa) (putF ("basic" : Str) (.ref ba) (putF ("free" : Str) (.ref fa) []))))) g8.hh
  have k78 : KpX a H7 (upd H8 a (.ins C dx (putF ("starts" : Str) (.ref sa) (putF ("parts" : Str) (.ref pa) (putF ("basic" : Str) (.ref ba) (putF ("free" : Str) (.ref fa) [])))))) := KpX.refl.step g8.hh
  have k88 : KpX a H8 (upd H8 a (.ins C dx (putF ("starts" : Str) (.ref sa) (putF ("parts" : Str) (.ref pa) (putF ("basic" : Str) (.ref ba) (putF ("free" : Str) (.ref fa) [])))))) := KpX.refl.step (Same.refl _)
  generalize hH9 : upd H8 a (.ins C dx (putF ("starts" : Str) (.ref sa) (putF ("parts" : Str) (.ref pa) (putF ("basic" : Str) (.ref ba) (putF ("free" : Str) (.ref fa) []))))) = H9 at k8 k78 k88
  have a9 : H9 a = some (.ins C dx (putF ("starts" : Str) (.ref sa) (putF ("parts" : Str) (.ref pa) (putF ("basic" : Str) (.ref ba) (putF ("free" : Str) (.ref fa) []))))) := by rw [← hH9]; exact upd_same
  -- costs
  have pc9 : Dt K (.list (lsD n Cc)) vc H9 := dt_kx k8 ha pc
  refine hs_fld (S := H9) (P := NewL K H9 (lsD n Cc)) (r := a) (C := C) (ee_listN g2 (.inl rfl) (ee_var 1 rfl pc9)) (Same.refl H9) (fun S2 _ => ee_var 0 rfl rfl) a9 c nc (by show 4 < 1000; decide) fun v S10 H10 g10 pv e10 => ?_
  obtain ⟨ca, cx, rfl, c0, c1, c2, _⟩ := pv
  obtain rfl := lsV_of c2
  have kc := g10.sub _ _ c1
  have nca : ca ≠ a := fun e => by rw [e, a9] at c0; cases c0
  have kf9 := k78 _ _ nfa kf7
  have kb9 := k78 _ _ nba kb7
  have kp9 := k78 _ _ npa kp7
  have ks9 := k88 _ _ nsa ks
  have ncn : NotIn ⟨a, dx, fa, ba, pa, sa⟩ ca := ⟨(fun e => by rw [e, kf9] at c0; cases c0), (fun e => by rw [e, kb9] at c0; cases c0), (fun e => by rw [e, kp9] at c0; cases c0), (fun e => by rw [e, ks9] at c0; cases c0)⟩
  have k10 := k8.step (o := .ins C dx (putF ("costs" : Str) (.ref ca) (putF ("starts" : Str) (.ref sa) (putF ("parts" : Str) (.ref pa) (putF ("basic" : Str) (.ref ba) (putF ("free" : Str) (.ref fa) [])))))) g10.hh
  have k910 : KpX a H9 (upd H10 a (.ins C dx (putF ("costs" : Str) (.ref ca) (putF ("starts" : Str) (.ref sa) (putF ("parts" : Str) (.ref pa) (putF ("basic" : Str) (.ref ba) (putF ("free" : Str) (.ref fa) []))))))) := KpX.refl.step g10.hh
  have k1010 : KpX a H10 (upd H10 a (.ins C dx (putF ("costs" : Str) (.ref ca) (putF ("starts" : Str) (.ref sa) (putF ("parts" : Str) (.ref pa) (putF ("basic" : Str) (.ref ba) (putF ("free" : Str) (.ref fa) []))))))) := KpX.refl.step (Same.refl _)
  generalize hH11 : upd H10 a (.ins C dx (putF ("costs" : Str) (.ref ca) (putF ("starts" : Str) (.ref sa) (putF ("parts" : Str) (.ref pa) (putF ("basic" : Str) (.ref ba) (putF ("free" : Str) (.ref fa) [])))))) = H11 at k10 k910 k1010
  have a11 : H11 a = some (.ins C dx (putF ("costs" : Str) (.ref ca) (putF ("starts" : Str) (.ref sa) (putF ("parts" : Str) (.ref pa) (putF ("basic" : Str) (.ref ba) (putF ("free" : Str) (.ref fa) [])))))) := by rw [← hH11]; exact upd_same
  -- total, whole
  refine hs_fld (S := H11) (P := Dt K (.int 0)) (r := a) (C := C) ee_int (Same.refl H11) (fun S2 _ => ee_var 0 rfl rfl) a11 c nt (by show 5 < 1000; decide) fun v S12 H12 g12 pv e12 => ?_
  cases pv
  refine hs_fld (S := upd H12 a _) (P := Dt K (.int 1)) (r := a) (C := C) ee_int (Same.refl _) (fun S2 _ => ee_var 0 rfl rfl) upd_same c nw (by show 6 < 1000; decide) fun v S14 H14 g14 pv e14 => hs_nil ?_
  cases pv
  have kE : KpX a H11 (upd H14 a (.ins C dx (fldL ⟨a, dx, fa, ba, pa, sa⟩ ca 0 1))) := fun z o nz h => by
    rw [upd_ne nz]
    refine g14.hh _ _ ?_
    rw [upd_ne nz]
    exact g12.hh _ _ h
  have eF : putF ("whole" : Str) (V.int 1) (putF ("total" : Str) (V.int 0) (putF ("costs" : Str) (V.ref ca) (putF ("starts" : Str) (V.ref sa) (putF ("parts" : Str) (V.ref pa) (putF ("basic" : Str) (V.ref ba) (putF ("free" : Str) (V.ref fa) [])))))) = fldL ⟨a, dx, fa, ba, pa, sa⟩ ca 0 1 := rfl
  rw [eF]
  have fin : ∀ {z o}, z ≠ a → H9 z = some o → (upd H14 a (.ins C dx (fldL ⟨a, dx, fa, ba, pa, sa⟩ ca 0 1))) z = some o := fun nz h => kE _ _ nz (k910 _ _ nz h)
  have fresh : ∀ {z G}, KpX a H G → z ≠ a → G z = none → H z = none := fun {z G} k nz h => by
    cases e : H z with
    | none => rfl
    | some o => rw [k z o nz e] at h; cases h
  refine q fa ba pa sa _ (fun z o nz h => kE z o nz (k10 z o nz h)) (fresh k1 nfa f0) (fresh k2 nba b0) (fresh k4 npa p0) (fresh k6 nsa s0) ?_
  refine ⟨⟨ca, ?_, ?_, ncn⟩, ?_, ?_, ?_, ⟨pxs, fin npa kp9, plen, fun i hi => ?_⟩, nbf, npf, nsf, npb, nsb, nsp⟩
  · rw [upd_same]
    show some (HO.ins C dx (fldL ⟨a, dx, fa, ba, pa, sa⟩ ca 0 1)) = some (.ins C dx (fldL ⟨a, dx, fa, ba, pa, sa⟩ ca (if m < m then (if n < n then R m n else -B m) else if n < n then Cc n else 0) 1))
    rw [if_neg (Nat.lt_irrefl _), if_neg (Nat.lt_irrefl _)]
  · rw [kE _ _ nca (k1010 _ _ nca kc)]
    congr 2
    exact lsV_congr fun j hj => by show _ = if m < m then _ else _; rw [if_neg (Nat.lt_irrefl _), if_pos hj]
  · rw [fin nfa kf9]
    congr 2
    exact lsV_congr fun j hj => by show _ = ((if j = n then n + m else j : Nat) : Int); rw [if_neg (by omega)]
  · rw [fin nba kb9]
    congr 2
    exact lsV_congr fun j hj => by show _ = ((if j = m then n + m + 1 else n + j : Nat) : Int); rw [if_neg (by omega)]
  · rw [fin nsa ks9]
    congr 2
    exact lsV_congr fun j hj => by show _ = if j < m then (if n < n then R j n else -B j) else _; rw [if_pos hj, if_neg (Nat.lt_irrefl _)]
  · obtain ⟨l, e1, e2, e3, e4⟩ := prow i hi
    have nla : l ≠ a := fun e => by rw [e, a5] at e3; cases e3
    have l7 := k66 _ _ nla e2
    refine ⟨l, e1, ?_, ⟨fun e => ?_, fun e => ?_, e4, fun e => ?_⟩⟩
    · rw [fin nla (k78 _ _ nla l7)]
      congr 2
      exact lsV_congr fun j hj => by show _ = if i < m then (if j < n then R i j else _) else _; rw [if_pos hi, if_pos hj]
    · have : l = fa := e; rw [this, kf5] at e3; cases e3
    · have : l = ba := e; rw [this, kb5] at e3; cases e3
    · have : l = sa := e; rw [this] at l7; rw [l7] at s0; cases s0
end
end K04
namespace K04
open PySem PySem.Spec PyProof.Rows L2 Z Y
section
variable {P : Program} {w : World} {K : PySem.W.Frag} {mg : Str → Option Value} {base : Heap} {f : Addr} {fd : FuncData}
/-! ### point_of, mirror_of -/
section
variable {X : Cx} {σ : L2.St} {C : Addr} {S : Hp} {A : TabA} {m n : Nat} {D : Sv.Dic} {p pos : Pos}
/-- tableau.f -/
theorem ee_tbx {x f : Str} {P : V → Hp → Prop} (T : TabH C S A m n D) (c : Cls X.K C) (nf : NoAttr X.K C f) (hf : ∀ ca, S A.t = some (.ins C A.dx (tbF A ca D m n)) → S ca = some (.lst (lsV n (D.T m))) → ∃ v, (tbF A ca D m n).lookup f = some v ∧ P v S) [Mn P] (hv : σ[0]? = some (some (.ref A.t)) := by rfl) (hN : X.N[0]? = some x := by rfl) (hl : Loc X.env.scope x := by first | exact Or.inl rfl | exact Or.inr rfl)
    (hb : attributeBase (.Name x p) f X.env (eval (.Name x p) X.env) = eval (.Name x p) X.env := by rfl) (hd : (x == ("__debug__" : Str)) = false := by decide) (hcd : (x == ("__classdict__" : Str)) = false := by decide) : EE X σ S (.Attribute (.Name x p) f pos) P := by
  obtain ⟨ca, h1, h2, _⟩ := T.ins
  obtain ⟨v, h3, h4⟩ := hf ca h1 h2
  exact ee_fld (C := C) (ee_var (P := fun w S' => w = .ref A.t ∧ S' A.t = some (.ins C A.dx (tbF A ca D m n)) ∧ P v S') 0 hv ⟨rfl, h1, h4⟩ hN (hl.elim .inl fun h => .inr (.inl h)) hd hcd) (fun w S1 ⟨e, e1, e2⟩ => ⟨A.t, A.dx, _, v, e, e1, h3, e2⟩) c nf hb
end
theorem rep_ls (n : Nat) : (List.replicate ((n : Nat) : Int).toNat [PyData.int 0]).flatten = lsD n fun _ => 0 := by
  rw [Int.toNat_natCast]
  unfold lsD
  refine List.ext_getElem? fun i => ?_
  have key : ∀ n : Nat, (List.replicate n [PyData.int 0]).flatten = List.replicate n (PyData.int 0) := fun n => by
    induction n with
    | zero => rfl
    | succ n ih => rw [List.replicate_succ, List.flatten_cons, ih]; rfl
  rw [key, List.getElem?_map, List.getElem?_replicate]
  by_cases h : i < n
  · rw [if_pos h, List.getElem?_range h]; rfl
  · rw [if_neg h, List.getElem?_eq_none (by rw [List.length_range]; omega)]; rfl
def ptN (D : Sv.Dic) (n i j : Nat) : Int := Sv.sm i fun l => if D.be l = j then D.T l n else 0
theorem ptN_pt (D : Sv.Dic) (m n V j : Nat) (h : j < V) : ptN D n m j = Sv.pt D m n V j := by
  unfold ptN Sv.pt
  rw [if_neg (by omega), if_neg (by omega)]
theorem ptN_set {D : Sv.Dic} {m n V i : Nat} (J : Sv.Dj D m n V) (hi : i < m) (j : Nat) : (if j = D.be i then D.T i n else ptN D n i j) = ptN D n (i + 1) j := by
  show _ = ptN D n i j + if D.be i = j then D.T i n else 0
  by_cases q : j = D.be i
  · subst q
    have z : ptN D n i (D.be i) = 0 := Sv.sm_zero fun l hl => if_neg fun e => by have := J.bi l i (by omega) hi e; omega
    rw [if_pos rfl, if_pos rfl, z]; omega
  · rw [if_neg q, if_neg (Ne.symm q)]; omega
theorem ptN_big {D : Sv.Dic} {n i j : Nat} (h : n ≤ D.be i) (hj : j < n) : ptN D n (i + 1) j = ptN D n i j := by
  show ptN D n i j + (if D.be i = j then D.T i n else 0) = _
  rw [if_neg (by omega)]; omega
def spPof (K : PySem.W.Frag) (C : Addr) : Sp := fun vs H Q _ => ∃ A m n D V, vs = [.ref A.t, .int (n : Nat)] ∧ TabH C H A m n D ∧ m ≤ 500 ∧ n ≤ 500 ∧ Sv.Dj D m n V ∧ BdD D m n ∧ ∀ v H' s xs, s :: xs = lowI (D.w :: lsI n (ptN D n m)) → Same H H' → Dt K (.tuple [.int s, lI xs]) v H' → Q v H'
theorem sc_pof : FnScope ["tableau", "width", "numbers", "variable", "start", "scale", "rest"] ["tableau", "width"] (defScope spoint_of) := ⟨rfl, rfl, rfl, by decide +kernel, rfl, by decide +kernel, by decide +kernel⟩
theorem ptN_bd {D : Sv.Dic} {m n V : Nat} (J : Sv.Dj D m n V) (B : BdD D m n) {i : Nat} (hi : i ≤ m) (j : Nat) : (ptN D n i j).natAbs < 2 ^ 8000 := by
  induction i with
  | zero => exact Nat.pow_pos (by decide)
  | succ i ih =>
    rw [← ptN_set J (by omega) j]
    split
    · exact B.1 i n (by omega) (by omega)
    · exact ih (by omega)
theorem ok_pof {C : Addr} (F : FnT K "point_of" spoint_of f fd) (g1 : mg "zip" = none) (D1 : KD P w K mg base "lowest" 1 (spD K Flowest)) (c : Cls K C) (nb : NoAttr K C "basic") (ns : NoAttr K C "starts") (nw : NoAttr K C "whole") : FnOk P w K mg base CX0 2 f fd ["tableau", "width"] (spPof K C) := by
  refine fn_hs F sc_pof (fun vs H Q E h => by obtain ⟨A, m, n, D, V, rfl, _⟩ := h; rfl) (fun cdv Ar outer sh H vs Q E hr h => ?_)
  obtain ⟨A, m, n, D, V0, rfl, T, hm, hn, J, hbd, q⟩ := h
  refine hs_set (S := H) (i := 2) (P := NewL K H (List.replicate ((n : Nat) : Int).toNat [PyData.int 0]).flatten) (ee_repN (by omega) (by omega) (by show 1 * _ ≤ 16777216; omega) (ee_lst (ds := [.int 0]) (ea_1 ee_int)) (ee_var 1 rfl (Dt.int (K := K) _))) (Same.refl H) sc_pof.nd fun v S1 H1 g1' pv => ?_
  obtain ⟨nl, xs, rfl, n0, n1, n2, _⟩ := pv
  rw [rep_ls] at n2
  obtain rfl := lsV_of n2
  have hn1 := g1'.sub _ _ n1
  refine hs_forH (S := H) (Ps := Ds K (zipD (lsD m fun i => (D.be i : Nat)) (lsD m fun i => D.T i n))) PassesOwn.never rfl (ei_zipL g1 (ee_tbx T c nb (T.rBasic (by omega))) (ee_tbx T c ns (T.rStarts (by omega)))) g1'.hh fun S2 H2 g2 => ?_
  have l0 : S2 nl = none := by rw [g2.old nl _ hn1 (fun _ h => by cases h)]; exact n0
  have hlen : (Ds K (zipD (lsD m fun i => ((D.be i : Nat) : Int)) (lsD m fun i => D.T i n))).length = m := by rw [ds_len, zip_ls, List.length_map, List.length_map, List.length_range]
  refine ⟨fun i σ' H' => Same S2 H' ∧ H' nl = some (.lst (lsV n (ptN D n i))) ∧ ∃ x y : Option V, σ' = [some (.ref A.t), some (.int (n : Nat)), some (.ref nl), x, y, none, none], ⟨g2.sub, by rw [g2.hh _ _ hn1]; rfl, none, none, rfl⟩, fun _ _ _ h => h.1, ?_, ?_⟩
  · rintro i P σ1 H3 x H4 hP ⟨sm3, k3, x0, y0, rfl⟩ hx
    have hi : i < m := by
      have := (List.getElem?_eq_some_iff.mp hP).1
      rw [hlen] at this
      exact this
    obtain ⟨T', gT, px⟩ := hx S2 (Same.refl _) sm3
    have hz : (zipD (lsD m fun i => ((D.be i : Nat) : Int)) (lsD m fun i => D.T i n))[i]? = some (.tuple [.int (D.be i : Nat), .int (D.T i n)]) := zipD_get (lsD_get (f := fun i => ((D.be i : Nat) : Int)) hi) (lsD_get (f := fun i => D.T i n) hi)
    rw [ds_get hz] at hP
    obtain rfl := Option.some.inj hP
    obtain ⟨v1, v2, p1, p2, hg⟩ := eg_pair (X := (cxOf CX0 _ _ _ _ _ ["tableau", "width", "numbers", "variable", "start", "scale", "rest"] "point_of" (defScope spoint_of) f cdv Ar outer sh H E).nox) (σ := [some (.ref A.t), some (.int (n : Nat)), some (.ref nl), x0, y0, none, none]) (i := 3) (j := 4) (x := "variable") (y := "start") rfl sc_pof.nd rfl rfl (.inl rfl) (.inl rfl) px
    cases p1; cases p2
    refine hg H4 gT.sub _ ?_
    have k4 := gT.hh _ _ k3
    have sm4 : Same S2 H4 := sm3.trans gT.hh
    refine hs_if (S := H4) (et_lt (ee_var 3 rfl (Dt.int (K := K) _)) (ee_var 1 rfl (Dt.int (K := K) _))) (Same.refl H4) (fun hk S5 H5 g5 => ?_) (fun hk S5 H5 g5 => hs_nil (hs_nil ?_))
    · have hk := of_decide_eq_true hk
      refine hs_setL (b := nl) (j := D.be i) (P := Dt K (.int (D.T i n))) (ee_var 4 rfl (Dt.int (K := K) _)) (ee_var 2 rfl rfl) (ee_var 3 rfl (Dt.int (K := K) _)) (g5.hh _ _ k4) (by rw [lsV_len]; exact ixN_nat (by omega)) fun v H6 s6 pv => hs_nil (hs_nil ?_)
      cases pv
      refine ⟨Same.mut ((sm4.trans g5.hh).trans s6) l0, ?_, _, _, rfl⟩
      rw [upd_same, lsV_set]
      congr 2
      exact lsV_congr fun j _ => ptN_set J hi j
    · have hk := of_decide_eq_false hk
      refine ⟨sm4.trans g5.hh, ?_, _, _, rfl⟩
      rw [g5.hh _ _ k4]
      congr 2
      exact lsV_congr fun j hj => (ptN_big (by omega) hj).symm
  · rintro σ1 H3 ⟨sm3, k3, x0, y0, rfl⟩
    rw [hlen] at k3
    have s3 : Same H H3 := g2.st.trans sm3
    have T3 := T.up s3
    have pn : Dt K (.list ((lsI n (ptN D n m)).map PyData.int)) (.ref nl) H3 := by rw [← lsD_eq]; exact lsV_dt k3 (by omega)
    have hlow : lowI (D.w :: lsI n (ptN D n m)) = D.w / (max (gcdI (D.w :: lsI n (ptN D n m)) : Int) 1) :: (lsI n (ptN D n m)).map fun x => x / (max (gcdI (D.w :: lsI n (ptN D n m)) : Int) 1) := rfl
    generalize (max (gcdI (D.w :: lsI n (ptN D n m)) : Int) 1) = gg at hlow
    refine hs_star1 (S := H3) (i := 5) (j := 6) (x := "scale") (y := "rest") (d := .int (D.w / gg)) (ds := ((lsI n (ptN D n m)).map fun x => x / gg).map PyData.int) rfl sc_pof.nd ((ee_callD D1 (hr.mono (by decide)) (ds := [lI (D.w :: lsI n (ptN D n m))]) ⟨D.w :: lsI n (ptN D n m), .inl rfl, rfl, by rw [List.length_cons, lsI_len]; omega, fun x hx => by
        rcases List.mem_cons.mp hx with rfl | hx
        · exact hbd.2
        · obtain ⟨j, _, rfl⟩ := List.mem_map.mp hx
          exact ptN_bd J hbd (Nat.le_refl _) j⟩ (ea_1 (ee_lstS1 (d := .int D.w) (ds := (lsI n (ptN D n m)).map PyData.int) (.inl rfl) (by rw [List.length_map, lsI_len]; exact Nat.le_trans (show n + 1 ≤ 501 by omega) (by decide)) (ee_tbx T3 c nw (T3.rWhole (K := K))) (ee_var 2 rfl pn)))).isd (by rw [hlow]; rfl)) (Same.refl H3) fun v S4 H4 g4 pv w' pw => ?_
    cases pv
    refine hs_ret (S := S4) (P := Dt K (.tuple [.int (D.w / gg), lI ((lsI n (ptN D n m)).map fun x => x / gg)])) (ee_tup (ds := [.int (D.w / gg), lI ((lsI n (ptN D n m)).map fun x => x / gg)]) (ea_2 (ee_var 5 rfl (Dt.int (K := K) _)) (ee_var 6 rfl pw.dt))) g4.sub fun v S5 H5 g5 pv => ?_
    exact q v H5 _ _ hlow.symm ((s3.trans g4.hh).trans g5.hh) (pv.up g5.sub)
/-! mirror_of -/
def miN (D : Sv.Dic) (n r i k : Nat) : Int := (if D.be r = n + k then D.w else 0) + Sv.sm i fun j => if D.fr j = n + k then -D.T r j else 0
theorem miN_set {D : Sv.Dic} {m n V r i : Nat} (J : Sv.Dj D m n V) (hr : r < m) (hi : i < n) (h : n ≤ D.fr i) (k : Nat) : (if k = D.fr i - n then -D.T r i else miN D n r i k) = miN D n r (i + 1) k := by
  show _ = (if D.be r = n + k then D.w else 0) + ((Sv.sm i fun j => if D.fr j = n + k then -D.T r j else 0) + if D.fr i = n + k then -D.T r i else 0)
  by_cases q : k = D.fr i - n
  · have e : D.fr i = n + k := by omega
    have z : (Sv.sm i fun j => if D.fr j = n + k then -D.T r j else 0) = 0 := Sv.sm_zero fun l hl => if_neg fun e2 => by have := J.ff l i (by omega) hi (e2.trans e.symm); omega
    rw [if_pos q, if_pos e, z, if_neg (fun e2 => J.bf r i hr hi (e2.trans e.symm))]; omega
  · rw [if_neg q, if_neg (show ¬ D.fr i = n + k by omega), Int.add_zero]
    rfl
theorem miN_small {D : Sv.Dic} {n r i : Nat} (h : D.fr i < n) (k : Nat) : miN D n r (i + 1) k = miN D n r i k := by
  show (if D.be r = n + k then D.w else 0) + ((Sv.sm i fun j => if D.fr j = n + k then -D.T r j else 0) + if D.fr i = n + k then -D.T r i else 0) = _
  rw [if_neg (show ¬ D.fr i = n + k by omega), Int.add_zero]
  rfl
def spMof (K : PySem.W.Frag) (C : Addr) : Sp := fun vs H Q _ => ∃ A m n D V, ∃ r : Nat, vs = [.ref A.t, .int r, .int (n : Nat)] ∧ TabH C H A m n D ∧ m ≤ 500 ∧ n ≤ 500 ∧ r < m ∧ V = n + m ∧ Sv.Dj D m n V ∧ BdD D m n ∧ ∀ v H', Same H H' → Dt K (lI (lowI (lsI m (Sv.mir D n r)))) v H' → Q v H'
theorem sc_mof : FnScope ["tableau", "row", "width", "numbers", "variable", "part"] ["tableau", "row", "width"] (defScope smirror_of) := ⟨rfl, rfl, rfl, by decide +kernel, rfl, by decide +kernel, by decide +kernel⟩
theorem miN_bd {D : Sv.Dic} {m n V r : Nat} (J : Sv.Dj D m n V) (B : BdD D m n) (hr : r < m) {i : Nat} (hi : i ≤ n) (k : Nat) : (miN D n r i k).natAbs < 2 ^ 8000 := by
  induction i with
  | zero =>
    show ((if D.be r = n + k then D.w else 0) + 0).natAbs < _
    rw [Int.add_zero]
    split
    · exact B.2
    · exact Nat.pow_pos (by decide)
  | succ i ih =>
    by_cases h : n ≤ D.fr i
    · rw [← miN_set J hr (by omega) h k]
      split
      · rw [Int.natAbs_neg]; exact B.1 r i (by omega) (by omega)
      · exact ih (by omega)
    · rw [miN_small (by omega)]; exact ih (by omega)
theorem ok_mof {C : Addr} (F : FnT K "mirror_of" smirror_of f fd) (g1 : mg "zip" = none) (g2 : mg "len" = none) (D1 : KD P w K mg base "lowest" 1 (spD K Flowest)) (c : Cls K C) (nb : NoAttr K C "basic") (nf : NoAttr K C "free") (np : NoAttr K C "parts") (nw : NoAttr K C "whole") : FnOk P w K mg base CX0 2 f fd ["tableau", "row", "width"] (spMof K C) := by
  refine fn_hs F sc_mof (fun vs H Q E h => by obtain ⟨A, m, n, D, V, r, rfl, _⟩ := h; rfl) (fun cdv Ar outer sh H vs Q E hr h => ?_)
  obtain ⟨A, m, n, D, V0, r, rfl, T, hm, hn, hr', rfl, J, hbd, q⟩ := h
  refine hs_set (S := H) (i := 3) (P := NewL K H (List.replicate ((m : Nat) : Int).toNat [PyData.int 0]).flatten) (ee_repN (by omega) (by omega) (by show 1 * _ ≤ 16777216; omega) (ee_lst (ds := [.int 0]) (ea_1 ee_int)) (ee_len g2 (n := m) (by show some (lsD m _).length = _; rw [lsD_len]) (ee_tbx T c nb (T.rBasic (K := K) (by omega))))) (Same.refl H) sc_mof.nd fun v S1 H1 g1' pv => ?_
  obtain ⟨nl, xs, rfl, n0, n1, n2, _⟩ := pv
  rw [rep_ls] at n2
  obtain rfl := lsV_of n2
  have hn1 := g1'.sub _ _ n1
  have T1 := T.up g1'.hh
  -- the row's own variable
  refine hs_ifR (S := H1) (fun σ' H' => σ' = [some (.ref A.t), some (.int r), some (.int (n : Nat)), some (.ref nl), none, none] ∧ Same H H' ∧ H' nl = some (.lst (lsV m (miN D n r 0)))) (et_ge (ee_ixL (lsD_at (f := fun i => (D.be i : Nat)) hr') (ee_tbx T1 c nb (T1.rBasic (K := K) (by omega))) (ee_var 1 rfl (Dt.int (K := K) _))) (ee_var 2 rfl (Dt.int (K := K) _))) (Same.refl H1) (fun hk S2 H2 g2' => ?_) (fun hk S2 H2 g2' => hs_nil ⟨rfl, g1'.hh.trans g2'.hh, ?_⟩) ?_
  · have hk := of_decide_eq_true hk
    have T2 := T1.up g2'.hh
    have hb := J.bV r hr'
    refine hs_setL (b := nl) (j := D.be r - n) (P := Dt K (.int D.w)) (ee_tbx T2 c nw (T2.rWhole (K := K))) (ee_var 3 rfl rfl) (ee_sub (ee_ixL (lsD_at (f := fun i => (D.be i : Nat)) hr') (ee_tbx T2 c nb (T2.rBasic (K := K) (by omega))) (ee_var 1 rfl (Dt.int (K := K) _))) (ee_var 2 rfl (Dt.int (K := K) _))) (g2'.hh _ _ hn1) (by rw [lsV_len, show ((D.be r : Nat) : Int) - (n : Nat) = ((D.be r - n : Nat) : Int) by omega]; exact ixN_nat (by omega)) fun v H3 s3 pv => hs_nil ?_
    cases pv
    refine ⟨rfl, Same.mut ((g1'.hh.trans g2'.hh).trans s3) n0, ?_⟩
    rw [upd_same, lsV_set]
    congr 2
    refine lsV_congr fun k _ => ?_
    show (if k = D.be r - n then D.w else 0) = (if D.be r = n + k then D.w else 0) + 0
    by_cases e : k = D.be r - n
    · rw [if_pos e, if_pos (by omega)]; omega
    · rw [if_neg e, if_neg (by omega)]; rfl
  · have hk := of_decide_eq_false hk
    rw [g2'.hh _ _ hn1]
    congr 2
    refine lsV_congr fun k _ => ?_
    show (0 : Int) = (if D.be r = n + k then D.w else 0) + 0
    rw [if_neg (by omega)]; rfl
  · rintro σ2 H2 ⟨rfl, s2, k2⟩
    refine hs_forH (S := H) (Ps := Ds K (zipD (lsD n fun i => (D.fr i : Nat)) (lsD n (D.T r)))) PassesOwn.never rfl (ei_zipL g1 (ee_tbx T c nf (T.rFree (by omega))) (ee_ixL (parts_at (T := D.T) hr') (ee_tbx T c np (T.rParts (by omega) (by omega))) (ee_var 1 rfl (Dt.int (K := K) _)))) s2 fun S2 H2' g2 => ?_
    have l0 : S2 nl = none := by rw [g2.old nl _ k2 (fun _ h => by cases h)]; exact n0
    have hlen : (Ds K (zipD (lsD n fun i => ((D.fr i : Nat) : Int)) (lsD n (D.T r)))).length = n := by rw [ds_len, zip_ls, List.length_map, List.length_map, List.length_range]
    refine ⟨fun i σ' H' => Same S2 H' ∧ H' nl = some (.lst (lsV m (miN D n r i))) ∧ ∃ x y : Option V, σ' = [some (.ref A.t), some (.int r), some (.int (n : Nat)), some (.ref nl), x, y], ⟨g2.sub, g2.hh _ _ k2, none, none, rfl⟩, fun _ _ _ h => h.1, ?_, ?_⟩
    · rintro i P σ1 H3 x H4 hP ⟨sm3, k3, x0, y0, rfl⟩ hx
      have hi : i < n := by
        have := (List.getElem?_eq_some_iff.mp hP).1
        rw [hlen] at this
        exact this
      obtain ⟨T', gT, px⟩ := hx S2 (Same.refl _) sm3
      have hz : (zipD (lsD n fun i => ((D.fr i : Nat) : Int)) (lsD n (D.T r)))[i]? = some (.tuple [.int (D.fr i : Nat), .int (D.T r i)]) := zipD_get (lsD_get (f := fun i => ((D.fr i : Nat) : Int)) hi) (lsD_get (f := D.T r) hi)
      rw [ds_get hz] at hP
      obtain rfl := Option.some.inj hP
      obtain ⟨v1, v2, p1, p2, hg⟩ := eg_pair (X := (cxOf CX0 _ _ _ _ _ ["tableau", "row", "width", "numbers", "variable", "part"] "mirror_of" (defScope smirror_of) f cdv Ar outer sh H E).nox) (σ := [some (.ref A.t), some (.int r), some (.int (n : Nat)), some (.ref nl), x0, y0]) (i := 4) (j := 5) (x := "variable") (y := "part") rfl sc_mof.nd rfl rfl (.inl rfl) (.inl rfl) px
      cases p1; cases p2
      refine hg H4 gT.sub _ ?_
      have k4 := gT.hh _ _ k3
      have sm4 : Same S2 H4 := sm3.trans gT.hh
      have hfV := J.fV i hi
      refine hs_if (S := H4) (et_ge (ee_var 4 rfl (Dt.int (K := K) _)) (ee_var 2 rfl (Dt.int (K := K) _))) (Same.refl H4) (fun hk S5 H5 g5 => ?_) (fun hk S5 H5 g5 => hs_nil (hs_nil ?_))
      · have hk := of_decide_eq_true hk
        refine hs_setL (b := nl) (j := D.fr i - n) (P := Dt K (.int (-D.T r i))) (ee_neg (ee_var 5 rfl (Dt.int (K := K) _))) (ee_var 3 rfl rfl) (ee_sub (ee_var 4 rfl (Dt.int (K := K) _)) (ee_var 2 rfl (Dt.int (K := K) _))) (g5.hh _ _ k4) (by rw [lsV_len, show ((D.fr i : Nat) : Int) - (n : Nat) = ((D.fr i - n : Nat) : Int) by omega]; exact ixN_nat (by omega)) fun v H6 s6 pv => hs_nil (hs_nil ?_)
        cases pv
        refine ⟨Same.mut ((sm4.trans g5.hh).trans s6) l0, ?_, _, _, rfl⟩
        rw [upd_same, lsV_set]
        congr 2
        exact lsV_congr fun j _ => miN_set J hr' hi (by omega) j
      · have hk := of_decide_eq_false hk
        refine ⟨sm4.trans g5.hh, ?_, _, _, rfl⟩
        rw [g5.hh _ _ k4]
        congr 2
        exact lsV_congr fun j hj => (miN_small (by omega) j).symm
    · rintro σ1 H3 ⟨sm3, k3, x0, y0, rfl⟩
      rw [hlen] at k3
      have s3 : Same H H3 := g2.st.trans sm3
      have pn : Dt K (lI (lsI m (Sv.mir D n r))) (.ref nl) H3 := by unfold lI; rw [← lsD_eq]; exact lsV_dt k3 (by omega)
      refine hs_ret (S := H3) (ee_callD D1 (hr.mono (by decide)) (ds := [lI (lsI m (Sv.mir D n r))]) ⟨lsI m (Sv.mir D n r), .inl rfl, rfl, by rw [lsI_len]; omega, fun x hx => by
          obtain ⟨j, _, rfl⟩ := List.mem_map.mp hx
          exact miN_bd J hbd hr' (Nat.le_refl _) j⟩ (ea_1 (ee_var 3 rfl pn))) (Same.refl H3) fun v S4 H4 g4 pv => ?_
      exact q v H4 (s3.trans g4.hh) (pv.up g4.sub)
end
end K04
namespace K04
open PySem PySem.Spec PyProof.Rows L2 Z Y
section
variable {P : Program} {w : World} {K : PySem.W.Frag} {mg : Str → Option Value} {base : Heap} {f : Addr} {fd : FuncData}
/-! ## is_whole, are_numbers, copied -/
def isWh (d : PyData) : Bool := match d with
  | .int _ => true
  | _ => false
def Fwh : List PyData → PyData → Prop := fun ds r => ∃ d, ds = [d] ∧ r = .bool (isWh d)
theorem sc_wh : FnScope ["value"] ["value"] (defScope sis_whole) := ⟨rfl, rfl, rfl, by decide +kernel, rfl, by decide +kernel, by decide +kernel⟩
theorem ok_wh (F : FnT K "is_whole" sis_whole f fd) (g1 : mg "isinstance" = none) (g2 : mg "int" = none) (g3 : mg "bool" = none) : FnOk P w K mg base CX0 1 f fd ["value"] (spD K Fwh) := by
  refine fn_hs F sc_wh (fun vs H Q E h => ?_) (fun cdv A outer sh H vs Q E hr h => ?_)
  · obtain ⟨S, ds, d, _, hd, ⟨_, rfl, _⟩, _⟩ := h
    exact hd.1
  · obtain ⟨S, ds, r, s, hd, ⟨d, rfl, rfl⟩, q⟩ := h
    obtain ⟨v1, rfl, p1⟩ := hd.one
    refine hs_ret ((ee_and (ee_isi (isD_ok d (T := "int") (by simp)) g1 g2 boot_int (ee_var 0 rfl p1)) fun h1 =>
      ee_one (ee_not (ee_isi (isD_ok d (T := "bool") (by simp)) g1 g3 boot_bool (ee_var 0 rfl p1)))).isd ?_) s q
    cases d <;> rfl
def areN (d : PyData) : Bool := match d with
  | .list ds => ds.all fun x => isNum x 0
  | .tuple ds => ds.all fun x => isNum x 0
  | _ => false
def FareN : List PyData → PyData → Prop := fun ds r => ∃ d, ds = [d] ∧ r = .bool (areN d)
theorem sc_areN : FnScope ["value", "item"] ["value"] (defScope sare_numbers) := ⟨rfl, rfl, rfl, by decide +kernel, rfl, by decide +kernel, by decide +kernel⟩
theorem all_map_id (ds : List PyData) (p : PyData → Bool) : (ds.map p).all (fun b => b) = ds.all p := map_all p ds
theorem ok_areN (F : FnT K "are_numbers" sare_numbers f fd) (D1 : KD P w K mg base "is_number" 1 (spD K FisNumber)) (g1 : mg "isinstance" = none) (g2 : mg "list" = none) (g3 : mg "tuple" = none) (g4 : mg "all" = none) : FnOk P w K mg base CX0 2 f fd ["value"] (spD K FareN) := by
  refine fn_hs F sc_areN (fun vs H Q E h => ?_) (fun cdv A outer sh H vs Q E hr h => ?_)
  · obtain ⟨S, ds, d, _, hd, ⟨_, rfl, _⟩, _⟩ := h
    exact hd.1
  · obtain ⟨S, ds, r, s, hd, ⟨d, rfl, rfl⟩, q⟩ := h
    obtain ⟨v1, rfl, p1⟩ := hd.one
    by_cases hl : (isD d "list" || isD d "tuple") = true
    · obtain ⟨xs, hx⟩ : ∃ xs, d = .list xs ∨ d = .tuple xs := by
        cases d <;> first | exact ⟨_, .inl rfl⟩ | exact ⟨_, .inr rfl⟩ | (exfalso; simp [isDl, isDt] at hl; done)
      have hz : xs.length ≤ sizeLine := by
        rcases hx with rfl | rfl
        · obtain ⟨l, ys, _, _, h, z⟩ := p1.lst_inv; rw [← h.1]; exact z
        · obtain ⟨l, ys, _, _, h, z⟩ := p1.tup_inv; rw [← h.1]; exact z
      refine hs_ret ((ee_and (ee_isiLT rfl g1 g2 g3 (ee_var 0 rfl p1)) fun h1 => ee_one (ee_all (bs := xs.map fun x => isNum x 0) rfl g4 (ee_lc (i := 1) (x := "item") (enc := .bool) rfl sc_areN.nd (blkOk_by (N := ["value", "item"]) (sc := defScope sare_numbers) (by decide +kernel)) (by
          rcases hx with rfl | rfl
          · exact ei_list (ee_var 0 rfl p1)
          · exact ei_tup (ee_var 0 rfl p1)) hz (fun x hx v S' s' pv sh' H0 C' cl fp => ee_callD D1 (hr.mono (by decide)) ⟨x, 0, rfl, rfl⟩ (ea_2 (ee_var 1 rfl pv) ee_int))))).isd ?_) s q
      rw [all_map_id]
      rcases hx with rfl | rfl <;> rfl
    · have hl : (isD d "list" || isD d "tuple") = false := by simpa using hl
      refine hs_ret ((ee_and (k2 := false) (ee_isiLT rfl g1 g2 g3 (ee_var 0 rfl p1)) fun h1 => by rw [hl] at h1; cases h1).isd ?_) s q
      cases d <;> first | rfl | (exfalso; simp [isDl, isDt] at hl; done)
/-- a copy: a list is a new one -/
def CpV (K : PySem.W.Frag) (S : Hp) : PyData → V → Hp → Prop
  | .list ds => NewL K S ds
  | d => Dt K d
theorem CpV.dt {S : Hp} {d : PyData} {v : V} {S' : Hp} (h : CpV K S d v S') : Dt K d v S' := by
  cases d with
  | list ds => exact NewL.dt h
  | _ => exact h
theorem CpV.dn {S S0 : Hp} {d : PyData} {v : V} {S' : Hp} (s : Same S0 S) (h : CpV K S d v S') : CpV K S0 d v S' := by
  cases d with
  | list ds => exact NewL.dn s h
  | _ => exact h
theorem CpV.up {S : Hp} {d : PyData} {v : V} {S1 S2 : Hp} (s : Same S1 S2) (h : CpV K S d v S1) : CpV K S d v S2 := by
  cases d with
  | list ds => exact Mn.up (P := NewL K S ds) s h
  | none => exact Dt.up s h
  | bool b => exact Dt.up s h
  | int b => exact Dt.up s h
  | str b => exact Dt.up s h
  | tuple b => exact Dt.up s h
  | dict b => exact Dt.up s h
instance {S : Hp} {d : PyData} : Mn (CpV K S d) := ⟨fun s h => h.up s⟩
theorem CpV.of {S : Hp} {d : PyData} (hd : ∀ ds, d ≠ .list ds) {v : V} {S' : Hp} (h : Dt K d v S') : CpV K S d v S' := by
  cases d with
  | list ds => exact absurd rfl (hd ds)
  | _ => exact h
def spCop (K : PySem.W.Frag) (n : Nat) : Sp := fun vs H Q _ => ∃ S d v, vs = [v] ∧ Same S H ∧ Dt K d v S ∧ Bd n d ∧ ∀ u S' H', Gr S H S' H' → CpV K S d u S' → Q u H'
theorem spCop_E {n : Nat} {S : Hp} {d : PyData} (hb : Bd n d) : SpE (spCop K n) S [Dt K d] (CpV K S d) := fun vs S1 H1 st s al Q q => by
  obtain ⟨v, rfl, pv⟩ := al.one
  exact ⟨S1, d, v, rfl, s, pv, hb, fun u S' H' g p => q u S' H' g (p.dn st)⟩
theorem sc_cop : FnScope ["value", "item"] ["value"] (defScope scopied) := ⟨rfl, rfl, rfl, by decide +kernel, rfl, by decide +kernel, by decide +kernel⟩
theorem ok_cop (F : FnT K "copied" scopied f fd) (hm : mg "copied" = some (.ref f)) (hb : Binds K fd ["value"] []) (g1 : mg "isinstance" = none) (g2 : mg "list" = none) (g3 : mg "tuple" = none) : ∀ n : Nat, FnOk P w K mg base CX0 (n + 1) f fd ["value"] (spCop K n) := by
  have step : ∀ n : Nat, (∀ m, n = m + 1 → FnOk P w K mg base CX0 (m + 1) f fd ["value"] (spCop K m)) → FnOk P w K mg base CX0 (n + 1) f fd ["value"] (spCop K n) := fun n ih => by
    refine fn_hs F sc_cop (fun vs H Q E h => by obtain ⟨S, d, v, rfl, _⟩ := h; rfl) (fun cdv A outer sh H vs Q E hr h => ?_)
    obtain ⟨S, d, v, rfl, s, p1, hbd, q⟩ := h
    refine hs_if (et_val (ee_isi (isD_ok d (T := "list") (by simp)) g1 g2 boot_list (ee_var 0 rfl p1))) s (fun hk S1 H1 g4 => ?_) (fun hk S1 H1 g4 => hs_nil ?_)
    · obtain ⟨xs, rfl⟩ : ∃ xs, d = .list xs := by cases d <;> first | exact ⟨_, rfl⟩ | (exfalso; simp [isDl] at hk; done)
      obtain ⟨m, rfl⟩ : ∃ m, n = m + 1 := by
        cases n with
        | zero => exact absurd hbd (by simp [Bd])
        | succ m => exact ⟨m, rfl⟩
      have D2 : KD P w K mg base "copied" (m + 1) (spCop K m) := ⟨f, fd, _, ih m rfl, hm, F.kp, hb⟩
      have p2 := p1.up g4.st
      have hz : xs.length ≤ sizeLine := by obtain ⟨l, ys, _, _, h, z⟩ := p1.lst_inv; rw [← h.1]; exact z
      refine hs_ret (S := S1) (P := NewL K S1 ((xs.map fun d => d).map fun d => d)) (ee_lcNw (i := 1) (x := "item") (enc := fun d => d) (f := fun d => d) rfl sc_cop.nd (blkOk_by (N := ["value", "item"]) (sc := defScope scopied) (by decide +kernel)) (ei_list (ee_var 0 rfl p2)) hz (fun x hx v S' s' pv sh' H0 C' cl fp => (ee_call D2 (hr.mono (by omega)) (ea_1 (ee_var 1 rfl pv)) (spCop_E (hbd x hx))).imp fun u S2 h => h.dt)) g4.sub fun v S2 H2 g5 pv => ?_
      rw [List.map_id', List.map_id'] at pv
      exact q v S2 H2 (g4.trans g5) (pv.dn g4.st)
    · have hnl : ∀ ds, d ≠ .list ds := fun ds e => by rw [e] at hk; simp [isDl] at hk
      have p2 := p1.up g4.st
      refine hs_if (et_val (ee_isi (isD_ok d (T := "tuple") (by simp)) g1 g3 boot_tuple (ee_var 0 rfl p2))) g4.sub (fun hk S2 H2 g5 => ?_) (fun hk S2 H2 g5 => hs_nil ?_)
      · obtain ⟨xs, rfl⟩ : ∃ xs, d = .tuple xs := by cases d <;> first | exact ⟨_, rfl⟩ | (exfalso; simp [isDt] at hk; done)
        obtain ⟨m, rfl⟩ : ∃ m, n = m + 1 := by
          cases n with
          | zero => exact absurd hbd (by simp [Bd])
          | succ m => exact ⟨m, rfl⟩
        have D2 : KD P w K mg base "copied" (m + 1) (spCop K m) := ⟨f, fd, _, ih m rfl, hm, F.kp, hb⟩
        have p3 := p2.up g5.st
        have hz : xs.length ≤ sizeLine := by obtain ⟨l, ys, _, _, h, z⟩ := p1.tup_inv; rw [← h.1]; exact z
        refine hs_ret (S := S2) (P := Dt K (.tuple xs)) (ee_tupleOf g3 ((ee_lc (i := 1) (x := "item") (enc := fun d => d) (f := fun d => d) rfl sc_cop.nd (blkOk_by (N := ["value", "item"]) (sc := defScope scopied) (by decide +kernel)) (ei_tup (ee_var 0 rfl p3)) hz (fun x hx v S' s' pv sh' H0 C' cl fp => (ee_call D2 (hr.mono (by omega)) (ea_1 (ee_var 1 rfl pv)) (spCop_E (hbd x hx))).imp fun u S2 h => h.dt)).isd (by rw [List.map_id', List.map_id']))) g5.sub fun v S3 H3 g6 pv => ?_
        exact q v S3 H3 ((g4.trans g5).trans g6) pv
      · refine hs_ret (S := S2) (P := Dt K d) (ee_var 0 rfl (p2.up g5.st)) g5.sub fun v S3 H3 g6 pv => ?_
        exact q v S3 H3 ((g4.trans g5).trans g6) (CpV.of hnl pv)
  intro n
  induction n with
  | zero => exact step 0 fun m h => by omega
  | succ n ih => exact step (n + 1) fun m h => by obtain rfl : n = m := (by omega); exact ih
end
end K04
namespace K04
open PySem PySem.Spec PyProof.Rows L2 Z Y LamX NdefX
section
variable {P : Program} {w : World} {K : PySem.W.Frag} {mg : Str → Option Value} {base : Heap} {f : Addr} {fd : FuncData}
/-! ## Outcome, Solution, Mirror -/
def LsN (S : Hp) (n : Nat) (g : Nat → Int) (v : V) (S' : Hp) : Prop := ∃ l, v = .ref l ∧ S l = none ∧ S' l = some (.lst (lsV n g))
def RowsN (S : Hp) (m n : Nat) (R : Nat → Nat → Int) (v : V) (S' : Hp) : Prop := ∃ l xs, v = .ref l ∧ S l = none ∧ S' l = some (.lst xs) ∧ xs.length = m ∧ ∀ i, i < m → ∃ b, xs[i]? = some (.ref b) ∧ S b = none ∧ b ≠ l ∧ S' b = some (.lst (lsV n (R i)))
instance {S : Hp} {n : Nat} {g : Nat → Int} : Mn (LsN S n g) := ⟨fun s ⟨l, a, b, c⟩ => ⟨l, a, b, s _ _ c⟩⟩
instance {S : Hp} {m n : Nat} {R : Nat → Nat → Int} : Mn (RowsN S m n R) := ⟨fun s ⟨l, xs, a, b, c, d, e⟩ => ⟨l, xs, a, b, s _ _ c, d, fun i hi => let ⟨z, e1, e2, e3, e4⟩ := e i hi; ⟨z, e1, e2, e3, s _ _ e4⟩⟩⟩
def rowsL (m n : Nat) (R : Nat → Nat → Int) : PyData := .list ((List.range m).map fun i => .list (lsD n (R i)))
theorem LsN.dt {S : Hp} {n : Nat} {g : Nat → Int} {v : V} {S' : Hp} (hn : n ≤ 1000) (h : LsN S n g v S') : Dt K (.list (lsD n g)) v S' := by
  obtain ⟨l, rfl, _, h⟩ := h
  exact lsV_dt h hn
theorem RowsN.dt {S : Hp} {m n : Nat} {R : Nat → Nat → Int} {v : V} {S' : Hp} (hm : m ≤ 1000) (hn : n ≤ 1000) (h : RowsN S m n R v S') : Dt K (rowsL m n R) v S' := by
  obtain ⟨l, xs, rfl, _, h1, h2, h3⟩ := h
  refine Dt.lst_mk h1 ⟨by rw [List.length_map, List.length_range]; exact h2, fun i x d hx hd => ?_⟩ (by rw [h2]; exact Nat.le_trans hm (by decide))
  have hi : i < m := by rw [← h2]; exact (List.getElem?_eq_some_iff.mp hx).1
  obtain ⟨a, e1, _, _, e2⟩ := h3 i hi
  rw [e1] at hx
  obtain rfl := Option.some.inj hx
  rw [List.getElem?_map, List.getElem?_range hi] at hd
  obtain rfl := Option.some.inj hd
  exact lsV_dt e2 hn
theorem LsN.dn {S0 S : Hp} {n : Nat} {g : Nat → Int} {v : V} {S' : Hp} (s : Same S0 S) (h : LsN S n g v S') : LsN S0 n g v S' := let ⟨l, a, b, c⟩ := h; ⟨l, a, s.free b, c⟩
theorem RowsN.dn {S0 S : Hp} {m n : Nat} {R : Nat → Nat → Int} {v : V} {S' : Hp} (s : Same S0 S) (h : RowsN S m n R v S') : RowsN S0 m n R v S' := let ⟨l, xs, a, b, c, d, e⟩ := h; ⟨l, xs, a, s.free b, c, d, fun i hi => let ⟨z, e1, e2, e3, e4⟩ := e i hi; ⟨z, e1, s.free e2, e3, e4⟩⟩
theorem newL_lsN {S S' : Hp} {n : Nat} {g : Nat → Int} {v : V} (h : NewL K S (lsD n g) v S') : LsN S n g v S' := by
  obtain ⟨l, xs, rfl, h0, h1, h2, _⟩ := h
  obtain rfl := lsV_of h2
  exact ⟨l, rfl, h0, h1⟩
theorem lstPN_rows {S S' : Hp} {m n : Nat} {R : Nat → Nat → Int} {v : V} (h : LstPN S ((List.range m).map fun i => NewL K S (lsD n (R i))) v S') : RowsN S m n R v S' := by
  obtain ⟨l, xs, S2, rfl, h0, s2, h1, s3, h2, al⟩ := h
  have hl : xs.length = m := by rw [al_len al, List.length_map, List.length_range]
  refine ⟨l, xs, rfl, h0, h2, hl, fun i hi => ?_⟩
  have hx : xs[i]? = some (xs[i]'(by omega)) := List.getElem?_eq_getElem _
  obtain ⟨P, hP, pp⟩ := al_get al hx
  rw [List.getElem?_map, List.getElem?_range hi] at hP
  obtain rfl := Option.some.inj hP
  obtain ⟨b, ys, e, b0, b1, b2, _⟩ := pp
  obtain rfl := lsV_of b2
  exact ⟨b, by rw [hx, e], b0, (fun e => by rw [e, h1] at b1; cases b1), s3 _ _ b1⟩
/-- where an instance changes -/
theorem LsN.kx {S H H' : Hp} {a C dx : Addr} {fs : List (Str × V)} {n : Nat} {g : Nat → Int} {v : V} (k : KpX a H H') (ha : H a = some (.ins C dx fs)) (h : LsN S n g v H) : LsN S n g v H' := by
  obtain ⟨l, e, h0, h1⟩ := h
  exact ⟨l, e, h0, k _ _ (fun q => by rw [q, ha] at h1; cases h1) h1⟩
theorem RowsN.kx {S H H' : Hp} {a C dx : Addr} {fs : List (Str × V)} {m n : Nat} {R : Nat → Nat → Int} {v : V} (k : KpX a H H') (ha : H a = some (.ins C dx fs)) (h : RowsN S m n R v H) : RowsN S m n R v H' := by
  obtain ⟨l, xs, e, h0, h1, h2, h3⟩ := h
  refine ⟨l, xs, e, h0, k _ _ (fun q => by rw [q, ha] at h1; cases h1) h1, h2, fun i hi => ?_⟩
  obtain ⟨b, e1, e2, e3, e4⟩ := h3 i hi
  exact ⟨b, e1, e2, e3, k _ _ (fun q => by rw [q, ha] at e4; cases e4) e4⟩
theorem CpV.kx {S H H' : Hp} {a C dx : Addr} {fs : List (Str × V)} {d : PyData} {v : V} (k : KpX a H H') (ha : H a = some (.ins C dx fs)) (h : CpV K S d v H) : CpV K S d v H' := by
  cases d with
  | list ds =>
    obtain ⟨l, xs, rfl, h0, h1, h2, hz⟩ := (show NewL K S ds v H from h)
    exact ⟨l, xs, rfl, h0, k _ _ (fun q => by rw [q, ha] at h1; cases h1) h1, ⟨h2.1, fun i x d hx hd => dt_kx k ha (h2.2 i x d hx hd)⟩, hz⟩
  | none => exact dt_kx k ha (show Dt K _ v H from h)
  | bool b => exact dt_kx k ha (show Dt K _ v H from h)
  | int b => exact dt_kx k ha (show Dt K _ v H from h)
  | str b => exact dt_kx k ha (show Dt K _ v H from h)
  | tuple b => exact dt_kx k ha (show Dt K _ v H from h)
  | dict b => exact dt_kx k ha (show Dt K _ v H from h)
theorem kx_free {a : Addr} {H H' : Hp} (k : KpX a H H') {z : Addr} (nz : z ≠ a) (h : H' z = none) : H z = none := by
  cases e : H z with
  | none => rfl
  | some o => rw [k z o nz e] at h; cases h
theorem LsN.back {a C dx : Addr} {fs : List (Str × V)} {H H1 S' : Hp} {n : Nat} {g : Nat → Int} {v : V} (k : KpX a H H1) (ha : H1 a = some (.ins C dx fs)) (h : LsN H1 n g v S') : LsN H n g v S' := by
  obtain ⟨l, e, h0, h1⟩ := h
  exact ⟨l, e, kx_free k (fun q => by rw [q, ha] at h0; cases h0) h0, h1⟩
theorem RowsN.back {a C dx : Addr} {fs : List (Str × V)} {H H1 S' : Hp} {m n : Nat} {R : Nat → Nat → Int} {v : V} (k : KpX a H H1) (ha : H1 a = some (.ins C dx fs)) (h : RowsN H1 m n R v S') : RowsN H m n R v S' := by
  obtain ⟨l, xs, e, h0, h1, h2, h3⟩ := h
  refine ⟨l, xs, e, kx_free k (fun q => by rw [q, ha] at h0; cases h0) h0, h1, h2, fun i hi => ?_⟩
  obtain ⟨b, e1, e2, e3, e4⟩ := h3 i hi
  exact ⟨b, e1, kx_free k (fun q => by rw [q, ha] at e2; cases e2) e2, e3, e4⟩
theorem CpV.back {a C dx : Addr} {fs : List (Str × V)} {H H1 S' : Hp} {d : PyData} {v : V} (k : KpX a H H1) (ha : H1 a = some (.ins C dx fs)) (h : CpV K H1 d v S') : CpV K H d v S' := by
  cases d with
  | list ds =>
    obtain ⟨l, xs, rfl, h0, h1, h2, hz⟩ := (show NewL K H1 ds v S' from h)
    exact ⟨l, xs, rfl, kx_free k (fun q => by rw [q, ha] at h0; cases h0) h0, h1, h2, hz⟩
  | none => exact h
  | bool b => exact h
  | int b => exact h
  | str b => exact h
  | tuple b => exact h
  | dict b => exact h
/-! ### Outcome.__init__ -/
def spOI (K : PySem.W.Frag) : Sp := fun vs H Q _ => ∃ a C dx vr vb, ∃ m n : Nat, ∃ R B tk rk bk, vs = [.ref a, vr, vb] ∧ Cls K C ∧ NoAttr K C "_rows" ∧ NoAttr K C "_bounds" ∧ H a = some (.ins C dx []) ∧ Dt K (rowsD tk rk m n R) vr H ∧ Dt K (bndD bk m B) vb H ∧ m ≤ 1000 ∧ n ≤ 1000 ∧
  ∀ rl bl H', KpX a H H' → H' a = some (.ins C dx [("_rows", rl), ("_bounds", bl)]) → RowsN H m n R rl H' → LsN H m B bl H' → Q .non H'
theorem sc_oin : FnScope ["self", "rows", "bounds", "row"] ["self", "rows", "bounds"] (defScope sOutcome____init__) := ⟨rfl, rfl, rfl, by decide +kernel, rfl, by decide +kernel, by decide +kernel⟩
theorem ok_oin (F : FnM K "__init__" "Outcome.__init__" sOutcome____init__ f fd) (g2 : mg "list" = none) : FnOk P w K mg base CX0 1 f fd ["self", "rows", "bounds"] (spOI K) := by
  refine fn_hs F sc_oin (fun vs H Q E h => by obtain ⟨a, C, dx, vr, vb, m, n, R, B, tk, rk, bk, rfl, _⟩ := h; rfl) (fun cdv Ar outer sh H vs Q E hr h => ?_)
  obtain ⟨a, C, dx, vr, vb, m, n, R, B, tk, rk, bk, rfl, c, n1, n2, ha, pr, pb, hm, hn, q⟩ := h
  refine hs_fld (S := H) (P := LstPN H ((List.range m).map fun i => NewL K H (lsD n (R i)))) (r := a) (C := C) (ee_lcNB (own := [("row", 3)]) (R := fun i => Dt K (sqD (rk i) (lsD n (R i)))) (G := fun i => NewL K H (lsD n (R i))) (ds := List.range m) (fun i _ => inferInstance) rfl sc_oin.nd (blkOk_by (N := ["self", "rows", "bounds", "row"]) (sc := defScope sOutcome____init__) (by decide +kernel)) (ei_sqF (ee_var 1 rfl pr)) (by rw [List.length_range]; exact Nat.le_trans hm (by decide)) (fun i hi v S' hs hv => ⟨_, wipe1, fun sh' H0 C' cl fp => ⟨eg_name sc_oin.nd rfl (by first | exact Or.inl rfl | exact Or.inr rfl), ets_nil, (ee_listN g2 (sqD_or _ _) (ee_var 3 rfl hv)).imp fun u S2 h => h.dn hs⟩⟩)) (Same.refl H) (fun S2 _ => ee_var 0 rfl rfl) ha c n1 (by show 0 < 1000; decide) fun v S6 H6 g6 pv e6 => ?_
  have pR := Mn.up (P := RowsN H m n R) g6.sub (lstPN_rows pv)
  have k6 : KpX a H (upd H6 a (.ins C dx (putF ("_rows" : Str) v []))) := KpX.refl.step g6.hh
  have k66 : KpX a H6 (upd H6 a (.ins C dx (putF ("_rows" : Str) v []))) := KpX.refl.step (Same.refl _)
  have pR := RowsN.kx k66 e6 pR
  generalize hH7 : upd H6 a (.ins C dx (putF ("_rows" : Str) v [])) = H7 at k6 pR
  have a7 : H7 a = some (.ins C dx (putF ("_rows" : Str) v [])) := by rw [← hH7]; exact upd_same
  refine hs_fld (S := H7) (P := NewL K H7 (lsD m B)) (r := a) (C := C) (ee_listN g2 (sqD_or _ _) (ee_var 2 rfl (dt_kx k6 ha pb))) (Same.refl H7) (fun S2 _ => ee_var 0 rfl rfl) a7 c n2 (by show 1 < 1000; decide) fun v2 S8 H8 g8 pv2 e8 => hs_nil ?_
  have pB := Mn.up (P := LsN H7 m B) g8.sub (newL_lsN pv2)
  have k88 : KpX a H8 (upd H8 a (.ins C dx (putF ("_bounds" : Str) v2 (putF ("_rows" : Str) v [])))) := KpX.refl.step (Same.refl _)
  refine q v v2 _ (k6.step g8.hh) upd_same (RowsN.kx k88 e8 (Mn.up g8.hh pR)) (LsN.kx k88 e8 (LsN.back k6 a7 pB))
/-! ### Solution.__init__, Mirror.__init__ -/
def SolN (K : PySem.W.Frag) (C : Addr) (S : Hp) (m n : Nat) (R : Nat → Nat → Int) (B : Nat → Int) (sc ns : PyData) (v : V) (S' : Hp) : Prop := ∃ a dx rl bl us un, v = .ref a ∧ S a = none ∧ S' a = some (.ins C dx [("_rows", rl), ("_bounds", bl), ("_scale", us), ("_numbers", un)]) ∧ RowsN S m n R rl S' ∧ LsN S m B bl S' ∧ CpV K S sc us S' ∧ CpV K S ns un S'
def MirN (K : PySem.W.Frag) (C : Addr) (S : Hp) (m n : Nat) (R : Nat → Nat → Int) (B : Nat → Int) (ns : PyData) (v : V) (S' : Hp) : Prop := ∃ a dx rl bl un, v = .ref a ∧ S a = none ∧ S' a = some (.ins C dx [("_rows", rl), ("_bounds", bl), ("_numbers", un)]) ∧ RowsN S m n R rl S' ∧ LsN S m B bl S' ∧ CpV K S ns un S'
instance {C : Addr} {S : Hp} {m n : Nat} {R : Nat → Nat → Int} {B : Nat → Int} {sc ns : PyData} : Mn (SolN K C S m n R B sc ns) := ⟨fun s ⟨a, dx, rl, bl, us, un, h1, h2, h3, h4, h5, h6, h7⟩ => ⟨a, dx, rl, bl, us, un, h1, h2, s _ _ h3, Mn.up s h4, Mn.up s h5, h6.up s, h7.up s⟩⟩
instance {C : Addr} {S : Hp} {m n : Nat} {R : Nat → Nat → Int} {B : Nat → Int} {ns : PyData} : Mn (MirN K C S m n R B ns) := ⟨fun s ⟨a, dx, rl, bl, un, h1, h2, h3, h4, h5, h7⟩ => ⟨a, dx, rl, bl, un, h1, h2, s _ _ h3, Mn.up s h4, Mn.up s h5, h7.up s⟩⟩
def spSI (K : PySem.W.Frag) (C : Addr) : Sp := fun vs H Q _ => ∃ a dx vr vb us un, ∃ m n : Nat, ∃ R B tk rk bk sc ns, vs = [.ref a, vr, vb, us, un] ∧ H a = some (.ins C dx []) ∧ Dt K (rowsD tk rk m n R) vr H ∧ Dt K (bndD bk m B) vb H ∧ Dt K sc us H ∧ Dt K ns un H ∧ Bd 4 sc ∧ Bd 4 ns ∧ m ≤ 1000 ∧ n ≤ 1000 ∧
  ∀ H', KpX a H H' → (∀ H0, KpX a H0 H → H0 a = none → SolN K C H0 m n R B sc ns (.ref a) H') → Q .non H'
theorem sc_sin : NScope ["self", "rows", "bounds", "scale", "numbers", "__class__"] ["self", "rows", "bounds", "scale", "numbers"] ["__class__"] (defScope sSolution____init__) := nscope_by (by decide +kernel)
theorem ok_sin {C D f2 : Addr} {fd2 : FuncData} (F : FunS P K "__init__" "Solution.__init__" (defArgs sSolution____init__) (defBody sSolution____init__) (defScope sSolution____init__) D f fd) (U : SupK P K mg C D f2) (G : FnOk P w K mg base CX0 1 f2 fd2 ["self", "rows", "bounds"] (spOI K)) (hb2 : Binds K fd2 ["self", "rows", "bounds"] []) (D1 : KD P w K mg base "copied" 5 (spCop K 4)) (c : Cls K C) (n1 : NoAttr K C "_rows") (n2 : NoAttr K C "_bounds") (n3 : NoAttr K C "_scale") (n4 : NoAttr K C "_numbers") : FnOk P w K mg base CX0 6 f fd ["self", "rows", "bounds", "scale", "numbers"] (spSI K C) := by
  refine fn_super F sc_sin (G.mono (by decide)) hb2 U rfl rfl rfl rfl (fun vs H Q E h => by obtain ⟨a, dx, vr, vb, us, un, m, n, R, B, tk, rk, bk, sc, ns, rfl, _⟩ := h; rfl) (fun cd cc Ar outer sh H vs Q E hr h => ?_)
  obtain ⟨a, dx, vr, vb, us, un, m, n, R, B, tk, rk, bk, sc, ns, rfl, ha, pr, pb, ps, pn, bs, bn, hm, hn, q⟩ := h
  refine ⟨a, dx, [], [vr, vb, us, un], rfl, ha, ?_⟩
  refine (ea_2 (Pa := Dt K (rowsD tk rk m n R)) (Pb := Dt K (bndD bk m B)) (ee_var 1 rfl pr) (ee_var 2 rfl pb)).2 H (Same.refl H) _ fun vs S1 H1 g1 al => ?_
  obtain ⟨w1, w2, rfl, p1, p2⟩ := al.two
  refine ⟨a, C, dx, w1, w2, m, n, R, B, tk, rk, bk, rfl, c, n1, n2, g1.hh _ _ ha, p1.up g1.sub, p2.up g1.sub, hm, hn, fun rl bl H2 k2 a2 pR pB => ?_⟩
  have a1 := g1.hh _ _ ha
  have kH2 : KpX a H H2 := fun z o nz h => k2 z o nz (g1.hh _ _ h)
  refine hs_fld (S := H2) (P := CpV K H2 sc) (r := a) (C := C) (ee_call D1 (hr.mono (by decide)) (ea_1 (ee_var 3 rfl (dt_kx kH2 ha ps))) (spCop_E bs)) (Same.refl H2) (fun S2 _ => ee_var 0 rfl rfl) a2 c n3 (by show 2 < 1000; decide) fun v3 S3 H3 g3 pv3 e3 => ?_
  have pS := pv3.up g3.sub
  have k33 : KpX a H3 (upd H3 a (.ins C dx (putF ("_scale" : Str) v3 [("_rows", rl), ("_bounds", bl)]))) := KpX.refl.step (Same.refl _)
  have kH4 := kH2.step (o := .ins C dx (putF ("_scale" : Str) v3 [("_rows", rl), ("_bounds", bl)])) g3.hh
  have k24 : KpX a H2 (upd H3 a (.ins C dx (putF ("_scale" : Str) v3 [("_rows", rl), ("_bounds", bl)]))) := KpX.refl.step g3.hh
  have pS4 := CpV.kx k33 e3 pS
  have pR4 := RowsN.kx k24 a2 pR
  have pB4 := LsN.kx k24 a2 pB
  generalize hH4 : upd H3 a (.ins C dx (putF ("_scale" : Str) v3 [("_rows", rl), ("_bounds", bl)])) = H4 at kH4 pS4 pR4 pB4
  have a4 : H4 a = some (.ins C dx (putF ("_scale" : Str) v3 [("_rows", rl), ("_bounds", bl)])) := by rw [← hH4]; exact upd_same
  refine hs_fld (S := H4) (P := CpV K H4 ns) (r := a) (C := C) (ee_call D1 (hr.mono (by decide)) (ea_1 (ee_var 4 rfl (dt_kx kH4 ha pn))) (spCop_E bn)) (Same.refl H4) (fun S2 _ => ee_var 0 rfl rfl) a4 c n4 (by show 3 < 1000; decide) fun v5 S5 H5 g5 pv5 e5 => hs_nil ?_
  have pN := pv5.up g5.sub
  have k55 : KpX a H5 (upd H5 a (.ins C dx (putF ("_numbers" : Str) v5 (putF ("_scale" : Str) v3 [("_rows", rl), ("_bounds", bl)])))) := KpX.refl.step (Same.refl _)
  have k45 : KpX a H4 (upd H5 a (.ins C dx (putF ("_numbers" : Str) v5 (putF ("_scale" : Str) v3 [("_rows", rl), ("_bounds", bl)])))) := KpX.refl.step g5.hh
  refine q _ (kH4.step g5.hh) fun H0 k0 h0 => ⟨a, dx, rl, bl, v3, v5, rfl, h0, upd_same, ?_, ?_, ?_, ?_⟩
  · exact RowsN.kx k45 a4 (RowsN.back k0 ha (RowsN.dn g1.hh pR4))
  · exact LsN.kx k45 a4 (LsN.back k0 ha (LsN.dn g1.hh pB4))
  · exact CpV.kx k45 a4 (CpV.back k0 ha (CpV.back kH2 a2 pS4))
  · exact CpV.kx k55 e5 (CpV.back k0 ha (CpV.back kH4 a4 pN))
def spMI (K : PySem.W.Frag) (C : Addr) : Sp := fun vs H Q _ => ∃ a dx vr vb un, ∃ m n : Nat, ∃ R B tk rk bk ns, vs = [.ref a, vr, vb, un] ∧ H a = some (.ins C dx []) ∧ Dt K (rowsD tk rk m n R) vr H ∧ Dt K (bndD bk m B) vb H ∧ Dt K ns un H ∧ Bd 4 ns ∧ m ≤ 1000 ∧ n ≤ 1000 ∧
  ∀ H', KpX a H H' → (∀ H0, KpX a H0 H → H0 a = none → MirN K C H0 m n R B ns (.ref a) H') → Q .non H'
theorem sc_min : NScope ["self", "rows", "bounds", "numbers", "__class__"] ["self", "rows", "bounds", "numbers"] ["__class__"] (defScope sMirror____init__) := nscope_by (by decide +kernel)
theorem ok_min {C D f2 : Addr} {fd2 : FuncData} (F : FunS P K "__init__" "Mirror.__init__" (defArgs sMirror____init__) (defBody sMirror____init__) (defScope sMirror____init__) D f fd) (U : SupK P K mg C D f2) (G : FnOk P w K mg base CX0 1 f2 fd2 ["self", "rows", "bounds"] (spOI K)) (hb2 : Binds K fd2 ["self", "rows", "bounds"] []) (D1 : KD P w K mg base "copied" 5 (spCop K 4)) (c : Cls K C) (n1 : NoAttr K C "_rows") (n2 : NoAttr K C "_bounds") (n4 : NoAttr K C "_numbers") : FnOk P w K mg base CX0 6 f fd ["self", "rows", "bounds", "numbers"] (spMI K C) := by
  refine fn_super F sc_min (G.mono (by decide)) hb2 U rfl rfl rfl rfl (fun vs H Q E h => by obtain ⟨a, dx, vr, vb, un, m, n, R, B, tk, rk, bk, ns, rfl, _⟩ := h; rfl) (fun cd cc Ar outer sh H vs Q E hr h => ?_)
  obtain ⟨a, dx, vr, vb, un, m, n, R, B, tk, rk, bk, ns, rfl, ha, pr, pb, pn, bn, hm, hn, q⟩ := h
  refine ⟨a, dx, [], [vr, vb, un], rfl, ha, ?_⟩
  refine (ea_2 (Pa := Dt K (rowsD tk rk m n R)) (Pb := Dt K (bndD bk m B)) (ee_var 1 rfl pr) (ee_var 2 rfl pb)).2 H (Same.refl H) _ fun vs S1 H1 g1 al => ?_
  obtain ⟨w1, w2, rfl, p1, p2⟩ := al.two
  refine ⟨a, C, dx, w1, w2, m, n, R, B, tk, rk, bk, rfl, c, n1, n2, g1.hh _ _ ha, p1.up g1.sub, p2.up g1.sub, hm, hn, fun rl bl H2 k2 a2 pR pB => ?_⟩
  have kH2 : KpX a H H2 := fun z o nz h => k2 z o nz (g1.hh _ _ h)
  refine hs_fld (S := H2) (P := CpV K H2 ns) (r := a) (C := C) (ee_call D1 (hr.mono (by decide)) (ea_1 (ee_var 3 rfl (dt_kx kH2 ha pn))) (spCop_E bn)) (Same.refl H2) (fun S2 _ => ee_var 0 rfl rfl) a2 c n4 (by show 2 < 1000; decide) fun v5 S5 H5 g5 pv5 e5 => hs_nil ?_
  have pN := pv5.up g5.sub
  have k55 : KpX a H5 (upd H5 a (.ins C dx (putF ("_numbers" : Str) v5 [("_rows", rl), ("_bounds", bl)]))) := KpX.refl.step (Same.refl _)
  have k25 : KpX a H2 (upd H5 a (.ins C dx (putF ("_numbers" : Str) v5 [("_rows", rl), ("_bounds", bl)]))) := KpX.refl.step g5.hh
  refine q _ (kH2.step g5.hh) fun H0 k0 h0 => ⟨a, dx, rl, bl, v5, rfl, h0, upd_same, ?_, ?_, ?_⟩
  · exact RowsN.kx k25 a2 (RowsN.back k0 ha (RowsN.dn g1.hh pR))
  · exact LsN.kx k25 a2 (LsN.back k0 ha (LsN.dn g1.hh pB))
  · exact CpV.kx k55 e5 (CpV.back k0 ha (CpV.back kH2 a2 pN))
end
end K04
namespace K04
open PySem PySem.Spec PyProof.Rows L2 Z Y LamX NdefX
section
variable {P : Program} {w : World} {K : PySem.W.Frag} {mg : Str → Option Value} {base : Heap} {f : Addr} {fd : FuncData}
/-! ## check_system of a system -/
theorem ei_enumSq {X : Cx} {σ : L2.St} {S : Hp} {a : Expr} {t : Bool} {ds : List PyData} {elts : List Expr} {kk : Nat} {tpos p pos : Pos} (hm : X.mg "enumerate" = none) (ha : EE X σ S a (Dt X.K (sqD t ds))) (hg : Gl X "enumerate" := by rfl) (hs : starEach [a] X.env = [(false, eval a X.env)] := by rfl) :
    EI X σ S (.Tuple elts kk tpos) (.Call (.Name "enumerate" p) [a] [] pos) (Ds X.K (enumD ds)) := by
  cases t
  · exact ei_enumL hm ha hg hs
  · exact ei_enumT hm ha hg hs
theorem ee_ixSq {X : Cx} {σ : L2.St} {S : Hp} {a b : Expr} {t : Bool} {ds : List PyData} {d : PyData} {i : Int} {pos : Pos} (he : atI ds i = some d) (ha : EE X σ S a (Dt X.K (sqD t ds))) (hb : EE X σ S b (Dt X.K (.int i))) (hs : PlainIx b := by exact fun _ _ => rfl) : EE X σ S (.Subscript a b pos) (Dt X.K d) := by
  cases t
  · exact ee_ixL he ha hb hs
  · exact ee_ixT he ha hb hs
theorem sq_lt (t : Bool) (ds : List PyData) : (isD (sqD t ds) "list" || isD (sqD t ds) "tuple") = true := by cases t <;> rfl
theorem truD_sq {t : Bool} {ds : List PyData} (h : 1 ≤ ds.length) : truD (sqD t ds) = true := by
  match ds, h with
  | d :: ds, _ => cases t <;> rfl
theorem truD_sq0 {t : Bool} : truD (sqD t []) = false := by cases t <;> rfl
def Fchk : List PyData → PyData → Prop := fun ds r => ∃ tk rk bk m n R B, ds = [rowsD tk rk m n R, bndD bk m B] ∧ 1 ≤ n ∧ m ≤ 1000 ∧ n ≤ 1000 ∧ r = .none
theorem sc_chk : FnScope ["rows", "bounds", "at", "row", "item"] ["rows", "bounds"] (defScope scheck_system) := ⟨rfl, rfl, rfl, by decide +kernel, rfl, by decide +kernel, by decide +kernel⟩
theorem ok_chk (F : FnT K "check_system" scheck_system f fd) (D1 : KD P w K mg base "is_whole" 1 (spD K Fwh)) (g1 : mg "isinstance" = none) (g2 : mg "list" = none) (g3 : mg "tuple" = none) (g4 : mg "all" = none) (g5 : mg "len" = none) (g6 : mg "enumerate" = none) : FnOk P w K mg base CX0 2 f fd ["rows", "bounds"] (spD K Fchk) := by
  refine fn_hs F sc_chk (fun vs H Q E h => ?_) (fun cdv A outer sh H vs Q E hr h => ?_)
  · obtain ⟨S, ds, d, _, hd, ⟨tk, rk, bk, m, n, R, B, rfl, _⟩, _⟩ := h
    exact hd.1
  · obtain ⟨S, ds, r, s, hd, ⟨tk, rk, bk, m, n, R, B, rfl, n1, hm, hn, rfl⟩, q⟩ := h
    obtain ⟨vr, vb, rfl, pr, pb⟩ := hd.two
    have lR : lenD (rowsD tk rk m n R) = some m := by unfold rowsD; rw [lenD_sq, List.length_map, List.length_range]
    have lB : lenD (bndD bk m B) = some m := by unfold bndD; rw [lenD_sq, lsD_len]
    refine hs_ifN ((et_w (ew_or (et_not (et_val (ee_isiLT rfl g1 g2 g3 (ee_var 0 rfl pr)))) fun _ => ew_or (et_not (et_val (ee_isiLT rfl g1 g2 g3 (ee_var 1 rfl pb)))) fun _ => ew_or1 (et_neI (ee_len g5 lR (ee_var 0 rfl pr) (hz := sq_hz)) (ee_len g5 lB (ee_var 1 rfl pb) (hz := sq_hz))))).is (by unfold rowsD bndD; rw [sq_lt, sq_lt]; simp)) s fun S1 H1 g1' => ?_
    have pr1 := pr.up g1'.st
    have pb1 := pb.up g1'.st
    refine hs_for (S := S1) (Ps := Ds K (enumD ((List.range m).map fun i => sqD (rk i) (lsD n (R i))))) (fun i σ _ => ∃ x y z : Option V, σ = [some vr, some vb, x, y, z]) PassesOwn.never rfl (ei_enumSq g6 (ee_var 0 rfl pr1)) g1'.sub (fun S' H' g => ⟨none, none, none, rfl⟩) ?_ ?_
    · rintro i P σ2 S2 H2 x S3 H3 hP g2' ⟨x0, y0, z0, rfl⟩ g3' px
      have hi : i < m := by
        have := (List.getElem?_eq_some_iff.mp hP).1
        rw [enum_len, List.length_map, List.length_range] at this
        exact this
      have hget : ((List.range m).map fun i => sqD (rk i) (lsD n (R i)))[i]? = some (sqD (rk i) (lsD n (R i))) := by rw [List.getElem?_map, List.getElem?_range hi]; rfl
      rw [ds_get (enum_get hget)] at hP
      obtain rfl := Option.some.inj hP
      obtain ⟨v1, v2, p1, p2, hg⟩ := eg_pair (X := (cxOf CX0 _ _ _ _ _ ["rows", "bounds", "at", "row", "item"] "check_system" (defScope scheck_system) f cdv A outer sh H E).nox) (σ := [some vr, some vb, x0, y0, z0]) (i := 2) (j := 3) (x := "at") (y := "row") rfl sc_chk.nd rfl rfl (.inl rfl) (.inl rfl) px
      cases p1
      refine hg H3 g3'.sub _ ?_
      have lr : lenD (sqD (rk i) (lsD n (R i))) = some n := by rw [lenD_sq, lsD_len]
      refine hs_ifN ((et_w (ew_or (et_not (et_val (ee_isiLT rfl g1 g2 g3 (ee_var 3 rfl p2)))) fun _ => ew_or (et_not (et_tru (ee_var 3 rfl p2) sq_hz)) fun _ => ew_or1 (et_not (et_val (ee_all (bs := (lsD n (R i)).map isWh) rfl g4 (ee_lc (i := 4) (x := "item") (enc := .bool) rfl sc_chk.nd (blkOk_by (N := ["rows", "bounds", "at", "row", "item"]) (sc := defScope scheck_system) (by decide +kernel)) (ei_sq (ee_var 3 rfl p2)) (by rw [lsD_len]; exact Nat.le_trans hn (by decide)) (fun d hd v S' hs hv sh' H0 C' cl fp => ee_callD D1 (hr.mono (by decide)) ⟨d, rfl, rfl⟩ (ea_1 (ee_var 4 rfl hv))))))))).is (by
          rw [sq_lt, truD_sq (by rw [lsD_len]; exact n1), all_map_id]
          have : (lsD n (R i)).all isWh = true := List.all_eq_true.mpr fun d hd => by obtain ⟨j, _, rfl⟩ := List.mem_map.mp hd; rfl
          rw [this]; rfl)) g3'.sub fun S4 H4 g4' => ?_
      have p24 := p2.up g4'.st
      have s14 := (g2'.st.trans g3'.st).trans g4'.st
      have hget0 : ((List.range m).map fun i => sqD (rk i) (lsD n (R i)))[0]? = some (sqD (rk 0) (lsD n (R 0))) := by rw [List.getElem?_map, List.getElem?_range (by omega)]; rfl
      refine hs_ifN ((et_w (ew_or (et_neI (ee_len g5 lr (ee_var 3 rfl p24) (hz := sq_hz)) (ee_len g5 (d := sqD (rk 0) (lsD n (R 0))) (n := n) (by rw [lenD_sq, lsD_len]) (ee_ixSq (atI_nat (k := 0) hget0) (ee_var 0 rfl (pr1.up s14)) ee_int) (hz := sq_hz))) fun _ => ew_or1 (et_not (et_val (ee_callD D1 (hr.mono (by decide)) (ds := [.int (B i)]) ⟨.int (B i), rfl, rfl⟩ (ea_1 (ee_ixSq (lsD_at (f := B) hi) (ee_var 1 rfl (pb1.up s14)) (ee_var 2 rfl (Dt.int (K := K) _))))))))).is (by simp [isWh])) g4'.sub fun S5 H5 g5' => hs_nil ?_
      exact ⟨S5, g4'.trans g5', _, _, _, rfl⟩
    · rintro σ2 S2 H2 g2' ⟨x, y, z, rfl⟩
      exact hs_nil (q .non S2 H2 (g1'.trans g2') .non)
end
end K04
namespace K04
open PySem PySem.Spec PyProof.Rows L2 Z Y LamX NdefX
section
variable {P : Program} {w : World} {K : PySem.W.Frag} {mg : Str → Option Value} {base : Heap} {f : Addr} {fd : FuncData}
/-! ## solve -/
/-- atoms, and lists of atoms: what stands in papers here -/
def Atm : PyData → Prop
  | .list _ => False
  | .tuple _ => False
  | .dict _ => False
  | _ => True
def Flat : PyData → Prop
  | .list ds => ∀ d ∈ ds, Atm d
  | d => Atm d
theorem atm_dt {d : PyData} {v : V} {H H' : Hp} (ha : Atm d) (h : Dt K d v H) : Dt K d v H' := by
  cases h with
  | non => exact .non
  | bl b => exact .bl b
  | int i => exact .int i
  | str x => exact .str x
  | lst _ _ _ _ => exact ha.elim
  | tup _ _ _ _ => exact ha.elim
theorem flat_bd {d : PyData} (h : Flat d) : Bd 4 d := by
  cases d with
  | list ds =>
    refine fun x hx => ?_
    have := h x hx
    cases x <;> first | trivial | exact this.elim
  | tuple ds => exact h.elim
  | dict ds => exact h.elim
  | _ => trivial
/-- the known state and all that is new -/
def newS (H H2 S : Hp) : Hp := fun z => match H z with
  | none => H2 z
  | some _ => S z
theorem newS_gr {S H H2 : Hp} (s : Same S H) (h : Same H H2) : Gr S H (newS H H2 S) H2 := by
  refine ⟨fun z o e => ?_, fun z o e => ?_, h, fun z o e _ => ?_⟩
  · unfold newS; rw [s z o e]; exact e
  · unfold newS at e
    cases q : H z with
    | none => rw [q] at e; exact e
    | some u => rw [q] at e; exact h z o (s z o e)
  · unfold newS; rw [e]
theorem newS_at {S H H2 : Hp} {z : Addr} {o : HO} (h : H z = none) (e : H2 z = some o) : newS H H2 S z = some o := by unfold newS; rw [h]; exact e
theorem cpV_newS {S H H2 : Hp} {d : PyData} {v : V} (hf : Flat d) (h : CpV K H d v H2) : CpV K H d v (newS H H2 S) := by
  cases d with
  | list ds =>
    obtain ⟨l, xs, rfl, h0, h1, h2, hz⟩ := (show NewL K H ds v H2 from h)
    exact ⟨l, xs, rfl, h0, newS_at h0 h1, ⟨h2.1, fun i x d hx hd => atm_dt (hf d (List.mem_of_getElem? hd)) (h2.2 i x d hx hd)⟩, hz⟩
  | none => exact atm_dt hf (show Dt K _ v H2 from h)
  | bool b => exact atm_dt hf (show Dt K _ v H2 from h)
  | int b => exact atm_dt hf (show Dt K _ v H2 from h)
  | str b => exact atm_dt hf (show Dt K _ v H2 from h)
  | tuple b => exact hf.elim
  | dict b => exact hf.elim
theorem SolN.newS {C : Addr} {S H H2 : Hp} {m n : Nat} {R : Nat → Nat → Int} {B : Nat → Int} {sc ns : PyData} {v : V} (f1 : Flat sc) (f2 : Flat ns) (h : SolN K C H m n R B sc ns v H2) : SolN K C H m n R B sc ns v (newS H H2 S) := by
  obtain ⟨a, dx, rl, bl, us, un, e, h0, h1, ⟨l, xs, e1, r0, r1, r2, r3⟩, ⟨l2, e2, b0, b1⟩, h4, h5⟩ := h
  refine ⟨a, dx, rl, bl, us, un, e, h0, newS_at h0 h1, ⟨l, xs, e1, r0, newS_at r0 r1, r2, fun i hi => ?_⟩, ⟨l2, e2, b0, newS_at b0 b1⟩, cpV_newS f1 h4, cpV_newS f2 h5⟩
  obtain ⟨z, z1, z2, z3, z4⟩ := r3 i hi
  exact ⟨z, z1, z2, z3, newS_at z2 z4⟩
theorem MirN.newS {C : Addr} {S H H2 : Hp} {m n : Nat} {R : Nat → Nat → Int} {B : Nat → Int} {ns : PyData} {v : V} (f2 : Flat ns) (h : MirN K C H m n R B ns v H2) : MirN K C H m n R B ns v (newS H H2 S) := by
  obtain ⟨a, dx, rl, bl, un, e, h0, h1, ⟨l, xs, e1, r0, r1, r2, r3⟩, ⟨l2, e2, b0, b1⟩, h5⟩ := h
  refine ⟨a, dx, rl, bl, un, e, h0, newS_at h0 h1, ⟨l, xs, e1, r0, newS_at r0 r1, r2, fun i hi => ?_⟩, ⟨l2, e2, b0, newS_at b0 b1⟩, cpV_newS f2 h5⟩
  obtain ⟨z, z1, z2, z3, z4⟩ := r3 i hi
  exact ⟨z, z1, z2, z3, newS_at z2 z4⟩
theorem SolN.dn {C : Addr} {S0 S S' : Hp} {m n : Nat} {R : Nat → Nat → Int} {B : Nat → Int} {sc ns : PyData} {v : V} (s : Same S0 S) (h : SolN K C S m n R B sc ns v S') : SolN K C S0 m n R B sc ns v S' := let ⟨a, dx, rl, bl, us, un, h1, h2, h3, h4, h5, h6, h7⟩ := h; ⟨a, dx, rl, bl, us, un, h1, s.free h2, h3, h4.dn s, h5.dn s, h6.dn s, h7.dn s⟩
theorem MirN.dn {C : Addr} {S0 S S' : Hp} {m n : Nat} {R : Nat → Nat → Int} {B : Nat → Int} {ns : PyData} {v : V} (s : Same S0 S) (h : MirN K C S m n R B ns v S') : MirN K C S0 m n R B ns v S' := let ⟨a, dx, rl, bl, un, h1, h2, h3, h4, h5, h7⟩ := h; ⟨a, dx, rl, bl, un, h1, s.free h2, h3, h4.dn s, h5.dn s, h7.dn s⟩
/-- Solution, Mirror are made -/
structure MkSol (P : Program) (w : World) (K : PySem.W.Frag) (mg : Str → Option Value) (base : Heap) (C : Addr) : Prop where
  ex : ∃ fi fdi ps, Mk K C fi ∧ FnOk P w K mg base CX0 6 fi fdi ps (spSI K C) ∧ Binds K fdi ps []
structure MkMir (P : Program) (w : World) (K : PySem.W.Frag) (mg : Str → Option Value) (base : Heap) (C : Addr) : Prop where
  ex : ∃ fi fdi ps, Mk K C fi ∧ FnOk P w K mg base CX0 6 fi fdi ps (spMI K C) ∧ Binds K fdi ps []
section
variable {X : Cx} {σ : L2.St} {S H : Hp} {C : Addr} {a b c d : Expr} {p pos : Pos} {m n : Nat} {R : Nat → Nat → Int} {B : Nat → Int} {tk bk : Bool} {rk : Nat → Bool} {sc ns : PyData}
theorem al_four {P1 P2 P3 P4 : V → Hp → Prop} {vs : List V} {H : Hp} (h : Al [P1, P2, P3, P4] vs H) : ∃ a b c d, vs = [a, b, c, d] ∧ P1 a H ∧ P2 b H ∧ P3 c H ∧ P4 d H := by
  cases h with | cons h1 h => cases h with | cons h2 h => cases h with | cons h3 h => cases h with | cons h4 h => cases h with | nil => exact ⟨_, _, _, _, rfl, h1, h2, h3, h4⟩
theorem ee_mkSol (M : MkSol X.prog X.w X.K X.mg X.base C) (hr : Room 7 X.A) (gS : X.mg "Solution" = some (.ref C)) (hm : m ≤ 1000) (hn : n ≤ 1000) (f1 : Flat sc) (f2 : Flat ns) (ha : EE X σ S a (Dt X.K (rowsD tk rk m n R))) (hb : EE X σ S b (Dt X.K (bndD bk m B))) (hc : EE X σ S c (Dt X.K sc)) (hd : EE X σ S d (Dt X.K ns)) (hg : Gl X "Solution" := by rfl)
    (e1 : starEach [a, b, c, d] X.env = (false, eval a X.env) :: starEach [b, c, d] X.env := by rfl) (e2 : starEach [b, c, d] X.env = (false, eval b X.env) :: starEach [c, d] X.env := by rfl) (e3 : starEach [c, d] X.env = (false, eval c X.env) :: starEach [d] X.env := by rfl) (e4 : starEach [d] X.env = (false, eval d X.env) :: starEach [] X.env := by rfl) (hpl : (backTo pos (starEach [b, c, d] X.env)).any (·.1) = false := by rfl) : EE X σ S (.Call (.Name "Solution" p) [a, b, c, d] [] pos) (SolN X.K C S m n R B sc ns) := fun H s Q q => by
  obtain ⟨fi, fdi, ps, mk, G, hb2⟩ := M.ex
  refine he_of (pe_make mk G hr hg gS hb2 .nil pass0 pab (by decide) e1 hpl) ((ea_cons ha (ea_cons hb (ea_2 hc hd e3 e4) e2) e1).2 H s _ fun vs S1 H1 g1 al x dx h1 h2 h3 => ?_)
  obtain ⟨v1, v2, v3, v4, rfl, p1, p2, p3, p4⟩ := al_four al
  have sH : Same H1 (upd (upd H1 dx (.own x)) x (.ins C dx [])) := (Same.new h2).trans (Same.new (by rw [upd_ne (Ne.symm h3)]; exact h1))
  refine ⟨x, dx, v1, v2, v3, v4, m, n, R, B, tk, rk, bk, sc, ns, rfl, upd_same, p1.up (g1.sub.trans sH), p2.up (g1.sub.trans sH), p3.up (g1.sub.trans sH), p4.up (g1.sub.trans sH), flat_bd f1, flat_bd f2, hm, hn, fun H' k hS => ⟨rfl, ?_⟩⟩
  have sH' : Same H1 H' := fun z o e => k z o (ne_of_none e h1) (sH z o e)
  have z := (hS H1 (fun z o nz e => sH z o e) h1).newS (S := S1) f1 f2
  exact q _ (newS H1 H' S1) H' (g1.trans (newS_gr g1.sub sH')) ((z.dn g1.sub).dn g1.st)
theorem ee_mkMir (M : MkMir X.prog X.w X.K X.mg X.base C) (hr : Room 7 X.A) (gS : X.mg "Mirror" = some (.ref C)) (hm : m ≤ 1000) (hn : n ≤ 1000) (f2 : Flat ns) (ha : EE X σ S a (Dt X.K (rowsD tk rk m n R))) (hb : EE X σ S b (Dt X.K (bndD bk m B))) (hd : EE X σ S d (Dt X.K ns)) (hg : Gl X "Mirror" := by rfl)
    (e1 : starEach [a, b, d] X.env = (false, eval a X.env) :: starEach [b, d] X.env := by rfl) (e2 : starEach [b, d] X.env = (false, eval b X.env) :: starEach [d] X.env := by rfl) (e4 : starEach [d] X.env = (false, eval d X.env) :: starEach [] X.env := by rfl) (hpl : (backTo pos (starEach [b, d] X.env)).any (·.1) = false := by rfl) : EE X σ S (.Call (.Name "Mirror" p) [a, b, d] [] pos) (MirN X.K C S m n R B ns) := fun H s Q q => by
  obtain ⟨fi, fdi, ps, mk, G, hb2⟩ := M.ex
  refine he_of (pe_make mk G hr hg gS hb2 .nil pass0 pab (by decide) e1 hpl) ((ea_cons ha (ea_2 hb hd e2 e4) e1).2 H s _ fun vs S1 H1 g1 al x dx h1 h2 h3 => ?_)
  obtain ⟨v1, v2, v4, rfl, p1, p2, p4⟩ := al.three
  have sH : Same H1 (upd (upd H1 dx (.own x)) x (.ins C dx [])) := (Same.new h2).trans (Same.new (by rw [upd_ne (Ne.symm h3)]; exact h1))
  refine ⟨x, dx, v1, v2, v4, m, n, R, B, tk, rk, bk, ns, rfl, upd_same, p1.up (g1.sub.trans sH), p2.up (g1.sub.trans sH), p4.up (g1.sub.trans sH), flat_bd f2, hm, hn, fun H' k hS => ⟨rfl, ?_⟩⟩
  have sH' : Same H1 H' := fun z o e => k z o (ne_of_none e h1) (sH z o e)
  have z := (hS H1 (fun z o nz e => sH z o e) h1).newS (S := S1) f2
  exact q _ (newS H1 H' S1) H' (g1.trans (newS_gr g1.sub sH')) ((z.dn g1.sub).dn g1.st)
end
/-- what solve answers -/
def SolveR (K : PySem.W.Frag) (CS CM : Addr) (S : Hp) (m n : Nat) (R : Nat → Nat → Int) (B : Nat → Int) (v : V) (S' : Hp) : Prop :=
  (m = 0 ∧ SolN K CS S m n R B (.int 1) (.list []) v S') ∨
  (m ≠ 0 ∧ ∃ E s xs, Sv.Runs m n (Sv.ini m n R B fun _ => 0) E ∧ (∀ i, i < m → 0 ≤ E.T i n) ∧ s :: xs = lowI (E.w :: lsI n (ptN E n m)) ∧ SolN K CS S m n R B (.int s) (lI xs) v S') ∨
  ∃ E k, Sv.Runs m n (Sv.ini m n R B fun _ => 0) E ∧ k < m ∧ E.T k n < 0 ∧ (∀ i, i < m → E.T i n < 0 → E.be k ≤ E.be i) ∧ (∀ j, j < n → E.T k j ≤ 0) ∧ MirN K CM S m n R B (lI (lowI (lsI m (Sv.mir E n k)))) v S'
/-- the numbers are small enough -/
def SysOk (m n : Nat) (R : Nat → Nat → Int) (B : Nat → Int) : Prop := m ≤ 500 ∧ n ≤ 500 ∧ (m = 0 ∨ 1 ≤ n) ∧ ∃ b : Nat, (∀ v k, k < m + 1 → (Sv.iniA m n R B (fun _ => 0) v k).natAbs ≤ b) ∧ ((m + 1) * b) ^ (m + 1) < 2 ^ 8000
def spSolve (K : PySem.W.Frag) (CS CM : Addr) : Sp := fun vs H Q _ => ∃ S vr vb, ∃ m n : Nat, ∃ R B tk rk bk, vs = [vr, vb] ∧ Same S H ∧ Dt K (rowsD tk rk m n R) vr S ∧ Dt K (bndD bk m B) vb S ∧ SysOk m n R B ∧ ∀ v S' H', Gr S H S' H' → SolveR K CS CM S m n R B v S' → Q v H'
theorem sc_solve : FnScope ["rows", "bounds", "width", "tableau", "row", "scale", "numbers"] ["rows", "bounds"] (defScope ssolve) := ⟨rfl, rfl, rfl, by decide +kernel, rfl, by decide +kernel, by decide +kernel⟩
theorem flat_ints (l : List Int) : Flat (lI l) := fun d hd => by obtain ⟨x, _, rfl⟩ := List.mem_map.mp hd; trivial
theorem ok_solve {CT CS CM : Addr} {ft : Addr} {fdt : FuncData} (F : FnT K "solve" ssolve f fd) (D1 : KD P w K mg base "check_system" 2 (spD K Fchk)) (D2 : KD P w K mg base "point_of" 2 (spPof K CT)) (D3 : KD P w K mg base "mirror_of" 2 (spMof K CT)) (M1 : MkSol P w K mg base CS) (M2 : MkMir P w K mg base CM) (MT : Mk K CT ft) (GT : FnOk P w K mg base CX0 1 ft fdt ["self", "costs", "rows", "bounds"] (spTI K CT)) (bT : Binds K fdt ["self", "costs", "rows", "bounds"] []) (DR : KM P w K mg base CT "run" 3 (spRun CT)) (cT : Cls K CT) (gS : mg "Solution" = some (.ref CS)) (gM : mg "Mirror" = some (.ref CM)) (gT : mg "Tableau" = some (.ref CT)) (g1 : mg "len" = none) : FnOk P w K mg base CX0 8 f fd ["rows", "bounds"] (spSolve K CS CM) := by
  refine fn_hs F sc_solve (fun vs H Q E h => by obtain ⟨S, vr, vb, m, n, R, B, tk, rk, bk, rfl, _⟩ := h; rfl) (fun cdv Ar outer sh H vs Q E hr h => ?_)
  obtain ⟨S, vr, vb, m, n, R, B, tk, rk, bk, rfl, s, pr, pb, ⟨hm, hn, h01, b, hb1, hb2⟩, q⟩ := h
  haveI mnE : ∀ u : V, Mn (fun (w : V) (_ : Hp) => w = u) := fun u => ⟨fun _ h => h⟩
  have prH := pr.up s
  have pbH := pb.up s
  -- an end with the whole heap
  have endS : ∀ {v H2 sc ns}, Same H H2 → Flat sc → Flat ns → SolN K CS H m n R B sc ns v H2 → ∃ S', Gr S H S' H2 ∧ SolN K CS S m n R B sc ns v S' := fun s2 f1 f2 h => ⟨_, newS_gr s s2, (h.newS f1 f2).dn s⟩
  have endM : ∀ {v H2 ns}, Same H H2 → Flat ns → MirN K CM H m n R B ns v H2 → ∃ S', Gr S H S' H2 ∧ MirN K CM S m n R B ns v S' := fun s2 f2 h => ⟨_, newS_gr s s2, (h.newS f2).dn s⟩
  by_cases h0 : m = 0
  · -- no rows
    subst h0
    have prE : Dt K (rowsD tk rk 0 1 R) vr H := prH
    refine hs_expr (S := H) (ee_callD D1 (hr.mono (by decide)) (ds := [rowsD tk rk 0 1 R, bndD bk 0 B]) ⟨tk, rk, bk, 0, 1, R, B, rfl, by decide, by decide, by decide, rfl⟩ (ea_2 (ee_var 0 rfl prE) (ee_var 1 rfl pbH))) (Same.refl H) fun _ S1 H1 g1' _ => ?_
    refine hs_ifT ((et_not (et_tru (ee_var 0 rfl (prH.up g1'.hh)) sq_hz)).is (by show (!truD (sqD tk [])) = true; rw [truD_sq0]; rfl)) (Same.refl H1) fun S2 H2 g2' => ?_
    have s2 := g1'.hh.trans g2'.hh
    refine hs_ret (S := H2) (ee_mkSol (tk := tk) (rk := rk) (bk := bk) (m := 0) (n := n) (R := R) (B := B) M1 (hr.mono (by decide)) gS (by omega) (by omega) (sc := .int 1) (ns := .list []) trivial (fun d hd => by cases hd) (ee_var 0 rfl (prH.up s2)) (ee_var 1 rfl (pbH.up s2)) ee_int (ee_lst (ds := []) ea_nil)) (Same.refl H2) fun v S3 H3 g3 pv => ?_
    obtain ⟨S', g, z⟩ := endS (s2.trans g3.hh) (sc := .int 1) (ns := .list []) trivial (fun d hd => by cases hd) ((Mn.up (P := SolN K CS H2 0 n R B (.int 1) (.list [])) g3.sub pv).dn s2)
    exact q v S' H3 g (.inl ⟨rfl, z⟩)
  · have n1 : 1 ≤ n := by omega
    refine hs_expr (S := H) (ee_callD D1 (hr.mono (by decide)) (ds := [rowsD tk rk m n R, bndD bk m B]) ⟨tk, rk, bk, m, n, R, B, rfl, n1, by omega, by omega, rfl⟩ (ea_2 (ee_var 0 rfl prH) (ee_var 1 rfl pbH))) (Same.refl H) fun _ S1 H1 g1' _ => ?_
    have pr1 := prH.up g1'.hh
    refine hs_ifN ((et_not (et_tru (ee_var 0 rfl pr1) sq_hz)).is (by show (!truD (sqD tk ((List.range m).map fun i => sqD (rk i) (lsD n (R i))))) = false; rw [truD_sq (by rw [List.length_map, List.length_range]; omega)]; rfl)) (Same.refl H1) fun S2 H2 g2' => ?_
    have s2 := g1'.hh.trans g2'.hh
    have pr2 := prH.up s2
    have hget0 : ((List.range m).map fun i => sqD (rk i) (lsD n (R i)))[0]? = some (sqD (rk 0) (lsD n (R 0))) := by rw [List.getElem?_map, List.getElem?_range (by omega)]; rfl
    refine hs_set (S := H2) (i := 2) (P := Dt K (.int (n : Nat))) (ee_len g1 (d := sqD (rk 0) (lsD n (R 0))) (n := n) (by rw [lenD_sq, lsD_len]) (ee_ixSq (atI_nat (k := 0) hget0) (ee_var 0 rfl pr2) ee_int) (hz := sq_hz)) (Same.refl H2) sc_solve.nd fun v S3 H3 g3 pv => ?_
    cases pv
    have s3 := s2.trans g3.hh
    have pr3 := prH.up s3
    have pb3 := pbH.up s3
    -- the tableau
    refine hs_setH (i := 3) (x := "tableau") sc_solve.nd (he_makeH (Ps := [Dt K (.list (lsD n fun _ => 0)), Dt K (rowsD tk rk m n R), Dt K (bndD bk m B)]) MT GT (hr.mono (by decide)) gT bT (ea_cons ((ee_repL (by omega) (by omega) (by show 1 * _ ≤ 16777216; omega) (ee_lst (ds := [.int 0]) (ea_1 ee_int)) (ee_var 2 rfl (Dt.int (K := K) _))).isd (by rw [rep_ls])) (ea_2 (ee_var 0 rfl pr3) (ee_var 1 rfl pb3))) fun vs S4 H4 a dx g4 al a0 d0 nad => ?_)
    obtain ⟨v1, v2, v3, rfl, p1, p2, p3⟩ := al.three
    have sH4 : Same H4 (upd (upd H4 dx (.own a)) a (.ins CT dx [])) := (Same.new d0).trans (Same.new (by rw [upd_ne (Ne.symm nad)]; exact a0))
    refine ⟨a, dx, v1, v2, v3, m, n, R, B, fun _ => 0, tk, rk, bk, rfl, upd_same, p1.up (g4.sub.trans sH4), p2.up (g4.sub.trans sH4), p3.up (g4.sub.trans sH4), by omega, by omega, fun fa ba pa sa H5 k5 f0 b0 p0 s0 T5 => ⟨rfl, ?_⟩⟩
    have s45 : Same H4 H5 := fun z o e => k5 z o (ne_of_none e a0) (sH4 z o e)
    have s5 := (s3.trans g4.hh).trans s45
    -- what is new here
    have free4 : ∀ {z}, (upd (upd H4 dx (.own a)) a (.ins CT dx [])) z = none → H4 z = none := fun {z} e => by
      by_cases h1 : z = a
      · rw [h1, upd_same] at e; cases e
      · rw [upd_ne h1] at e
        by_cases h2 : z = dx
        · rw [h2, upd_same] at e; cases e
        · rw [upd_ne h2] at e; exact e
    have s4 : Same H H4 := s3.trans g4.hh
    have keep : ∀ {H6}, FrmH ⟨a, dx, fa, ba, pa, sa⟩ H5 H6 → Same H H6 := fun f z o e => f z o (s5 z o e) (ne_of_none e (s4.free a0)) ⟨ne_of_none e (s4.free (free4 f0)), ne_of_none e (s4.free (free4 b0)), ne_of_none e (s4.free (free4 p0)), ne_of_none e (s4.free (free4 s0))⟩
    have Fr0 : Sv.From (Sv.ini m n R B fun _ => 0) m n R B fun _ => 0 := .ini fun _ _ => Int.le_refl 0
    obtain ⟨ca5, ti5, _⟩ := T5.ins
    -- run
    refine hs_setH (i := 4) (x := "row") sc_solve.nd (he_methH0 DR cT (hr.mono (by decide)) (ee_var 3 rfl rfl) ti5 rfl fun H6 s6 => ⟨⟨a, dx, fa, ba, pa, sa⟩, m, n, _, R, B, fun _ => 0, rfl, T5.up s6, by omega, by omega, ⟨Fr0, b, hb1, hb2⟩, fun E r H7 hRuns hE T7 F7 => ?_⟩)
    have s7 : Same H H7 := keep ((FrmH.of s6).trans F7)
    have FE := Sv.runs_from Fr0 hRuns
    have okE : RunOk E m n R B fun _ => 0 := ⟨FE, b, hb1, hb2⟩
    refine hs_if (S := H7) (et_lt (ee_var 4 rfl (Dt.int (K := K) _)) ee_int) (Same.refl H7) (fun hk S8 H8 g8 => ?_) (fun hk S8 H8 g8 => hs_nil ?_)
    · have hk := of_decide_eq_true hk
      have t : ∀ i, i < m → 0 ≤ E.T i n := by
        rcases hE with ⟨_, h⟩ | ⟨j, rfl, _⟩
        · exact h
        · omega
      have s8 := s7.trans g8.hh
      refine hs_unpH (i := 5) (j := 6) (x := "scale") (y := "numbers") rfl sc_solve.nd (he_callH D2 (hr.mono (by decide)) (Ps := [fun w _ => w = .ref a, fun w _ => w = .int (n : Nat)]) (ea_2 (ee_var 3 rfl rfl) (ee_var 2 rfl rfl)) fun vs S9 H9 g9 al => ?_)
      obtain ⟨_, _, rfl, rfl, rfl⟩ := al.two
      refine ⟨⟨a, dx, fa, ba, pa, sa⟩, m, n, E, n + m, rfl, (T7.up g8.hh).up g9.hh, hm, hn, FE.G.J, okE.bdD, fun v H10 sc xs hlow s10 pv => ?_⟩
      obtain ⟨l, ys, rfl, hl, hx, _⟩ := pv.tup_inv
      obtain ⟨u1, u2, rfl, k1, k2⟩ := hx.two
      refine ⟨l, u1, u2, rfl, hl, ?_⟩
      have sA := (s8.trans g9.hh).trans s10
      refine hs_ret (S := H10) (ee_mkSol (tk := tk) (rk := rk) (bk := bk) (m := m) (n := n) (R := R) (B := B) M1 (hr.mono (by decide)) gS (by omega) (by omega) (sc := .int sc) (ns := lI xs) trivial (flat_ints _) (ee_var 0 rfl (prH.up sA)) (ee_var 1 rfl (pbH.up sA)) (ee_var 5 rfl k1) (ee_var 6 rfl k2)) (Same.refl H10) fun v S11 H11 g11 pv => ?_
      obtain ⟨S', g, z⟩ := endS (sA.trans g11.hh) (sc := .int sc) (ns := lI xs) trivial (flat_ints _) ((Mn.up (P := SolN K CS H10 m n R B (.int sc) (lI xs)) g11.sub pv).dn sA)
      exact q v S' H11 g (.inr (.inl ⟨h0, E, sc, xs, hRuns, t, hlow, z⟩))
    · have hk := of_decide_eq_false hk
      obtain ⟨j, rfl, hj, hneg, hmin, hle⟩ : ∃ k : Nat, r = k ∧ k < m ∧ E.T k n < 0 ∧ (∀ i, i < m → E.T i n < 0 → E.be k ≤ E.be i) ∧ ∀ j, j < n → E.T k j ≤ 0 := by
        rcases hE with ⟨rfl, _⟩ | h
        · omega
        · exact h
      have s8 := s7.trans g8.hh
      obtain ⟨fi, fdi, ps, mk, G, hbM⟩ := M2.ex
      refine hs_retH (he_of (pe_make mk G (hr.mono (by decide)) rfl gM hbM .nil pass0 pab (by decide)) ?_)
      refine ha_of (pa_cons (te := bE _ _) (t := bA _ _) peb pab) ?_
      refine (ee_var (P := Dt K (rowsD tk rk m n R)) 0 rfl (prH.up s8)) H8 (Same.refl H8) _ fun w1 S9 H9 g9 q1 => ?_
      refine ha_of (pa_cons (te := bE _ _) (t := bA _ _) peb pab) ?_
      refine (ee_var (P := Dt K (bndD bk m B)) 1 rfl (pbH.up (s8.trans g9.hh))) H9 (Same.refl H9) _ fun w2 S10 H10 g10 q2 => ?_
      refine ha_of (pa_cons (te := bE _ _) (t := bA _ _) peb pab) ?_
      refine he_callH D3 (hr.mono (by decide)) (Ps := [fun w _ => w = .ref a, fun w _ => w = .int (j : Nat), fun w _ => w = .int (n : Nat)]) (ea_cons (ee_var 3 rfl rfl) (ea_2 (ee_var 4 rfl rfl) (ee_var 2 rfl rfl))) fun vs S11 H11 g11 al => ?_
      obtain ⟨_, _, _, rfl, rfl, rfl, rfl⟩ := al.three
      have T11 := ((T7.up g8.hh).up (g9.hh.trans g10.hh)).up g11.hh
      refine ⟨⟨a, dx, fa, ba, pa, sa⟩, m, n, E, n + m, j, rfl, T11, hm, hn, hj, rfl, FE.G.J, okE.bdD, fun w3 H12 s12 q3 => ?_⟩
      refine ha_of pa_nil ?_
      intro x dx2 h1 h2 h3
      have sA : Same H H12 := (s8.trans g9.hh).trans ((g10.hh.trans g11.hh).trans s12)
      have sB : Same H9 H12 := (g10.hh.trans g11.hh).trans s12
      have sC : Same H10 H12 := g11.hh.trans s12
      have sH : Same H12 (upd (upd H12 dx2 (.own x)) x (.ins CM dx2 [])) := (Same.new h2).trans (Same.new (by rw [upd_ne (Ne.symm h3)]; exact h1))
      refine ⟨x, dx2, w1, w2, w3, m, n, R, B, tk, rk, bk, lI (lowI (lsI m (Sv.mir E n j))), rfl, upd_same, q1.up (g9.sub.trans (sB.trans sH)), q2.up (g10.sub.trans (sC.trans sH)), q3.up sH, flat_bd (flat_ints _), by omega, by omega, fun H' k hS => ⟨rfl, ?_⟩⟩
      have sH' : Same H12 H' := fun z o e => k z o (ne_of_none e h1) (sH z o e)
      obtain ⟨S', g, z⟩ := endM (sA.trans sH') (flat_ints _) ((hS H12 (fun z o nz e => sH z o e) h1).dn sA)
      exact q _ S' H' g (.inr (.inr ⟨E, j, hRuns, hj, hneg, hmin, hle, z⟩))
end
end K04
namespace K04
open PySem PySem.Spec PyProof.Rows L2 Z Y LamX NdefX
/-! ## what solve's answer says, in plain numbers -/
theorem fold_gcd (l : List Int) (g : Nat) : l.foldl (fun g x => Nat.gcd g x.natAbs) g ∣ g ∧ ∀ x ∈ l, l.foldl (fun g x => Nat.gcd g x.natAbs) g ∣ x.natAbs := by
  induction l generalizing g with
  | nil => exact ⟨Nat.dvd_refl _, fun x h => nomatch h⟩
  | cons a l ih =>
    rw [List.foldl_cons]
    obtain ⟨h1, h2⟩ := ih (Nat.gcd g a.natAbs)
    refine ⟨Nat.dvd_trans h1 (Nat.gcd_dvd_left _ _), fun x hx => ?_⟩
    rcases List.mem_cons.mp hx with rfl | hx
    · exact Nat.dvd_trans h1 (Nat.gcd_dvd_right _ _)
    · exact h2 x hx
/-- lowest terms: each number is g times its share -/
theorem low_mul (l : List Int) : ∃ g : Int, 0 < g ∧ ∀ (i : Nat) (x : Int), l[i]? = some x → ∃ y : Int, (lowI l)[i]? = some y ∧ x = g * y := by
  by_cases h0 : gcdI l = 0
  · refine ⟨1, by decide, fun i x hx => ⟨x, ?_, by omega⟩⟩
    unfold lowI
    rw [List.getElem?_map, hx, h0]
    show some (x / max (0 : Int) 1) = some x
    have : max (0 : Int) 1 = 1 := by decide
    rw [this, Int.ediv_one]
  · refine ⟨(gcdI l : Int), by omega, fun i x hx => ⟨x / (gcdI l : Int), ?_, ?_⟩⟩
    · unfold lowI
      rw [List.getElem?_map, hx]
      have : max (gcdI l : Int) 1 = (gcdI l : Int) := by omega
      rw [this]; rfl
    · have d : (gcdI l : Int) ∣ x := Int.ofNat_dvd_left.mpr ((fold_gcd l 0).2 x (List.mem_of_getElem? hx))
      exact (Int.mul_ediv_cancel' d).symm
theorem low_len (l : List Int) : (lowI l).length = l.length := by unfold lowI; rw [List.length_map]
/-- numbers of a list -/
def nth (xs : List Int) (i : Nat) : Int := xs.getD i 0
theorem nth_get {xs : List Int} {i : Nat} (h : i < xs.length) : xs[i]? = some (nth xs i) := by unfold nth; rw [List.getD_eq_getElem?_getD, List.getElem?_eq_getElem h]; rfl
theorem lsI_nth {xs : List Int} {n : Nat} (h : xs.length = n) : lsI n (nth xs) = xs := by
  unfold lsI
  refine List.ext_getElem? fun i => ?_
  rw [List.getElem?_map]
  by_cases q : i < n
  · rw [List.getElem?_range q, nth_get (by omega)]; rfl
  · rw [List.getElem?_eq_none (by rw [List.length_range]; omega), List.getElem?_eq_none (by omega)]; rfl
theorem lsI_get {n : Nat} {f : Nat → Int} {i : Nat} (h : i < n) : (lsI n f)[i]? = some (f i) := by unfold lsI; rw [List.getElem?_map, List.getElem?_range h]; rfl
/-- the point and the mirror -/
structure SolX (m n : Nat) (R : Nat → Nat → Int) (B : Nat → Int) (s : Int) (xs : List Int) : Prop where
  S : Sv.Sol m n R B s (nth xs)
  len : xs.length = n
structure MirX (m n : Nat) (R : Nat → Nat → Int) (B : Nat → Int) (us : List Int) : Prop where
  U : Sv.Mir m n R B (nth us)
  len : us.length = m
theorem sol_low {m n : Nat} {R : Nat → Nat → Int} {B : Nat → Int} {w : Int} {x : Nat → Int} {s : Int} {xs : List Int} (h : Sv.Sol m n R B w x) (e : s :: xs = lowI (w :: lsI n x)) : SolX m n R B s xs := by
  obtain ⟨g, hg, hl⟩ := low_mul (w :: lsI n x)
  have len : xs.length = n := by
    have := congrArg List.length e
    rw [low_len, List.length_cons, List.length_cons, lsI_len] at this
    omega
  have e0 : w = g * s := by
    obtain ⟨y, h1, h2⟩ := hl 0 w rfl
    rw [← e] at h1
    rw [h2, ← Option.some.inj h1]
  have ei : ∀ j, j < n → x j = g * nth xs j := fun j hj => by
    obtain ⟨y, h1, h2⟩ := hl (j + 1) (x j) (by rw [List.getElem?_cons_succ]; exact lsI_get hj)
    rw [← e, List.getElem?_cons_succ, nth_get (by omega)] at h1
    rw [h2, Option.some.inj h1]
  refine ⟨⟨?_, fun j hj => ?_, fun i hi => ?_⟩, len⟩
  · have := h.w0; rw [e0] at this
    exact Int.pos_of_mul_pos_right this hg
  · have := h.x0 j hj; rw [ei j hj] at this
    exact Int.nonneg_of_mul_nonneg_right this hg
  · have h1 := h.ge i hi
    have h2 : (Sv.sm n fun j => R i j * x j) = g * Sv.sm n fun j => R i j * nth xs j := by
      rw [← Sv.sm_mul]; exact Sv.sm_congr fun j hj => by rw [ei j hj, Int.mul_left_comm]
    rw [h2, e0, Int.mul_left_comm] at h1
    exact Int.le_of_mul_le_mul_left h1 hg
theorem mir_low {m n : Nat} {R : Nat → Nat → Int} {B : Nat → Int} {u : Nat → Int} (h : Sv.Mir m n R B u) : MirX m n R B (lowI (lsI m u)) := by
  obtain ⟨g, hg, hl⟩ := low_mul (lsI m u)
  have len : (lowI (lsI m u)).length = m := by rw [low_len, lsI_len]
  have ei : ∀ k, k < m → u k = g * nth (lowI (lsI m u)) k := fun k hk => by
    obtain ⟨y, h1, h2⟩ := hl k (u k) (lsI_get hk)
    rw [nth_get (by omega)] at h1
    rw [h2, ← Option.some.inj h1]
  refine ⟨⟨fun k hk => ?_, ?_, fun j hj => ?_⟩, len⟩
  · have := h.u0 k hk; rw [ei k hk] at this
    exact Int.nonneg_of_mul_nonneg_right this hg
  · have h1 := h.gt
    have h2 : (Sv.sm m fun k => u k * B k) = g * Sv.sm m fun k => nth (lowI (lsI m u)) k * B k := by
      rw [← Sv.sm_mul]; exact Sv.sm_congr fun k hk => by rw [ei k hk, Int.mul_assoc]
    rw [h2] at h1
    exact Int.pos_of_mul_pos_right h1 hg
  · have h1 := h.le j hj
    have h2 : (Sv.sm m fun k => u k * R k j) = g * Sv.sm m fun k => nth (lowI (lsI m u)) k * R k j := by
      rw [← Sv.sm_mul]; exact Sv.sm_congr fun k hk => by rw [ei k hk, Int.mul_assoc]
    rw [h2] at h1
    refine Int.not_lt.mp fun hp => ?_
    have := Int.mul_pos hg hp
    omega
/-- the one answer of solve -/
def Ans (m n : Nat) (R : Nat → Nat → Int) (B : Nat → Int) (b : Bool) (s : Int) (xs : List Int) : Prop :=
  (m = 0 ∧ b = true ∧ s = 1 ∧ xs = []) ∨
  (m ≠ 0 ∧ ∃ E, Sv.Runs m n (Sv.ini m n R B fun _ => 0) E ∧ (∀ i, i < m → 0 ≤ E.T i n) ∧ b = true ∧ s :: xs = lowI (E.w :: lsI n (ptN E n m))) ∨
  (m ≠ 0 ∧ ∃ E k, Sv.Runs m n (Sv.ini m n R B fun _ => 0) E ∧ k < m ∧ E.T k n < 0 ∧ (∀ i, i < m → E.T i n < 0 → E.be k ≤ E.be i) ∧ (∀ j, j < n → E.T k j ≤ 0) ∧ b = false ∧ s = 0 ∧ xs = lowI (lsI m (Sv.mir E n k)))
section
variable {m n : Nat} {R : Nat → Nat → Int} {B : Nat → Int} {b b' : Bool} {s s' : Int} {xs xs' : List Int}
theorem from0 : Sv.From (Sv.ini m n R B fun _ => 0) m n R B fun _ => 0 := .ini fun _ _ => Int.le_refl 0
theorem ans_sol (h : Ans m n R B true s xs) (h0 : m ≠ 0) : SolX m n R B s xs := by
  have F := from0 (m := m) (n := n) (R := R) (B := B)
  rcases h with ⟨m0, _⟩ | ⟨_, E, hR, t, _, e⟩ | ⟨_, E, k, _, _, _, _, _, e, _⟩
  · exact (h0 m0).elim
  · have FE := Sv.runs_from F hR
    refine sol_low (w := E.w) (x := ptN E n m) ?_ e
    have := FE.sol t
    refine ⟨this.w0, fun j hj => ?_, fun i hi => ?_⟩
    · rw [ptN_pt E m n (n + m) j (by omega)]; exact this.x0 j hj
    · rw [Sv.sm_congr fun j hj => by rw [ptN_pt E m n (n + m) j (by omega)]]; exact this.ge i hi
  · cases e
theorem ans_mir (h : Ans m n R B false s xs) : m ≠ 0 ∧ MirX m n R B xs := by
  have F := from0 (m := m) (n := n) (R := R) (B := B)
  rcases h with ⟨_, e, _⟩ | ⟨_, E, hR, t, e, _⟩ | ⟨m1, E, k, hR, hk, hneg, hmin, hle, _, _, rfl⟩
  · cases e
  · cases e
  · exact ⟨m1, mir_low ((Sv.runs_from F hR).mirror hk hneg hle)⟩
end
/-- a paper of solve -/
def PapN (K : PySem.W.Frag) (CS CM : Addr) (S : Hp) (m n : Nat) (R : Nat → Nat → Int) (B : Nat → Int) (b : Bool) (s : Int) (xs : List Int) (v : V) (S' : Hp) : Prop := if b = true then SolN K CS S m n R B (.int s) (lI xs) v S' else MirN K CM S m n R B (lI xs) v S'
theorem solveR_ans {K : PySem.W.Frag} {CS CM : Addr} {S S' : Hp} {m n : Nat} {R : Nat → Nat → Int} {B : Nat → Int} {v : V} (h : SolveR K CS CM S m n R B v S') : ∃ b s xs, Ans m n R B b s xs ∧ PapN K CS CM S m n R B b s xs v S' := by
  by_cases h0 : m = 0
  · rcases h with ⟨m0, h⟩ | ⟨m1, _⟩ | ⟨E, k, hR, hk, _⟩
    · exact ⟨true, 1, [], .inl ⟨m0, rfl, rfl, rfl⟩, h⟩
    · exact (m1 h0).elim
    · omega
  · rcases h with ⟨m0, h⟩ | ⟨_, E, s, xs, hR, t, e, h⟩ | ⟨E, k, hR, hk, hneg, hmin, hle, h⟩
    · exact (h0 m0).elim
    · exact ⟨true, s, xs, .inr (.inl ⟨h0, E, hR, t, rfl, e⟩), h⟩
    · exact ⟨false, 0, _, .inr (.inr ⟨h0, E, k, hR, hk, hneg, hmin, hle, rfl, rfl, rfl⟩), h⟩
end K04
namespace K04
open PySem PySem.Spec PyProof.Rows L2 Z Y LamX NdefX
section
variable {P : Program} {w : World} {K : PySem.W.Frag} {mg : Str → Option Value} {base : Heap} {f : Addr} {fd : FuncData}
/-! ## the papers' methods -/
section
variable {C : Addr} {m n : Nat} {R : Nat → Nat → Int} {B : Nat → Int} {sc ns : PyData}
def SolP (K : PySem.W.Frag) (C : Addr) (m n : Nat) (R : Nat → Nat → Int) (B : Nat → Int) (sc ns : PyData) (v : V) (S : Hp) : Prop := ∃ a dx rl bl us un, v = .ref a ∧ S a = some (.ins C dx [("_rows", rl), ("_bounds", bl), ("_scale", us), ("_numbers", un)]) ∧ Dt K (rowsL m n R) rl S ∧ Dt K (.list (lsD m B)) bl S ∧ Dt K sc us S ∧ Dt K ns un S
def MirP (K : PySem.W.Frag) (C : Addr) (m n : Nat) (R : Nat → Nat → Int) (B : Nat → Int) (ns : PyData) (v : V) (S : Hp) : Prop := ∃ a dx rl bl un, v = .ref a ∧ S a = some (.ins C dx [("_rows", rl), ("_bounds", bl), ("_numbers", un)]) ∧ Dt K (rowsL m n R) rl S ∧ Dt K (.list (lsD m B)) bl S ∧ Dt K ns un S
instance : Mn (SolP K C m n R B sc ns) := ⟨fun s ⟨a, dx, rl, bl, us, un, h1, h2, h3, h4, h5, h6⟩ => ⟨a, dx, rl, bl, us, un, h1, s _ _ h2, h3.up s, h4.up s, h5.up s, h6.up s⟩⟩
instance : Mn (MirP K C m n R B ns) := ⟨fun s ⟨a, dx, rl, bl, un, h1, h2, h3, h4, h5⟩ => ⟨a, dx, rl, bl, un, h1, s _ _ h2, h3.up s, h4.up s, h5.up s⟩⟩
theorem SolN.p {S S' : Hp} {v : V} (hm : m ≤ 1000) (hn : n ≤ 1000) (h : SolN K C S m n R B sc ns v S') : SolP K C m n R B sc ns v S' := by
  obtain ⟨a, dx, rl, bl, us, un, h1, _, h2, h3, h4, h5, h6⟩ := h
  exact ⟨a, dx, rl, bl, us, un, h1, h2, h3.dt hm hn, h4.dt hm, h5.dt, h6.dt⟩
theorem MirN.p {S S' : Hp} {v : V} (hm : m ≤ 1000) (hn : n ≤ 1000) (h : MirN K C S m n R B ns v S') : MirP K C m n R B ns v S' := by
  obtain ⟨a, dx, rl, bl, un, h1, _, h2, h3, h4, h6⟩ := h
  exact ⟨a, dx, rl, bl, un, h1, h2, h3.dt hm hn, h4.dt hm, h6.dt⟩
/-- an attribute is told -/
def FldP (C : Addr) (x : Str) (P : V → Hp → Prop) (v : V) (S : Hp) : Prop := ∃ a dx fs u, v = .ref a ∧ S a = some (.ins C dx fs) ∧ fs.lookup x = some u ∧ P u S
instance {x : Str} {P : V → Hp → Prop} [Mn P] : Mn (FldP C x P) := ⟨fun s ⟨a, dx, fs, u, h1, h2, h3, h4⟩ => ⟨a, dx, fs, u, h1, s _ _ h2, h3, Mn.up s h4⟩⟩
theorem SolP.rows {v : V} {S : Hp} (h : SolP K C m n R B sc ns v S) : FldP C "_rows" (Dt K (rowsL m n R)) v S := let ⟨a, dx, rl, bl, us, un, h1, h2, h3, h4, h5, h6⟩ := h; ⟨a, dx, _, _, h1, h2, rfl, h3⟩
theorem SolP.bnds {v : V} {S : Hp} (h : SolP K C m n R B sc ns v S) : FldP C "_bounds" (Dt K (.list (lsD m B))) v S := let ⟨a, dx, rl, bl, us, un, h1, h2, h3, h4, h5, h6⟩ := h; ⟨a, dx, _, _, h1, h2, rfl, h4⟩
theorem SolP.scl {v : V} {S : Hp} (h : SolP K C m n R B sc ns v S) : FldP C "_scale" (Dt K sc) v S := let ⟨a, dx, rl, bl, us, un, h1, h2, h3, h4, h5, h6⟩ := h; ⟨a, dx, _, _, h1, h2, rfl, h5⟩
theorem SolP.nums {v : V} {S : Hp} (h : SolP K C m n R B sc ns v S) : FldP C "_numbers" (Dt K ns) v S := let ⟨a, dx, rl, bl, us, un, h1, h2, h3, h4, h5, h6⟩ := h; ⟨a, dx, _, _, h1, h2, rfl, h6⟩
theorem MirP.rows {v : V} {S : Hp} (h : MirP K C m n R B ns v S) : FldP C "_rows" (Dt K (rowsL m n R)) v S := let ⟨a, dx, rl, bl, un, h1, h2, h3, h4, h6⟩ := h; ⟨a, dx, _, _, h1, h2, rfl, h3⟩
theorem MirP.bnds {v : V} {S : Hp} (h : MirP K C m n R B ns v S) : FldP C "_bounds" (Dt K (.list (lsD m B))) v S := let ⟨a, dx, rl, bl, un, h1, h2, h3, h4, h6⟩ := h; ⟨a, dx, _, _, h1, h2, rfl, h4⟩
theorem MirP.nums {v : V} {S : Hp} (h : MirP K C m n R B ns v S) : FldP C "_numbers" (Dt K ns) v S := let ⟨a, dx, rl, bl, un, h1, h2, h3, h4, h6⟩ := h; ⟨a, dx, _, _, h1, h2, rfl, h6⟩
theorem SolP.ins : ∀ v S, SolP K C m n R B sc ns v S → ∃ a dx fs, v = .ref a ∧ S a = some (.ins C dx fs) := fun v S ⟨a, dx, rl, bl, us, un, h1, h2, _⟩ => ⟨a, dx, _, h1, h2⟩
theorem MirP.ins : ∀ v S, MirP K C m n R B ns v S → ∃ a dx fs, v = .ref a ∧ S a = some (.ins C dx fs) := fun v S ⟨a, dx, rl, bl, un, h1, h2, _⟩ => ⟨a, dx, _, h1, h2⟩
theorem SolP.insP {x : Str} (h : ∀ rl bl us un : V, ([("_rows", rl), ("_bounds", bl), ("_scale", us), ("_numbers", un)] : List (Str × V)).lookup x = none := by intro _ _ _ _; rfl) : InsP C x (SolP K C m n R B sc ns) := fun v S ⟨a, dx, rl, bl, us, un, h1, h2, _⟩ => ⟨a, dx, _, h1, h2, h _ _ _ _⟩
theorem MirP.insP {x : Str} (h : ∀ rl bl un : V, ([("_rows", rl), ("_bounds", bl), ("_numbers", un)] : List (Str × V)).lookup x = none := by intro _ _ _; rfl) : InsP C x (MirP K C m n R B ns) := fun v S ⟨a, dx, rl, bl, un, h1, h2, _⟩ => ⟨a, dx, _, h1, h2, h _ _ _⟩
/-- the attribute of an expression -/
theorem ee_fldP {X : Cx} {σ : L2.St} {S : Hp} {o : Expr} {pos : Pos} {x : Str} {P : V → Hp → Prop} (ho : EE X σ S o (FldP C x P)) (c : Cls X.K C) (nx : NoAttr X.K C x) (hb : attributeBase o x X.env (eval o X.env) = eval o X.env := by rfl) : EE X σ S (.Attribute o x pos) P := ee_fld ho (fun w S1 h => h) c nx hb
/-! ### rows, bounds, numbers, scale, bool -/
def spOrw (K : PySem.W.Frag) (C : Addr) : Sp := fun vs H Q _ => ∃ S v m n R, vs = [v] ∧ Same S H ∧ FldP C "_rows" (Dt K (rowsL m n R)) v S ∧ m ≤ 1000 ∧ n ≤ 1000 ∧ ∀ u S' H', Gr S H S' H' → RowsN S m n R u S' → Q u H'
theorem spOrw_E {P0 : V → Hp → Prop} {S : Hp} (h0 : ∀ v S, P0 v S → FldP C "_rows" (Dt K (rowsL m n R)) v S) (hm : m ≤ 1000) (hn : n ≤ 1000) : SpE (spOrw K C) S [P0] (RowsN S m n R) := fun vs S1 H1 st s al Q q => by
  obtain ⟨v, rfl, pv⟩ := al.one
  exact ⟨S1, v, m, n, R, rfl, s, h0 _ _ pv, hm, hn, fun u S' H' g p => q u S' H' g (p.dn st)⟩
theorem sc_Orw : FnScope ["self", "row"] ["self"] (defScope sOutcome__rows) := ⟨rfl, rfl, rfl, by decide +kernel, rfl, by decide +kernel, by decide +kernel⟩
theorem ok_Orw (F : FnM K "rows" "Outcome.rows" sOutcome__rows f fd) (g2 : mg "list" = none) (c : Cls K C) (n1 : NoAttr K C "_rows") : FnOk P w K mg base CX0 1 f fd ["self"] (spOrw K C) := by
  refine fn_hs F sc_Orw (fun vs H Q E h => by obtain ⟨S, v, m, n, R, rfl, _⟩ := h; rfl) (fun cdv Ar outer sh H vs Q E hr h => ?_)
  obtain ⟨S, v, m, n, R, rfl, s, pv, hm, hn, q⟩ := h
  refine hs_ret (P := LstPN S ((List.range m).map fun i => NewL K S (lsD n (R i)))) (ee_lcNB (own := [("row", 1)]) (R := fun i => Dt K (sqD false (lsD n (R i)))) (G := fun i => NewL K S (lsD n (R i))) (ds := List.range m) (fun i _ => inferInstance) rfl sc_Orw.nd (blkOk_by (N := ["self", "row"]) (sc := defScope sOutcome__rows) (by decide +kernel)) (ei_sqF (t := false) (f := fun i => sqD false (lsD n (R i))) (ee_fldP (ee_var 0 rfl pv) c n1)) (by rw [List.length_range]; exact Nat.le_trans hm (by decide)) (fun i hi v S' hs hv => ⟨_, wipe1, fun sh' H0 C' cl fp => ⟨eg_name sc_Orw.nd rfl (by first | exact Or.inl rfl | exact Or.inr rfl), ets_nil, (ee_listN g2 (sqD_or _ _) (ee_var 1 rfl hv)).imp fun u S2 h => h.dn hs⟩⟩)) s fun u S' H' g p => ?_
  exact q u S' H' g (lstPN_rows p)
def spObd (K : PySem.W.Frag) (C : Addr) : Sp := fun vs H Q _ => ∃ S v m B, vs = [v] ∧ Same S H ∧ FldP C "_bounds" (Dt K (.list (lsD m B))) v S ∧ m ≤ 1000 ∧ ∀ u S' H', Gr S H S' H' → LsN S m B u S' → Q u H'
theorem spObd_E {P0 : V → Hp → Prop} {S : Hp} (h0 : ∀ v S, P0 v S → FldP C "_bounds" (Dt K (.list (lsD m B))) v S) (hm : m ≤ 1000) : SpE (spObd K C) S [P0] (LsN S m B) := fun vs S1 H1 st s al Q q => by
  obtain ⟨v, rfl, pv⟩ := al.one
  exact ⟨S1, v, m, B, rfl, s, h0 _ _ pv, hm, fun u S' H' g p => q u S' H' g (p.dn st)⟩
theorem sc_Obd : FnScope ["self"] ["self"] (defScope sOutcome__bounds) := ⟨rfl, rfl, rfl, by decide +kernel, rfl, by decide +kernel, by decide +kernel⟩
theorem ok_Obd (F : FnM K "bounds" "Outcome.bounds" sOutcome__bounds f fd) (g2 : mg "list" = none) (c : Cls K C) (n1 : NoAttr K C "_bounds") : FnOk P w K mg base CX0 1 f fd ["self"] (spObd K C) := by
  refine fn_hs F sc_Obd (fun vs H Q E h => by obtain ⟨S, v, m, B, rfl, _⟩ := h; rfl) (fun cdv Ar outer sh H vs Q E hr h => ?_)
  obtain ⟨S, v, m, B, rfl, s, pv, hm, q⟩ := h
  exact hs_ret (P := NewL K S (lsD m B)) (ee_listN g2 (sqD_or false _) (ee_fldP (ee_var 0 rfl pv) c n1)) s fun u S' H' g p => q u S' H' g (newL_lsN p)
def spOcp (K : PySem.W.Frag) (C : Addr) (x : Str) : Sp := fun vs H Q _ => ∃ S v d, vs = [v] ∧ Same S H ∧ FldP C x (Dt K d) v S ∧ Bd 4 d ∧ ∀ u S' H', Gr S H S' H' → CpV K S d u S' → Q u H'
theorem spOcp_E {P0 : V → Hp → Prop} {S : Hp} {x : Str} {d : PyData} (h0 : ∀ v S, P0 v S → FldP C x (Dt K d) v S) (hb : Bd 4 d) : SpE (spOcp K C x) S [P0] (CpV K S d) := fun vs S1 H1 st s al Q q => by
  obtain ⟨v, rfl, pv⟩ := al.one
  exact ⟨S1, v, d, rfl, s, h0 _ _ pv, hb, fun u S' H' g p => q u S' H' g (p.dn st)⟩
theorem sc_Snu : FnScope ["self"] ["self"] (defScope sSolution__numbers) := ⟨rfl, rfl, rfl, by decide +kernel, rfl, by decide +kernel, by decide +kernel⟩
theorem ok_Snu (F : FnM K "numbers" "Solution.numbers" sSolution__numbers f fd) (D1 : KD P w K mg base "copied" 5 (spCop K 4)) (c : Cls K C) (n1 : NoAttr K C "_numbers") : FnOk P w K mg base CX0 6 f fd ["self"] (spOcp K C "_numbers") := by
  refine fn_hs F sc_Snu (fun vs H Q E h => by obtain ⟨S, v, d, rfl, _⟩ := h; rfl) (fun cdv Ar outer sh H vs Q E hr h => ?_)
  obtain ⟨S, v, d, rfl, s, pv, hb, q⟩ := h
  exact hs_ret (P := CpV K S d) (ee_call D1 (hr.mono (by decide)) (ea_1 (ee_fldP (ee_var 0 rfl pv) c n1)) (spCop_E hb)) s q
theorem sc_Mnu : FnScope ["self"] ["self"] (defScope sMirror__numbers) := ⟨rfl, rfl, rfl, by decide +kernel, rfl, by decide +kernel, by decide +kernel⟩
theorem ok_Mnu (F : FnM K "numbers" "Mirror.numbers" sMirror__numbers f fd) (D1 : KD P w K mg base "copied" 5 (spCop K 4)) (c : Cls K C) (n1 : NoAttr K C "_numbers") : FnOk P w K mg base CX0 6 f fd ["self"] (spOcp K C "_numbers") := by
  refine fn_hs F sc_Mnu (fun vs H Q E h => by obtain ⟨S, v, d, rfl, _⟩ := h; rfl) (fun cdv Ar outer sh H vs Q E hr h => ?_)
  obtain ⟨S, v, d, rfl, s, pv, hb, q⟩ := h
  exact hs_ret (P := CpV K S d) (ee_call D1 (hr.mono (by decide)) (ea_1 (ee_fldP (ee_var 0 rfl pv) c n1)) (spCop_E hb)) s q
theorem sc_Ssc : FnScope ["self"] ["self"] (defScope sSolution__scale) := ⟨rfl, rfl, rfl, by decide +kernel, rfl, by decide +kernel, by decide +kernel⟩
theorem ok_Ssc (F : FnM K "scale" "Solution.scale" sSolution__scale f fd) (D1 : KD P w K mg base "copied" 5 (spCop K 4)) (c : Cls K C) (n1 : NoAttr K C "_scale") : FnOk P w K mg base CX0 6 f fd ["self"] (spOcp K C "_scale") := by
  refine fn_hs F sc_Ssc (fun vs H Q E h => by obtain ⟨S, v, d, rfl, _⟩ := h; rfl) (fun cdv Ar outer sh H vs Q E hr h => ?_)
  obtain ⟨S, v, d, rfl, s, pv, hb, q⟩ := h
  exact hs_ret (P := CpV K S d) (ee_call D1 (hr.mono (by decide)) (ea_1 (ee_fldP (ee_var 0 rfl pv) c n1)) (spCop_E hb)) s q
/-- __bool__ -/
def spBoo (b : Bool) : Sp := fun vs H Q _ => ∃ S v, vs = [v] ∧ Same S H ∧ ∀ S' H', Gr S H S' H' → Q (.bl b) H'
theorem spBoo_E {P0 : V → Hp → Prop} {S : Hp} {b : Bool} : SpE (spBoo b) S [P0] (Dt K (.bool b)) := fun vs S1 H1 st s al Q q => by
  obtain ⟨v, rfl, pv⟩ := al.one
  exact ⟨S1, v, rfl, s, fun S' H' g => q _ S' H' g (.bl b)⟩
theorem sc_Sbo : FnScope ["self"] ["self"] (defScope sSolution____bool__) := ⟨rfl, rfl, rfl, by decide +kernel, rfl, by decide +kernel, by decide +kernel⟩
theorem ok_Sbo (F : FnM K "__bool__" "Solution.__bool__" sSolution____bool__ f fd) : FnOk P w K mg base CX0 1 f fd ["self"] (spBoo true) := by
  refine fn_hs F sc_Sbo (fun vs H Q E h => by obtain ⟨S, v, rfl, _⟩ := h; rfl) (fun cdv Ar outer sh H vs Q E hr h => ?_)
  obtain ⟨S, v, rfl, s, q⟩ := h
  exact hs_ret (P := Dt K (.bool true)) ee_bl s fun u S' H' g p => by cases p; exact q S' H' g
theorem sc_Obo : FnScope ["self"] ["self"] (defScope sOutcome____bool__) := ⟨rfl, rfl, rfl, by decide +kernel, rfl, by decide +kernel, by decide +kernel⟩
theorem ok_Obo (F : FnM K "__bool__" "Outcome.__bool__" sOutcome____bool__ f fd) : FnOk P w K mg base CX0 1 f fd ["self"] (spBoo false) := by
  refine fn_hs F sc_Obo (fun vs H Q E h => by obtain ⟨S, v, rfl, _⟩ := h; rfl) (fun cdv Ar outer sh H vs Q E hr h => ?_)
  obtain ⟨S, v, rfl, s, q⟩ := h
  exact hs_ret (P := Dt K (.bool false)) ee_bl s fun u S' H' g p => by cases p; exact q S' H' g
end
end
end K04
namespace K04
open PySem PySem.Spec PyProof.Rows L2 Z Y LamX NdefX
section
variable {P : Program} {w : World} {K : PySem.W.Frag} {mg : Str → Option Value} {base : Heap} {f : Addr} {fd : FuncData}
/-! ## Solution.holds, Mirror.holds -/
def uns (ds : List PyData) : List Int := ds.map unI1
theorem uns_ints (xs : List Int) : uns (xs.map PyData.int) = xs := by
  unfold uns
  rw [List.map_map]
  exact List.map_id' xs
theorem uns_len (ds : List PyData) : (uns ds).length = ds.length := by unfold uns; rw [List.length_map]
theorem are_ints : ∀ {ds : List PyData}, (ds.all fun x => isNum x 0) = true → ds = (uns ds).map PyData.int ∧ ∀ x ∈ uns ds, 0 ≤ x
  | [], _ => ⟨rfl, fun x h => nomatch h⟩
  | d :: ds, h => by
    rw [List.all_cons, Bool.and_eq_true] at h
    obtain ⟨h1, h2⟩ := are_ints h.2
    have h0 := h.1
    cases d <;> first
      | (simp [isNum] at h0; done)
      | (refine ⟨by
            show _ = PyData.int _ :: (uns ds).map PyData.int
            rw [← h1]; rfl, fun x hx => ?_⟩
         rcases List.mem_cons.mp (show x ∈ unI1 (.int _) :: uns ds from hx) with rfl | hx
         · exact of_decide_eq_true h0
         · exact h2 x hx)
def solH (m n : Nat) (R : Nat → Nat → Int) (B : Nat → Int) (sc ns : PyData) : Bool := match sc, ns with
  | .int s, .list ds => decide (1 ≤ s) && areN (.list ds) && (decide (m = 0) || decide (ds.length = n)) && (List.range m).all fun i => decide (B i * s ≤ dotI (lsI n (R i)) (uns ds))
  | _, _ => false
def mirH (m n : Nat) (R : Nat → Nat → Int) (B : Nat → Int) (ns : PyData) : Bool := match ns with
  | .list ds => areN (.list ds) && decide (ds.length = m) && decide (0 < dotI (uns ds) (lsI m B)) && (List.range n).all fun j => decide (dotI (uns ds) (lsI m fun i => R i j) ≤ 0)
  | _ => false
/-- the numbers are not too great -/
structure PapOk (m n : Nat) (R : Nat → Nat → Int) (B : Nat → Int) (sc ns : PyData) : Prop where
  hm : m ≤ 1000
  hn : n ≤ 1000
  R8 : ∀ i j, i < m → j < n → (R i j).natAbs < 2 ^ 8000
  B8 : ∀ i, i < m → (B i).natAbs < 2 ^ 8000
  s8 : ∀ s, sc = .int s → s.natAbs < 2 ^ 8000
  n8 : ∀ ds, ns = .list ds → ds.length ≤ 1000 ∧ ∀ x ∈ uns ds, x.natAbs < 2 ^ 8000
  nt : ∀ ds, ns ≠ .tuple ds
  nd : ∀ ds, ns ≠ .dict ds
  bs : Bd 4 sc
section
variable {X : Cx} {σ : L2.St} {S : Hp} {a b : Expr}
theorem zip_rb {m : Nat} (f g : Nat → PyData) : zipD ((List.range m).map f) ((List.range m).map g) = (List.range m).map fun i => .tuple [f i, g i] := by
  rw [zipD_eq, zip_map_same, List.map_map]
  rfl
theorem lsI_mem {n : Nat} {f : Nat → Int} {x : Int} (h : x ∈ lsI n f) : ∃ j, j < n ∧ x = f j := by
  obtain ⟨j, hj, rfl⟩ := List.mem_map.mp h
  exact ⟨j, List.mem_range.mp hj, rfl⟩
end
section
variable {X : Cx} {σ : L2.St} {S : Hp} {o : Expr} {pos : Pos} {C : Addr} {m n : Nat} {R : Nat → Nat → Int} {B : Nat → Int} {sc ns : PyData}
theorem ee_scl {p g : Addr} {fds : FuncData} {pss : List Str} (c : Cls X.K C) (hp : PropOf X.K C "scale" p g) (Fs : FnOk X.prog X.w X.K X.mg X.base CX0 6 g fds pss (spOcp X.K C "_scale")) (hbs : L2.Binds X.K fds pss []) (bs : Bd 4 sc) (hr : Room 7 X.A) (ho : EE X σ S o (SolP X.K C m n R B sc ns)) (hab : attributeBase o "scale" X.env (eval o X.env) = eval o X.env := by rfl) : EE X σ S (.Attribute o "scale" pos) (Dt X.K sc) :=
  (ee_prp c hp Fs hr hbs ho SolP.ins (spOcp_E (fun _ _ h => h.scl) bs) hab).imp fun _ _ h => h.dt
theorem ee_rowS (c : Cls X.K C) (n1 : NoAttr X.K C "_rows") (ho : EE X σ S o (SolP X.K C m n R B sc ns)) (hab : attributeBase o "_rows" X.env (eval o X.env) = eval o X.env := by rfl) : EE X σ S (.Attribute o "_rows" pos) (Dt X.K (rowsL m n R)) := ee_fldP (ho.imp fun _ _ h => h.rows) c n1 hab
theorem ee_bndS (c : Cls X.K C) (n1 : NoAttr X.K C "_bounds") (ho : EE X σ S o (SolP X.K C m n R B sc ns)) (hab : attributeBase o "_bounds" X.env (eval o X.env) = eval o X.env := by rfl) : EE X σ S (.Attribute o "_bounds" pos) (Dt X.K (.list (lsD m B))) := ee_fldP (ho.imp fun _ _ h => h.bnds) c n1 hab
theorem ee_numS (c : Cls X.K C) (n1 : NoAttr X.K C "_numbers") (ho : EE X σ S o (SolP X.K C m n R B sc ns)) (hab : attributeBase o "_numbers" X.env (eval o X.env) = eval o X.env := by rfl) : EE X σ S (.Attribute o "_numbers" pos) (Dt X.K ns) := ee_fldP (ho.imp fun _ _ h => h.nums) c n1 hab
theorem ee_rowM (c : Cls X.K C) (n1 : NoAttr X.K C "_rows") (ho : EE X σ S o (MirP X.K C m n R B ns)) (hab : attributeBase o "_rows" X.env (eval o X.env) = eval o X.env := by rfl) : EE X σ S (.Attribute o "_rows" pos) (Dt X.K (rowsL m n R)) := ee_fldP (ho.imp fun _ _ h => h.rows) c n1 hab
theorem ee_bndM (c : Cls X.K C) (n1 : NoAttr X.K C "_bounds") (ho : EE X σ S o (MirP X.K C m n R B ns)) (hab : attributeBase o "_bounds" X.env (eval o X.env) = eval o X.env := by rfl) : EE X σ S (.Attribute o "_bounds" pos) (Dt X.K (.list (lsD m B))) := ee_fldP (ho.imp fun _ _ h => h.bnds) c n1 hab
theorem ee_numM (c : Cls X.K C) (n1 : NoAttr X.K C "_numbers") (ho : EE X σ S o (MirP X.K C m n R B ns)) (hab : attributeBase o "_numbers" X.env (eval o X.env) = eval o X.env := by rfl) : EE X σ S (.Attribute o "_numbers" pos) (Dt X.K ns) := ee_fldP (ho.imp fun _ _ h => h.nums) c n1 hab
end
section
variable {C : Addr}
def spSho (K : PySem.W.Frag) (C : Addr) : Sp := fun vs H Q _ => ∃ S v m n R B sc ns, vs = [v] ∧ Same S H ∧ SolP K C m n R B sc ns v S ∧ PapOk m n R B sc ns ∧ ∀ S' H', Gr S H S' H' → Q (.bl (solH m n R B sc ns)) H'
theorem spSho_E {S : Hp} {m n : Nat} {R : Nat → Nat → Int} {B : Nat → Int} {sc ns : PyData} (ho : PapOk m n R B sc ns) : SpE (spSho K C) S [SolP K C m n R B sc ns] (Dt K (.bool (solH m n R B sc ns))) := fun vs S1 H1 st s al Q q => by
  obtain ⟨v, rfl, pv⟩ := al.one
  exact ⟨S1, v, m, n, R, B, sc, ns, rfl, s, pv, ho, fun S' H' g => q _ S' H' g (.bl _)⟩
abbrev NSho : List Str := ["self", "point", "row", "bound", "part", "number"]
theorem sc_Sho : FnScope NSho ["self"] (defScope sSolution__holds) := ⟨rfl, rfl, rfl, by decide +kernel, rfl, by decide +kernel, by decide +kernel⟩
theorem ok_Sho {p g : Addr} {fds : FuncData} {pss : List Str} (F : FnM K "holds" "Solution.holds" sSolution__holds f fd) (D1 : KD P w K mg base "is_number" 1 (spD K FisNumber)) (D2 : KD P w K mg base "are_numbers" 2 (spD K FareN)) (hp : PropOf K C "scale" p g) (Fs : FnOk P w K mg base CX0 6 g fds pss (spOcp K C "_scale")) (hbs : L2.Binds K fds pss []) (c : Cls K C) (n1 : NoAttr K C "_rows") (n2 : NoAttr K C "_bounds") (n4 : NoAttr K C "_numbers") (g1 : mg "len" = none) (g2 : mg "sum" = none) (g3 : mg "zip" = none) : FnOk P w K mg base CX0 8 f fd ["self"] (spSho K C) := by
  refine fn_hs F sc_Sho (fun vs H Q E h => by obtain ⟨S, v, m, n, R, B, sc, ns, rfl, _⟩ := h; rfl) (fun cdv Ar outer sh H vs Q E hr h => ?_)
  obtain ⟨S, v, m, n, R, B, sc, ns, rfl, s, pv, ho, q⟩ := h
  have hm := ho.hm
  have hn := ho.hn
  refine hs_set (i := 1) (P := Dt K ns) (ee_numS c n4 (ee_var (P := SolP K C m n R B sc ns) 0 rfl pv)) s sc_Sho.nd fun vn S1 H1 e1 pn => ?_
  have pv1 : SolP K C m n R B sc ns v S1 := Mn.up e1.st pv
  refine hs_if (et_w (ew_or (et_not (et_val (ee_callD D1 (hr.mono (by decide)) ⟨sc, 1, rfl, rfl⟩ (ea_2 (ee_scl c hp Fs hbs ho.bs (hr.mono (by decide)) (ee_var (P := SolP K C m n R B sc ns) 0 rfl pv1)) ee_int)))) fun _ => ew_or1 (et_not (et_val (ee_callD D2 (hr.mono (by decide)) ⟨ns, rfl, rfl⟩ (ea_1 (ee_var 1 rfl pn))))))) e1.sub (fun hk S2 H2 e2 => ?_) (fun hk S2 H2 e2 => hs_nil ?_)
  · refine hs_ret (P := Dt K (.bool false)) ee_bl e2.sub fun u S3 H3 e3 pu => ?_
    cases pu
    have e : solH m n R B sc ns = false := by
      unfold solH
      split
      · rename_i s ds
        have : (decide (1 ≤ s) && areN (.list ds)) = false := by
          show (isNum (.int s) 1 && areN (.list ds)) = false
          revert hk
          cases isNum (.int s) 1 <;> cases areN (.list ds) <;> simp
        rw [this]; rfl
      · rfl
    rw [← e]
    exact q S3 H3 (e1.trans (e2.trans e3))
  have hk1 : isNum sc 1 = true ∧ areN ns = true := by
    revert hk
    cases isNum sc 1 <;> cases areN ns <;> simp
  obtain ⟨k1, k2⟩ := hk1
  obtain ⟨s0, rfl, hs0⟩ : ∃ s, sc = .int s ∧ 1 ≤ s := by
    cases sc <;> first | (simp [isNum] at k1; done) | exact ⟨_, rfl, of_decide_eq_true k1⟩
  obtain ⟨ds, rfl⟩ : ∃ ds, ns = .list ds := by
    cases ns <;> first | exact ⟨_, rfl⟩ | exact absurd rfl (ho.nt _) | (simp [areN] at k2; done)
  obtain ⟨hds, hnn⟩ := are_ints (show (ds.all fun x => isNum x 0) = true from k2)
  obtain ⟨hlen, h8⟩ := ho.n8 ds rfl
  have hs8 := ho.s8 s0 rfl
  have pn2 := pn.up e2.st
  have pv2 : SolP K C m n R B (.int s0) (.list ds) v S2 := Mn.up e2.st pv1
  have eH : solH m n R B (.int s0) (.list ds) = ((decide (m = 0) || decide (ds.length = n)) && (List.range m).all fun i => decide (B i * s0 ≤ dotI (lsI n (R i)) (uns ds))) := by
    show (decide (1 ≤ s0) && areN (.list ds) && (decide (m = 0) || decide (ds.length = n)) && (List.range m).all fun i => decide (B i * s0 ≤ dotI (lsI n (R i)) (uns ds))) = _
    rw [k2, decide_eq_true hs0, Bool.true_and, Bool.true_and]
  have tRows : truD (rowsL m n R) = !decide (m = 0) := by
    unfold rowsL
    cases m with
    | zero => rfl
    | succ m => show truD (.list _) = _; rw [List.range_succ_eq_map]; rfl
  refine hs_if (k := !(decide (m = 0) || decide (ds.length = n))) ((et_w (ew_and (k2 := !decide (ds.length = n)) (et_tru (ee_rowS c n1 (ee_var (P := SolP K C m n R B (.int s0) (.list ds)) 0 rfl pv2)) fun x h => by cases h) fun h0 => ew_and1 ?len)).is (by rw [tRows]; cases decide (m = 0) <;> cases decide (ds.length = n) <;> rfl)) e2.sub (fun hk S3 H3 e3 => ?_) (fun hk S3 H3 e3 => hs_nil ?_)
  case len =>
    have m1 : 0 < m := by
      rw [tRows] at h0
      have : m ≠ 0 := fun e => by rw [e] at h0; cases h0
      omega
    have hget0 : ((List.range m).map fun i => PyData.list (lsD n (R i)))[0]? = some (.list (lsD n (R 0))) := by rw [List.getElem?_map, List.getElem?_range m1]; rfl
    exact (et_neI (ee_len g1 (n := ds.length) rfl (ee_var 1 rfl pn2) (hz := fun x h => by cases h)) (ee_len g1 (d := .list (lsD n (R 0))) (n := n) (by show some (lsD n (R 0)).length = _; rw [lsD_len]) (ee_ixL (atI_nat (k := 0) hget0) (ee_rowS c n1 (ee_var (P := SolP K C m n R B (.int s0) (.list ds)) 0 rfl pv2)) ee_int) (hz := fun x h => by cases h))).is (by
      by_cases q : ds.length = n
      · rw [q]; simp
      · rw [decide_eq_false q]; simp; omega)
  · refine hs_ret (P := Dt K (.bool false)) ee_bl e3.sub fun u S4 H4 e4 pu => ?_
    cases pu
    have e : solH m n R B (.int s0) (.list ds) = false := by
      rw [eH]
      rw [Bool.not_eq_true'] at hk
      rw [hk]; rfl
    rw [← e]
    exact q S4 H4 (e1.trans (e2.trans (e3.trans e4)))
  rw [Bool.not_eq_false'] at hk
  have eH2 : solH m n R B (.int s0) (.list ds) = (List.range m).all fun i => decide (B i * s0 ≤ dotI (lsI n (R i)) (uns ds)) := by rw [eH, hk, Bool.true_and]
  have pv3 : SolP K C m n R B (.int s0) (.list ds) v S3 := Mn.up e3.st pv2
  have pn3 := pn2.up e3.st
  have zl : zipD ((List.range m).map fun i => PyData.list (lsD n (R i))) (lsD m B) = (List.range m).map fun i => .tuple [.list (lsD n (R i)), .int (B i)] := zip_rb (fun i => .list (lsD n (R i))) (fun i => .int (B i))
  refine hs_for (S := S3) (Ps := Ds K (zipD ((List.range m).map fun i => PyData.list (lsD n (R i))) (lsD m B))) (fun k σ S' => SolP K C m n R B (.int s0) (.list ds) v S' ∧ Dt K (.list ds) vn S' ∧ (∀ i, i < k → B i * s0 ≤ dotI (lsI n (R i)) (uns ds)) ∧ ∃ x y : Option V, σ = [some v, some vn, x, y, none, none]) PassesOwn.never rfl (ei_zipL g3 (ee_rowS c n1 (ee_var (P := SolP K C m n R B (.int s0) (.list ds)) 0 rfl pv3)) (ee_bndS c n2 (ee_var (P := SolP K C m n R B (.int s0) (.list ds)) 0 rfl pv3))) e3.sub (fun S' H' g => ⟨Mn.up g.st pv3, pn3.up g.st, fun i hi => by omega, none, none, rfl⟩) ?_ ?_
  · rintro i Pi σ2 S4 H4 x S5 H5 hP e4 ⟨pv4, pn4, hI, x0, y0, rfl⟩ e5 px
    have hi : i < m := by
      have := (List.getElem?_eq_some_iff.mp hP).1
      rw [ds_len, zl, List.length_map, List.length_range] at this
      exact this
    have hz : (zipD ((List.range m).map fun i => PyData.list (lsD n (R i))) (lsD m B))[i]? = some (.tuple [.list (lsD n (R i)), .int (B i)]) := by rw [zl, List.getElem?_map, List.getElem?_range hi]; rfl
    rw [ds_get hz] at hP
    obtain rfl := Option.some.inj hP
    obtain ⟨v1, v2, p1, p2, hg⟩ := eg_pair (X := (cxOf CX0 P w K mg base NSho "Solution.holds" (defScope sSolution__holds) f cdv Ar outer sh H E).nox) (σ := [some v, some vn, x0, y0, none, none]) (i := 2) (j := 3) (x := "row") (y := "bound") rfl sc_Sho.nd rfl rfl (.inl rfl) (.inl rfl) px
    refine hg H5 e5.sub _ ?_
    have pv5 : SolP K C m n R B (.int s0) (.list ds) v S5 := Mn.up e5.st pv4
    have pn5 := pn4.up e5.st
    have p1 : Dt K (.list ((lsI n (R i)).map .int)) v1 S5 := by rw [← lsD_eq]; exact p1
    have pnI : Dt K (.list ((uns ds).map .int)) vn S5 := by rw [← hds]; exact pn5
    refine hs_if (et_lt (ee_sum (ns := ((lsI n (R i)).zip (uns ds)).map fun p => p.1 * p.2) rfl g2 ((ee_lc2 (i := 4) (j := 5) (enc := .int) (f := mulD) (ps := ((lsI n (R i)).zip (uns ds)).map fun p => (PyData.int p.1, PyData.int p.2)) rfl sc_Sho.nd (blkOk_by (N := NSho) (sc := defScope sSolution__holds) (by decide +kernel)) (by rw [← zip_int]; exact ei_zipL g3 (ee_var 2 rfl p1) (ee_var 1 rfl pnI)) ?z1 ?z2).isd ?z3)) (ee_mul (cmx (ho.B8 i hi) hs8) (ee_var 3 rfl p2) (ee_scl c hp Fs hbs ho.bs (hr.mono (by decide)) (ee_var (P := SolP K C m n R B (.int s0) (.list ds)) 0 rfl pv5)))) e5.sub (fun hk S6 H6 e6 => ?_) (fun hk S6 H6 e6 => hs_nil (hs_nil ?_))
    case z1 =>
      rw [List.length_map, List.length_zip, lsI_len]
      show _ ≤ 16777216
      omega
    case z2 =>
      intro p hp' v3 u3 S6 s6 q3 q4 sh' H0 C' cl fp
      obtain ⟨⟨x, y⟩, hxy, rfl⟩ := List.mem_map.mp hp'
      have hm1 := List.of_mem_zip hxy
      obtain ⟨j, hj, rfl⟩ := lsI_mem hm1.1
      exact ee_mul (cmx (ho.R8 i j hi hj) (h8 y hm1.2)) (ee_var 4 rfl q3) (ee_var 5 rfl q4)
    case z3 =>
      simp only [List.map_map]; rfl
    · have hk := of_decide_eq_true hk
      refine hs_ret (P := Dt K (.bool false)) ee_bl e6.sub fun u S7 H7 e7 pu => ?_
      cases pu
      have e : solH m n R B (.int s0) (.list ds) = false := by
        rw [eH2, List.all_eq_false]
        exact ⟨i, List.mem_range.mpr hi, by
          have : ¬ (B i * s0 ≤ dotI (lsI n (R i)) (uns ds)) := by unfold dotI; omega
          rw [decide_eq_false this]; decide⟩
      rw [← e]
      exact q S7 H7 (e1.trans (e2.trans (e3.trans (e4.trans (e5.trans (e6.trans e7))))))
    · have hk := of_decide_eq_false hk
      refine ⟨S6, e6, Mn.up e6.st pv5, pn5.up e6.st, fun j hj => ?_, _, _, rfl⟩
      by_cases q : j < i
      · exact hI j q
      · obtain rfl : j = i := by omega
        unfold dotI; omega
  · rintro σ2 S4 H4 e4 ⟨pv4, pn4, hI, x0, y0, rfl⟩
    have hI : ∀ i, i < m → B i * s0 ≤ dotI (lsI n (R i)) (uns ds) := fun i hi => hI i (by rw [ds_len, zl, List.length_map, List.length_range]; exact hi)
    refine hs_ret (P := Dt K (.bool true)) ee_bl e4.sub fun u S5 H5 e5 pu => ?_
    cases pu
    have e : solH m n R B (.int s0) (.list ds) = true := by
      rw [eH2, List.all_eq_true]
      exact fun i hi => decide_eq_true (hI i (List.mem_range.mp hi))
    rw [← e]
    exact q S5 H5 (e1.trans (e2.trans (e3.trans (e4.trans e5))))
def compScope (e : Expr) : Scope := match e with
  | .ListComp _ _ sc _ => sc
  | _ => defScope (.Pass ⟨0, 0, 0, 0⟩)
def cellsSc (xs : List Str) (sc : Scope) : Scope := { sc with names := sc.names.map fun p => if xs.contains p.1 then (p.1, .cell) else p }
/-! ### Mirror.holds -/
def spMho (K : PySem.W.Frag) (C : Addr) : Sp := fun vs H Q _ => ∃ S v m n R B ns, vs = [v] ∧ Same S H ∧ MirP K C m n R B ns v S ∧ PapOk m n R B (.int 0) ns ∧ ∀ S' H', Gr S H S' H' → Q (.bl (mirH m n R B ns)) H'
theorem spMho_E {S : Hp} {m n : Nat} {R : Nat → Nat → Int} {B : Nat → Int} {ns : PyData} (ho : PapOk m n R B (.int 0) ns) : SpE (spMho K C) S [MirP K C m n R B ns] (Dt K (.bool (mirH m n R B ns))) := fun vs S1 H1 st s al Q q => by
  obtain ⟨v, rfl, pv⟩ := al.one
  exact ⟨S1, v, m, n, R, B, ns, rfl, s, pv, ho, fun S' H' g => q _ S' H' g (.bl _)⟩
abbrev NMho : List Str := ["self", "shares", "width", "share", "bound", "row", "at"]
theorem sc_Mho : FnScope NMho ["self"] (defScope sMirror__holds) := ⟨rfl, rfl, rfl, by decide +kernel, rfl, by decide +kernel, by decide +kernel⟩
def retArg0 (b : List Stmt) (i : Nat) : Expr := match b.getD i (.Pass ⟨0, 0, 0, 0⟩) with
  | .Return (some (.Call _ [e] _ _)) _ => e
  | _ => .Constant .none 0 ⟨0, 0, 0, 0⟩
theorem ok_Mho (F : FnM K "holds" "Mirror.holds" sMirror__holds f fd) (D2 : KD P w K mg base "are_numbers" 2 (spD K FareN)) (c : Cls K C) (n1 : NoAttr K C "_rows") (n2 : NoAttr K C "_bounds") (n4 : NoAttr K C "_numbers") (g1 : mg "len" = none) (g2 : mg "sum" = none) (g3 : mg "zip" = none) (g4 : mg "all" = none) (g5 : mg "range" = none) : FnOk P w K mg base CX0 8 f fd ["self"] (spMho K C) := by
  refine fn_hs F sc_Mho (fun vs H Q E h => by obtain ⟨S, v, m, n, R, B, ns, rfl, _⟩ := h; rfl) (fun cdv Ar outer sh H vs Q E hr h => ?_)
  obtain ⟨S, v, m, n, R, B, ns, rfl, s, pv, ho, q⟩ := h
  have hm := ho.hm
  have hn := ho.hn
  have lR : lenD (rowsL m n R) = some m := by show some ((List.range m).map _).length = _; rw [List.length_map, List.length_range]
  refine hs_set (i := 1) (P := Dt K ns) (ee_numM c n4 (ee_var (P := MirP K C m n R B ns) 0 rfl pv)) s sc_Mho.nd fun vn S1 H1 e1 pn => ?_
  have pv1 : MirP K C m n R B ns v S1 := Mn.up e1.st pv
  by_cases ha : areN ns = false
  · refine hs_ifT (et_w (ew_or (k2 := false) (et_not (et_val (ee_callD D2 (hr.mono (by decide)) ⟨ns, rfl, rfl⟩ (ea_1 (ee_var 1 rfl pn))))) fun h => by rw [ha] at h; cases h) |>.is (by rw [ha]; rfl)) e1.sub fun S2 H2 e2 => ?_
    refine hs_ret (P := Dt K (.bool false)) ee_bl e2.sub fun u S3 H3 e3 pu => ?_
    cases pu
    have e : mirH m n R B ns = false := by
      unfold mirH
      split
      · rw [ha]; rfl
      · rfl
    rw [← e]
    exact q S3 H3 (e1.trans (e2.trans e3))
  have ha : areN ns = true := by simpa using ha
  obtain ⟨ds, rfl⟩ : ∃ ds, ns = .list ds := by
    cases ns <;> first | exact ⟨_, rfl⟩ | exact absurd rfl (ho.nt _) | (simp [areN] at ha; done)
  obtain ⟨hds, hnn⟩ := are_ints (show (ds.all fun x => isNum x 0) = true from ha)
  obtain ⟨hlen, h8⟩ := ho.n8 ds rfl
  have eH : mirH m n R B (.list ds) = (decide (ds.length = m) && decide (0 < dotI (uns ds) (lsI m B)) && (List.range n).all fun j => decide (dotI (uns ds) (lsI m fun i => R i j) ≤ 0)) := by
    show (areN (.list ds) && decide (ds.length = m) && decide (0 < dotI (uns ds) (lsI m B)) && (List.range n).all fun j => decide (dotI (uns ds) (lsI m fun i => R i j) ≤ 0)) = _
    rw [ha, Bool.true_and]
  refine hs_if (k := !decide (ds.length = m)) ((et_w (ew_or (et_not (et_val (ee_callD D2 (hr.mono (by decide)) ⟨.list ds, rfl, rfl⟩ (ea_1 (ee_var 1 rfl pn))))) fun h => ew_or1 (et_neI (ee_len g1 (n := ds.length) rfl (ee_var 1 rfl pn) (hz := fun x h => by cases h)) (ee_len g1 lR (ee_rowM c n1 (ee_var (P := MirP K C m n R B (.list ds)) 0 rfl pv1)) (hz := fun x h => by cases h))))).is (by
      rw [ha]
      by_cases q : ds.length = m
      · rw [q]; simp
      · rw [decide_eq_false q]; simp; omega)) e1.sub (fun hk S2 H2 e2 => ?_) (fun hk S2 H2 e2 => hs_nil ?_)
  · refine hs_ret (P := Dt K (.bool false)) ee_bl e2.sub fun u S3 H3 e3 pu => ?_
    cases pu
    have e : mirH m n R B (.list ds) = false := by
      rw [eH]
      rw [Bool.not_eq_true'] at hk
      rw [hk]; rfl
    rw [← e]
    exact q S3 H3 (e1.trans (e2.trans e3))
  rw [Bool.not_eq_false', decide_eq_true_eq] at hk
  have eH2 : mirH m n R B (.list ds) = (decide (0 < dotI (uns ds) (lsI m B)) && (List.range n).all fun j => decide (dotI (uns ds) (lsI m fun i => R i j) ≤ 0)) := by rw [eH, decide_eq_true hk, Bool.true_and]
  have pv2 : MirP K C m n R B (.list ds) v S2 := Mn.up e2.st pv1
  have pn2 : Dt K (.list ((uns ds).map .int)) vn S2 := by rw [← hds]; exact pn.up e2.st
  refine hs_if (et_le (ee_sum (ns := ((uns ds).zip (lsI m B)).map fun p => p.1 * p.2) rfl g2 ((ee_lc2 (i := 3) (j := 4) (enc := .int) (f := mulD) (ps := ((uns ds).zip (lsI m B)).map fun p => (PyData.int p.1, PyData.int p.2)) rfl sc_Mho.nd (blkOk_by (N := NMho) (sc := defScope sMirror__holds) (by decide +kernel)) (by rw [← zip_int]; exact ei_zipL g3 (ee_var 1 rfl pn2) ((ee_bndM c n2 (ee_var (P := MirP K C m n R B (.list ds)) 0 rfl pv2)).isd (by rw [lsD_eq]))) ?z1 ?z2).isd ?z3)) ee_int) e2.sub (fun hk2 S3 H3 e3 => ?_) (fun hk2 S3 H3 e3 => hs_nil ?_)
  case z1 =>
    rw [List.length_map, List.length_zip, lsI_len]
    show _ ≤ 16777216
    omega
  case z2 =>
    intro p hp' v3 u3 S6 s6 q3 q4 sh' H0 C' cl fp
    obtain ⟨⟨x, y⟩, hxy, rfl⟩ := List.mem_map.mp hp'
    have hm1 := List.of_mem_zip hxy
    obtain ⟨j, hj, rfl⟩ := lsI_mem hm1.2
    exact ee_mul (cmx (h8 x hm1.1) (ho.B8 j hj)) (ee_var 3 rfl q3) (ee_var 4 rfl q4)
  case z3 =>
    simp only [List.map_map]; rfl
  · have hk2 := of_decide_eq_true hk2
    refine hs_ret (P := Dt K (.bool false)) ee_bl e3.sub fun u S4 H4 e4 pu => ?_
    cases pu
    have e : mirH m n R B (.list ds) = false := by
      rw [eH2]
      have : ¬ (0 < dotI (uns ds) (lsI m B)) := by unfold dotI; omega
      rw [decide_eq_false this]; rfl
    rw [← e]
    exact q S4 H4 (e1.trans (e2.trans (e3.trans e4)))
  have hk2 := of_decide_eq_false hk2
  have hpos : 0 < dotI (uns ds) (lsI m B) := by unfold dotI; omega
  have m1 : 0 < m := by
    refine Nat.pos_of_ne_zero fun e => ?_
    subst e
    have : uns ds = [] := List.eq_nil_of_length_eq_zero (by rw [uns_len]; exact hk)
    rw [this] at hpos
    have z : dotI [] (lsI 0 B) = 0 := rfl
    omega
  have eH3 : mirH m n R B (.list ds) = (List.range n).all fun j => decide (dotI (uns ds) (lsI m fun i => R i j) ≤ 0) := by rw [eH2, decide_eq_true hpos, Bool.true_and]
  have pv3 : MirP K C m n R B (.list ds) v S3 := Mn.up e3.st pv2
  have pn3 := pn2.up e3.st
  have hget0 : ((List.range m).map fun i => PyData.list (lsD n (R i)))[0]? = some (.list (lsD n (R 0))) := by rw [List.getElem?_map, List.getElem?_range m1]; rfl
  have tRows : truD (rowsL m n R) = true := by
    obtain ⟨k, rfl⟩ : ∃ k, m = k + 1 := ⟨m - 1, by omega⟩
    show truD (.list _) = _
    rw [List.range_succ_eq_map]; rfl
  refine hs_set (i := 2) (P := Dt K (.int (n : Nat))) (ee_if (et_tru (ee_rowM c n1 (ee_var (P := MirP K C m n R B (.list ds)) 0 rfl pv3)) fun x h => by cases h) (fun h => ee_len g1 (d := .list (lsD n (R 0))) (n := n) (by show some (lsD n (R 0)).length = _; rw [lsD_len]) (ee_ixL (atI_nat (k := 0) hget0) (ee_rowM c n1 (ee_var (P := MirP K C m n R B (.list ds)) 0 rfl pv3)) ee_int) (hz := fun x h => by cases h)) (fun h => by rw [tRows] at h; cases h)) e3.sub sc_Mho.nd fun vw S4 H4 e4 pw => ?_
  have pv4 : MirP K C m n R B (.list ds) v S4 := Mn.up e4.st pv3
  have pn4 := pn3.up e4.st
  refine hs_ret (P := Dt K (.bool (mirH m n R B (.list ds)))) ((ee_all (bs := (List.range n).map fun j => decide (dotI (uns ds) (lsI m fun i => R i j) ≤ 0)) rfl g4 ((ee_lc (i := 6) (x := "at") (enc := .bool) (f := fun d => match d with | .int j => decide (dotI (uns ds) (lsI m fun i => R i j.toNat) ≤ 0) | _ => false) rfl sc_Mho.nd (blkOk_by (N := NMho) (sc := defScope sMirror__holds) (by decide +kernel)) (ei_range (n := n) g5 (by omega) (ee_var 2 rfl pw)) (by rw [upto_len]; show _ ≤ 16777216; omega) ?el).isd ?en)).isd (by rw [eH3, map_all])) e4.sub fun u S5 H5 e5 pu => by
    cases pu
    exact q S5 H5 (e1.trans (e2.trans (e3.trans (e4.trans e5))))
  case en =>
    unfold upto
    simp only [List.map_map]
    rfl
  case el =>
    intro d hd v6 S6 s6 p6 sh' H0 C' cl fp
    obtain ⟨j, hj, rfl⟩ := List.mem_map.mp hd
    have hj := List.mem_range.mp hj
    have pv6 : MirP K C m n R B (.list ds) v S6 := Mn.up s6 pv4
    have pn6 := pn4.up s6
    have zl : zipD ((uns ds).map .int) ((List.range m).map fun i => PyData.list (lsD n (R i))) = ((List.range m).map fun i => (PyData.int (nth (uns ds) i), PyData.list (lsD n (R i)))).map tupP := by
      have : (uns ds).map PyData.int = lsD m (nth (uns ds)) := by rw [lsD_eq, lsI_nth (by rw [uns_len]; exact hk)]
      rw [this]
      have := zip_rb (m := m) (fun i => PyData.int (nth (uns ds) i)) (fun i => PyData.list (lsD n (R i)))
      unfold lsD at this ⊢
      rw [this, List.map_map]
      rfl
    refine (ee_le (i := dotI (uns ds) (lsI m fun i => R i j)) (j := 0) ?_ ee_int).isd rfl
    refine (ee_sum (ns := (List.range m).map fun i => nth (uns ds) i * R i j) rfl g2 ((ee_lc2 (i := 3) (j := 5) (enc := .int) (f := fun q => match q with | (.int a, .list xs) => a * unI1 (xs.getD j .none) | _ => 0) (ps := (List.range m).map fun i => (PyData.int (nth (uns ds) i), PyData.list (lsD n (R i)))) rfl sc_Mho.nd (blkOk_by (N := NMho) (sc := cellsSc ["self", "shares"] (compScope (retArg0 (defBody sMirror__holds) 4))) (by decide +kernel)) (by rw [← zl]; exact ei_zipL g3 (ee_var 1 rfl pn6) (ee_rowM c n1 (ee_var (P := MirP K C m n R B (.list ds)) 0 rfl pv6))) (by rw [List.length_map, List.length_range]; show _ ≤ 16777216; omega) ?el2).isd ?en2)).isd ?en3
    case el2 =>
      intro p hp' v7 u7 S7 s7 q3 q4 sh2 H2 C2 cl2 fp2
      obtain ⟨i, hi, rfl⟩ := List.mem_map.mp hp'
      have hi := List.mem_range.mp hi
      have q4 : Dt K (.list (lsD n (R i))) u7 S7 := q4
      have q3 : Dt K (.int (nth (uns ds) i)) v7 S7 := q3
      have p7 : Dt K (.int (j : Nat)) v6 S7 := p6.up s7
      have hn8 : (nth (uns ds) i).natAbs < 2 ^ 8000 := h8 _ (List.mem_of_getElem? (nth_get (by rw [uns_len, hk]; exact hi)))
      refine (ee_mul (cmx hn8 (ho.R8 i j hi hj)) (ee_var 3 rfl q3) (ee_ixL (lsD_at (f := R i) hj) (ee_var 5 rfl q4) (ee_var 6 rfl p7))).isd ?_
      show PyData.int _ = PyData.int (_ * unI1 ((lsD n (R i)).getD j .none))
      rw [List.getD_eq_getElem?_getD, lsD_get hj]; rfl
    case en2 =>
      congr 1
      rw [List.map_map, List.map_map, List.map_map]
      refine List.map_congr_left fun i hi => ?_
      have hi := List.mem_range.mp hi
      show PyData.int (_ * unI1 ((lsD n (R i)).getD j .none)) = _
      rw [List.getD_eq_getElem?_getD, lsD_get hj]; rfl
    case en3 =>
      congr 1
      unfold dotI
      have : uns ds = lsI m (nth (uns ds)) := (lsI_nth (by rw [uns_len]; exact hk)).symm
      rw [this]
      unfold lsI
      rw [zip_map_same, List.map_map]
      have : (List.range m).map (nth (uns ds)) = uns ds := (lsI_nth (by rw [uns_len]; exact hk))
      rw [this]; rfl
end
end
end K04
namespace K04
open PySem PySem.Spec PyProof.Rows L2 Z Y LamX NdefX
section
variable {P : Program} {w : World} {K : PySem.W.Frag} {mg : Str → Option Value} {base : Heap} {f : Addr} {fd : FuncData}
theorem paired_any {α : Type} {enc : α → PyData} {ds rs : List PyData} {G : α → Prop} (h : Paired (fun _ d => ∃ i, d = enc i ∧ G i) ds rs) : ∃ l : List α, rs = l.map enc ∧ l.length = ds.length ∧ ∀ x ∈ l, G x := by
  induction h with
  | nil => exact ⟨[], rfl, rfl, fun _ h => nomatch h⟩
  | cons g _ ih =>
    obtain ⟨i, rfl, gi⟩ := g
    obtain ⟨l, rfl, h2, h3⟩ := ih
    exact ⟨i :: l, rfl, by simp [h2], fun x hx => by
      rcases List.mem_cons.mp hx with rfl | hx
      · exact gi
      · exact h3 x hx⟩
/-! ## the law's helpers -/
theorem ints_of {n : Nat} {l : List Int} (h : l.length = n) : l.map PyData.int = lsD n (nth l) := by rw [lsD_eq, lsI_nth h]
abbrev NLsr : List Str := ["_law_box", "_law_many", "_law_size", "_law_some", "_law_at", "_law_turn"]
theorem sc_Lsr : FnScope NLsr ["_law_box", "_law_many", "_law_size"] (defScope sL_some_rows) := ⟨rfl, rfl, rfl, by decide +kernel, rfl, by decide +kernel, by decide +kernel⟩
def retE0 (b : List Stmt) (i : Nat) : Expr := match b.getD i (.Pass ⟨0, 0, 0, 0⟩) with
  | .Return (some e) _ => e
  | _ => .Constant .none 0 ⟨0, 0, 0, 0⟩
def some10 : List PyData := [.int 0, .int 1, .int (-1), .int 2, .int (-2), .int 3, .int 0, .int 1, .int (-5), .int 7]
/-! ### numbers_from -/
def numsF (d : PyData) : Bool := match d with
  | .list ds => ds.all fun x => isNum x 0
  | _ => false
def FLnf : List PyData → PyData → Prop := fun ds r => ∃ d, ds = [d] ∧ r = .bool (numsF d)
theorem sc_Lnf : FnScope ["_law_thing", "_law_item"] ["_law_thing"] (defScope sL_numbers_from) := ⟨rfl, rfl, rfl, by decide +kernel, rfl, by decide +kernel, by decide +kernel⟩
theorem ok_L_nf (F : FnT K "_law_numbers_from" sL_numbers_from f fd) (g1 : mg "isinstance" = none) (g2 : mg "list" = none) (g3 : mg "int" = none) (g4 : mg "bool" = none) (g5 : mg "all" = none) : FnOk P w K mg base CX0 1 f fd ["_law_thing"] (spD K FLnf) := by
  refine fn_hs F sc_Lnf (fun vs H Q E h => ?_) (fun cdv A outer sh H vs Q E hr h => ?_)
  · obtain ⟨S, ds, d, _, hd, ⟨_, rfl, _⟩, _⟩ := h
    exact hd.1
  · obtain ⟨S, ds, r, s, hd, ⟨d, rfl, rfl⟩, q⟩ := h
    obtain ⟨v1, rfl, p1⟩ := hd.one
    by_cases hl : isD d "list" = true
    · obtain ⟨xs, rfl⟩ : ∃ xs, d = .list xs := by cases d <;> first | exact ⟨_, rfl⟩ | (exfalso; simp [isDl] at hl; done)
      have hz : xs.length ≤ sizeLine := by obtain ⟨l, ys, _, _, h, z⟩ := p1.lst_inv; rw [← h.1]; exact z
      refine hs_ret ((ee_and (ee_isi (isD_ok (.list xs) (T := "list") (by simp)) g1 g2 boot_list (ee_var 0 rfl p1)) fun h1 => ee_one (ee_all (bs := xs.map fun x => isNum x 0) rfl g5 (ee_lc (i := 1) (x := "_law_item") (enc := .bool) rfl sc_Lnf.nd (blkOk_by (N := ["_law_thing", "_law_item"]) (sc := defScope sL_numbers_from) (by decide +kernel)) (ei_list (ee_var 0 rfl p1)) hz ?el))).isd ?en) s q
      case el =>
        intro x hx v S' s' pv sh' H0 C' cl fp
        have pv : Dt K x v S' := pv
        refine (ee_and (ee_isi (isD_ok x (T := "int") (by simp)) g1 g3 boot_int (ee_var 1 rfl pv)) fun h1 => ee_and (ee_not (ee_isi (isD_ok x (T := "bool") (by simp)) g1 g4 boot_bool (ee_var 1 rfl pv))) fun h2 => ee_one (P := Dt K (.bool (isNum x 0))) ?_).isd ?_
        · cases x <;> first | (exact ee_ge (ee_var 1 rfl pv) ee_int) | (exfalso; simp [isDi, isDb] at h1 h2; done)
        · cases x <;> rfl
      case en => rw [map_all]; rfl
    · have hl : isD d "list" = false := by simpa using hl
      refine hs_ret ((ee_and (k2 := false) (ee_isi (isD_ok d (T := "list") (by simp)) g1 g2 boot_list (ee_var 0 rfl p1)) fun h1 => by rw [hl] at h1; cases h1).isd ?_) s q
      cases d <;> first | rfl | (exfalso; simp [isDl] at hl; done)
/-! ### point_fits, mirror_fits -/
def pntF (m n : Nat) (R : Nat → Nat → Int) (B : Nat → Int) (s : Int) (xs : List Int) : Bool := (decide (1 ≤ s) && xs.all fun x => decide (0 ≤ x)) && (List.range m).all fun i => decide (B i * s ≤ dotI (lsI n (R i)) xs)
def mirF (m n : Nat) (R : Nat → Nat → Int) (B : Nat → Int) (us : List Int) : Bool := ((us.all fun x => decide (0 ≤ x)) && decide (0 < dotI us (lsI m B))) && (List.range n).all fun j => decide (dotI us (lsI m fun i => R i j) ≤ 0)
structure BigOk (m n : Nat) (R : Nat → Nat → Int) (B : Nat → Int) (xs : List Int) : Prop where
  hm : m ≤ 1000
  hn : n ≤ 1000
  R8 : ∀ i j, i < m → j < n → (R i j).natAbs < 2 ^ 8000
  B8 : ∀ i, i < m → (B i).natAbs < 2 ^ 8000
  x8 : ∀ x ∈ xs, x.natAbs < 2 ^ 8000
theorem dts_four {K : PySem.W.Frag} {d1 d2 d3 d4 : PyData} {vs : List V} {S : Hp} (h : Dts K [d1, d2, d3, d4] vs S) : ∃ a b c d, vs = [a, b, c, d] ∧ Dt K d1 a S ∧ Dt K d2 b S ∧ Dt K d3 c S ∧ Dt K d4 d S := by
  obtain ⟨hl, hx⟩ := h
  match vs, hl with
  | [a, b, c, d], _ => exact ⟨a, b, c, d, rfl, hx 0 a d1 rfl rfl, hx 1 b d2 rfl rfl, hx 2 c d3 rfl rfl, hx 3 d d4 rfl rfl⟩
def FLpf : List PyData → PyData → Prop := fun ds r => ∃ m n R B s xs, ds = [rowsL m n R, .list (lsD m B), .int s, lI xs] ∧ BigOk m n R B xs ∧ s.natAbs < 2 ^ 8000 ∧ xs.length ≤ 1000 ∧ r = .bool (pntF m n R B s xs)
abbrev NLpf : List Str := ["_law_rows_z", "_law_ends", "_law_scale_z", "_law_point", "_law_item", "_law_a", "_law_b", "_law_line", "_law_end"]
theorem sc_Lpf : FnScope NLpf ["_law_rows_z", "_law_ends", "_law_scale_z", "_law_point"] (defScope sL_point_fits) := ⟨rfl, rfl, rfl, by decide +kernel, rfl, by decide +kernel, by decide +kernel⟩
theorem any_neg (xs : List Int) : ((xs.map PyData.int).map fun d => decide (unI1 d < 0)).any (fun b => b) = !xs.all fun x => decide (0 ≤ x) := by
  induction xs with
  | nil => rfl
  | cons x xs ih =>
    simp only [List.map_cons, List.any_cons, List.all_cons, Bool.not_and] at ih ⊢
    rw [ih]
    congr 1
    show decide (x < 0) = !decide (0 ≤ x)
    by_cases q : x < 0
    · rw [decide_eq_true q, decide_eq_false (show ¬ 0 ≤ x by omega)]; rfl
    · rw [decide_eq_false q, decide_eq_true (show 0 ≤ x by omega)]; rfl
def lsOf (d : PyData) : List PyData := match d with
  | .list ds => ds
  | _ => []
theorem lsD_uns {n : Nat} {f : Nat → Int} : uns (lsD n f) = lsI n f := by rw [lsD_eq, uns_ints]
theorem ok_L_pf (F : FnT K "_law_point_fits" sL_point_fits f fd) (g1 : mg "any" = none) (g2 : mg "all" = none) (g3 : mg "sum" = none) (g4 : mg "zip" = none) : FnOk P w K mg base CX0 1 f fd ["_law_rows_z", "_law_ends", "_law_scale_z", "_law_point"] (spD K FLpf) := by
  refine fn_hs F sc_Lpf (fun vs H Q E h => ?_) (fun cdv A outer sh H vs Q E hr h => ?_)
  · obtain ⟨S, ds, d, _, hd, ⟨_, _, _, _, _, _, rfl, _⟩, _⟩ := h
    exact hd.1
  · obtain ⟨S, ds, r, s, hd, ⟨m, n, R, B, s0, xs, rfl, ho, hs8, hx, rfl⟩, q⟩ := h
    obtain ⟨v1, v2, v3, v4, rfl, p1, p2, p3, p4⟩ := dts_four hd
    have hm := ho.hm
    have hn := ho.hn
    refine hs_if (k := !(decide (1 ≤ s0) && xs.all fun x => decide (0 ≤ x))) ((et_w (ew_or (et_lt (ee_var 2 rfl p3) ee_int) fun _ => ew_or1 (et_val (ee_any (bs := (xs.map PyData.int).map fun d => decide (unI1 d < 0)) rfl g1 (ee_lc (i := 4) (x := "_law_item") (enc := .bool) rfl sc_Lpf.nd (blkOk_by (N := NLpf) (sc := defScope sL_point_fits) (by decide +kernel)) (ei_list (ee_var 3 rfl p4)) (by rw [List.length_map]; exact Nat.le_trans hx (by decide)) ?el))))).is (by
        rw [any_neg, Bool.not_and]
        congr 1
        by_cases q : s0 < 1
        · rw [decide_eq_true q, decide_eq_false (show ¬ 1 ≤ s0 by omega)]; rfl
        · rw [decide_eq_false q, decide_eq_true (show 1 ≤ s0 by omega)]; rfl)) s (fun hk S2 H2 e2 => ?_) (fun hk S2 H2 e2 => hs_nil ?_)
    case el =>
      intro d hd v S' s' pv sh' H0 C' cl fp
      obtain ⟨x, hx, rfl⟩ := List.mem_map.mp hd
      exact ee_lt (ee_var 4 rfl pv) ee_int
    · refine hs_ret (P := Dt K (.bool (pntF m n R B s0 xs))) (ee_bl.isd (by
        unfold pntF
        rw [Bool.not_eq_true'] at hk
        rw [hk]; rfl)) e2.sub fun u S3 H3 e3 pu => q u S3 H3 (e2.trans e3) pu
    rw [Bool.not_eq_false'] at hk
    have zl : zipD ((List.range m).map fun i => PyData.list (lsD n (R i))) (lsD m B) = ((List.range m).map fun i => (PyData.list (lsD n (R i)), PyData.int (B i))).map tupP := by
      have := zip_rb (m := m) (fun i => PyData.list (lsD n (R i))) (fun i => PyData.int (B i))
      unfold lsD at this ⊢
      rw [this, List.map_map]; rfl
    have p12 := p1.up e2.st
    have p22 := p2.up e2.st
    have p32 := p3.up e2.st
    have p42 := p4.up e2.st
    refine hs_ret (P := Dt K (.bool (pntF m n R B s0 xs))) ((ee_all (bs := (List.range m).map fun i => decide (B i * s0 ≤ dotI (lsI n (R i)) xs)) rfl g2 ((ee_lc2 (i := 7) (j := 8) (enc := .bool) (f := fun q => decide (unI1 q.2 * s0 ≤ dotI (uns (lsOf q.1)) xs)) (ps := (List.range m).map fun i => (PyData.list (lsD n (R i)), PyData.int (B i))) rfl sc_Lpf.nd (blkOk_by (N := NLpf) (sc := defScope sL_point_fits) (by decide +kernel)) (by rw [← zl]; exact ei_zipL g4 (ee_var 0 rfl p12) (ee_var 1 rfl p22)) (by rw [List.length_map, List.length_range]; show _ ≤ 16777216; omega) ?el2).isd ?en2)).isd (by unfold pntF; rw [hk, Bool.true_and, map_all])) e2.sub fun u S3 H3 e3 pu => q u S3 H3 (e2.trans e3) pu
    case en2 =>
      simp only [List.map_map]
      congr 1
      refine List.map_congr_left fun i _ => ?_
      show PyData.bool (decide (B i * s0 ≤ dotI (uns (lsD n (R i))) xs)) = _
      rw [lsD_uns]; rfl
    case el2 =>
      intro p hp' v7 u8 S6 s6 q3 q4 sh' H0 C cl fp
      obtain ⟨i, hi, rfl⟩ := List.mem_map.mp hp'
      have hi := List.mem_range.mp hi
      have q3 : Dt K (.list (lsD n (R i))) v7 S6 := q3
      have q4 : Dt K (.int (B i)) u8 S6 := q4
      have q3I : Dt K (.list ((lsI n (R i)).map .int)) v7 S6 := by rw [← lsD_eq]; exact q3
      have p46 : Dt K (.list (xs.map .int)) v4 S6 := p42.up s6
      have p36 := p32.up s6
      show EE _ _ _ _ (Dt K (.bool (decide (B i * s0 ≤ dotI (uns (lsD n (R i))) xs))))
      rw [lsD_uns]
      refine ee_ge (ee_sum (ns := ((lsI n (R i)).zip xs).map fun p => p.1 * p.2) rfl g3 ((ee_lc2 (i := 5) (j := 6) (enc := .int) (f := mulD) (ps := ((lsI n (R i)).zip xs).map fun p => (PyData.int p.1, PyData.int p.2)) rfl sc_Lpf.nd (blkOk_by (N := NLpf) (sc := cellsSc ["_law_scale_z", "_law_point"] (compScope (retArg0 (defBody sL_point_fits) 1))) (by decide +kernel)) (by rw [← zip_int]; exact ei_zipL g4 (ee_var 7 rfl q3I) (ee_var 3 rfl p46)) ?z1 ?z2).isd ?z3)) (ee_mul (cmx (ho.B8 i hi) hs8) (ee_var 8 rfl q4) (ee_var 2 rfl p36))
      case z1 =>
        rw [List.length_map, List.length_zip, lsI_len]
        show _ ≤ 16777216
        omega
      case z2 =>
        intro p hp' v3 u3 S7 s7 k3 k4 sh2 H2 C2 cl2 fp2
        obtain ⟨⟨x, y⟩, hxy, rfl⟩ := List.mem_map.mp hp'
        have hm1 := List.of_mem_zip hxy
        obtain ⟨j, hj, rfl⟩ := lsI_mem hm1.1
        exact ee_mul (cmx (ho.R8 i j hi hj) (ho.x8 y hm1.2)) (ee_var 5 rfl k3) (ee_var 6 rfl k4)
      case z3 =>
        simp only [List.map_map]; rfl
def FLmf : List PyData → PyData → Prop := fun ds r => ∃ m n R B us, ds = [rowsL m n R, .list (lsD m B), lI us] ∧ BigOk m n R B us ∧ us.length = m ∧ 1 ≤ m ∧ r = .bool (mirF m n R B us)
abbrev NLmf : List Str := ["_law_rows_z", "_law_ends", "_law_shares", "_law_item", "_law_a", "_law_b", "_law_k", "_law_at"]
theorem sc_Lmf : FnScope NLmf ["_law_rows_z", "_law_ends", "_law_shares"] (defScope sL_mirror_fits) := ⟨rfl, rfl, rfl, by decide +kernel, rfl, by decide +kernel, by decide +kernel⟩
theorem ok_L_mf (F : FnT K "_law_mirror_fits" sL_mirror_fits f fd) (g1 : mg "any" = none) (g2 : mg "all" = none) (g3 : mg "sum" = none) (g4 : mg "zip" = none) (g5 : mg "range" = none) (g6 : mg "len" = none) : FnOk P w K mg base CX0 1 f fd ["_law_rows_z", "_law_ends", "_law_shares"] (spD K FLmf) := by
  refine fn_hs F sc_Lmf (fun vs H Q E h => ?_) (fun cdv A outer sh H vs Q E hr h => ?_)
  · obtain ⟨S, ds, d, _, hd, ⟨_, _, _, _, _, rfl, _⟩, _⟩ := h
    exact hd.1
  · obtain ⟨S, ds, r, s, hd, ⟨m, n, R, B, us, rfl, ho, hlen, m1, rfl⟩, q⟩ := h
    obtain ⟨v1, v2, v3, rfl, p1, p2, p3⟩ := hd.three
    have hm := ho.hm
    have hn := ho.hn
    have lR : lenD (rowsL m n R) = some m := by show some ((List.range m).map _).length = _; rw [List.length_map, List.length_range]
    have p3I : Dt K (.list (us.map .int)) v3 S := p3
    refine hs_if (k := !((us.all fun x => decide (0 ≤ x)) && decide (0 < dotI us (lsI m B)))) ((et_w (ew_or (et_val (ee_any (bs := (us.map PyData.int).map fun d => decide (unI1 d < 0)) rfl g1 (ee_lc (i := 3) (x := "_law_item") (enc := .bool) rfl sc_Lmf.nd (blkOk_by (N := NLmf) (sc := defScope sL_mirror_fits) (by decide +kernel)) (ei_list (ee_var 2 rfl p3I)) (by rw [List.length_map]; show _ ≤ 16777216; omega) ?el))) fun _ => ew_or1 (et_le (i := dotI us (lsI m B)) (ee_sum (ns := (us.zip (lsI m B)).map fun p => p.1 * p.2) rfl g3 ((ee_lc2 (i := 4) (j := 5) (enc := .int) (f := mulD) (ps := (us.zip (lsI m B)).map fun p => (PyData.int p.1, PyData.int p.2)) rfl sc_Lmf.nd (blkOk_by (N := NLmf) (sc := defScope sL_mirror_fits) (by decide +kernel)) (by rw [← zip_int]; exact ei_zipL g4 (ee_var 2 rfl p3I) ((ee_var 1 rfl p2).isd (by rw [lsD_eq]))) ?z1 ?z2).isd ?z3)) ee_int))).is (by
        rw [any_neg, Bool.not_and]
        congr 1
        by_cases q : dotI us (lsI m B) ≤ 0
        · rw [decide_eq_true q, decide_eq_false (show ¬ 0 < dotI us (lsI m B) by omega)]; rfl
        · rw [decide_eq_false q, decide_eq_true (show 0 < dotI us (lsI m B) by omega)]; rfl)) s (fun hk S2 H2 e2 => ?_) (fun hk S2 H2 e2 => hs_nil ?_)
    case el =>
      intro d hd v S' s' pv sh' H0 C' cl fp
      obtain ⟨x, hx, rfl⟩ := List.mem_map.mp hd
      exact ee_lt (ee_var 3 rfl pv) ee_int
    case z1 =>
      rw [List.length_map, List.length_zip, lsI_len]
      show _ ≤ 16777216
      omega
    case z2 =>
      intro p hp' v3 u3 S7 s7 k3 k4 sh2 H2 C2 cl2 fp2
      obtain ⟨⟨x, y⟩, hxy, rfl⟩ := List.mem_map.mp hp'
      have hm1 := List.of_mem_zip hxy
      obtain ⟨j, hj, rfl⟩ := lsI_mem hm1.2
      exact ee_mul (cmx (ho.x8 x hm1.1) (ho.B8 j hj)) (ee_var 4 rfl k3) (ee_var 5 rfl k4)
    case z3 =>
      simp only [List.map_map]; rfl
    · refine hs_ret (P := Dt K (.bool (mirF m n R B us))) (ee_bl.isd (by
        unfold mirF
        rw [Bool.not_eq_true'] at hk
        rw [hk]; rfl)) e2.sub fun u S3 H3 e3 pu => q u S3 H3 (e2.trans e3) pu
    rw [Bool.not_eq_false'] at hk
    have p12 := p1.up e2.st
    have p32 : Dt K (.list (us.map .int)) v3 S2 := p3I.up e2.st
    have hget : ∀ i, i < m → ((List.range m).map fun i => PyData.list (lsD n (R i)))[i]? = some (.list (lsD n (R i))) := fun i hi => by rw [List.getElem?_map, List.getElem?_range hi]; rfl
    refine hs_ret (P := Dt K (.bool (mirF m n R B us))) ((ee_all (bs := (List.range n).map fun j => decide (dotI us (lsI m fun i => R i j) ≤ 0)) rfl g2 ((ee_lc (i := 7) (x := "_law_at") (enc := .bool) (f := fun d => match d with | .int j => decide (dotI us (lsI m fun i => R i j.toNat) ≤ 0) | _ => false) rfl sc_Lmf.nd (blkOk_by (N := NLmf) (sc := defScope sL_mirror_fits) (by decide +kernel)) (ei_range (n := n) g5 (by omega) (ee_len g6 (d := .list (lsD n (R 0))) (n := n) (by show some (lsD n (R 0)).length = _; rw [lsD_len]) (ee_ixL (atI_nat (k := 0) (hget 0 (by omega))) (ee_var 0 rfl p12) ee_int) (hz := fun x h => by cases h))) (by rw [upto_len]; show _ ≤ 16777216; omega) ?el3).isd ?en3)).isd (by unfold mirF; rw [hk, Bool.true_and, map_all])) e2.sub fun u S3 H3 e3 pu => q u S3 H3 (e2.trans e3) pu
    case en3 =>
      unfold upto
      simp only [List.map_map]
      rfl
    case el3 =>
      intro d hd v7 S6 s6 p7 sh' H0 C cl fp
      obtain ⟨j, hj, rfl⟩ := List.mem_map.mp hd
      have hj := List.mem_range.mp hj
      have p16 := p12.up s6
      have p36 := p32.up s6
      refine (ee_le (i := dotI us (lsI m fun i => R i j)) (j := 0) ?_ ee_int).isd rfl
      refine (ee_sum (ns := (List.range m).map fun i => nth us i * R i j) rfl g3 ((ee_lc (i := 6) (x := "_law_k") (enc := .int) (f := fun d => match d with | .int i => nth us i.toNat * R i.toNat j | _ => 0) rfl sc_Lmf.nd (blkOk_by (N := NLmf) (sc := cellsSc ["_law_rows_z", "_law_shares"] (compScope (retArg0 (defBody sL_mirror_fits) 1))) (by decide +kernel)) (ei_range (n := m) g5 (by omega) (ee_len g6 lR (ee_var 0 rfl p16) (hz := fun x h => by cases h))) (by rw [upto_len]; show _ ≤ 16777216; omega) ?el4).isd ?en4)).isd ?en5
      case en4 =>
        unfold upto
        simp only [List.map_map]
        rfl
      case en5 =>
        congr 1
        unfold dotI
        have e : us = lsI m (nth us) := (lsI_nth hlen).symm
        have : (us.zip (lsI m fun i => R i j)) = (List.range m).map fun i => (nth us i, R i j) := by
          rw [e]
          unfold lsI
          rw [zip_map_same]
          have e2 : (List.range m).map (nth us) = us := lsI_nth hlen
          rw [e2]
        rw [this, List.map_map]; rfl
      case el4 =>
        intro d hd v6 S7 s7 p6 sh2 H2 C2 cl2 fp2
        obtain ⟨i, hi, rfl⟩ := List.mem_map.mp hd
        have hi := List.mem_range.mp hi
        have p6 : Dt K (.int (i : Nat)) v6 S7 := p6
        have p7 : Dt K (.int (j : Nat)) v7 S7 := p7.up s7
        have hu : us[i]? = some (nth us i) := nth_get (by omega)
        have hus : (us.map PyData.int)[i]? = some (.int (nth us i)) := by rw [List.getElem?_map, hu]; rfl
        exact ee_mul (cmx (ho.x8 _ (List.mem_of_getElem? hu)) (ho.R8 i j hi hj)) (ee_ixL (atI_nat hus) (ee_var 2 rfl (p36.up s7)) (ee_var 6 rfl p6)) (ee_ixL (lsD_at (f := R i) hj) (ee_ixL (atI_nat (hget i hi)) (ee_var 0 rfl (p16.up s7)) (ee_var 6 rfl p6)) (ee_var 7 rfl p7))
end
end K04
namespace K04
open PySem PySem.Spec PyProof.Rows L2 Z Y LamX NdefX
section
variable {P : Program} {w : World} {K : PySem.W.Frag} {mg : Str → Option Value} {base : Heap} {f : Addr} {fd : FuncData}
/-! ## Outcome by itself; told, repr; a Mirror by names -/
def OutN (C : Addr) (S : Hp) (m n : Nat) (R : Nat → Nat → Int) (B : Nat → Int) (v : V) (S' : Hp) : Prop := ∃ a dx rl bl, v = .ref a ∧ S a = none ∧ S' a = some (.ins C dx [("_rows", rl), ("_bounds", bl)]) ∧ RowsN S m n R rl S' ∧ LsN S m B bl S'
instance {C : Addr} {S : Hp} {m n : Nat} {R : Nat → Nat → Int} {B : Nat → Int} : Mn (OutN C S m n R B) := ⟨fun s ⟨a, dx, rl, bl, h1, h2, h3, h4, h5⟩ => ⟨a, dx, rl, bl, h1, h2, s _ _ h3, Mn.up s h4, Mn.up s h5⟩⟩
theorem OutN.newS {C : Addr} {S H H2 : Hp} {m n : Nat} {R : Nat → Nat → Int} {B : Nat → Int} {v : V} (h : OutN C H m n R B v H2) : OutN C H m n R B v (newS H H2 S) := by
  obtain ⟨a, dx, rl, bl, e, h0, h1, ⟨l, xs, e1, r0, r1, r2, r3⟩, ⟨l2, e2, b0, b1⟩⟩ := h
  refine ⟨a, dx, rl, bl, e, h0, newS_at h0 h1, ⟨l, xs, e1, r0, newS_at r0 r1, r2, fun i hi => ?_⟩, ⟨l2, e2, b0, newS_at b0 b1⟩⟩
  obtain ⟨z, z1, z2, z3, z4⟩ := r3 i hi
  exact ⟨z, z1, z2, z3, newS_at z2 z4⟩
theorem OutN.dn {C : Addr} {S0 S S' : Hp} {m n : Nat} {R : Nat → Nat → Int} {B : Nat → Int} {v : V} (s : Same S0 S) (h : OutN C S m n R B v S') : OutN C S0 m n R B v S' := let ⟨a, dx, rl, bl, h1, h2, h3, h4, h5⟩ := h; ⟨a, dx, rl, bl, h1, s.free h2, h3, h4.dn s, h5.dn s⟩
structure MkOut (P : Program) (w : World) (K : PySem.W.Frag) (mg : Str → Option Value) (base : Heap) (C : Addr) : Prop where
  ex : ∃ fi fdi ps, Mk K C fi ∧ FnOk P w K mg base CX0 1 fi fdi ps (spOI K) ∧ Binds K fdi ps []
  c : Cls K C
  n1 : NoAttr K C "_rows"
  n2 : NoAttr K C "_bounds"
structure MkMirK (P : Program) (w : World) (K : PySem.W.Frag) (mg : Str → Option Value) (base : Heap) (C : Addr) : Prop where
  ex : ∃ fi fdi ps g gV, Mk K C fi ∧ FnOk P w K mg base CX0 6 fi fdi ps (spMI K C) ∧ KBn K fdi ps 1 ["numbers", "bounds", "rows"] g gV ∧ ∀ s u v w, gV [s] [u, v, w] = [s, w, v, u]
section
variable {X : Cx} {σ : L2.St} {S H : Hp} {C : Addr} {a b d : Expr} {p pos q1 q2 q3 : Pos} {m n : Nat} {R : Nat → Nat → Int} {B : Nat → Int} {tk bk : Bool} {rk : Nat → Bool} {ns : PyData}
theorem ee_mkOut (M : MkOut X.prog X.w X.K X.mg X.base C) (hr : Room 2 X.A) (gS : X.mg "Outcome" = some (.ref C)) (hm : m ≤ 1000) (hn : n ≤ 1000) (ha : EE X σ S a (Dt X.K (rowsD tk rk m n R))) (hb : EE X σ S b (Dt X.K (bndD bk m B))) (hg : Gl X "Outcome" := by rfl)
    (e1 : starEach [a, b] X.env = (false, eval a X.env) :: starEach [b] X.env := by rfl) (e2 : starEach [b] X.env = (false, eval b X.env) :: starEach [] X.env := by rfl) (hpl : (backTo pos (starEach [b] X.env)).any (·.1) = false := by rfl) : EE X σ S (.Call (.Name "Outcome" p) [a, b] [] pos) (OutN C S m n R B) := fun H s Q q => by
  obtain ⟨fi, fdi, ps, mk, G, hb2⟩ := M.ex
  refine he_of (pe_make mk G hr hg gS hb2 .nil pass0 pab (by decide) e1 hpl) ((ea_2 ha hb e1 e2).2 H s _ fun vs S1 H1 g1 al x dx h1 h2 h3 => ?_)
  obtain ⟨v1, v2, rfl, p1, p2⟩ := al.two
  have sH : Same H1 (upd (upd H1 dx (.own x)) x (.ins C dx [])) := (Same.new h2).trans (Same.new (by rw [upd_ne (Ne.symm h3)]; exact h1))
  refine ⟨x, C, dx, v1, v2, m, n, R, B, tk, rk, bk, rfl, M.c, M.n1, M.n2, upd_same, p1.up (g1.sub.trans sH), p2.up (g1.sub.trans sH), hm, hn, fun rl bl H' k hx hR hB => ⟨rfl, ?_⟩⟩
  have sH' : Same H1 H' := fun z o e => k z o (ne_of_none e h1) (sH z o e)
  have k0 : KpX x H1 (upd (upd H1 dx (.own x)) x (.ins C dx [])) := fun z o _ e => sH z o e
  have hO : OutN C H1 m n R B (.ref x) H' := ⟨x, dx, rl, bl, rfl, h1, hx, RowsN.back k0 upd_same hR, LsN.back k0 upd_same hB⟩
  exact q _ (newS H1 H' S1) H' (g1.trans (newS_gr g1.sub sH')) (((hO.newS (S := S1)).dn g1.sub).dn g1.st)
theorem ee_mkMirK (M : MkMirK X.prog X.w X.K X.mg X.base C) (hr : Room 7 X.A) (gS : X.mg "Mirror" = some (.ref C)) (hm : m ≤ 1000) (hn : n ≤ 1000) (f2 : Flat ns) (hd : EE X σ S d (Dt X.K ns)) (hb : EE X σ S b (Dt X.K (bndD bk m B))) (ha : EE X σ S a (Dt X.K (rowsD tk rk m n R))) (hg : Gl X "Mirror" := by rfl)
    (hall : (backToKw pos (keywordEach [⟨some "numbers", d, q1⟩, ⟨some "bounds", b, q2⟩, ⟨some "rows", a, q3⟩] X.env)).all (·.1.isSome) = true := by rfl) (hks : (backToKw pos (keywordEach [⟨some "numbers", d, q1⟩, ⟨some "bounds", b, q2⟩, ⟨some "rows", a, q3⟩] X.env)).filterMap (·.1) = (["numbers", "bounds", "rows"] : List Str) := by rfl)
    (hpl : ((backTo pos (starEach [] X.env)).any (·.1) || (backToKw pos (keywordEach [⟨some "numbers", d, q1⟩, ⟨some "bounds", b, q2⟩, ⟨some "rows", a, q3⟩] X.env)).any (·.1.isNone)) = false := by rfl) : EE X σ S (.Call (.Name "Mirror" p) [] [⟨some "numbers", d, q1⟩, ⟨some "bounds", b, q2⟩, ⟨some "rows", a, q3⟩] pos) (MirN X.K C S m n R B ns) := fun H s Q q => by
  obtain ⟨fi, fdi, ps, g, gV, mk, G, kb, hgV⟩ := M.ex
  refine he_of (pe_makeK0 mk G hr hg gS kb pass0 (pk_cons (te := bE X d) peb (pk_cons (te := bE X b) peb (pk_cons (te := bE X a) (t := tNil) peb pk_nil))) hall hks (by decide) hpl) (hd H s _ fun u S1 H1 g1 pu => (hb.up g1.st) H1 g1.sub _ fun v S2 H2 g2 pv => ((ha.up g1.st).up g2.st) H2 g2.sub _ fun w S3 H3 g3 pw => ⟨rfl, rfl, fun x dx h1 h2 h3 => ?_⟩)
  rw [hgV]
  have sH : Same H3 (upd (upd H3 dx (.own x)) x (.ins C dx [])) := (Same.new h2).trans (Same.new (by rw [upd_ne (Ne.symm h3)]; exact h1))
  have G := (g1.trans g2).trans g3
  refine ⟨x, dx, w, v, u, m, n, R, B, tk, rk, bk, ns, rfl, upd_same, pw.up (g3.sub.trans sH), pv.up ((g3.st.trans g3.sub).trans sH), pu.up (((g2.st.trans g3.st).trans g3.sub).trans sH), flat_bd f2, hm, hn, fun H' k hS => ⟨rfl, ?_⟩⟩
  have sH' : Same H3 H' := fun z o e => k z o (ne_of_none e h1) (sH z o e)
  have z := (hS H3 (fun z o nz e => sH z o e) h1).newS (S := S3) f2
  exact q _ (newS H3 H' S3) H' (G.trans (newS_gr g3.sub sH')) ((z.dn g3.sub).dn G.st)
end
/-- Outcome, read -/
def OutP (K : PySem.W.Frag) (C : Addr) (m n : Nat) (R : Nat → Nat → Int) (B : Nat → Int) (v : V) (S : Hp) : Prop := ∃ a dx rl bl, v = .ref a ∧ S a = some (.ins C dx [("_rows", rl), ("_bounds", bl)]) ∧ Dt K (rowsL m n R) rl S ∧ Dt K (.list (lsD m B)) bl S
section
variable {C : Addr} {m n : Nat} {R : Nat → Nat → Int} {B : Nat → Int} {sc ns : PyData}
instance : Mn (OutP K C m n R B) := ⟨fun s ⟨a, dx, rl, bl, h1, h2, h3, h4⟩ => ⟨a, dx, rl, bl, h1, s _ _ h2, h3.up s, h4.up s⟩⟩
theorem OutN.p {S S' : Hp} {v : V} (hm : m ≤ 1000) (hn : n ≤ 1000) (h : OutN C S m n R B v S') : OutP K C m n R B v S' := by
  obtain ⟨a, dx, rl, bl, h1, _, h2, h3, h4⟩ := h
  exact ⟨a, dx, rl, bl, h1, h2, h3.dt hm hn, h4.dt hm⟩
theorem OutP.rows {v : V} {S : Hp} (h : OutP K C m n R B v S) : FldP C "_rows" (Dt K (rowsL m n R)) v S := let ⟨a, dx, rl, bl, h1, h2, h3, h4⟩ := h; ⟨a, dx, _, _, h1, h2, rfl, h3⟩
theorem OutP.bnds {v : V} {S : Hp} (h : OutP K C m n R B v S) : FldP C "_bounds" (Dt K (.list (lsD m B))) v S := let ⟨a, dx, rl, bl, h1, h2, h3, h4⟩ := h; ⟨a, dx, _, _, h1, h2, rfl, h4⟩
theorem OutP.ins : ∀ v S, OutP K C m n R B v S → ∃ a dx fs, v = .ref a ∧ S a = some (.ins C dx fs) := fun v S ⟨a, dx, rl, bl, h1, h2, _⟩ => ⟨a, dx, _, h1, h2⟩
theorem OutP.insP {x : Str} (h : ∀ rl bl : V, ([("_rows", rl), ("_bounds", bl)] : List (Str × V)).lookup x = none := by intro _ _; rfl) : InsP C x (OutP K C m n R B) := fun v S ⟨a, dx, rl, bl, h1, h2, _⟩ => ⟨a, dx, _, h1, h2, h _ _⟩
/-! ### holds, told, repr -/
theorem sc_Oho : FnScope ["self"] ["self"] (defScope sOutcome__holds) := ⟨rfl, rfl, rfl, by decide +kernel, rfl, by decide +kernel, by decide +kernel⟩
theorem ok_Oho (F : FnM K "holds" "Outcome.holds" sOutcome__holds f fd) : FnOk P w K mg base CX0 1 f fd ["self"] (spBoo false) := by
  refine fn_hs F sc_Oho (fun vs H Q E h => by obtain ⟨S, v, rfl, _⟩ := h; rfl) (fun cdv Ar outer sh H vs Q E hr h => ?_)
  obtain ⟨S, v, rfl, s, q⟩ := h
  exact hs_ret (P := Dt K (.bool false)) ee_bl s fun u S' H' g p => by cases p; exact q S' H' g
def spStr (z : Str) : Sp := fun vs H Q _ => ∃ S v, vs = [v] ∧ Same S H ∧ ∀ S' H', Gr S H S' H' → Q (.str z) H'
theorem spStr_E {P0 : V → Hp → Prop} {S : Hp} {z : Str} : SpE (spStr z) S [P0] (Dt K (.str z)) := fun vs S1 H1 st s al Q q => by
  obtain ⟨v, rfl, pv⟩ := al.one
  exact ⟨S1, v, rfl, s, fun S' H' g => q _ S' H' g (.str z)⟩
theorem sc_Oto : FnScope ["self"] ["self"] (defScope sOutcome__told) := ⟨rfl, rfl, rfl, by decide +kernel, rfl, by decide +kernel, by decide +kernel⟩
theorem ok_Oto (F : FnM K "told" "Outcome.told" sOutcome__told f fd) : FnOk P w K mg base CX0 1 f fd ["self"] (spStr "Outcome") := by
  refine fn_hs F sc_Oto (fun vs H Q E h => by obtain ⟨S, v, rfl, _⟩ := h; rfl) (fun cdv Ar outer sh H vs Q E hr h => ?_)
  obtain ⟨S, v, rfl, s, q⟩ := h
  exact hs_ret (P := Dt K (.str "Outcome")) ee_str s fun u S' H' g p => by cases p; exact q S' H' g
theorem sc_Sto : FnScope ["self"] ["self"] (defScope sSolution__told) := ⟨rfl, rfl, rfl, by decide +kernel, rfl, by decide +kernel, by decide +kernel⟩
theorem ok_Sto (F : FnM K "told" "Solution.told" sSolution__told f fd) : FnOk P w K mg base CX0 1 f fd ["self"] (spStr "Solution") := by
  refine fn_hs F sc_Sto (fun vs H Q E h => by obtain ⟨S, v, rfl, _⟩ := h; rfl) (fun cdv Ar outer sh H vs Q E hr h => ?_)
  obtain ⟨S, v, rfl, s, q⟩ := h
  exact hs_ret (P := Dt K (.str "Solution")) ee_str s fun u S' H' g p => by cases p; exact q S' H' g
theorem sc_Mto : FnScope ["self"] ["self"] (defScope sMirror__told) := ⟨rfl, rfl, rfl, by decide +kernel, rfl, by decide +kernel, by decide +kernel⟩
theorem ok_Mto (F : FnM K "told" "Mirror.told" sMirror__told f fd) : FnOk P w K mg base CX0 1 f fd ["self"] (spStr "Mirror") := by
  refine fn_hs F sc_Mto (fun vs H Q E h => by obtain ⟨S, v, rfl, _⟩ := h; rfl) (fun cdv Ar outer sh H vs Q E hr h => ?_)
  obtain ⟨S, v, rfl, s, q⟩ := h
  exact hs_ret (P := Dt K (.str "Mirror")) ee_str s fun u S' H' g p => by cases p; exact q S' H' g
/-- an instance of C with these rows, and no attribute told of its own -/
def RepP (K : PySem.W.Frag) (C : Addr) (m : Nat) (v : V) (S : Hp) : Prop := ∃ a dx fs u n R, v = .ref a ∧ S a = some (.ins C dx fs) ∧ fs.lookup ("_rows" : Str) = some u ∧ Dt K (rowsL m n R) u S ∧ fs.lookup ("told" : Str) = none
instance : Mn (RepP K C m) := ⟨fun s ⟨a, dx, fs, u, n, R, h1, h2, h3, h4, h5⟩ => ⟨a, dx, fs, u, n, R, h1, s _ _ h2, h3, h4.up s, h5⟩⟩
theorem OutP.rep {v : V} {S : Hp} (h : OutP K C m n R B v S) : RepP K C m v S := let ⟨a, dx, rl, bl, h1, h2, h3, h4⟩ := h; ⟨a, dx, _, _, n, R, h1, h2, rfl, h3, rfl⟩
theorem SolP.rep {v : V} {S : Hp} (h : SolP K C m n R B sc ns v S) : RepP K C m v S := let ⟨a, dx, rl, bl, us, un, h1, h2, h3, h4, h5, h6⟩ := h; ⟨a, dx, _, _, n, R, h1, h2, rfl, h3, rfl⟩
theorem MirP.rep {v : V} {S : Hp} (h : MirP K C m n R B ns v S) : RepP K C m v S := let ⟨a, dx, rl, bl, un, h1, h2, h3, h4, h5⟩ := h; ⟨a, dx, _, _, n, R, h1, h2, rfl, h3, rfl⟩
theorem RepP.rw {v : V} {S : Hp} (h : RepP K C m v S) : ∃ n R, FldP C "_rows" (Dt K (rowsL m n R)) v S := let ⟨a, dx, fs, u, n, R, h1, h2, h3, h4, h5⟩ := h; ⟨n, R, a, dx, fs, u, h1, h2, h3, h4⟩
theorem RepP.insP : InsP C "told" (RepP K C m) := fun v S ⟨a, dx, fs, u, n, R, h1, h2, h3, h4, h5⟩ => ⟨a, dx, fs, h1, h2, h5⟩
theorem RepP.ins : ∀ v S, RepP K C m v S → ∃ a dx fs, v = .ref a ∧ S a = some (.ins C dx fs) := fun v S ⟨a, dx, fs, u, n, R, h1, h2, _⟩ => ⟨a, dx, fs, h1, h2⟩
def repT (z : Str) (m : Nat) : Str := ([z, "(", ((toString (m : Int) : String) : Str), " rows)"] : List Str).foldl (· ++ ·) Str.empty
def spRep (K : PySem.W.Frag) (C : Addr) (z : Str) : Sp := fun vs H Q _ => ∃ S v m, vs = [v] ∧ Same S H ∧ RepP K C m v S ∧ m ≤ 3 ∧ ∀ S' H', Gr S H S' H' → Q (.str (repT z m)) H'
theorem spRep_E {P0 : V → Hp → Prop} {S : Hp} {z : Str} (h0 : ∀ v S, P0 v S → RepP K C m v S) (h3 : m ≤ 3) : SpE (spRep K C z) S [P0] (Dt K (.str (repT z m))) := fun vs S1 H1 st s al Q q => by
  obtain ⟨v, rfl, pv⟩ := al.one
  exact ⟨S1, v, m, rfl, s, h0 _ _ pv, h3, fun S' H' g => q _ S' H' g (.str _)⟩
theorem sc_Orp : FnScope ["self"] ["self"] (defScope sOutcome____repr__) := ⟨rfl, rfl, rfl, by decide +kernel, rfl, by decide +kernel, by decide +kernel⟩
theorem ok_Orp {z : Str} (F : FnM K "__repr__" "Outcome.__repr__" sOutcome____repr__ f fd) (D1 : KM P w K mg base C "told" 1 (spStr z)) (hz : z.length ≤ 100) (g1 : mg "len" = none) (c : Cls K C) (n1 : NoAttr K C "_rows") : FnOk P w K mg base CX0 2 f fd ["self"] (spRep K C z) := by
  refine fn_hs F sc_Orp (fun vs H Q E h => by obtain ⟨S, v, m, rfl, _⟩ := h; rfl) (fun cdv Ar outer sh H vs Q E hr h => ?_)
  obtain ⟨S, v, m, rfl, s, pv, h3, q⟩ := h
  have hi : ((m : Nat) : Int).natAbs.log2 < 1920 := by
    have : ((m : Nat) : Int).natAbs = m := by omega
    rw [this]
    exact Nat.lt_of_le_of_lt (Nat.log2_le_self _) (by omega)
  have hs5 : ∀ k : Nat, k ≤ 3 → Str.length ((toString (k : Int) : String) : Str) = 1 := by decide +kernel
  obtain ⟨n, R, pr⟩ := pv.rw
  have lR : lenD (rowsL m n R) = some m := by show some ((List.range m).map _).length = _; rw [List.length_map, List.length_range]
  refine hs_ret (P := Dt K (.str (repT z m))) (ee_joined (ys := [z, "(", ((toString (m : Int) : String) : Str), " rows)"]) (.cons (ee_fmtS (by show _ ≤ 16777216; omega) (ee_meth0 D1 c hr (ee_var (P := RepP K C m) 0 rfl pv) RepP.insP spStr_E)) (.cons ee_str (.cons (ee_fmtI hi (ee_len g1 lR (ee_fldP (ee_var (P := FldP C "_rows" (Dt K (rowsL m n R))) 0 rfl pr) c n1) (hz := fun x h => by cases h))) (.cons ee_str .nil)))) ?_) s fun u S' H' g p => by cases p; exact q S' H' g
  have e1 : Str.length ("(" : Str) = 1 := by decide +kernel
  have e2 : Str.length (" rows)" : Str) = 6 := by decide +kernel
  simp only [List.map_cons, List.map_nil, List.sum_cons, List.sum_nil, e1, e2]
  rw [hs5 _ h3]
  show _ ≤ 16777216
  omega
end
end
end K04
namespace K04
open PySem PySem.Spec PyProof.Rows L2 Z Y LamX NdefX
section
variable {P : Program} {w : World} {K : PySem.W.Frag} {mg : Str → Option Value} {base : Heap} {f : Addr} {fd : FuncData}
/-! ## systems: what the laws share -/
theorem sum_app (l : List Int) (x : Int) : (l ++ [x]).sum = l.sum + x := by
  induction l with
  | nil => show x + 0 = 0 + x; omega
  | cons a l ih => rw [List.cons_append, List.sum_cons, List.sum_cons, ih]; omega
theorem sum_sm (n : Nat) (f : Nat → Int) : ((List.range n).map f).sum = Sv.sm n f := by
  induction n with
  | zero => rfl
  | succ n ih =>
    rw [List.range_succ, List.map_append, List.map_cons, List.map_nil, sum_app, ih]
    rfl
theorem dot_sm {n : Nat} {f : Nat → Int} {xs : List Int} (h : xs.length = n) : dotI (lsI n f) xs = Sv.sm n fun j => f j * nth xs j := by
  unfold dotI
  have e : (lsI n f).zip xs = (List.range n).map fun j => (f j, nth xs j) := by
    have : xs = lsI n (nth xs) := (lsI_nth h).symm
    rw [this]
    unfold lsI
    rw [zip_map_same]
    have e2 : (List.range n).map (nth xs) = xs := lsI_nth h
    rw [e2]
  rw [e, List.map_map, ← sum_sm]; rfl
theorem dot_sm2 {n : Nat} {f : Nat → Int} {xs : List Int} (h : xs.length = n) : dotI xs (lsI n f) = Sv.sm n fun j => nth xs j * f j := by
  unfold dotI
  have e : xs.zip (lsI n f) = (List.range n).map fun j => (nth xs j, f j) := by
    have : xs = lsI n (nth xs) := (lsI_nth h).symm
    rw [this]
    unfold lsI
    rw [zip_map_same]
    have e2 : (List.range n).map (nth xs) = xs := lsI_nth h
    rw [e2]
  rw [e, List.map_map, ← sum_sm]; rfl
section
variable {m n : Nat} {R : Nat → Nat → Int} {B : Nat → Int} {s : Int} {xs : List Int}
theorem SolX.rows (h : SolX m n R B s xs) : ((List.range m).all fun i => decide (B i * s ≤ dotI (lsI n (R i)) xs)) = true := by
  rw [List.all_eq_true]
  intro i hi
  rw [decide_eq_true_eq, dot_sm h.len]
  exact h.S.ge i (List.mem_range.mp hi)
theorem MirX.cols (h : MirX m n R B xs) : ((List.range n).all fun j => decide (dotI xs (lsI m fun i => R i j) ≤ 0)) = true := by
  rw [List.all_eq_true]
  intro j hj
  rw [decide_eq_true_eq, dot_sm2 h.len]
  exact h.U.le j (List.mem_range.mp hj)
theorem MirX.gt (h : MirX m n R B xs) : 0 < dotI xs (lsI m B) := by rw [dot_sm2 h.len]; exact h.U.gt
end
/-- small systems -/
structure Sml (m n : Nat) (R : Nat → Nat → Int) (B : Nat → Int) : Prop where
  m1 : 1 ≤ m
  m6 : m ≤ 6
  n1 : 1 ≤ n
  n4 : n ≤ 4
  R7 : ∀ i j, i < m → j < n → (R i j).natAbs ≤ 10
  B9 : ∀ i, i < m → (B i).natAbs ≤ 10
theorem lt8 {k N : Nat} (h : k ≤ N) (hN : N < 2 ^ 13) : k < 2 ^ 8000 := Nat.lt_of_lt_of_le (Nat.lt_of_le_of_lt h hN) (Nat.pow_le_pow_right (by decide) (by decide))
theorem Sml.sys {m n : Nat} {R : Nat → Nat → Int} {B : Nat → Int} (h : Sml m n R B) : SysOk m n R B := by
  refine ⟨by have := h.m6; omega, by have := h.n4; omega, .inr h.n1, 10, fun v k _ => Sv.iniA_bd (by decide) h.R7 h.B9 (fun _ _ => by decide) v k, ?_⟩
  have h6 := h.m6
  have h1 : (m + 1) * 10 ≤ 2 ^ 7 := by show _ ≤ 128; omega
  have h2 : ((m + 1) * 10) ^ (m + 1) ≤ (2 ^ 7) ^ (m + 1) := Nat.pow_le_pow_left h1 _
  rw [← Nat.pow_mul] at h2
  exact Nat.lt_of_le_of_lt h2 (Nat.pow_lt_pow_right (by decide) (by omega))
theorem Sml.pap {m n : Nat} {R : Nat → Nat → Int} {B : Nat → Int} {s : Int} {xs : List Int} (h : Sml m n R B) (hs : s.natAbs < 2 ^ 8000) (hx : ∀ x ∈ xs, x.natAbs < 2 ^ 8000) (hl : xs.length ≤ 1000) : PapOk m n R B (.int s) (lI xs) := by
  refine ⟨by have := h.m6; omega, by have := h.n4; omega, fun i j hi hj => lt8 (h.R7 i j hi hj) (by decide), fun i hi => lt8 (h.B9 i hi) (by decide), (fun s' e => by cases e; exact hs), fun ds e => ?_, (fun ds e => by cases e), (fun ds e => by cases e), trivial⟩
  cases e
  exact ⟨by rw [List.length_map]; exact hl, by rw [uns_ints]; exact hx⟩
theorem Sml.big {m n : Nat} {R : Nat → Nat → Int} {B : Nat → Int} {xs : List Int} (h : Sml m n R B) (hx : ∀ x ∈ xs, x.natAbs < 2 ^ 8000) : BigOk m n R B xs := ⟨by have := h.m6; omega, by have := h.n4; omega, fun i j hi hj => lt8 (h.R7 i j hi hj) (by decide), fun i hi => lt8 (h.B9 i hi) (by decide), hx⟩
/-- what solve answers here -/
theorem solve_ans {K : PySem.W.Frag} {CS CM : Addr} {S S' : Hp} {m n : Nat} {R : Nat → Nat → Int} {B : Nat → Int} {v : V} (hs : Sml m n R B) (h : SolveR K CS CM S m n R B v S') : ∃ b s xs, Ans m n R B b s xs ∧ (if b = true then SolP K CS m n R B (.int s) (lI xs) v S' else MirP K CM m n R B (lI xs) v S') := by
  have hm := hs.m6
  have hn := hs.n4
  obtain ⟨b, s, xs, ha, hp⟩ := solveR_ans h
  refine ⟨b, s, xs, ha, ?_⟩
  cases b
  · exact MirN.p (by omega) (by omega) hp
  · exact SolN.p (by omega) (by omega) hp
theorem spSolve_E {K : PySem.W.Frag} {CS CM : Addr} {S : Hp} {m n : Nat} {R : Nat → Nat → Int} {B : Nat → Int} {tk bk : Bool} {rk : Nat → Bool} (hs : Sml m n R B) : SpE (spSolve K CS CM) S [Dt K (rowsD tk rk m n R), Dt K (bndD bk m B)] (fun v S' => ∃ b s xs, Ans m n R B b s xs ∧ (if b = true then SolP K CS m n R B (.int s) (lI xs) v S' else MirP K CM m n R B (lI xs) v S')) := fun vs S1 H1 st s al Q q => by
  obtain ⟨v, u, rfl, pv, pu⟩ := al.two
  exact ⟨S1, v, u, m, n, R, B, tk, rk, bk, rfl, s, pv, pu, hs.sys, fun r S' H' g p => q r S' H' g (solve_ans hs p)⟩
/-! ### shapes -/
theorem bd_lsD (n : Nat) (f : Nat → Int) : Bd 1 (.list (lsD n f)) := fun d hd => by
  obtain ⟨j, _, rfl⟩ := List.mem_map.mp hd
  trivial
theorem bd_lI (xs : List Int) : Bd 1 (lI xs) := fun d hd => by
  obtain ⟨j, _, rfl⟩ := List.mem_map.mp hd
  trivial
theorem bd_rowsL (m n : Nat) (R : Nat → Nat → Int) : Bd 2 (rowsL m n R) := fun d hd => by
  obtain ⟨j, _, rfl⟩ := List.mem_map.mp hd
  exact bd_lsD _ _
theorem bd_up {k : Nat} {d : PyData} (h : Bd k d) : Bd (k + 1) d := by
  induction k generalizing d with
  | zero => cases d <;> first | trivial | exact (h : False).elim
  | succ k ih =>
    cases d with
    | list ds => exact fun x hx => ih (h x hx)
    | tuple ds => exact fun x hx => ih (h x hx)
    | dict ds => exact h
    | _ => trivial
/-! ### a new list is changed -/
section
variable {X : Cx} {σ : L2.St} {S H : Hp} {o a b : Expr} {pos p apos : Pos} {D : Ends} {rest : List Stmt}
theorem al_of : ∀ {Ps : List (V → Hp → Prop)} {xs : List V} {H : Hp}, xs.length = Ps.length → (∀ (i : Nat) (x : V) (P : V → Hp → Prop), xs[i]? = some x → Ps[i]? = some P → P x H) → Al Ps xs H
  | [], [], _, _, _ => .nil
  | P :: Ps, x :: xs, _, hl, h => .cons (h 0 x P rfl rfl) (al_of (by simpa using hl) fun i y Q hy hQ => h (i + 1) y Q hy hQ)
theorem RowsN.lst {S S' : Hp} {m n : Nat} {R : Nat → Nat → Int} {v : V} (hn : n ≤ 1000) (h : RowsN S m n R v S') : LstP ((List.range m).map fun i => NewL K S (lsD n (R i))) v S' := by
  obtain ⟨l, xs, rfl, _, h1, h2, h3⟩ := h
  refine ⟨l, xs, rfl, h1, al_of (by rw [List.length_map, List.length_range]; exact h2) fun i x P hx hP => ?_⟩
  have hi : i < m := by rw [← h2]; exact (List.getElem?_eq_some_iff.mp hx).1
  rw [List.getElem?_map, List.getElem?_range hi] at hP
  obtain rfl := Option.some.inj hP
  obtain ⟨z, e1, z1, _, z2⟩ := h3 i hi
  rw [e1] at hx
  obtain rfl := Option.some.inj hx
  exact ⟨z, _, rfl, z1, z2, lsD_dts, by rw [lsV_len]; exact Nat.le_trans hn (by decide)⟩
theorem cut_free {S H S' H' : Hp} {l : Addr} {o : HO} (g : Gr S H S' H') (s : Same S H) (h0 : S l = none) (h1 : S' l = some o) (n : NT o := by intro _ z; cases z) : H l = none := Gr.isnew g h0 h1 n
end
end
end K04
namespace K04
open PySem PySem.Spec PyProof.Rows L2 Z Y LamX NdefX
section
variable {P : Program} {w : World} {K : PySem.W.Frag} {mg : Str → Option Value} {base : Heap} {f : Addr} {fd : FuncData}
/-! ## what stands around the law -/
section
variable {X : Cx} {σ : L2.St} {S : Hp} {es : List Expr} {pos p : Pos} {k : Nat} {x : Str} {sp : Sp} {R : V → Hp → Prop} {ds : List PyData}
/-- f() -/
theorem ee_call0 (D : KD X.prog X.w X.K X.mg X.base x k sp) (hr : Room k X.A) (hsp : SpE sp S [] R) (hg : Gl X x := by rfl) (hdb : (x == ("__debug__" : Str)) = false := by decide) : EE X σ S (.Call (.Name x p) [] [] pos) R := fun H s Q q => by
  obtain ⟨f, fd, ps, F, hm, hk, hb⟩ := D.ex
  exact he_of (pe_call0 F hr hg hm hk hb .nil pass0 hdb) (hsp [] S H (Same.refl S) s .nil Q fun v S' H' g r => q v S' H' g r)
/-- a display, told as new -/
theorem ee_lstN (h : EA X σ S es (Ds X.K ds)) (hz : ds.length ≤ sizeLine := by show _ ≤ 16777216; exact Nat.le_of_ble_eq_true rfl) : EE X σ S (.List es pos) (NewL X.K S ds) :=
  ee_lstA (vsP := fun vs S' => Dts X.K ds vs S') (fun H s Q q => h.2 H s Q fun vs S' H' g al => q vs S' H' g (al_dts al)) (fun vs S' h => by rw [h.1]; exact hz) fun vs S' p st hp h => ⟨p, vs, rfl, st.free hp, upd_same, h.up (Same.new hp), by rw [h.1]; exact hz⟩
end
/-! ### lists that will change -/
theorem LsN.del {Sb S : Hp} {n : Nat} {g : Nat → Int} {v : V} {l : Addr} {o : HO} (hl : Sb l = some o) (h : LsN Sb n g v S) : LsN Sb n g v (Y.del S l) := by
  obtain ⟨a, e, h0, h1⟩ := h
  exact ⟨a, e, h0, by rw [Y.del_ne (fun z => by rw [z, hl] at h0; cases h0)]; exact h1⟩
theorem RowsN.del {Sb S : Hp} {m n : Nat} {R : Nat → Nat → Int} {v : V} {l : Addr} {o : HO} (hl : Sb l = some o) (h : RowsN Sb m n R v S) : RowsN Sb m n R v (Y.del S l) := by
  obtain ⟨a, xs, e, h0, h1, h2, h3⟩ := h
  refine ⟨a, xs, e, h0, by rw [Y.del_ne (fun z => by rw [z, hl] at h0; cases h0)]; exact h1, h2, fun i hi => ?_⟩
  obtain ⟨b, e1, e2, e3, e4⟩ := h3 i hi
  exact ⟨b, e1, e2, e3, by rw [Y.del_ne (fun z => by rw [z, hl] at e2; cases e2)]; exact e4⟩
theorem cpV_del {Sb S : Hp} {d : PyData} {v : V} {l : Addr} {o : HO} (hf : Flat d) (hl : Sb l = some o) (h : CpV K Sb d v S) : CpV K Sb d v (Y.del S l) := by
  cases d with
  | list ds =>
    obtain ⟨a, xs, rfl, h0, h1, h2, hz⟩ := (show NewL K Sb ds v S from h)
    exact ⟨a, xs, rfl, h0, by rw [Y.del_ne (fun z => by rw [z, hl] at h0; cases h0)]; exact h1, ⟨h2.1, fun i x d hx hd => atm_dt (hf d (List.mem_of_getElem? hd)) (h2.2 i x d hx hd)⟩, hz⟩
  | none => exact atm_dt hf h
  | bool b => exact atm_dt hf h
  | int b => exact atm_dt hf h
  | str b => exact atm_dt hf h
  | tuple b => exact (hf : False).elim
  | dict b => exact (hf : False).elim
theorem newL_del {Sb S : Hp} {ds : List PyData} {v : V} {l : Addr} {o : HO} (hf : ∀ d ∈ ds, Atm d) (hl : Sb l = some o) (h : NewL K Sb ds v S) : NewL K Sb ds v (Y.del S l) := cpV_del (K := K) (d := .list ds) hf hl h
theorem SolN.del {C : Addr} {Sb S : Hp} {m n : Nat} {R : Nat → Nat → Int} {B : Nat → Int} {sc ns : PyData} {v : V} {l : Addr} {o : HO} (f1 : Flat sc) (f2 : Flat ns) (hl : Sb l = some o) (h : SolN K C Sb m n R B sc ns v S) : SolN K C Sb m n R B sc ns v (Y.del S l) := by
  obtain ⟨a, dx, rl, bl, us, un, e, h0, h1, h2, h3, h4, h5⟩ := h
  exact ⟨a, dx, rl, bl, us, un, e, h0, by rw [Y.del_ne (fun z => by rw [z, hl] at h0; cases h0)]; exact h1, h2.del hl, h3.del hl, cpV_del f1 hl h4, cpV_del f2 hl h5⟩
theorem MirN.del {C : Addr} {Sb S : Hp} {m n : Nat} {R : Nat → Nat → Int} {B : Nat → Int} {ns : PyData} {v : V} {l : Addr} {o : HO} (f2 : Flat ns) (hl : Sb l = some o) (h : MirN K C Sb m n R B ns v S) : MirN K C Sb m n R B ns v (Y.del S l) := by
  obtain ⟨a, dx, rl, bl, un, e, h0, h1, h2, h3, h5⟩ := h
  exact ⟨a, dx, rl, bl, un, e, h0, by rw [Y.del_ne (fun z => by rw [z, hl] at h0; cases h0)]; exact h1, h2.del hl, h3.del hl, cpV_del f2 hl h5⟩
theorem del_upd {S H : Hp} {l : Addr} {o : HO} (s : Same S H) : Same (Y.del S l) (upd H l o) := fun z o' e => by
  by_cases hz : z = l
  · rw [hz, Y.del_self] at e; cases e
  · rw [upd_ne hz]; rw [Y.del_ne hz] at e; exact s z o' e
theorem same_del {S0 S : Hp} {l : Addr} (h : S0 l = none) (s : Same S0 S) : Same S0 (Y.del S l) := fun z o e => by
  rw [Y.del_ne (fun q => by rw [q, h] at e; cases e)]; exact s z o e
/-! ### _law_some_rows, told as new -/
def NewF (K : PySem.W.Frag) (S : Hp) (n : Nat) (v : V) (S' : Hp) : Prop := ∃ f : Nat → Int, NewL K S (lsD n f) v S' ∧ ∀ j, j < n → (f j).natAbs ≤ 7
instance {S : Hp} {n : Nat} : Mn (NewF K S n) := ⟨fun s ⟨f, h, b⟩ => ⟨f, Mn.up s h, b⟩⟩
theorem lstPN_some {S S' : Hp} {m n : Nat} {v : V} (h : LstPN S ((List.range m).map fun _ => NewF K S n) v S') : ∃ R, RowsN S m n R v S' ∧ ∀ i j, i < m → j < n → (R i j).natAbs ≤ 7 := by
  obtain ⟨l, xs, S2, rfl, h0, s2, h1, s3, h2, al⟩ := h
  have hl : xs.length = m := by rw [al_len al, List.length_map, List.length_range]
  have key : ∀ i, i < m → ∃ f : Nat → Int, (∀ j, j < n → (f j).natAbs ≤ 7) ∧ ∃ b, xs[i]? = some (.ref b) ∧ S b = none ∧ b ≠ l ∧ S' b = some (.lst (lsV n f)) := fun i hi => by
    have hx : xs[i]? = some (xs[i]'(by omega)) := List.getElem?_eq_getElem _
    obtain ⟨P, hP, pp⟩ := al_get al hx
    rw [List.getElem?_map, List.getElem?_range hi] at hP
    obtain rfl := Option.some.inj hP
    obtain ⟨f, ⟨b, ys, e, b0, b1, b2, _⟩, hf⟩ := pp
    obtain rfl := lsV_of b2
    exact ⟨f, hf, b, by rw [hx, e], b0, (fun e => by rw [e, h1] at b1; cases b1), s3 _ _ b1⟩
  refine ⟨fun i => if h : i < m then Classical.choose (key i h) else fun _ => 0, ⟨l, xs, rfl, h0, h2, hl, fun i hi => ?_⟩, fun i j hi hj => ?_⟩
  · obtain ⟨b, e1, e2, e3, e4⟩ := (Classical.choose_spec (key i hi)).2
    exact ⟨b, e1, e2, e3, by show S' b = some (.lst (lsV n (if h : i < m then Classical.choose (key i h) else fun _ => 0))); rw [dif_pos hi]; exact e4⟩
  · show ((if h : i < m then Classical.choose (key i h) else fun _ => 0) j).natAbs ≤ 7
    rw [dif_pos hi]
    exact (Classical.choose_spec (key i hi)).1 j hj
def spSrN (K : PySem.W.Frag) : Sp := fun vs H Q _ => ∃ S v v1 v2, ∃ m n : Nat, vs = [v, v1, v2] ∧ Same S H ∧ BX v S ∧ Dt K (.int m) v1 S ∧ Dt K (.int n) v2 S ∧ m ≤ 1000 ∧ n ≤ 1000 ∧ ∀ u S' H', Gr S H S' H' → (∃ R, RowsN S m n R u S' ∧ ∀ i j, i < m → j < n → (R i j).natAbs ≤ 7) → Q u H'
theorem spSrN_E {S : Hp} {m n : Nat} (hm : m ≤ 1000) (hn : n ≤ 1000) : SpE (spSrN K) S [BX, Dt K (.int m), Dt K (.int n)] (fun v S' => ∃ R, RowsN S m n R v S' ∧ ∀ i j, i < m → j < n → (R i j).natAbs ≤ 7) := fun vs S1 H1 st s al Q q => by
  obtain ⟨a, b, c, rfl, p1, p2, p3⟩ := al.three
  exact ⟨S1, a, b, c, m, n, rfl, s, p1, p2, p3, hm, hn, fun u S' H' g ⟨R, h, hb⟩ => q u S' H' g ⟨R, h.dn st, hb⟩⟩
instance {S : Hp} {m n : Nat} : Mn (fun v S' => ∃ R, RowsN S m n R v S' ∧ ∀ i j, i < m → j < n → (R i j).natAbs ≤ 7) := ⟨fun s ⟨R, h, b⟩ => ⟨R, Mn.up s h, b⟩⟩
theorem ok_L_srN (F : FnT K "_law_some_rows" sL_some_rows f fd) (D1 : KD P w K mg base "_law_one" 2 (spB K Fone)) (g1 : mg "range" = none) : FnOk P w K mg base CX0 3 f fd ["_law_box", "_law_many", "_law_size"] (spSrN K) := by
  refine fn_hs F sc_Lsr (fun vs H Q E h => ?_) (fun cdv A outer sh H vs Q E hr h => ?_)
  · obtain ⟨S, v, v1, v2, m, n, rfl, _⟩ := h
    rfl
  · obtain ⟨S, v, v1, v2, m, n, rfl, s, hb, p1, p2, hm, hn, q⟩ := h
    refine hs_set (i := 3) (P := Dt K (.list some10)) (ee_lst (ds := some10) (ea_cons ee_int (ea_cons ee_int (ea_cons (ee_neg ee_int) (ea_cons ee_int (ea_cons (ee_neg ee_int) (ea_cons ee_int (ea_cons ee_int (ea_cons ee_int (ea_2 (ee_neg ee_int) ee_int)))))))))) s sc_Lsr.nd fun vs S1 H1 e1 ps => ?_
    have hb1 : BX v S1 := Mn.up e1.st hb
    have p11 := p1.up e1.st
    have p21 := p2.up e1.st
    have eU : ∀ k : Nat, Ds K (upto k) = (List.range k).map fun i => Dt K (.int (i : Nat)) := fun k => by unfold Ds upto; rw [List.map_map]; rfl
    refine hs_ret (P := LstPN S1 ((List.range m).map fun _ => NewF K S1 n)) (ee_lcNB (own := [("_law_turn", 5)]) (R := fun i => Dt K (.int (i : Nat))) (G := fun _ => NewF K S1 n) (ds := List.range m) (fun i _ => inferInstance) rfl sc_Lsr.nd (blkOk_by (N := NLsr) (sc := defScope sL_some_rows) (by decide +kernel)) (by rw [← eU]; exact ei_range g1 (by omega) (ee_var 1 rfl p11)) (by rw [List.length_range]; show _ ≤ 16777216; omega) ?el) e1.sub fun u S' H' g p => q u S' H' (e1.trans g) ?fin
    case fin =>
      obtain ⟨R, h1, h2⟩ := lstPN_some p
      exact ⟨R, h1.dn e1.st, h2⟩
    case el =>
      intro i hi v' S2 s2 pv
      refine ⟨_, wipe1, fun sh' H0 C cl fp => ⟨eg_name sc_Lsr.nd rfl (by first | exact Or.inl rfl | exact Or.inr rfl), ets_nil, ?_⟩⟩
      have hb2 : BX v S2 := Mn.up s2 hb1
      refine (ee_lcGN (own := [("_law_at", 4)]) (p := fun _ => true) (G := fun _ d => ∃ x : Int, d = .int x ∧ x.natAbs ≤ 7) (ds := upto n) rfl sc_Lsr.nd (blkOk_by (N := NLsr) (sc := cellsSc ["_law_box", "_law_size", "_law_some"] (compScope (retE0 (defBody sL_some_rows) 1))) (by decide +kernel)) (ei_range (n := n) g1 (by omega) (ee_var 2 rfl (p21.up s2))) (by rw [upto_len]; show _ ≤ 16777216; omega) ?el2).imp fun u S3 h => ?en2
      case en2 =>
        obtain ⟨rs, hp, hN⟩ := h
        rw [filter_true] at hp
        obtain ⟨l, rfl, h2, h3⟩ := paired_any (enc := PyData.int) hp
        have hl : l.length = n := by rw [h2, upto_len]
        rw [ints_of hl] at hN
        exact ⟨nth l, hN.dn s2, fun j hj => h3 _ (List.mem_of_getElem? (nth_get (by omega)))⟩
      case el2 =>
        intro d2 hd2 v4 S3 s3 p4
        refine ⟨_, wipe1, fun sh2 H2 C2 cl2 fp2 => ⟨eg_name sc_Lsr.nd rfl (by first | exact Or.inl rfl | exact Or.inr rfl), ets_nil, fun _ => ?_⟩⟩
        refine EE.exi (ee_callBx D1 (hr.mono (by decide)) ⟨some10, rfl, by decide, by decide, rfl⟩ (ea_2 (ee_var 0 rfl (Mn.up s3 hb2)) (ee_var 3 rfl (ps.up (s2.trans s3))))) fun d hd => ?_
        have : ∀ d ∈ some10, ∃ x : Int, d = .int x ∧ x.natAbs ≤ 7 := by
          unfold some10
          intro d hd
          simp only [List.mem_cons, List.not_mem_nil, or_false] at hd
          rcases hd with rfl | rfl | rfl | rfl | rfl | rfl | rfl | rfl | rfl | rfl <;> exact ⟨_, rfl, by decide⟩
        exact this d hd
def spTr : Sp := fun vs H Q _ => ∃ S, vs = [] ∧ Same S H ∧ ∀ S' H', Gr S H S' H' → Q (.bl true) H'
theorem spTr_E {S : Hp} : SpE spTr S [] (Dt K (.bool true)) := fun vs S1 H1 st s al Q q => by
  cases al
  exact ⟨S1, rfl, s, fun S' H' g => q _ S' H' g (.bl _)⟩
structure LE (P : Program) (w : World) (K : PySem.W.Frag) (mg : Str → Option Value) (base : Heap) (CO CS CM : Addr) : Prop where
  openD : KD P w K mg base "_law_open" 1 (spOpen K)
  take : KD P w K mg base "_law_take" 1 (spB K Ftake)
  one : KD P w K mg base "_law_one" 2 (spB K Fone)
  same : ∀ n, KD P w K mg base "_law_same" (n + 2) (spD K (Fsame n))
  someN : KD P w K mg base "_law_some_rows" 3 (spSrN K)
  numF : KD P w K mg base "_law_numbers_from" 1 (spD K FLnf)
  pntF : KD P w K mg base "_law_point_fits" 1 (spD K FLpf)
  mirF : KD P w K mg base "_law_mirror_fits" 1 (spD K FLmf)
  solv : KD P w K mg base "solve" 8 (spSolve K CS CM)
  mkS : MkSol P w K mg base CS
  mkM : MkMir P w K mg base CM
  mkK : MkMirK P w K mg base CM
  mkO : MkOut P w K mg base CO
  cO : Cls K CO
  cS : Cls K CS
  cM : Cls K CM
  gO : mg "Outcome" = some (.ref CO)
  gS : mg "Solution" = some (.ref CS)
  gM : mg "Mirror" = some (.ref CM)
  holO : KM P w K mg base CO "holds" 1 (spBoo false)
  holS : KM P w K mg base CS "holds" 8 (spSho K CS)
  holM : KM P w K mg base CM "holds" 8 (spMho K CM)
  booO : KM P w K mg base CO "__bool__" 1 (spBoo false)
  booS : KM P w K mg base CS "__bool__" 1 (spBoo true)
  booM : KM P w K mg base CM "__bool__" 1 (spBoo false)
  numS : KM P w K mg base CS "numbers" 6 (spOcp K CS "_numbers")
  numM : KM P w K mg base CM "numbers" 6 (spOcp K CM "_numbers")
  rowO : KM P w K mg base CO "rows" 1 (spOrw K CO)
  rowS : KM P w K mg base CS "rows" 1 (spOrw K CS)
  rowM : KM P w K mg base CM "rows" 1 (spOrw K CM)
  bndO : KM P w K mg base CO "bounds" 1 (spObd K CO)
  bndS : KM P w K mg base CS "bounds" 1 (spObd K CS)
  bndM : KM P w K mg base CM "bounds" 1 (spObd K CM)
  scl : ∃ p g fds pss, PropOf K CS "scale" p g ∧ FnOk P w K mg base CX0 6 g fds pss (spOcp K CS "_scale") ∧ L2.Binds K fds pss []
  repO : KM P w K mg base CO "__repr__" 2 (spRep K CO "Outcome")
  repS : KM P w K mg base CS "__repr__" 2 (spRep K CS "Solution")
  repM : KM P w K mg base CM "__repr__" 2 (spRep K CM "Mirror")
  flist : mg "list" = none
  frange : mg "range" = none
  fbool : mg "bool" = none
  fstr : mg "str" = none
  frepr : mg "repr" = none
  flen : mg "len" = none
  oso : KD P w K mg base "_law_outcomes_so" 10 spTr
abbrev NL : List Str := ["_law_script", "_law_box", "_law_turn", "_law_many", "_law_size", "_law_rows_z", "_law_ends", "_law_at", "_law_point", "_law_shares", "_law_scale_z", "_law_made", "_law_late", "_law_due", "_law_one_z", "_law_odd", "_law_far", "_law_right_p", "_law_right_m", "_law_told", "_law_plain_z", "_law_word", "_law_kept", "_law_line"]
theorem sc_law : FnScope NL ["_law_script"] (defScope slaw) := ⟨rfl, rfl, rfl, by decide +kernel, rfl, by decide +kernel, by decide +kernel⟩
def forBody (s : Stmt) : List Stmt := match s with
  | .For _ _ b _ _ => b
  | _ => []
def stAt (l : List Stmt) (i : Nat) : Stmt := l.getD i (.Pass ⟨0, 0, 0, 0⟩)
def turnBody : List Stmt := forBody (stAt (defBody slaw) 1)
abbrev LX (P : Program) (w : World) (K : PySem.W.Frag) (mg : Str → Option Value) (base : Heap) (f : Addr) (cdv : Value) (A : Around) (outer : List Env) (sh : Shared) (H0 : Hp) (E : XK) : Cx := (cxOf CX0 P w K mg base NL "law" (defScope slaw) f cdv A outer sh H0 E).nox
def spLaw (K : PySem.W.Frag) : Sp := fun vs H Q _ => ∃ (a : Addr) (ns : List Int), vs = [.ref a] ∧ SqL K H a (ns.map V.int) ∧ ns.length ≤ 63 ∧ ∀ H', Q (.bl true) H'
/-! ### the plain facts -/
section
variable {m n : Nat} {R : Nat → Nat → Int} {B : Nat → Int} {s : Int} {xs us : List Int}
theorem sol_pnt (hl : xs.length = n) : solH m n R B (.int s) (lI xs) = pntF m n R B s xs := by
  show (decide (1 ≤ s) && areN (.list (xs.map PyData.int)) && (decide (m = 0) || decide ((xs.map PyData.int).length = n)) && (List.range m).all fun i => decide (B i * s ≤ dotI (lsI n (R i)) (uns (xs.map PyData.int)))) = ((decide (1 ≤ s) && xs.all fun x => decide (0 ≤ x)) && (List.range m).all fun i => decide (B i * s ≤ dotI (lsI n (R i)) xs))
  rw [uns_ints, List.length_map, decide_eq_true hl, Bool.or_true, Bool.and_true]
  have e : areN (.list (xs.map PyData.int)) = xs.all fun x => decide (0 ≤ x) := by
    show ((xs.map PyData.int).all fun x => isNum x 0) = _
    rw [List.all_map]; rfl
  rw [e]
theorem mir_mir (hl : us.length = m) : mirH m n R B (lI us) = mirF m n R B us := by
  show (areN (.list (us.map PyData.int)) && decide ((us.map PyData.int).length = m) && decide (0 < dotI (uns (us.map PyData.int)) (lsI m B)) && (List.range n).all fun j => decide (dotI (uns (us.map PyData.int)) (lsI m fun i => R i j) ≤ 0)) = (((us.all fun x => decide (0 ≤ x)) && decide (0 < dotI us (lsI m B))) && (List.range n).all fun j => decide (dotI us (lsI m fun i => R i j) ≤ 0))
  rw [uns_ints, List.length_map, decide_eq_true hl, Bool.and_true]
  have e : areN (.list (us.map PyData.int)) = us.all fun x => decide (0 ≤ x) := by
    show ((us.map PyData.int).all fun x => isNum x 0) = _
    rw [List.all_map]; rfl
  rw [e]
theorem pnt_sol (hl : xs.length = n) (h : pntF m n R B s xs = true) : Sv.Sol m n R B s (nth xs) := by
  unfold pntF at h
  rw [Bool.and_eq_true, Bool.and_eq_true, decide_eq_true_eq, List.all_eq_true, List.all_eq_true] at h
  refine ⟨by omega, fun j hj => of_decide_eq_true (h.1.2 _ (List.mem_of_getElem? (nth_get (by omega)))), fun i hi => ?_⟩
  have := of_decide_eq_true (h.2 i (List.mem_range.mpr hi))
  rwa [dot_sm hl] at this
theorem mir_mirS (hl : us.length = m) (h : mirF m n R B us = true) : Sv.Mir m n R B (nth us) := by
  unfold mirF at h
  rw [Bool.and_eq_true, Bool.and_eq_true, decide_eq_true_eq, List.all_eq_true, List.all_eq_true] at h
  refine ⟨fun k hk => of_decide_eq_true (h.1.1 _ (List.mem_of_getElem? (nth_get (by omega)))), ?_, fun j hj => ?_⟩
  · have := h.1.2
    rwa [dot_sm2 hl] at this
  · have := of_decide_eq_true (h.2 j (List.mem_range.mpr hj))
    rwa [dot_sm2 hl] at this
end
/-- odd values -/
def Odd (d : PyData) : Prop := d = .none ∨ d = .int 3 ∨ d = .str "1" ∨ ∃ ds, d = .list ds ∧ ds.length ≤ 1000 ∧ ∀ x ∈ ds, (∃ i : Int, x = .int i ∧ i.natAbs ≤ 10) ∨ (∃ b, x = .bool b) ∨ x = .str "1"
theorem Odd.flat {d : PyData} (h : Odd d) : Flat d := by
  rcases h with rfl | rfl | rfl | ⟨ds, rfl, _, h⟩
  · trivial
  · trivial
  · trivial
  · intro x hx
    rcases h x hx with ⟨i, rfl, _⟩ | ⟨b, rfl⟩ | rfl <;> trivial
theorem Odd.uns {ds : List PyData} (h : Odd (.list ds)) : ds.length ≤ 1000 ∧ ∀ x ∈ uns ds, x.natAbs < 2 ^ 8000 := by
  rcases h with h | h | h | ⟨ds', h, hl, hx⟩
  · cases h
  · cases h
  · cases h
  · cases h
    refine ⟨hl, fun x hx' => ?_⟩
    obtain ⟨d, hd, rfl⟩ := List.mem_map.mp hx'
    rcases hx d hd with ⟨i, rfl, hi⟩ | ⟨b, rfl⟩ | rfl
    · exact lt8 (show (unI1 (.int i)).natAbs ≤ 10 from hi) (by decide)
    · exact Nat.pow_pos (by decide)
    · exact Nat.pow_pos (by decide)
theorem Odd.pap {m n : Nat} {R : Nat → Nat → Int} {B : Nat → Int} {sc d : PyData} (hs : Sml m n R B) (h : Odd d) (h1 : ∀ s, sc = .int s → s.natAbs ≤ 10) (h2 : Bd 4 sc) : PapOk m n R B sc d := by
  refine ⟨by have := hs.m6; omega, by have := hs.n4; omega, fun i j hi hj => lt8 (hs.R7 i j hi hj) (by decide), fun i hi => lt8 (hs.B9 i hi) (by decide), (fun s' e => lt8 (h1 s' e) (by decide)), fun ds e => ?_, (fun ds e => ?_), (fun ds e => ?_), h2⟩
  · subst e; exact h.uns
  · subst e; rcases h with h | h | h | ⟨_, h, _⟩ <;> cases h
  · subst e; rcases h with h | h | h | ⟨_, h, _⟩ <;> cases h
theorem odd_ints {xs : List Int} (hl : xs.length ≤ 1000) (h : ∀ x ∈ xs, x.natAbs ≤ 10) : Odd (lI xs) := .inr (.inr (.inr ⟨_, rfl, by rw [List.length_map]; exact hl, fun d hd => by obtain ⟨x, hx, rfl⟩ := List.mem_map.mp hd; exact .inl ⟨x, rfl, h x hx⟩⟩))
end
end K04
namespace K04
open PySem PySem.Spec PyProof.Rows L2 Z Y LamX NdefX
section
variable {P : Program} {w : World} {K : PySem.W.Frag} {mg : Str → Option Value} {base : Heap} {f : Addr} {fd : FuncData}
/-! ## the system, its papers -/
/-- the four lists that will change: each told by its address, all new over S0, all different -/
def Four (S0 : Hp) (m n : Nat) (R : Nat → Nat → Int) (B : Nat → Int) (xs us : List Int) (v5 v6 v8 v9 : V) (S : Hp) : Prop := ∃ lr rs l0 l6 l8 l9, v5 = .ref lr ∧ S lr = some (.lst rs) ∧ rs[0]? = some (.ref l0) ∧ S l0 = some (.lst (lsV n (R 0))) ∧ v6 = .ref l6 ∧ S l6 = some (.lst (lsV m B)) ∧ v8 = .ref l8 ∧ S l8 = some (.lst (lsV n (nth xs))) ∧ v9 = .ref l9 ∧ S l9 = some (.lst (lsV m (nth us))) ∧
  (S0 l0 = none ∧ S0 l6 = none ∧ S0 l8 = none ∧ S0 l9 = none) ∧ (lr ≠ l0 ∧ lr ≠ l6 ∧ lr ≠ l8 ∧ lr ≠ l9 ∧ l0 ≠ l6 ∧ l0 ≠ l8 ∧ l0 ≠ l9 ∧ l6 ≠ l8 ∧ l6 ≠ l9 ∧ l8 ≠ l9)
theorem Four.up {S0 : Hp} {m n : Nat} {R : Nat → Nat → Int} {B : Nat → Int} {xs us : List Int} {v5 v6 v8 v9 : V} {S S' : Hp} (h : Four S0 m n R B xs us v5 v6 v8 v9 S) (s : Same S S') : Four S0 m n R B xs us v5 v6 v8 v9 S' := by
  obtain ⟨lr, rs, l0, l6, l8, l9, e1, h1, e2, h2, e3, h3, e4, h4, e5, h5, z⟩ := h
  exact ⟨lr, rs, l0, l6, l8, l9, e1, s _ _ h1, e2, s _ _ h2, e3, s _ _ h3, e4, s _ _ h4, e5, s _ _ h5, z⟩
theorem four_mk {S0 S1 S2 S3 S4 S : Hp} {m n : Nat} {R : Nat → Nat → Int} {B : Nat → Int} {xs us : List Int} {v5 v6 v8 v9 : V} (m1 : 1 ≤ m) (s01 : Same S0 S1) (hr : RowsN S1 m n R v5 S2) (s2 : Same S1 S2) (h6 : LsN S2 m B v6 S3) (s3 : Same S2 S3) (h8 : LsN S3 n (nth xs) v8 S4) (s4 : Same S3 S4) (h9 : LsN S4 m (nth us) v9 S) (s5 : Same S4 S) : Four S0 m n R B xs us v5 v6 v8 v9 S := by
  obtain ⟨lr, rs, e1, r0, r1, r2, r3⟩ := hr
  obtain ⟨l0, q1, q2, q3, q4⟩ := r3 0 m1
  obtain ⟨l6, e3, a0, a1⟩ := h6
  obtain ⟨l8, e4, b0, b1⟩ := h8
  obtain ⟨l9, e5, c0, c1⟩ := h9
  have ne : ∀ {x y : Addr} {A : Hp} {o : HO}, A x = some o → A y = none → x ≠ y := fun h1 h2 z => by rw [z, h2] at h1; cases h1
  have r13 := s3 _ _ r1
  have r14 := s4 _ _ r13
  have q43 := s3 _ _ q4
  have q44 := s4 _ _ q43
  have a14 := s4 _ _ a1
  exact ⟨lr, rs, l0, l6, l8, l9, e1, s5 _ _ r14, q1, s5 _ _ q44, e3, s5 _ _ a14, e4, s5 _ _ b1, e5, c1, ⟨s01.free q2, (s01.trans s2).free a0, (s01.trans (s2.trans s3)).free b0, (s01.trans (s2.trans (s3.trans s4))).free c0⟩, q3.symm, ne r1 a0, ne r13 b0, ne r14 c0, ne q4 a0, ne q43 b0, ne q44 c0, ne a1 b0, ne a14 c0, ne b1 c0⟩
section
variable {CO CS CM : Addr} {cdv : Value} {A : Around} {outer : List Env} {sh : Shared} {H0 : Hp} {E : XK} {vs vb : V} {S H : Hp} {D : Ends} {rest : List Stmt}
/-- many, size, rows, ends, point, shares, scale -/
theorem turn_a (L : LE P w K mg base CO CS CM) (hr : Room 11 (LX P w K mg base f cdv A outer sh H0 E).A) {a2 a3 a4 a5 a6 a7 a8 a9 a10 a11 a12 a13 a14 a15 a16 a17 a18 a19 a20 a21 a22 a23 : Option V} (s : Same S H) (hb : BX vb S)
    (nx : ∀ (m n : Nat) R B xs us (i : Int) v3 v4 v5 v6 v8 v9 v10 S' H', Same S S' → Same S' H' → Sml m n R B → m ≤ 3 → n ≤ 3 → xs.length = n → (∀ x ∈ xs, x.natAbs ≤ 5) → us.length = m → (∀ x ∈ us, x.natAbs ≤ 3) → 1 ≤ i → i ≤ 3 → Four S m n R B xs us v5 v6 v8 v9 S' → Dt K (.int (m : Nat)) v3 S' → Dt K (.int (n : Nat)) v4 S' → Dt K (rowsL m n R) v5 S' → Dt K (.list (lsD m B)) v6 S' → Dt K (lI xs) v8 S' → Dt K (lI us) v9 S' → Dt K (.int i) v10 S' →
      HS (LX P w K mg base f cdv A outer sh H0 E) D rest [some vs, some vb, a2, some v3, some v4, some v5, some v6, a7, some v8, some v9, some v10, a11, a12, a13, a14, a15, a16, a17, a18, a19, a20, a21, a22, a23] H') :
    HS (LX P w K mg base f cdv A outer sh H0 E) D (stAt turnBody 0 :: stAt turnBody 1 :: stAt turnBody 2 :: stAt turnBody 3 :: stAt turnBody 4 :: stAt turnBody 5 :: rest) [some vs, some vb, a2, a3, a4, a5, a6, a7, a8, a9, a10, a11, a12, a13, a14, a15, a16, a17, a18, a19, a20, a21, a22, a23] H := by
  have tk3 : ∀ d, (∃ i : Int, d = PyData.int i ∧ ∃ x y : Int, x = 1 ∧ (0 ≤ y ∧ y < 3) ∧ i = x + y) → ∃ n : Nat, d = .int n ∧ 1 ≤ n ∧ n ≤ 3 := fun d ⟨i, e, x, y, hx, hy, hi⟩ => ⟨(1 + y).toNat, by rw [e]; congr 1; omega, by omega, by omega⟩
  refine hs_par (i := 3) (j := 4) (Pa := Ex K fun d => ∃ n : Nat, d = .int n ∧ 1 ≤ n ∧ n ≤ 3) (Pb := Ex K fun d => ∃ n : Nat, d = .int n ∧ 1 ≤ n ∧ n ≤ 3) rfl sc_law.nd
    ((ee_addE (F := fun i => i = 1) (G := fun i => 0 ≤ i ∧ i < 3) (ee_int.ex ⟨1, rfl, rfl⟩) (ee_callBx L.take (hr.mono (by decide)) ⟨3, rfl, by decide, by decide, rfl⟩ (ea_2 (ee_var 1 rfl hb) ee_int))).exi tk3)
    ((ee_addE (F := fun i => i = 1) (G := fun i => 0 ≤ i ∧ i < 3) (ee_int.ex ⟨1, rfl, rfl⟩) (ee_callBx L.take (hr.mono (by decide)) ⟨3, rfl, by decide, by decide, rfl⟩ (ea_2 (ee_var 1 rfl hb) ee_int))).exi tk3) s fun v3 v4 S1 H1 pm pn g1 => ?_
  obtain ⟨_, ⟨m, rfl, m1, m3⟩, pm⟩ := pm
  obtain ⟨_, ⟨n, rfl, n1, n3⟩, pn⟩ := pn
  have hb1 : BX vb S1 := Mn.up g1.st hb
  refine hs_set (i := 5) (P := fun v S' => ∃ R, RowsN S1 m n R v S' ∧ ∀ i j, i < m → j < n → (R i j).natAbs ≤ 7) (ee_call L.someN (hr.mono (by decide)) (ea_cons (ee_var 1 rfl hb1) (ea_2 (ee_var 3 rfl pm) (ee_var 4 rfl pn))) (spSrN_E (by omega) (by omega))) g1.sub sc_law.nd fun v5 S2 H2 g2 p5 => ?_
  obtain ⟨R, p5, hR⟩ := p5
  have hb2 : BX vb S2 := Mn.up g2.st hb1
  have pm2 := pm.up g2.st
  refine hs_setLcGN (i := 6) (own := [("_law_at", 7)]) (p := fun _ => true) (G := fun _ d => ∃ x : Int, d = .int x ∧ x.natAbs ≤ 9) (ds := upto m) rfl sc_law.nd rfl rfl rfl (blkOk_by (N := NL) (sc := defScope slaw) (by decide +kernel)) (ei_range (n := m) L.frange (by omega) (ee_var 3 rfl pm2)) (by rw [upto_len]; show _ ≤ 16777216; omega) ?el6 g2.sub fun v6 S3 H3 g3 p6 => ?_
  case el6 =>
    intro d hd v S4 s4 p7
    refine ⟨_, wipe1, fun sh' H0' C cl fp => ⟨eg_name sc_law.nd rfl (by first | exact Or.inl rfl | exact Or.inr rfl), ets_nil, fun _ => ?_⟩⟩
    have hb4 : BX vb S4 := Mn.up s4 hb2
    refine EE.exi (ee_callBx L.one (hr.mono (by decide)) ⟨[.int 0, .int 1, .int (-1), .int 3, .int (-4)], rfl, by decide, by decide, rfl⟩ (ea_2 (ee_var 1 rfl hb4) (ee_lst (ds := [.int 0, .int 1, .int (-1), .int 3, .int (-4)]) (ea_cons ee_int (ea_cons ee_int (ea_cons (ee_neg ee_int) (ea_2 ee_int (ee_neg ee_int)))))))) fun d hd => ?_
    simp only [List.mem_cons, List.not_mem_nil, or_false] at hd
    rcases hd with rfl | rfl | rfl | rfl | rfl <;> exact ⟨_, rfl, by decide⟩
  obtain ⟨rs6, hp6, p6⟩ := p6
  rw [filter_true] at hp6
  obtain ⟨l6, rfl, h62, h63⟩ := paired_any (enc := PyData.int) hp6
  have hl6 : l6.length = m := by rw [h62, upto_len]
  rw [ints_of hl6] at p6
  have hb3 : BX vb S3 := Mn.up g3.st hb2
  refine hs_setLcGN (i := 8) (own := [("_law_at", 7)]) (p := fun _ => true) (G := fun _ d => ∃ x : Int, d = .int x ∧ x.natAbs ≤ 5) (ds := upto n) rfl sc_law.nd rfl rfl rfl (blkOk_by (N := NL) (sc := defScope slaw) (by decide +kernel)) (ei_range (n := n) L.frange (by omega) (ee_var 4 rfl (pn.up (g2.st.trans g3.st)))) (by rw [upto_len]; show _ ≤ 16777216; omega) ?el8 g3.sub fun v8 S4 H4 g4 p8 => ?_
  case el8 =>
    intro d hd v S5 s5 p7
    refine ⟨_, wipe1, fun sh' H0' C cl fp => ⟨eg_name sc_law.nd rfl (by first | exact Or.inl rfl | exact Or.inr rfl), ets_nil, fun _ => ?_⟩⟩
    have hb5 : BX vb S5 := Mn.up s5 hb3
    refine EE.exi (ee_callBx L.one (hr.mono (by decide)) ⟨[.int 0, .int 1, .int 2, .int 5], rfl, by decide, by decide, rfl⟩ (ea_2 (ee_var 1 rfl hb5) (ee_lst (ds := [.int 0, .int 1, .int 2, .int 5]) (ea_cons ee_int (ea_cons ee_int (ea_2 ee_int ee_int)))))) fun d hd => ?_
    simp only [List.mem_cons, List.not_mem_nil, or_false] at hd
    rcases hd with rfl | rfl | rfl | rfl <;> exact ⟨_, rfl, by decide⟩
  obtain ⟨rs8, hp8, p8⟩ := p8
  rw [filter_true] at hp8
  obtain ⟨xs, rfl, h82, h83⟩ := paired_any (enc := PyData.int) hp8
  have hl8 : xs.length = n := by rw [h82, upto_len]
  rw [ints_of hl8] at p8
  have hb4 : BX vb S4 := Mn.up g4.st hb3
  refine hs_setLcGN (i := 9) (own := [("_law_at", 7)]) (p := fun _ => true) (G := fun _ d => ∃ x : Int, d = .int x ∧ x.natAbs ≤ 3) (ds := upto m) rfl sc_law.nd rfl rfl rfl (blkOk_by (N := NL) (sc := defScope slaw) (by decide +kernel)) (ei_range (n := m) L.frange (by omega) (ee_var 3 rfl (pm2.up (g3.st.trans g4.st)))) (by rw [upto_len]; show _ ≤ 16777216; omega) ?el9 g4.sub fun v9 S5 H5 g5 p9 => ?_
  case el9 =>
    intro d hd v S6 s6 p7
    refine ⟨_, wipe1, fun sh' H0' C cl fp => ⟨eg_name sc_law.nd rfl (by first | exact Or.inl rfl | exact Or.inr rfl), ets_nil, fun _ => ?_⟩⟩
    have hb6 : BX vb S6 := Mn.up s6 hb4
    refine EE.exi (ee_callBx L.one (hr.mono (by decide)) ⟨[.int 0, .int 1, .int 2, .int 3], rfl, by decide, by decide, rfl⟩ (ea_2 (ee_var 1 rfl hb6) (ee_lst (ds := [.int 0, .int 1, .int 2, .int 3]) (ea_cons ee_int (ea_cons ee_int (ea_2 ee_int ee_int)))))) fun d hd => ?_
    simp only [List.mem_cons, List.not_mem_nil, or_false] at hd
    rcases hd with rfl | rfl | rfl | rfl <;> exact ⟨_, rfl, by decide⟩
  obtain ⟨rs9, hp9, p9⟩ := p9
  rw [filter_true] at hp9
  obtain ⟨us, rfl, h92, h93⟩ := paired_any (enc := PyData.int) hp9
  have hl9 : us.length = m := by rw [h92, upto_len]
  rw [ints_of hl9] at p9
  have hb5 : BX vb S5 := Mn.up g5.st hb4
  refine hs_set (i := 10) (P := Ex K fun d => ∃ i : Int, d = .int i ∧ 1 ≤ i ∧ i ≤ 3) (EE.exi (ee_callBx L.one (hr.mono (by decide)) ⟨[.int 1, .int 2, .int 3], rfl, by decide, by decide, rfl⟩ (ea_2 (ee_var 1 rfl hb5) (ee_lst (ds := [.int 1, .int 2, .int 3]) (ea_cons ee_int (ea_2 ee_int ee_int))))) fun d hd => ?sc) g5.sub sc_law.nd fun v10 S6 H6 g6 p10 => ?_
  case sc =>
    simp only [List.mem_cons, List.not_mem_nil, or_false] at hd
    rcases hd with rfl | rfl | rfl <;> exact ⟨_, rfl, by decide, by decide⟩
  obtain ⟨_, ⟨i, rfl, i1, i3⟩, p10⟩ := p10
  have hs : Sml m n R (nth l6) := ⟨m1, by omega, n1, by omega, fun i j hi hj => Nat.le_trans (hR i j hi hj) (by decide), fun i hi => Nat.le_trans (h63 _ (List.mem_of_getElem? (nth_get (by omega)))) (by decide)⟩
  have q6 : LsN S2 m (nth l6) v6 S3 := newL_lsN p6
  have q8 : LsN S3 n (nth xs) v8 S4 := newL_lsN p8
  have q9 : LsN S4 m (nth us) v9 S5 := newL_lsN p9
  have F4 := (four_mk (S0 := S) m1 g1.st p5 g2.st q6 g3.st q8 g4.st q9 g5.st).up g6.st
  have e34 := g3.st.trans g4.st
  have e345 := e34.trans g5.st
  have e36 := e345.trans g6.st
  have e26 := g2.st.trans e36
  have e46 := g4.st.trans (g5.st.trans g6.st)
  have e56 := g5.st.trans g6.st
  refine nx m n R (nth l6) xs us i v3 v4 v5 v6 v8 v9 v10 S6 H6 (g1.st.trans e26) g6.sub hs m3 n3 hl8 h83 hl9 h93 i1 i3 F4 (pm.up e26) (pn.up e26) ((p5.dt (by omega) (by omega)).up e36) ((q6.dt (by omega)).up e46) ?_ ?_ p10
  · have := (q8.dt (K := K) (by omega)).up e56
    rwa [← ints_of hl8] at this
  · have := (q9.dt (K := K) (by omega)).up g6.st
    rwa [← ints_of hl9] at this
/-- the papers, judged -/
theorem turn_b (L : LE P w K mg base CO CS CM) (hr : Room 11 (LX P w K mg base f cdv A outer sh H0 E).A) {a2 a7 a11 a12 a13 a14 a15 a16 a17 a18 a19 a20 a21 a22 a23 : Option V} {m n : Nat} {R : Nat → Nat → Int} {B : Nat → Int} {xs us : List Int} {i : Int} {v3 v4 v5 v6 v8 v9 v10 : V} (s : Same S H) (hs : Sml m n R B) (hx : xs.length = n) (hx5 : ∀ x ∈ xs, x.natAbs ≤ 5) (hu : us.length = m) (hu3 : ∀ x ∈ us, x.natAbs ≤ 3) (i1 : 1 ≤ i) (i3 : i ≤ 3) (p5 : Dt K (rowsL m n R) v5 S) (p6 : Dt K (.list (lsD m B)) v6 S) (p8 : Dt K (lI xs) v8 S) (p9 : Dt K (lI us) v9 S) (p10 : Dt K (.int i) v10 S)
    (nx : ∀ v11 v12 v13 v14 S' H', Gr S H S' H' → SolN K CS S m n R B (.int i) (lI xs) v11 S' → MirN K CM S m n R B (lI us) v12 S' → NewL K S [.bool (pntF m n R B i xs), .bool (mirF m n R B us)] v13 S' →
      HS (LX P w K mg base f cdv A outer sh H0 E) D rest [some vs, some vb, a2, some v3, some v4, some v5, some v6, a7, some v8, some v9, some v10, some v11, some v12, some v13, some v14, a15, a16, a17, a18, a19, a20, a21, a22, a23] H') :
    HS (LX P w K mg base f cdv A outer sh H0 E) D (stAt turnBody 6 :: stAt turnBody 7 :: stAt turnBody 8 :: stAt turnBody 9 :: stAt turnBody 10 :: rest) [some vs, some vb, a2, some v3, some v4, some v5, some v6, a7, some v8, some v9, some v10, a11, a12, a13, a14, a15, a16, a17, a18, a19, a20, a21, a22, a23] H := by
  have hm6 := hs.m6
  have hn4 := hs.n4
  have hx8 : ∀ x ∈ xs, x.natAbs < 2 ^ 8000 := fun x h => lt8 (hx5 x h) (by decide)
  have hu8 : ∀ x ∈ us, x.natAbs < 2 ^ 8000 := fun x h => lt8 (hu3 x h) (by decide)
  have hi8 : i.natAbs < 2 ^ 8000 := lt8 (show i.natAbs ≤ 3 by omega) (by decide)
  refine hs_par (i := 11) (j := 12) (Pa := SolN K CS S m n R B (.int i) (lI xs)) (Pb := MirN K CM S m n R B (lI us)) rfl sc_law.nd (ee_mkSol (tk := false) (bk := false) (rk := fun _ => false) L.mkS (hr.mono (by decide)) L.gS (by omega) (by omega) trivial (flat_ints xs) (ee_var 5 rfl p5) (ee_var 6 rfl p6) (ee_var 10 rfl p10) (ee_var 8 rfl p8)) (ee_mkMir (tk := false) (bk := false) (rk := fun _ => false) L.mkM (hr.mono (by decide)) L.gM (by omega) (by omega) (flat_ints us) (ee_var 5 rfl p5) (ee_var 6 rfl p6) (ee_var 9 rfl p9)) s fun v11 v12 S1 H1 p11 p12 g1 => ?_
  have q5 := p5.up g1.st
  have q6 := p6.up g1.st
  have q8 := p8.up g1.st
  have q9 := p9.up g1.st
  have q10 := p10.up g1.st
  refine hs_set (i := 13) (P := NewL K S1 [.bool (pntF m n R B i xs), .bool (mirF m n R B us)]) (ee_lstN (ds := [.bool (pntF m n R B i xs), .bool (mirF m n R B us)]) (ea_2 (ee_callD L.pntF (hr.mono (by decide)) (ds := [rowsL m n R, .list (lsD m B), .int i, lI xs]) ⟨m, n, R, B, i, xs, rfl, hs.big hx8, hi8, by omega, rfl⟩ (ea_cons (ee_var 5 rfl q5) (ea_cons (ee_var 6 rfl q6) (ea_2 (ee_var 10 rfl q10) (ee_var 8 rfl q8))))) (ee_callD L.mirF (hr.mono (by decide)) (ds := [rowsL m n R, .list (lsD m B), lI us]) ⟨m, n, R, B, us, rfl, hs.big hu8, hu, hs.m1, rfl⟩ (ea_cons (ee_var 5 rfl q5) (ea_2 (ee_var 6 rfl q6) (ee_var 9 rfl q9)))))) g1.sub sc_law.nd fun v13 S2 H2 g2 p13 => ?_
  have r11 : SolP K CS m n R B (.int i) (lI xs) v11 S2 := Mn.up g2.st (p11.p (by omega) (by omega))
  have r12 : MirP K CM m n R B (lI us) v12 S2 := Mn.up g2.st (p12.p (by omega) (by omega))
  have d13 : Dt K (.list [.bool (pntF m n R B i xs), .bool (mirF m n R B us)]) v13 S2 := NewL.dt p13
  let D4 : List PyData := [.bool (pntF m n R B i xs), .bool (mirF m n R B us), .bool true, .bool false]
  have bd4 : Bd 1 (.list D4) := fun x hx => by
    simp only [D4, List.mem_cons, List.not_mem_nil, or_false] at hx
    rcases hx with rfl | rfl | rfl | rfl <;> trivial
  refine hs_ifN (ET.is (et_not (et_val (ee_callD (L.same 1) (hr.mono (by decide)) (ds := [.list D4, .list D4]) ⟨.list D4, rfl, bd4, rfl⟩ (ea_2 (ee_lst (ds := D4) (ea_cons (EE.isd (ee_meth0 L.holS L.cS (hr.mono (by decide)) (ee_var (P := SolP K CS m n R B (.int i) (lI xs)) 11 rfl r11) SolP.insP (spSho_E (hs.pap hi8 hx8 (by omega)))) (by rw [sol_pnt hx])) (ea_cons (EE.isd (ee_meth0 L.holM L.cM (hr.mono (by decide)) (ee_var (P := MirP K CM m n R B (lI us)) 12 rfl r12) MirP.insP (spMho_E (hs.pap (s := 0) (Nat.pow_pos (by decide)) hu8 (by omega)))) (by rw [mir_mir hu])) (ea_2 (ee_boolO (bo := true) L.booS (hr.mono (by decide)) L.fbool (ee_var (P := SolP K CS m n R B (.int i) (lI xs)) 11 rfl r11) SolP.ins spBoo_E) (ee_boolO (bo := false) L.booM (hr.mono (by decide)) L.fbool (ee_var (P := MirP K CM m n R B (lI us)) 12 rfl r12) MirP.ins spBoo_E))))) (ee_catL (ds1 := [.bool (pntF m n R B i xs), .bool (mirF m n R B us)]) (ds2 := [.bool true, .bool false]) (by show 4 ≤ 16777216; decide) (ee_var 13 rfl d13) (ee_lst (ds := [.bool true, .bool false]) (ea_2 ee_bl ee_bl))))))) rfl) g2.sub fun S3 H3 g3 => ?_
  haveI mnP : Mn (fun v S' => ∃ b s xs, Ans m n R B b s xs ∧ (if b = true then SolP K CS m n R B (.int s) (lI xs) v S' else MirP K CM m n R B (lI xs) v S')) := ⟨fun s ⟨b, s0, xs, ha, hp⟩ => ⟨b, s0, xs, ha, by
    cases b
    · exact Mn.up (P := MirP K CM m n R B (lI xs)) s hp
    · exact Mn.up (P := SolP K CS m n R B (.int s0) (lI xs)) s hp⟩⟩
  have e23 := g2.st.trans g3.st
  refine hs_set (i := 14) (P := fun v S' => ∃ b s xs, Ans m n R B b s xs ∧ (if b = true then SolP K CS m n R B (.int s) (lI xs) v S' else MirP K CM m n R B (lI xs) v S')) (ee_call L.solv (hr.mono (by decide)) (ea_2 (Pa := Dt K (rowsD false (fun _ => false) m n R)) (Pb := Dt K (bndD false m B)) (ee_var 5 rfl (q5.up e23)) (ee_var 6 rfl (q6.up e23))) (spSolve_E hs)) g3.sub sc_law.nd fun v14 S4 H4 g4 pf => ?_
  obtain ⟨b, s0, ys, ha, pf⟩ := pf
  have d134 : Dt K (.list [.bool (pntF m n R B i xs), .bool (mirF m n R B us)]) v13 S4 := d13.up (g3.st.trans g4.st)
  have hc1 : b = false → pntF m n R B i xs = false := fun e => by
    subst e
    cases h : pntF m n R B i xs with
    | false => rfl
    | true => exact (Sv.sol_mir (pnt_sol hx h) (ans_mir ha).2.U).elim
  have hc2 : b = true → mirF m n R B us = false := fun e => by
    subst e
    cases h : mirF m n R B us with
    | false => rfl
    | true => exact (Sv.sol_mir (ans_sol ha (by have := hs.m1; omega)).S (mir_mirS hu h)).elim
  have eb : EE (LX P w K mg base f cdv A outer sh H0 E) [some vs, some vb, a2, some v3, some v4, some v5, some v6, a7, some v8, some v9, some v10, some v11, some v12, some v13, some v14, a15, a16, a17, a18, a19, a20, a21, a22, a23] S4 (match stAt turnBody 10 with | .If (.BoolOp _ [.BoolOp _ [_, .UnaryOp _ e _] _, _] _) _ _ _ => e | _ => .Constant .none 0 ⟨0, 0, 0, 0⟩) (Dt K (.bool b)) := by
    cases b with
    | true => exact ee_boolO (bo := true) L.booS (hr.mono (by decide)) L.fbool (ee_var (P := SolP K CS m n R B (.int s0) (lI ys)) 14 rfl pf) SolP.ins spBoo_E
    | false => exact ee_boolO (bo := false) L.booM (hr.mono (by decide)) L.fbool (ee_var (P := MirP K CM m n R B (lI ys)) 14 rfl pf) MirP.ins spBoo_E
  have eb2 : EE (LX P w K mg base f cdv A outer sh H0 E) [some vs, some vb, a2, some v3, some v4, some v5, some v6, a7, some v8, some v9, some v10, some v11, some v12, some v13, some v14, a15, a16, a17, a18, a19, a20, a21, a22, a23] S4 (match stAt turnBody 10 with | .If (.BoolOp _ [_, .BoolOp _ [_, e] _] _) _ _ _ => e | _ => .Constant .none 0 ⟨0, 0, 0, 0⟩) (Dt K (.bool b)) := by
    cases b with
    | true => exact ee_boolO (bo := true) L.booS (hr.mono (by decide)) L.fbool (ee_var (P := SolP K CS m n R B (.int s0) (lI ys)) 14 rfl pf) SolP.ins spBoo_E
    | false => exact ee_boolO (bo := false) L.booM (hr.mono (by decide)) L.fbool (ee_var (P := MirP K CM m n R B (lI ys)) 14 rfl pf) MirP.ins spBoo_E
  refine hs_ifN (ET.is (et_w (ew_or (k1 := false) (k2 := false) (ET.is (et_w (ew_and (k2 := !b) (et_val (ee_ixL (ds := [.bool (pntF m n R B i xs), .bool (mirF m n R B us)]) (d := .bool (pntF m n R B i xs)) rfl (ee_var 13 rfl d134) ee_int)) fun _ => ew_and1 (et_not (et_val eb)))) ?c1) fun _ => ew_or1 (ET.is (et_w (ew_and (k2 := b) (et_val (ee_ixL (ds := [.bool (pntF m n R B i xs), .bool (mirF m n R B us)]) (d := .bool (mirF m n R B us)) rfl (ee_var 13 rfl d134) ee_int)) fun _ => ew_and1 (et_val eb2))) ?c2))) rfl) g4.sub fun S5 H5 g5 => ?_
  case c1 =>
    cases b with
    | true => simp
    | false => rw [hc1 rfl]; rfl
  case c2 =>
    cases b with
    | true => rw [hc2 rfl]; rfl
    | false => simp
  have e15 := g2.st.trans (g3.st.trans (g4.st.trans g5.st))
  exact nx v11 v12 v13 v14 S5 H5 (g1.trans (g2.trans (g3.trans (g4.trans g5)))) (Mn.up e15 p11) (Mn.up e15 p12) (Mn.up (g3.st.trans (g4.st.trans g5.st)) (p13.dn g1.st))
end
end
end K04
namespace K04
open PySem PySem.Spec PyProof.Rows L2 Z Y LamX NdefX
section
variable {P : Program} {w : World} {K : PySem.W.Frag} {mg : Str → Option Value} {base : Heap} {f : Addr} {fd : FuncData}
/-! ## odd numbers -/
theorem cut_mem {α : Type} {l : List α} {a b : Option Int} {x : α} (h : x ∈ Z.cutD l a b) : x ∈ l := List.mem_of_mem_drop (List.mem_of_mem_take h)
theorem cut_le {α : Type} {l : List α} {a b : Option Int} : (Z.cutD l a b).length ≤ l.length := by unfold Z.cutD; rw [List.length_take, List.length_drop]; omega
theorem flat_len {α : Type} (k : Nat) (x : α) : (List.replicate k [x]).flatten = List.replicate k x := by
  induction k with
  | zero => rfl
  | succ k ih => rw [List.replicate_succ, List.flatten_cons, ih]; rfl
def oddL (m n : Nat) (xs us : List Int) : List PyData := [.none, .int 3, .str "1", .list (xs.map .int ++ [.int 1]), .list (Z.cutD (xs.map .int) (some 1) none), .list (List.replicate (n : Int).toNat [.bool true]).flatten, .list (Z.cutD (xs.map .int) none (some (-1)) ++ [.int (-1)]), .list (Z.cutD (xs.map .int) none (some (-1)) ++ [.str "1"]), .list (us.map .int ++ [.int 0]), .list [], .list (List.replicate (m : Int).toNat [.int (-1)]).flatten]
theorem odd_of {m n : Nat} {xs us : List Int} (hm : m ≤ 3) (hn : n ≤ 3) (hx : xs.length = n) (hx5 : ∀ x ∈ xs, x.natAbs ≤ 5) (hu : us.length = m) (hu3 : ∀ x ∈ us, x.natAbs ≤ 3) : ∀ d ∈ oddL m n xs us, Odd d := fun d hd => by
  have intsL : ∀ {l : List Int} {k : Nat}, (∀ x ∈ l, x.natAbs ≤ k) → k ≤ 10 → ∀ d ∈ l.map PyData.int, (∃ i : Int, d = .int i ∧ i.natAbs ≤ 10) ∨ (∃ b, d = .bool b) ∨ d = .str "1" := fun h hk d hd => by
    obtain ⟨x, hx, rfl⟩ := List.mem_map.mp hd
    exact .inl ⟨x, rfl, Nat.le_trans (h x hx) hk⟩
  have lst : ∀ {ds : List PyData}, ds.length ≤ 1000 → (∀ x ∈ ds, (∃ i : Int, x = .int i ∧ i.natAbs ≤ 10) ∨ (∃ b, x = .bool b) ∨ x = .str "1") → Odd (.list ds) := fun h1 h2 => .inr (.inr (.inr ⟨_, rfl, h1, h2⟩))
  have app : ∀ {ds : List PyData} {e : PyData}, (∀ x ∈ ds, (∃ i : Int, x = .int i ∧ i.natAbs ≤ 10) ∨ (∃ b, x = .bool b) ∨ x = .str "1") → ((∃ i : Int, e = .int i ∧ i.natAbs ≤ 10) ∨ (∃ b, e = .bool b) ∨ e = .str "1") → ∀ x ∈ ds ++ [e], (∃ i : Int, x = .int i ∧ i.natAbs ≤ 10) ∨ (∃ b, x = .bool b) ∨ x = .str "1" := fun h1 h2 x hx => by
    rcases List.mem_append.mp hx with h | h
    · exact h1 x h
    · rw [List.mem_singleton.mp h]; exact h2
  have xi := intsL hx5 (by decide)
  have cl : ∀ {a b : Option Int}, (Z.cutD (xs.map PyData.int) a b).length ≤ 3 := fun {a b} => Nat.le_trans cut_le (by rw [List.length_map]; omega)
  unfold oddL at hd
  simp only [List.mem_cons, List.not_mem_nil, or_false] at hd
  rcases hd with rfl | rfl | rfl | rfl | rfl | rfl | rfl | rfl | rfl | rfl | rfl
  · exact .inl rfl
  · exact .inr (.inl rfl)
  · exact .inr (.inr (.inl rfl))
  · exact lst (by rw [List.length_append, List.length_map]; show _ + 1 ≤ 1000; omega) (app xi (.inl ⟨1, rfl, by decide⟩))
  · exact lst (Nat.le_trans cl (by decide)) fun x h => xi x (cut_mem h)
  · refine lst (by rw [flat_len, List.length_replicate]; omega) fun x h => ?_
    rw [flat_len] at h
    rw [List.eq_of_mem_replicate h]; exact .inr (.inl ⟨true, rfl⟩)
  · exact lst (by rw [List.length_append]; have := cl (a := none) (b := some (-1)); show _ + 1 ≤ 1000; omega) (app (fun x h => xi x (cut_mem h)) (.inl ⟨-1, rfl, by decide⟩))
  · exact lst (by rw [List.length_append]; have := cl (a := none) (b := some (-1)); show _ + 1 ≤ 1000; omega) (app (fun x h => xi x (cut_mem h)) (.inr (.inr rfl)))
  · exact lst (by rw [List.length_append, List.length_map]; show _ + 1 ≤ 1000; omega) (app (intsL hu3 (by decide)) (.inl ⟨0, rfl, by decide⟩))
  · exact lst (Nat.zero_le _) fun x h => nomatch h
  · refine lst (by rw [flat_len, List.length_replicate]; omega) fun x h => ?_
    rw [flat_len] at h
    rw [List.eq_of_mem_replicate h]; exact .inl ⟨-1, rfl, by decide⟩
theorem nums_ints {d : PyData} (h : numsF d = true) : ∃ ys, d = lI ys ∧ ∀ y ∈ ys, 0 ≤ y := by
  cases d <;> first | (simp [numsF] at h; done) | skip
  rename_i ds
  obtain ⟨h1, h2⟩ := are_ints (show (ds.all fun x => isNum x 0) = true from h)
  exact ⟨uns ds, congrArg PyData.list h1, h2⟩
def farL : List PyData := [.int 0, .int (-1), .bool true, .none, .str "1"]
theorem far_no {m n : Nat} {R : Nat → Nat → Int} {B : Nat → Int} {ns d : PyData} (h : d ∈ farL) : solH m n R B d ns = false := by
  unfold farL at h
  simp only [List.mem_cons, List.not_mem_nil, or_false] at h
  rcases h with rfl | rfl | rfl | rfl | rfl
  · cases ns <;> rfl
  · cases ns <;> rfl
  · rfl
  · rfl
  · rfl
theorem far_flat {d : PyData} (h : d ∈ farL) : Flat d ∧ Bd 4 d ∧ ∀ s, d = .int s → s.natAbs ≤ 10 := by
  unfold farL at h
  simp only [List.mem_cons, List.not_mem_nil, or_false] at h
  rcases h with rfl | rfl | rfl | rfl | rfl
  · exact ⟨trivial, trivial, fun s e => by cases e; decide⟩
  · exact ⟨trivial, trivial, fun s e => by cases e; decide⟩
  · exact ⟨trivial, trivial, fun s e => by cases e⟩
  · exact ⟨trivial, trivial, fun s e => by cases e⟩
  · exact ⟨trivial, trivial, fun s e => by cases e⟩
theorem solH_no {m n : Nat} {R : Nat → Nat → Int} {B : Nat → Int} {d : PyData} (h : numsF d = false) : solH m n R B (.int 1) d = false := by
  cases d <;> first | rfl | skip
  rename_i ds
  show (decide (1 ≤ (1 : Int)) && areN (.list ds) && _ && _) = false
  have : areN (.list ds) = false := h
  rw [this]; rfl
theorem mirH_no {m n : Nat} {R : Nat → Nat → Int} {B : Nat → Int} {d : PyData} (h : numsF d = false) : mirH m n R B d = false := by
  cases d <;> first | rfl | skip
  rename_i ds
  show (areN (.list ds) && _ && _ && _) = false
  have : areN (.list ds) = false := h
  rw [this]; rfl
section
variable {CO CS CM : Addr} {cdv : Value} {A : Around} {outer : List Env} {sh : Shared} {H0 : Hp} {E : XK} {vs vb : V} {S H : Hp} {D : Ends} {rest : List Stmt}
variable {m n : Nat} {R : Nat → Nat → Int} {B : Nat → Int} {xs us : List Int} {i : Int} {v3 v4 v5 v6 v8 v9 v10 v11 v12 v13 v14 : V}
theorem turn_c (L : LE P w K mg base CO CS CM) (hr : Room 11 (LX P w K mg base f cdv A outer sh H0 E).A) {a2 a7 a15 a16 a17 a18 a19 a20 a21 a22 a23 : Option V} (s : Same S H) (hb : BX vb S) (hs : Sml m n R B) (m3 : m ≤ 3) (n3 : n ≤ 3) (hx : xs.length = n) (hx5 : ∀ x ∈ xs, x.natAbs ≤ 5) (hu : us.length = m) (hu3 : ∀ x ∈ us, x.natAbs ≤ 3) (p3 : Dt K (.int (m : Nat)) v3 S) (p4 : Dt K (.int (n : Nat)) v4 S) (p5 : Dt K (rowsL m n R) v5 S) (p6 : Dt K (.list (lsD m B)) v6 S) (p8 : Dt K (lI xs) v8 S) (p9 : Dt K (lI us) v9 S)
    (nx : ∀ b15 b16 b17 b18 b19 S' H', Gr S H S' H' →
      HS (LX P w K mg base f cdv A outer sh H0 E) D rest [some vs, some vb, a2, some v3, some v4, some v5, some v6, a7, some v8, some v9, some v10, some v11, some v12, some v13, some v14, b15, b16, b17, b18, b19, a20, a21, a22, a23] H') :
    HS (LX P w K mg base f cdv A outer sh H0 E) D (stAt turnBody 11 :: stAt turnBody 12 :: stAt turnBody 13 :: stAt turnBody 14 :: stAt turnBody 15 :: stAt turnBody 16 :: rest) [some vs, some vb, a2, some v3, some v4, some v5, some v6, a7, some v8, some v9, some v10, some v11, some v12, some v13, some v14, a15, a16, a17, a18, a19, a20, a21, a22, a23] H := by
  have m1 := hs.m1
  have p8' : Dt K (.list (xs.map .int)) v8 S := p8
  have p9' : Dt K (.list (us.map .int)) v9 S := p9
  have hX : (xs.map PyData.int).length = n := by rw [List.length_map, hx]
  have hU : (us.map PyData.int).length = m := by rw [List.length_map, hu]
  have cl : ∀ {a b : Option Int}, (Z.cutD (xs.map PyData.int) a b).length ≤ n := fun {a b} => Nat.le_trans cut_le (by rw [List.length_map]; omega)
  refine hs_set (i := 15) (P := Ex K Odd) (EE.exi (ee_callBx L.one (hr.mono (by decide)) ⟨oddL m n xs us, rfl, Nat.succ_pos _, (by show 11 < 1073741824; decide), rfl⟩ (ea_2 (ee_var 1 rfl hb) (ee_lst (ds := oddL m n xs us) (ea_cons ee_non (ea_cons ee_int (ea_cons ee_str (ea_cons (ee_catL (ds2 := [.int 1]) (by rw [hX]; show n + 1 ≤ 16777216; omega) (ee_var 8 rfl p8') (ee_lst (ds := [.int 1]) (ea_1 ee_int))) (ea_cons (ee_slL (ee_var 8 rfl p8') (eo_some ee_int) eo_none) (ea_cons (ee_repL (ds := [.bool true]) (i := (n : Nat)) (by omega) (by omega) (by show 1 * _ ≤ 16777216; omega) (ee_lst (ds := [.bool true]) (ea_1 ee_bl)) (ee_var 4 rfl p4)) (ea_cons (ee_catL (ds2 := [.int (-1)]) (by have := cl (a := none) (b := some (-1)); show _ + 1 ≤ 16777216; omega) (ee_slL (ee_var 8 rfl p8') eo_none (eo_some (ee_neg ee_int))) (ee_lst (ds := [.int (-1)]) (ea_1 (ee_neg ee_int)))) (ea_cons (ee_catL (ds2 := [.str "1"]) (by have := cl (a := none) (b := some (-1)); show _ + 1 ≤ 16777216; omega) (ee_slL (ee_var 8 rfl p8') eo_none (eo_some (ee_neg ee_int))) (ee_lst (ds := [.str "1"]) (ea_1 ee_str))) (ea_cons (ee_catL (ds2 := [.int 0]) (by rw [hU]; show m + 1 ≤ 16777216; omega) (ee_var 9 rfl p9') (ee_lst (ds := [.int 0]) (ea_1 ee_int))) (ea_2 (ee_lst (ds := []) ea_nil) (ee_repL (ds := [.int (-1)]) (i := (m : Nat)) (by omega) (by omega) (by show 1 * _ ≤ 16777216; omega) (ee_lst (ds := [.int (-1)]) (ea_1 (ee_neg ee_int))) (ee_var 3 rfl p3)))))))))))) (by show 11 ≤ 16777216; decide)))) fun d hd => odd_of m3 n3 hx hx5 hu hu3 d hd) s sc_law.nd fun v15 S1 H1 g1 p15 => ?_
  obtain ⟨od, ho, p15⟩ := p15
  have hb1 : BX vb S1 := Mn.up g1.st hb
  refine hs_set (i := 16) (P := Ex K fun d => d ∈ farL) (ee_callBx L.one (hr.mono (by decide)) ⟨farL, rfl, by decide, by decide, rfl⟩ (ea_2 (ee_var 1 rfl hb1) (ee_lst (ds := farL) (ea_cons ee_int (ea_cons (ee_neg ee_int) (ea_cons ee_bl (ea_2 ee_non ee_str))))))) g1.sub sc_law.nd fun v16 S2 H2 g2 p16 => ?_
  obtain ⟨fa, hf, p16⟩ := p16
  obtain ⟨ff, fb, fs⟩ := far_flat hf
  have e12 := g1.st.trans g2.st
  have q4 := p4.up e12
  have q5 := p5.up e12
  have q6 := p6.up e12
  have q15 := p15.up g2.st
  refine hs_set (i := 17) (P := Dt K (.bool (solH m n R B (.int 1) od))) ?r1 g2.sub sc_law.nd fun v17 S3 H3 g3 p17 => ?_
  case r1 =>
    cases hn : numsF od with
    | false =>
      exact EE.isd (ee_and (k1 := false) (k2 := false) (EE.isd (ee_callD L.numF (hr.mono (by decide)) ⟨od, rfl, rfl⟩ (ea_1 (ee_var 15 rfl q15))) (by rw [hn])) fun h => nomatch h) (by rw [solH_no hn]; rfl)
    | true =>
      obtain ⟨ys, rfl, hy0⟩ := nums_ints hn
      obtain ⟨hyl, hy8⟩ := ho.uns
      rw [uns_ints] at hy8
      rw [List.length_map] at hyl
      refine EE.isd (ee_and (k1 := true) (EE.isd (ee_callD L.numF (hr.mono (by decide)) ⟨lI ys, rfl, rfl⟩ (ea_1 (ee_var 15 rfl q15))) (by rw [hn])) fun _ => ee_and (k2 := pntF m n R B 1 ys) (ee_eqI (ee_len L.flen (d := lI ys) (n := ys.length) (by show some (ys.map PyData.int).length = _; rw [List.length_map]) (ee_var 15 rfl q15) (hz := fun x h => by cases h)) (ee_var 4 rfl q4)) fun _ => ee_one (ee_callD L.pntF (hr.mono (by decide)) (ds := [rowsL m n R, .list (lsD m B), .int 1, lI ys]) ⟨m, n, R, B, 1, ys, rfl, hs.big hy8, Nat.one_lt_pow (by decide) (by decide), hyl, rfl⟩ (ea_cons (ee_var 5 rfl q5) (ea_cons (ee_var 6 rfl q6) (ea_2 ee_int (ee_var 15 rfl q15)))))) ?_
      by_cases hl : ys.length = n
      · rw [sol_pnt hl, decide_eq_true (by omega)]; rfl
      · have e : solH m n R B (.int 1) (lI ys) = false := by
          show (decide (1 ≤ (1 : Int)) && areN (.list (ys.map PyData.int)) && (decide (m = 0) || decide ((ys.map PyData.int).length = n)) && _) = false
          rw [List.length_map, decide_eq_false hl, decide_eq_false (show ¬ m = 0 by omega)]; simp
        rw [e, decide_eq_false (by omega)]; rfl
  refine hs_set (i := 18) (P := Dt K (.bool (mirH m n R B od))) ?r2 g3.sub sc_law.nd fun v18 S4 H4 g4 p18 => ?_
  case r2 =>
    have r3 := p3.up (e12.trans g3.st)
    have r5 := q5.up g3.st
    have r6 := q6.up g3.st
    have r15 := q15.up g3.st
    cases hn : numsF od with
    | false =>
      exact EE.isd (ee_and (k1 := false) (k2 := false) (EE.isd (ee_callD L.numF (hr.mono (by decide)) ⟨od, rfl, rfl⟩ (ea_1 (ee_var 15 rfl r15))) (by rw [hn])) fun h => nomatch h) (by rw [mirH_no hn]; rfl)
    | true =>
      obtain ⟨ys, rfl, hy0⟩ := nums_ints hn
      obtain ⟨hyl, hy8⟩ := ho.uns
      rw [uns_ints] at hy8
      rw [List.length_map] at hyl
      refine EE.isd (ee_and (k1 := true) (EE.isd (ee_callD L.numF (hr.mono (by decide)) ⟨lI ys, rfl, rfl⟩ (ea_1 (ee_var 15 rfl r15))) (by rw [hn])) fun _ => ee_and (k1 := decide ((ys.length : Int) = (m : Nat))) (k2 := mirF m n R B ys) (ee_eqI (ee_len L.flen (d := lI ys) (n := ys.length) (by show some (ys.map PyData.int).length = _; rw [List.length_map]) (ee_var 15 rfl r15) (hz := fun x h => by cases h)) (ee_var 3 rfl r3)) fun h => ee_one (ee_callD L.mirF (hr.mono (by decide)) (ds := [rowsL m n R, .list (lsD m B), lI ys]) ⟨m, n, R, B, ys, rfl, hs.big hy8, by have := of_decide_eq_true h; omega, m1, rfl⟩ (ea_cons (ee_var 5 rfl r5) (ea_2 (ee_var 6 rfl r6) (ee_var 15 rfl r15))))) ?_
      by_cases hl : ys.length = m
      · rw [mir_mir hl, decide_eq_true (by omega)]; rfl
      · have e : mirH m n R B (lI ys) = false := by
          show (areN (.list (ys.map PyData.int)) && decide ((ys.map PyData.int).length = m) && _ && _) = false
          rw [List.length_map, decide_eq_false hl]; simp
        rw [e, decide_eq_false (by omega)]; rfl
  have e14 := e12.trans (g3.st.trans g4.st)
  have s5 := p5.up e14
  have s6 := p6.up e14
  have s8 := p8.up e14
  have s15 := p15.up (g2.st.trans (g3.st.trans g4.st))
  have s16 := p16.up (g3.st.trans g4.st)
  have hi8 : ∀ x ∈ xs, x.natAbs ≤ 10 := fun x h => by have := hx5 x h; omega
  let T3 : List PyData := [.bool false, .bool (solH m n R B (.int 1) od), .bool (mirH m n R B od)]
  have bd3 : Bd 1 (.list T3) := fun x hx => by
    simp only [T3, List.mem_cons, List.not_mem_nil, or_false] at hx
    rcases hx with rfl | rfl | rfl <;> trivial
  refine hs_set (i := 19) (P := Dt K (.list T3)) (ee_lst (ds := T3) (ea_cons (EE.isd (ee_meth0 L.holS L.cS (hr.mono (by decide)) (P0 := SolP K CS m n R B fa (lI xs)) (EE.imp (ee_mkSol (tk := false) (bk := false) (rk := fun _ => false) L.mkS (hr.mono (by decide)) L.gS (by omega) (by omega) ff (flat_ints xs) (ee_var 5 rfl s5) (ee_var 6 rfl s6) (ee_var 16 rfl s16) (ee_var 8 rfl s8)) fun _ _ h => h.p (by omega) (by omega)) SolP.insP (spSho_E ((odd_ints (by omega) hi8).pap hs fs fb))) (by rw [far_no hf])) (ea_2 (ee_meth0 L.holS L.cS (hr.mono (by decide)) (P0 := SolP K CS m n R B (.int 1) od) (EE.imp (ee_mkSol (tk := false) (bk := false) (rk := fun _ => false) L.mkS (hr.mono (by decide)) L.gS (by omega) (by omega) (show Flat (.int 1) from trivial) ho.flat (ee_var 5 rfl s5) (ee_var 6 rfl s6) ee_int (ee_var 15 rfl s15)) fun _ _ h => h.p (by omega) (by omega)) SolP.insP (spSho_E (ho.pap hs (fun s e => by cases e; decide) trivial))) (ee_meth0 L.holM L.cM (hr.mono (by decide)) (P0 := MirP K CM m n R B od) (EE.imp (ee_mkMirK (tk := false) (bk := false) (rk := fun _ => false) L.mkK (hr.mono (by decide)) L.gM (by omega) (by omega) ho.flat (ee_var 15 rfl s15) (ee_var 6 rfl s6) (ee_var 5 rfl s5)) fun _ _ h => h.p (by omega) (by omega)) MirP.insP (spMho_E (ho.pap hs (fun s e => by cases e; decide) trivial)))))) g4.sub sc_law.nd fun v19 S5 H5 g5 p19 => ?_
  refine hs_ifN (ET.is (et_not (et_val (ee_callD (L.same 1) (hr.mono (by decide)) (ds := [.list T3, .list T3]) ⟨.list T3, rfl, bd3, rfl⟩ (ea_2 (ee_var 19 rfl p19) (ee_lst (ds := T3) (ea_cons ee_bl (ea_2 (ee_var 17 rfl (p17.up (g4.st.trans g5.st))) (ee_var 18 rfl (p18.up g5.st))))))))) rfl) g5.sub fun S6 H6 g6 => nx _ _ _ _ _ S6 H6 (g1.trans (g2.trans (g3.trans (g4.trans (g5.trans g6)))))
end
end
end K04
namespace K04
open PySem PySem.Spec PyProof.Rows L2 Z Y LamX NdefX
section
variable {P : Program} {w : World} {K : PySem.W.Frag} {mg : Str → Option Value} {base : Heap} {f : Addr} {fd : FuncData}
theorem rep_word : ∀ m : Nat, m ≤ 3 → ∀ z ∈ (["Outcome", "Solution", "Mirror"] : List Str), repT z m = z ++ (("(" ++ ((toString (m : Int) : String) : Str)) ++ " rows)" : Str) := by decide +kernel
theorem rep_len : ∀ m : Nat, m ≤ 3 → Str.length ((toString (m : Int) : String) : Str) ≤ 5 ∧ Str.length (("(" ++ ((toString (m : Int) : String) : Str)) : Str) ≤ 10 ∧ Str.length (("(" ++ ((toString (m : Int) : String) : Str)) ++ " rows)" : Str) ≤ 20 := by decide +kernel
section
variable {CO CS CM : Addr} {cdv : Value} {A : Around} {outer : List Env} {sh : Shared} {H0 : Hp} {E : XK} {vs vb : V} {S H : Hp} {D : Ends} {rest : List Stmt}
variable {m n : Nat} {R : Nat → Nat → Int} {B : Nat → Int} {xs us : List Int} {i : Int} {v3 v4 v5 v6 v8 v9 v10 v11 v12 v13 v14 : V}
theorem turn_d (L : LE P w K mg base CO CS CM) (hr : Room 11 (LX P w K mg base f cdv A outer sh H0 E).A) {a2 a7 a15 a16 a17 a18 a19 a20 a21 a22 a23 : Option V} (s : Same S H) (hs : Sml m n R B) (m3 : m ≤ 3) (n3 : n ≤ 3) (p3 : Dt K (.int (m : Nat)) v3 S) (p5 : Dt K (rowsL m n R) v5 S) (p6 : Dt K (.list (lsD m B)) v6 S) (p8 : Dt K (lI xs) v8 S) (p10 : Dt K (.int i) v10 S) (p11 : SolP K CS m n R B (.int i) (lI xs) v11 S) (p12 : MirP K CM m n R B (lI us) v12 S)
    (nx : ∀ b20 b21 S' H', Gr S H S' H' →
      HS (LX P w K mg base f cdv A outer sh H0 E) D rest [some vs, some vb, a2, some v3, some v4, some v5, some v6, a7, some v8, some v9, some v10, some v11, some v12, some v13, some v14, a15, a16, a17, a18, a19, b20, b21, a22, a23] H') :
    HS (LX P w K mg base f cdv A outer sh H0 E) D (stAt turnBody 17 :: stAt turnBody 18 :: stAt turnBody 19 :: stAt turnBody 20 :: rest) [some vs, some vb, a2, some v3, some v4, some v5, some v6, a7, some v8, some v9, some v10, some v11, some v12, some v13, some v14, a15, a16, a17, a18, a19, a20, a21, a22, a23] H := by
  obtain ⟨p, g, fds, pss, hp, Fs, hbs⟩ := L.scl
  have b4 : Bd 4 (lI xs) := bd_up (bd_up (bd_up (bd_lI xs)))
  refine hs_set (i := 20) (P := OutP K CO m n R B) (EE.imp (ee_mkOut (tk := false) (bk := false) (rk := fun _ => false) L.mkO (hr.mono (by decide)) L.gO (by omega) (by omega) (ee_var 5 rfl p5) (ee_var 6 rfl p6)) fun _ _ h => h.p (by omega) (by omega)) s sc_law.nd fun v20 S1 H1 g1 p20 => ?_
  have q3 := p3.up g1.st
  have q5 := p5.up g1.st
  have q6 := p6.up g1.st
  have q8 := p8.up g1.st
  have q10 := p10.up g1.st
  have q11 : SolP K CS m n R B (.int i) (lI xs) v11 S1 := Mn.up g1.st p11
  have q12 : MirP K CM m n R B (lI us) v12 S1 := Mn.up g1.st p12
  let D6 : List PyData := [.bool false, .bool false, rowsL m n R, .list (lsD m B), .int i, lI xs]
  have bd6 : Bd 3 (.list D6) := fun x hx => by
    simp only [D6, List.mem_cons, List.not_mem_nil, or_false] at hx
    rcases hx with rfl | rfl | rfl | rfl | rfl | rfl
    · trivial
    · trivial
    · exact bd_rowsL m n R
    · exact bd_up (bd_lsD m B)
    · trivial
    · exact bd_up (bd_lI xs)
  refine hs_ifN (ET.is (et_not (et_val (ee_callD (L.same 3) (hr.mono (by decide)) (ds := [.list D6, .list D6]) ⟨.list D6, rfl, bd6, rfl⟩ (ea_2
    (ee_lst (ds := D6) (ea_cons (ee_meth0 L.holO L.cO (hr.mono (by decide)) (ee_var (P := OutP K CO m n R B) 20 rfl p20) OutP.insP spBoo_E) (ea_cons (ee_boolO (bo := false) L.booO (hr.mono (by decide)) L.fbool (ee_var (P := OutP K CO m n R B) 20 rfl p20) OutP.ins spBoo_E) (ea_cons (EE.imp (ee_meth0 L.rowO L.cO (hr.mono (by decide)) (ee_var (P := OutP K CO m n R B) 20 rfl p20) OutP.insP (spOrw_E (fun _ _ h => h.rows) (by omega) (by omega))) fun _ _ h => h.dt (by omega) (by omega)) (ea_cons (EE.imp (ee_meth0 L.bndO L.cO (hr.mono (by decide)) (ee_var (P := OutP K CO m n R B) 20 rfl p20) OutP.insP (spObd_E (fun _ _ h => h.bnds) (by omega))) fun _ _ h => h.dt (by omega)) (ea_2 (ee_scl (R := R) (B := B) (m := m) (n := n) (ns := lI xs) L.cS hp Fs hbs trivial (hr.mono (by decide)) (ee_var (P := SolP K CS m n R B (.int i) (lI xs)) 11 rfl q11)) (EE.imp (ee_meth0 L.numS L.cS (hr.mono (by decide)) (ee_var (P := SolP K CS m n R B (.int i) (lI xs)) 11 rfl q11) SolP.insP (spOcp_E (fun _ _ h => h.nums) b4)) fun _ _ h => h.dt)))))))
    (ee_lst (ds := D6) (ea_cons ee_bl (ea_cons ee_bl (ea_cons (ee_var 5 rfl q5) (ea_cons (ee_var 6 rfl q6) (ea_2 (ee_var 10 rfl q10) (ee_var 8 rfl q8))))))))))) rfl) g1.sub fun S2 H2 g2 => ?_
  have hi : ((m : Nat) : Int).natAbs.log2 < 1920 := by
    have : ((m : Nat) : Int).natAbs = m := by omega
    rw [this]
    exact Nat.lt_of_le_of_lt (Nat.log2_le_self _) (by omega)
  obtain ⟨l1, l2, l3⟩ := rep_len m m3
  have e1 : Str.length ("(" : Str) = 1 := by decide +kernel
  have e2 : Str.length (" rows)" : Str) = 6 := by decide +kernel
  let W : Str := (("(" ++ ((toString (m : Int) : String) : Str)) ++ " rows)" : Str)
  refine hs_set (i := 21) (P := Dt K (.str W)) (ee_catS (by show _ ≤ 16777216; omega) (ee_catS (by show _ ≤ 16777216; omega) ee_str (ee_strOf L.fstr hi (ee_var 3 rfl (q3.up g2.st)))) ee_str) g2.sub sc_law.nd fun v21 S3 H3 g3 p21 => ?_
  have e23 := g2.st.trans g3.st
  have r20 : OutP K CO m n R B v20 S3 := Mn.up e23 p20
  have r11 : SolP K CS m n R B (.int i) (lI xs) v11 S3 := Mn.up e23 q11
  have r12 : MirP K CM m n R B (lI us) v12 S3 := Mn.up e23 q12
  have z1 : Str.length ("Outcome" : Str) = 7 := by decide +kernel
  have z2 : Str.length ("Solution" : Str) = 8 := by decide +kernel
  have z3 : Str.length ("Mirror" : Str) = 6 := by decide +kernel
  have l3' : W.length ≤ 20 := l3
  let D3 : List PyData := [.str (repT "Outcome" m), .str (repT "Solution" m), .str (repT "Mirror" m)]
  have bd3 : Bd 1 (.list D3) := fun x hx => by
    simp only [D3, List.mem_cons, List.not_mem_nil, or_false] at hx
    rcases hx with rfl | rfl | rfl <;> trivial
  have w1 := rep_word m m3 "Outcome" (.head _)
  have w2 := rep_word m m3 "Solution" (.tail _ (.head _))
  have w3 := rep_word m m3 "Mirror" (.tail _ (.tail _ (.head _)))
  refine hs_ifN (ET.is (et_not (et_val (ee_callD (L.same 1) (hr.mono (by decide)) (ds := [.list D3, .list D3]) ⟨.list D3, rfl, bd3, rfl⟩ (ea_2
    (ee_lst (ds := D3) (ea_cons (ee_repr L.repO (hr.mono (by decide)) L.frepr (ee_var (P := OutP K CO m n R B) 20 rfl r20) OutP.ins (spRep_E (fun _ _ h => h.rep) m3)) (ea_2 (ee_repr L.repS (hr.mono (by decide)) L.frepr (ee_var (P := SolP K CS m n R B (.int i) (lI xs)) 11 rfl r11) SolP.ins (spRep_E (fun _ _ h => h.rep) m3)) (ee_repr L.repM (hr.mono (by decide)) L.frepr (ee_var (P := MirP K CM m n R B (lI us)) 12 rfl r12) MirP.ins (spRep_E (fun _ _ h => h.rep) m3)))))
    (ee_lst (ds := D3) (ea_cons (EE.isd (ee_catS (x := "Outcome") (y := W) (by show _ ≤ 16777216; omega) ee_str (ee_var 21 rfl p21)) (by rw [w1])) (ea_2 (EE.isd (ee_catS (x := "Solution") (y := W) (by show _ ≤ 16777216; omega) ee_str (ee_var 21 rfl p21)) (by rw [w2])) (EE.isd (ee_catS (x := "Mirror") (y := W) (by show _ ≤ 16777216; omega) ee_str (ee_var 21 rfl p21)) (by rw [w3]))))))))) rfl) g3.sub fun S4 H4 g4 => ?_
  exact nx _ _ S4 H4 (g1.trans (g2.trans (g3.trans g4)))
end
end
end K04
namespace K04
open PySem PySem.Spec PyProof.Rows L2 Z Y LamX NdefX
section
variable {P : Program} {w : World} {K : PySem.W.Frag} {mg : Str → Option Value} {base : Heap} {f : Addr} {fd : FuncData}
/-- the copies that are kept: six things, all new over Sb -/
def KptN (Sb : Hp) (m n : Nat) (R : Nat → Nat → Int) (B : Nat → Int) (xs us : List Int) (v : V) (S : Hp) : Prop := ∃ p a b c d e g, v = .ref p ∧ Sb p = none ∧ S p = some (.lst [a, b, c, d, e, g]) ∧ LsN Sb n (nth xs) a S ∧ RowsN Sb m n R b S ∧ LsN Sb m B c S ∧ LsN Sb m (nth us) d S ∧ RowsN Sb m n R e S ∧ LsN Sb m B g S
def kptD (m n : Nat) (R : Nat → Nat → Int) (B : Nat → Int) (xs us : List Int) : List PyData := [.list (lsD n (nth xs)), rowsL m n R, .list (lsD m B), .list (lsD m (nth us)), rowsL m n R, .list (lsD m B)]
section
variable {Sb S : Hp} {m n : Nat} {R : Nat → Nat → Int} {B : Nat → Int} {xs us : List Int} {v : V}
instance : Mn (KptN Sb m n R B xs us) := ⟨fun s ⟨p, a, b, c, d, e, g, h1, h2, h3, h4, h5, h6, h7, h8, h9⟩ => ⟨p, a, b, c, d, e, g, h1, h2, s _ _ h3, Mn.up s h4, Mn.up s h5, Mn.up s h6, Mn.up s h7, Mn.up s h8, Mn.up s h9⟩⟩
theorem KptN.del {l : Addr} {o : HO} (hl : Sb l = some o) (h : KptN Sb m n R B xs us v S) : KptN Sb m n R B xs us v (Y.del S l) := by
  obtain ⟨p, a, b, c, d, e, g, h1, h2, h3, h4, h5, h6, h7, h8, h9⟩ := h
  exact ⟨p, a, b, c, d, e, g, h1, h2, by rw [Y.del_ne (fun z => by rw [z, hl] at h2; cases h2)]; exact h3, h4.del hl, h5.del hl, h6.del hl, h7.del hl, h8.del hl, h9.del hl⟩
theorem KptN.dt (hm : m ≤ 1000) (hn : n ≤ 1000) (h : KptN Sb m n R B xs us v S) : Dt K (.list (kptD m n R B xs us)) v S := by
  obtain ⟨p, a, b, c, d, e, g, rfl, h2, h3, h4, h5, h6, h7, h8, h9⟩ := h
  exact Dt.lst_mk h3 (al_dts (ds := kptD m n R B xs us) (.cons (h4.dt hn) (.cons (h5.dt hm hn) (.cons (h6.dt hm) (.cons (h7.dt hm) (.cons (h8.dt hm hn) (.cons (h9.dt hm) .nil)))))))  (by show 6 ≤ 16777216; decide)
end
theorem bd_pair {k : Nat} {d e : PyData} (h1 : Bd k d) (h2 : Bd k e) : Bd (k + 1) (.list [d, e]) := fun x hx => by
  simp only [List.mem_cons, List.not_mem_nil, or_false] at hx
  rcases hx with rfl | rfl
  · exact h1
  · exact h2
section
variable {CO CS CM : Addr} {cdv : Value} {A : Around} {outer : List Env} {sh : Shared} {H0 : Hp} {E : XK} {vs vb : V} {S S0 H : Hp} {D : Ends} {rest : List Stmt}
variable {m n : Nat} {R : Nat → Nat → Int} {B : Nat → Int} {xs us : List Int} {i : Int} {v3 v4 v5 v6 v8 v9 v10 v11 v12 v13 v14 : V}
/-- the copies; then the four lists change -/
theorem turn_e (L : LE P w K mg base CO CS CM) (hr : Room 11 (LX P w K mg base f cdv A outer sh H0 E).A) {a2 a7 a15 a16 a17 a18 a19 a20 a21 a22 a23 : Option V} {Sb : Hp} {b1 b2 : Bool} (s0 : Same S0 Sb) (sb : Same Sb S) (s : Same S H) (hs : Sml m n R B) (hx : xs.length = n) (hu : us.length = m) (p5 : Dt K (rowsL m n R) v5 S) (F4 : Four S0 m n R B xs us v5 v6 v8 v9 Sb) (p11 : SolN K CS Sb m n R B (.int i) (lI xs) v11 S) (p12 : MirN K CM Sb m n R B (lI us) v12 S) (p13 : NewL K Sb [.bool b1, .bool b2] v13 S)
    (nx : ∀ v22 S' H', Same S0 S' → Same S' H' → SolP K CS m n R B (.int i) (lI xs) v11 S' → MirP K CM m n R B (lI us) v12 S' → Dt K (.list [.bool b1, .bool b2]) v13 S' → Dt K (.list (kptD m n R B xs us)) v22 S' →
      HS (LX P w K mg base f cdv A outer sh H0 E) D rest [some vs, some vb, a2, some v3, some v4, some v5, some v6, a7, some v8, some v9, some v10, some v11, some v12, some v13, some v14, a15, a16, a17, a18, a19, a20, a21, some v22, a23] H') :
    HS (LX P w K mg base f cdv A outer sh H0 E) D (stAt turnBody 21 :: stAt turnBody 22 :: stAt turnBody 23 :: stAt turnBody 24 :: stAt turnBody 25 :: rest) [some vs, some vb, a2, some v3, some v4, some v5, some v6, a7, some v8, some v9, some v10, some v11, some v12, some v13, some v14, a15, a16, a17, a18, a19, a20, a21, a22, a23] H := by
  have hm6 := hs.m6
  have hn4 := hs.n4
  obtain ⟨lr, rs, l0, l6, l8, l9, rfl, h1, e2, h2, rfl, h3, rfl, h4, rfl, h5, ⟨z0, z6, z8, z9⟩, ⟨x1, x2, x3, x4, x5, x6, x7, x8, x9, x10⟩⟩ := F4
  have k6 := sb _ _ h3
  have k8 := sb _ _ h4
  have k9 := sb _ _ h5
  have p6 : Dt K (.list (lsD m B)) (.ref l6) S := lsV_dt k6 (by omega)
  have p8 : Dt K (.list (lsD n (nth xs))) (.ref l8) S := lsV_dt k8 (by omega)
  have p9 : Dt K (.list (lsD m (nth us))) (.ref l9) S := lsV_dt k9 (by omega)
  refine hs_set (i := 22) (P := KptN S m n R B xs us) (ee_lstA (vsP := fun vs S' => Al [LsN S n (nth xs), RowsN S m n R, LsN S m B, LsN S m (nth us), RowsN S m n R, LsN S m B] vs S') (fun H s Q q => (ea_cons (EE.imp (ee_listN L.flist (.inl rfl) (ee_var 8 rfl p8)) fun _ _ h => newL_lsN h) (ea_cons ?rw (ea_cons (EE.imp (ee_listN L.flist (.inl rfl) (ee_var 6 rfl p6)) fun _ _ h => newL_lsN h) (ea_cons (EE.imp (ee_listN L.flist (.inl rfl) (ee_var 9 rfl p9)) fun _ _ h => newL_lsN h) (ea_2 ?rw2 (EE.imp (ee_listN L.flist (.inl rfl) (ee_var 6 rfl p6)) fun _ _ h => newL_lsN h)))))).2 H s Q fun vs S' H' g al => q vs S' H' g al) (fun vs S' h => by rw [al_len h]; show 6 ≤ 16777216; decide) fun vs S' p st hp h => ?kp) s sc_law.nd fun v22 S1 H1 g1 p22 => ?_
  case rw => exact (ee_lcNB (own := [("_law_line", 23)]) (R := fun i => Dt K (.list (lsD n (R i)))) (G := fun i => NewL K S (lsD n (R i))) (ds := List.range m) (fun i _ => inferInstance) rfl sc_law.nd (blkOk_by (N := NL) (sc := defScope slaw) (by decide +kernel)) (ei_sqF (t := false) (f := fun i => .list (lsD n (R i))) (ee_var 5 rfl p5)) (by rw [List.length_range]; show _ ≤ 16777216; omega) (fun i hi v S' hs hv => ⟨_, wipe1, fun sh' H0 C' cl fp => ⟨eg_name sc_law.nd rfl (by first | exact Or.inl rfl | exact Or.inr rfl), ets_nil, (ee_listN L.flist (.inl rfl) (ee_var 23 rfl hv)).imp fun u S2 h => h.dn hs⟩⟩)).imp fun _ _ h => lstPN_rows h
  case rw2 => exact (ee_lcNB (own := [("_law_line", 23)]) (R := fun i => Dt K (.list (lsD n (R i)))) (G := fun i => NewL K S (lsD n (R i))) (ds := List.range m) (fun i _ => inferInstance) rfl sc_law.nd (blkOk_by (N := NL) (sc := defScope slaw) (by decide +kernel)) (ei_sqF (t := false) (f := fun i => .list (lsD n (R i))) (ee_var 5 rfl p5)) (by rw [List.length_range]; show _ ≤ 16777216; omega) (fun i hi v S' hs hv => ⟨_, wipe1, fun sh' H0 C' cl fp => ⟨eg_name sc_law.nd rfl (by first | exact Or.inl rfl | exact Or.inr rfl), ets_nil, (ee_listN L.flist (.inl rfl) (ee_var 23 rfl hv)).imp fun u S2 h => h.dn hs⟩⟩)).imp fun _ _ h => lstPN_rows h
  case kp =>
    have sn : Same S' (upd S' p (.lst vs)) := Same.new hp
    cases h with | cons a1 h => cases h with | cons a2 h => cases h with | cons a3 h => cases h with | cons a4 h => cases h with | cons a5 h => cases h with | cons a6 h =>
    cases h
    exact ⟨p, _, _, _, _, _, _, rfl, st.free hp, upd_same, Mn.up sn a1, Mn.up sn a2, Mn.up sn a3, Mn.up sn a4, Mn.up sn a5, Mn.up sn a6⟩
  have sb1 := sb.trans g1.st
  have q22 : KptN Sb m n R B xs us v22 S1 := by
    obtain ⟨p, a, b, c, d, e, g, h1, h2, h3, h4, h5, h6, h7, h8, h9⟩ := p22
    exact ⟨p, a, b, c, d, e, g, h1, sb.free h2, h3, h4.dn sb, h5.dn sb, h6.dn sb, h7.dn sb, h8.dn sb, h9.dn sb⟩
  have q11 : SolN K CS Sb m n R B (.int i) (lI xs) v11 S1 := Mn.up g1.st p11
  have q12 : MirN K CM Sb m n R B (lI us) v12 S1 := Mn.up g1.st p12
  have q13 : NewL K Sb [.bool b1, .bool b2] v13 S1 := Mn.up g1.st p13
  have fx := flat_ints xs
  have fu := flat_ints us
  have fb : ∀ d ∈ [PyData.bool b1, .bool b2], Atm d := fun d hd => by
    simp only [List.mem_cons, List.not_mem_nil, or_false] at hd
    rcases hd with rfl | rfl <;> trivial
  -- point
  refine hs_appendS (r := l8) (xs := lsV n (nth xs)) (P := Dt K (.int 4)) (ee_var (P := fun w _ => w = .ref l8) 8 rfl rfl) g1.sub (sb1 _ _ h4) (by rw [lsV_len]; omega) ee_int fun y8 S2 H2 g2 _ => ?_
  have sb2 := sb1.trans g2.st
  have t2 : Same (Y.del S2 l8) (upd H2 l8 (.lst (lsV n (nth xs) ++ [y8]))) := del_upd g2.sub
  have u2 : Same S0 (Y.del S2 l8) := same_del z8 (s0.trans sb2)
  have r11 := (show SolN K CS Sb m n R B (.int i) (lI xs) v11 S2 from Mn.up g2.st q11).del (show Flat (.int i) from trivial) fx h4
  have r12 := (show MirN K CM Sb m n R B (lI us) v12 S2 from Mn.up g2.st q12).del fu h4
  have r13 := newL_del fb h4 (show NewL K Sb [.bool b1, .bool b2] v13 S2 from Mn.up g2.st q13)
  have r22 := (show KptN Sb m n R B xs us v22 S2 from Mn.up g2.st q22).del h4
  have a9 : Y.del S2 l8 l9 = some (.lst (lsV m (nth us))) := by rw [Y.del_ne (Ne.symm x10)]; exact sb2 _ _ h5
  have a6 : Y.del S2 l8 l6 = some (.lst (lsV m B)) := by rw [Y.del_ne x8]; exact sb2 _ _ h3
  have a0 : Y.del S2 l8 l0 = some (.lst (lsV n (R 0))) := by rw [Y.del_ne x6]; exact sb2 _ _ h2
  have ar : Y.del S2 l8 lr = some (.lst rs) := by rw [Y.del_ne x3]; exact sb2 _ _ h1
  clear sb1 sb2
  generalize Y.del S2 l8 = T2 at *
  generalize upd H2 l8 (.lst (lsV n (nth xs) ++ [y8])) = K2 at *
  -- shares
  refine hs_appendS (r := l9) (xs := lsV m (nth us)) (P := Dt K (.int 4)) (ee_var (P := fun w _ => w = .ref l9) 9 rfl rfl) t2 a9 (by rw [lsV_len]; omega) ee_int fun y9 S3 H3 g3 _ => ?_
  have t3 : Same (Y.del S3 l9) (upd H3 l9 (.lst (lsV m (nth us) ++ [y9]))) := del_upd g3.sub
  have u3 : Same S0 (Y.del S3 l9) := same_del z9 (u2.trans g3.st)
  have r11 := (show SolN K CS Sb m n R B (.int i) (lI xs) v11 S3 from Mn.up g3.st r11).del (show Flat (.int i) from trivial) fx h5
  have r12 := (show MirN K CM Sb m n R B (lI us) v12 S3 from Mn.up g3.st r12).del fu h5
  have r13 := newL_del fb h5 (show NewL K Sb [.bool b1, .bool b2] v13 S3 from Mn.up g3.st r13)
  have r22 := (show KptN Sb m n R B xs us v22 S3 from Mn.up g3.st r22).del h5
  have a6 : Y.del S3 l9 l6 = some (.lst (lsV m B)) := by rw [Y.del_ne x9]; exact g3.st _ _ a6
  have a0 : Y.del S3 l9 l0 = some (.lst (lsV n (R 0))) := by rw [Y.del_ne x7]; exact g3.st _ _ a0
  have ar : Y.del S3 l9 lr = some (.lst rs) := by rw [Y.del_ne x4]; exact g3.st _ _ ar
  generalize Y.del S3 l9 = T3 at *
  generalize upd H3 l9 (.lst (lsV m (nth us) ++ [y9])) = K3 at *
  -- ends
  refine hs_appendS (r := l6) (xs := lsV m B) (P := Dt K (.int 4)) (ee_var (P := fun w _ => w = .ref l6) 6 rfl rfl) t3 a6 (by rw [lsV_len]; omega) ee_int fun y6 S4 H4 g4 _ => ?_
  have t4 : Same (Y.del S4 l6) (upd H4 l6 (.lst (lsV m B ++ [y6]))) := del_upd g4.sub
  have u4 : Same S0 (Y.del S4 l6) := same_del z6 (u3.trans g4.st)
  have r11 := (show SolN K CS Sb m n R B (.int i) (lI xs) v11 S4 from Mn.up g4.st r11).del (show Flat (.int i) from trivial) fx h3
  have r12 := (show MirN K CM Sb m n R B (lI us) v12 S4 from Mn.up g4.st r12).del fu h3
  have r13 := newL_del fb h3 (show NewL K Sb [.bool b1, .bool b2] v13 S4 from Mn.up g4.st r13)
  have r22 := (show KptN Sb m n R B xs us v22 S4 from Mn.up g4.st r22).del h3
  have a0 : Y.del S4 l6 l0 = some (.lst (lsV n (R 0))) := by rw [Y.del_ne x5]; exact g4.st _ _ a0
  have ar : Y.del S4 l6 lr = some (.lst rs) := by rw [Y.del_ne x2]; exact g4.st _ _ ar
  generalize Y.del S4 l6 = T4 at *
  generalize upd H4 l6 (.lst (lsV m B ++ [y6])) = K4 at *
  -- the first row
  refine hs_appendS (r := l0) (xs := lsV n (R 0)) (P := Dt K (.int 1)) (ee_ixB (P := fun w _ => w = .ref l0) (b := lr) (k := 0) ar (ee_var (P := fun w _ => w = .ref lr) 5 rfl rfl) ee_int (atI_nat (k := 0) e2) (fun _ _ => rfl)) t4 a0 (by rw [lsV_len]; omega) ee_int fun y0 S5 H5 g5 _ => ?_
  have t5 : Same (Y.del S5 l0) (upd H5 l0 (.lst (lsV n (R 0) ++ [y0]))) := del_upd g5.sub
  have u5 : Same S0 (Y.del S5 l0) := same_del z0 (u4.trans g5.st)
  have r11 := (show SolN K CS Sb m n R B (.int i) (lI xs) v11 S5 from Mn.up g5.st r11).del (show Flat (.int i) from trivial) fx h2
  have r12 := (show MirN K CM Sb m n R B (lI us) v12 S5 from Mn.up g5.st r12).del fu h2
  have r13 := newL_del fb h2 (show NewL K Sb [.bool b1, .bool b2] v13 S5 from Mn.up g5.st r13)
  have r22 := (show KptN Sb m n R B xs us v22 S5 from Mn.up g5.st r22).del h2
  exact nx v22 _ _ u5 t5 (r11.p (by omega) (by omega)) (r12.p (by omega) (by omega)) (NewL.dt r13) (r22.dt (by omega) (by omega))
/-- all is as before -/
theorem turn_f (L : LE P w K mg base CO CS CM) (hr : Room 11 (LX P w K mg base f cdv A outer sh H0 E).A) {a2 a7 a15 a16 a17 a18 a19 a20 a21 a23 : Option V} {v22 : V} (s : Same S H) (hs : Sml m n R B) (m3 : m ≤ 3) (n3 : n ≤ 3) (i1 : 1 ≤ i) (i3 : i ≤ 3) (hx : xs.length = n) (hx5 : ∀ x ∈ xs, x.natAbs ≤ 5) (hu : us.length = m) (hu3 : ∀ x ∈ us, x.natAbs ≤ 3) (p11 : SolP K CS m n R B (.int i) (lI xs) v11 S) (p12 : MirP K CM m n R B (lI us) v12 S) (p13 : Dt K (.list [.bool (pntF m n R B i xs), .bool (mirF m n R B us)]) v13 S) (p22 : Dt K (.list (kptD m n R B xs us)) v22 S)
    (nx : ∀ S' H', Gr S H S' H' →
      HS (LX P w K mg base f cdv A outer sh H0 E) D rest [some vs, some vb, a2, some v3, some v4, some v5, some v6, a7, some v8, some v9, some v10, some v11, some v12, some v13, some v14, a15, a16, a17, a18, a19, a20, a21, some v22, a23] H') :
    HS (LX P w K mg base f cdv A outer sh H0 E) D (stAt turnBody 26 :: stAt turnBody 27 :: stAt turnBody 28 :: stAt turnBody 29 :: rest) [some vs, some vb, a2, some v3, some v4, some v5, some v6, a7, some v8, some v9, some v10, some v11, some v12, some v13, some v14, a15, a16, a17, a18, a19, a20, a21, some v22, a23] H := by
  have hm6 := hs.m6
  have hn4 := hs.n4
  have hm1 := hs.m1
  have hx8 : ∀ x ∈ xs, x.natAbs < 2 ^ 8000 := fun x h => lt8 (hx5 x h) (by decide)
  have hu8 : ∀ x ∈ us, x.natAbs < 2 ^ 8000 := fun x h => lt8 (hu3 x h) (by decide)
  have hi8 : i.natAbs < 2 ^ 8000 := lt8 (show i.natAbs ≤ 3 by omega) (by decide)
  have b4 : Bd 4 (lI xs) := bd_up (bd_up (bd_up (bd_lI xs)))
  have b4u : Bd 4 (lI us) := bd_up (bd_up (bd_up (bd_lI us)))
  have ex : PyData.list (lsD n (nth xs)) = lI xs := by rw [← ints_of hx]; rfl
  have eu : PyData.list (lsD m (nth us)) = lI us := by rw [← ints_of hu]; rfl
  have p22' : Dt K (.list [lI xs, rowsL m n R, .list (lsD m B), lI us, rowsL m n R, .list (lsD m B)]) v22 S := by
    unfold kptD at p22
    rwa [ex, eu] at p22
  let D8 : List PyData := [.bool (pntF m n R B i xs), .bool (mirF m n R B us), lI xs, rowsL m n R, .list (lsD m B), lI us, rowsL m n R, .list (lsD m B)]
  have bd8 : Bd 3 (.list D8) := fun x hx => by
    simp only [D8, List.mem_cons, List.not_mem_nil, or_false] at hx
    rcases hx with rfl | rfl | rfl | rfl | rfl | rfl | rfl | rfl
    · trivial
    · trivial
    · exact bd_up (bd_lI xs)
    · exact bd_rowsL m n R
    · exact bd_up (bd_lsD m B)
    · exact bd_up (bd_lI us)
    · exact bd_rowsL m n R
    · exact bd_up (bd_lsD m B)
  refine hs_ifN (ET.is (et_not (et_val (ee_callD (L.same 3) (hr.mono (by decide)) (ds := [.list D8, .list D8]) ⟨.list D8, rfl, bd8, rfl⟩ (ea_2
    (ee_lst (ds := D8) (ea_cons (EE.isd (ee_meth0 L.holS L.cS (hr.mono (by decide)) (ee_var (P := SolP K CS m n R B (.int i) (lI xs)) 11 rfl p11) SolP.insP (spSho_E (hs.pap hi8 hx8 (by omega)))) (by rw [sol_pnt hx])) (ea_cons (EE.isd (ee_meth0 L.holM L.cM (hr.mono (by decide)) (ee_var (P := MirP K CM m n R B (lI us)) 12 rfl p12) MirP.insP (spMho_E (hs.pap (s := 0) (Nat.pow_pos (by decide)) hu8 (by omega)))) (by rw [mir_mir hu]))
      (ea_cons (EE.imp (ee_meth0 L.numS L.cS (hr.mono (by decide)) (ee_var (P := SolP K CS m n R B (.int i) (lI xs)) 11 rfl p11) SolP.insP (spOcp_E (fun _ _ h => h.nums) b4)) fun _ _ h => h.dt) (ea_cons (EE.imp (ee_meth0 L.rowS L.cS (hr.mono (by decide)) (ee_var (P := SolP K CS m n R B (.int i) (lI xs)) 11 rfl p11) SolP.insP (spOrw_E (fun _ _ h => h.rows) (by omega) (by omega))) fun _ _ h => h.dt (by omega) (by omega)) (ea_cons (EE.imp (ee_meth0 L.bndS L.cS (hr.mono (by decide)) (ee_var (P := SolP K CS m n R B (.int i) (lI xs)) 11 rfl p11) SolP.insP (spObd_E (fun _ _ h => h.bnds) (by omega))) fun _ _ h => h.dt (by omega))
      (ea_cons (EE.imp (ee_meth0 L.numM L.cM (hr.mono (by decide)) (ee_var (P := MirP K CM m n R B (lI us)) 12 rfl p12) MirP.insP (spOcp_E (fun _ _ h => h.nums) b4u)) fun _ _ h => h.dt) (ea_2 (EE.imp (ee_meth0 L.rowM L.cM (hr.mono (by decide)) (ee_var (P := MirP K CM m n R B (lI us)) 12 rfl p12) MirP.insP (spOrw_E (fun _ _ h => h.rows) (by omega) (by omega))) fun _ _ h => h.dt (by omega) (by omega)) (EE.imp (ee_meth0 L.bndM L.cM (hr.mono (by decide)) (ee_var (P := MirP K CM m n R B (lI us)) 12 rfl p12) MirP.insP (spObd_E (fun _ _ h => h.bnds) (by omega))) fun _ _ h => h.dt (by omega))))))))))
    (ee_catL (ds1 := [.bool (pntF m n R B i xs), .bool (mirF m n R B us)]) (ds2 := [lI xs, rowsL m n R, .list (lsD m B), lI us, rowsL m n R, .list (lsD m B)]) (by show 8 ≤ 16777216; decide) (ee_var 13 rfl p13) (ee_var 22 rfl p22')))))) rfl) s fun S1 H1 g1 => ?_
  have q11 : SolP K CS m n R B (.int i) (lI xs) v11 S1 := Mn.up g1.st p11
  have q12 : MirP K CM m n R B (lI us) v12 S1 := Mn.up g1.st p12
  refine hs_append (ds := lsD n (R 0)) (ee_ixLP (Ps := (List.range m).map fun i => NewL K S1 (lsD n (R i))) (i := 0) (fun Q hQ => by obtain ⟨i, _, rfl⟩ := List.mem_map.mp hQ; infer_instance) (by rw [List.getElem?_map, List.getElem?_range (by omega)]; rfl) (EE.imp (ee_meth0 L.rowS L.cS (hr.mono (by decide)) (ee_var (P := SolP K CS m n R B (.int i) (lI xs)) 11 rfl q11) SolP.insP (spOrw_E (fun _ _ h => h.rows) (by omega) (by omega))) fun _ _ h => h.lst (by omega)) ee_int) g1.sub (by rw [lsD_len]; omega) (P := Dt K (.int 5)) ee_int fun l ys y S2 H2 g2 h0 h1 => ?_
  have G2 := Gr.cut (o := .lst (ys ++ [y])) g2 g1.sub (cut_free g2 g1.sub h0 h1)
  have s2 : Same S1 (Y.del S2 l) := Same.cut g2.st h0
  generalize Y.del S2 l = T2 at G2 s2
  generalize upd H2 l (.lst (ys ++ [y])) = K2 at G2
  have r12 : MirP K CM m n R B (lI us) v12 T2 := Mn.up s2 q12
  refine hs_append (ds := us.map .int) (ee_meth0 L.numM L.cM (hr.mono (by decide)) (ee_var (P := MirP K CM m n R B (lI us)) 12 rfl r12) MirP.insP (spOcp_E (fun _ _ h => h.nums) b4u)) G2.sub (by rw [List.length_map]; omega) (P := Dt K (.int 5)) ee_int fun l2 ys2 y2 S3 H3 g3 h2 h3 => ?_
  have G3 := Gr.cut (o := .lst (ys2 ++ [y2])) g3 G2.sub (cut_free g3 G2.sub h2 h3)
  have s3 : Same T2 (Y.del S3 l2) := Same.cut g3.st h2
  generalize Y.del S3 l2 = T3 at G3 s3
  generalize upd H3 l2 (.lst (ys2 ++ [y2])) = K3 at G3
  have sA := g1.st.trans (s2.trans s3)
  have t11 : SolP K CS m n R B (.int i) (lI xs) v11 T3 := Mn.up sA p11
  have t12 : MirP K CM m n R B (lI us) v12 T3 := Mn.up sA p12
  have t22 := p22'.up sA
  refine hs_ifN (ET.is (et_not (et_val (ee_callD (L.same 3) (hr.mono (by decide)) (ds := [.list [rowsL m n R, lI us], .list [rowsL m n R, lI us]]) ⟨.list [rowsL m n R, lI us], rfl, bd_pair (bd_rowsL m n R) (bd_up (bd_lI us)), rfl⟩ (ea_2
    (ee_lst (ds := [rowsL m n R, lI us]) (ea_2 (EE.imp (ee_meth0 L.rowS L.cS (hr.mono (by decide)) (ee_var (P := SolP K CS m n R B (.int i) (lI xs)) 11 rfl t11) SolP.insP (spOrw_E (fun _ _ h => h.rows) (by omega) (by omega))) fun _ _ h => h.dt (by omega) (by omega)) (EE.imp (ee_meth0 L.numM L.cM (hr.mono (by decide)) (ee_var (P := MirP K CM m n R B (lI us)) 12 rfl t12) MirP.insP (spOcp_E (fun _ _ h => h.nums) b4u)) fun _ _ h => h.dt)))
    (ee_lst (ds := [rowsL m n R, lI us]) (ea_2 (ee_ixL (ds := [lI xs, rowsL m n R, .list (lsD m B), lI us, rowsL m n R, .list (lsD m B)]) (d := rowsL m n R) rfl (ee_var 22 rfl t22) ee_int) (ee_ixL (ds := [lI xs, rowsL m n R, .list (lsD m B), lI us, rowsL m n R, .list (lsD m B)]) (d := lI us) rfl (ee_var 22 rfl t22) ee_int))))))) rfl) G3.sub fun S4 H4 g4 => ?_
  exact nx S4 H4 (g1.trans (G2.trans (G3.trans g4)))
end
end
end K04
namespace K04
open PySem PySem.Spec PyProof.Rows L2 Z Y LamX NdefX
section
variable {P : Program} {w : World} {K : PySem.W.Frag} {mg : Str → Option Value} {base : Heap} {f : Addr} {fd : FuncData}
/-! ## written outcomes without rows -/
def R00 : Nat → Nat → Int := fun _ _ => 0
def B00 : Nat → Int := fun _ => 0
theorem spSolve_0 {K : PySem.W.Frag} {CS CM : Addr} {S : Hp} : SpE (spSolve K CS CM) S [Dt K (.list []), Dt K (.list [])] (SolP K CS 0 0 R00 B00 (.int 1) (.list [])) := fun vs S1 H1 st s al Q q => by
  obtain ⟨a, b, rfl, p1, p2⟩ := al.two
  refine ⟨S1, a, b, 0, 0, R00, B00, false, fun _ => false, false, rfl, s, p1, p2, ⟨by decide, by decide, .inl rfl, 1, fun v k hk => ?_, ?_⟩, fun v S' H' g h => q v S' H' g ?_⟩
  · obtain rfl : k = 0 := by omega
    have h1 : (Sv.ini 0 0 R00 B00 fun _ => 0).T v 0 = 0 := by
      unfold Sv.ini
      simp [R00, B00]
    have h2 : (Sv.ini 0 0 R00 B00 fun _ => 0).T 0 0 = 0 := by
      unfold Sv.ini
      simp [R00, B00]
    unfold Sv.iniA
    repeat' split
    all_goals first | (rw [h1]; decide) | (rw [h2]; decide) | decide | omega
  · exact Nat.one_lt_two_pow (by decide)
  · rcases h with ⟨_, h⟩ | ⟨h, _⟩ | ⟨_, k, _, h, _⟩
    · exact h.p (by decide) (by decide)
    · exact absurd rfl h
    · exact absurd h (Nat.not_lt_zero k)
theorem pap0 {sc d : PyData} (h : Odd d) (h1 : ∀ s, sc = .int s → s.natAbs ≤ 10) (h2 : Bd 4 sc) : PapOk 0 0 R00 B00 sc d := by
  refine ⟨by decide, by decide, fun i j hi _ => absurd hi (Nat.not_lt_zero i), fun i hi => absurd hi (Nat.not_lt_zero i), (fun s' e => lt8 (h1 s' e) (by decide)), fun ds e => ?_, (fun ds e => ?_), (fun ds e => ?_), h2⟩
  · subst e; exact h.uns
  · subst e; rcases h with h | h | h | ⟨_, h, _⟩ <;> cases h
  · subst e; rcases h with h | h | h | ⟨_, h, _⟩ <;> cases h
theorem odd_l {xs : List Int} (hl : xs.length ≤ 1000) (h : ∀ x ∈ xs, x.natAbs ≤ 10) : Odd (.list (xs.map .int)) := odd_ints hl h
abbrev NLoo : List Str := ["_law_told"]
theorem sc_Loo : FnScope NLoo [] (defScope sL_outcomes_so) := ⟨rfl, rfl, rfl, by decide +kernel, rfl, by decide +kernel, by decide +kernel⟩
section
variable {CO CS CM : Addr}
theorem ok_Loo (F : FnT K "_law_outcomes_so" sL_outcomes_so f fd) (DS : KD P w K mg base "solve" 8 (spSolve K CS CM)) (MS : MkSol P w K mg base CS) (MM : MkMir P w K mg base CM) (cS : Cls K CS) (cM : Cls K CM) (gS : mg "Solution" = some (.ref CS)) (gM : mg "Mirror" = some (.ref CM)) (hS : KM P w K mg base CS "holds" 8 (spSho K CS)) (hM : KM P w K mg base CM "holds" 8 (spMho K CM)) (bS : KM P w K mg base CS "__bool__" 1 (spBoo true)) (nS : KM P w K mg base CS "numbers" 6 (spOcp K CS "_numbers")) (DL : KD P w K mg base "_law_same" 4 (spD K (Fsame 2))) (g1 : mg "bool" = none) : FnOk P w K mg base CX0 10 f fd [] spTr := by
  refine fn_hs F sc_Loo (fun vs H Q E h => by obtain ⟨S, rfl, _⟩ := h; rfl) (fun cdv A outer sh H vs Q E hr h => ?_)
  obtain ⟨S, rfl, s, q⟩ := h
  let D1 : List PyData := [.bool true, .bool true, .list [], .bool true, .bool false]
  let D2 : List PyData := [.bool false, .bool false, .bool false]
  have e0 : ∀ {σ : L2.St} {S' : Hp} {pos : Pos} {X : Cx}, EE X σ S' (.List [] pos) (Dt X.K (.list [])) := ee_lst (ds := []) ea_nil
  have hb4 : ∀ i : Int, Bd 4 (.int i) := fun _ => trivial
  refine hs_set (i := 0) (P := Dt K (.list D1)) (ee_lst (ds := D1) (ea_cons (EE.isd (ee_meth0 hS cS (hr.mono (by decide)) (P0 := SolP K CS 0 0 R00 B00 (.int 1) (.list [])) (ee_call DS (hr.mono (by decide)) (ea_2 e0 e0) spSolve_0) SolP.insP (spSho_E (pap0 (odd_l (xs := []) (by decide) (by decide)) (fun s e => by cases e; decide) trivial))) (by rfl))
    (ea_cons (ee_boolO (bo := true) bS (hr.mono (by decide)) g1 (P0 := SolP K CS 0 0 R00 B00 (.int 1) (.list [])) (ee_call DS (hr.mono (by decide)) (ea_2 e0 e0) spSolve_0) SolP.ins spBoo_E)
    (ea_cons (EE.imp (ee_meth0 nS cS (hr.mono (by decide)) (P0 := SolP K CS 0 0 R00 B00 (.int 1) (.list [])) (ee_call DS (hr.mono (by decide)) (ea_2 e0 e0) spSolve_0) SolP.insP (spOcp_E (fun _ _ h => h.nums) (fun x hx => nomatch hx))) fun _ _ h => h.dt)
    (ea_2 (EE.isd (ee_meth0 hS cS (hr.mono (by decide)) (P0 := SolP K CS 0 0 R00 B00 (.int 1) (lI [3, 0])) (EE.imp (ee_mkSol (m := 0) (n := 0) (R := R00) (B := B00) (tk := false) (bk := false) (rk := fun _ => false) MS (hr.mono (by decide)) gS (by decide) (by decide) (show Flat (.int 1) from trivial) (flat_ints [3, 0]) e0 e0 ee_int (ee_lst (ds := [.int 3, .int 0]) (ea_2 ee_int ee_int))) fun _ _ h => h.p (by decide) (by decide)) SolP.insP (spSho_E (pap0 (odd_ints (by decide) (by decide)) (fun s e => by cases e; decide) trivial))) (by rfl))
    (EE.isd (ee_meth0 hM cM (hr.mono (by decide)) (P0 := MirP K CM 0 0 R00 B00 (.list [])) (EE.imp (ee_mkMir (m := 0) (n := 0) (R := R00) (B := B00) (tk := false) (bk := false) (rk := fun _ => false) MM (hr.mono (by decide)) gM (by decide) (by decide) (flat_ints []) e0 e0 e0) fun _ _ h => h.p (by decide) (by decide)) MirP.insP (spMho_E (pap0 (odd_l (xs := []) (by decide) (by decide)) (fun s e => by cases e; decide) trivial))) (by rfl)))))))
    s sc_Loo.nd fun v0 S1 H1 e1 p0 => ?_
  refine hs_set (i := 0) (P := Dt K (.list (D1 ++ D2))) (ee_catL (ds1 := D1) (ds2 := D2) (by show 8 ≤ 16777216; decide) (ee_var 0 rfl p0) (ee_lst (ds := D2) (ea_cons (EE.isd (ee_meth0 hS cS (hr.mono (by decide)) (P0 := SolP K CS 0 0 R00 B00 (.int 0) (lI [3])) (EE.imp (ee_mkSol (m := 0) (n := 0) (R := R00) (B := B00) (tk := false) (bk := false) (rk := fun _ => false) MS (hr.mono (by decide)) gS (by decide) (by decide) (show Flat (.int 0) from trivial) (flat_ints [3]) e0 e0 ee_int (ee_lst (ds := [.int 3]) (ea_1 ee_int))) fun _ _ h => h.p (by decide) (by decide)) SolP.insP (spSho_E (pap0 (odd_ints (by decide) (by decide)) (fun s e => by cases e; decide) trivial))) (by rfl))
    (ea_2 (EE.isd (ee_meth0 hS cS (hr.mono (by decide)) (P0 := SolP K CS 0 0 R00 B00 (.int 1) (lI [-1])) (EE.imp (ee_mkSol (m := 0) (n := 0) (R := R00) (B := B00) (tk := false) (bk := false) (rk := fun _ => false) MS (hr.mono (by decide)) gS (by decide) (by decide) (show Flat (.int 1) from trivial) (flat_ints [-1]) e0 e0 ee_int (ee_lst (ds := [.int (-1)]) (ea_1 (ee_neg ee_int)))) fun _ _ h => h.p (by decide) (by decide)) SolP.insP (spSho_E (pap0 (odd_ints (by decide) (by decide)) (fun s e => by cases e; decide) trivial))) (by rfl))
    (EE.isd (ee_meth0 hS cS (hr.mono (by decide)) (P0 := SolP K CS 0 0 R00 B00 (.int 1) .none) (EE.imp (ee_mkSol (m := 0) (n := 0) (R := R00) (B := B00) (tk := false) (bk := false) (rk := fun _ => false) MS (hr.mono (by decide)) gS (by decide) (by decide) (show Flat (.int 1) from trivial) (show Flat .none from trivial) e0 e0 ee_int ee_non) fun _ _ h => h.p (by decide) (by decide)) SolP.insP (spSho_E (pap0 (.inl rfl) (fun s e => by cases e; decide) trivial))) (by rfl))))))
    e1.sub sc_Loo.nd fun v1 S2 H2 e2 p1 => ?_
  have bd : Bd 2 (.list (D1 ++ D2)) := fun x hx => by
    simp only [D1, D2, List.cons_append, List.nil_append, List.mem_cons, List.not_mem_nil, or_false] at hx
    rcases hx with rfl | rfl | rfl | rfl | rfl | rfl | rfl | rfl
    · trivial
    · trivial
    · exact fun y hy => nomatch hy
    all_goals trivial
  exact hs_ret (P := Dt K (.bool true)) (EE.isd (ee_callD DL (hr.mono (by decide)) (ds := [.list (D1 ++ D2), .list (D1 ++ D2)]) ⟨.list (D1 ++ D2), rfl, bd, rfl⟩ (ea_2 (ee_var 0 rfl p1) (ee_lst (ds := D1 ++ D2) (ea_cons ee_bl (ea_cons ee_bl (ea_cons e0 (ea_cons ee_bl (ea_cons ee_bl (ea_cons ee_bl (ea_2 ee_bl ee_bl)))))))))) rfl) e2.sub fun u S3 H3 e3 pu => by
    cases pu
    exact q S3 H3 (e1.trans (e2.trans e3))
/-! ## the law -/
theorem ok_law (F : FnT K "law" slaw f fd) (L : LE P w K mg base CO CS CM) : FnOk P w K mg base CX0 12 f fd ["_law_script"] (spLaw K) := by
  refine fn_hs F sc_law (fun vs H Q E h => by obtain ⟨a, ns, rfl, _⟩ := h; rfl) (fun cdv A outer sh H vs Q E hr h => ?_)
  obtain ⟨a, ns, rfl, hS, hl, q⟩ := h
  obtain ⟨fo, fdo, pso, G, hm, hk, hb⟩ := L.openD.ex
  refine hs_cons (ps_set (i := 1) sc_law.nd rfl (by first | exact Or.inl rfl | exact Or.inr rfl) (pe_call G (hr.mono (by decide)) rfl hm hk hb .nil pass0 (pa_cons (pv 0) pa_nil)) rfl (by first | exact .inl rfl | exact .inr rfl)) ?_
  refine ⟨_, rfl, ?_⟩
  refine ⟨a, ns, rfl, hS, hl, fun vb H1 sm hbx => ?_⟩
  refine hs_forR (n := 5) (fun i σ S' => BX vb S' ∧ ∃ a2 a3 a4 a5 a6 a7 a8 a9 a10 a11 a12 a13 a14 a15 a16 a17 a18 a19 a20 a21 a22 a23, σ = [some (.ref a), some vb, a2, a3, a4, a5, a6, a7, a8, a9, a10, a11, a12, a13, a14, a15, a16, a17, a18, a19, a20, a21, a22, a23]) PassesOwn.never rfl L.frange (by decide) (ee_int (i := ((5 : Nat) : Int))) (Same.refl H1) (fun S' H' g => ⟨Mn.up (g.st.trans g.sub) hbx, _, _, _, _, _, _, _, _, _, _, _, _, _, _, _, _, _, _, _, _, _, _, rfl⟩) ?_ ?_
  · rintro i σ1 H2 hi ⟨hb2, b2, b3, b4, b5, b6, b7, b8, b9, b10, b11, b12, b13, b14, b15, b16, b17, b18, b19, b20, b21, b22, b23, rfl⟩
    refine (eg_name (i := 2) sc_law.nd rfl (by first | exact Or.inl rfl | exact Or.inr rfl)) H2 (Same.refl H2) _ ?_
    refine turn_a L hr (Same.refl H2) hb2 fun m n R B xs us i' v3 v4 v5 v6 v8 v9 v10 S4 H4 s04 s4 hs m3 n3 hx hx5 hu hu3 i1 i3 F4 p3 p4 p5 p6 p8 p9 p10 => ?_
    refine turn_b L hr s4 hs hx hx5 hu hu3 i1 i3 p5 p6 p8 p9 p10 fun v11 v12 v13 v14 S5 H5 g5 p11 p12 p13 => ?_
    have hb5 : BX vb S5 := Mn.up (s04.trans g5.st) hb2
    refine turn_c L hr g5.sub hb5 hs m3 n3 hx hx5 hu hu3 (p3.up g5.st) (p4.up g5.st) (p5.up g5.st) (p6.up g5.st) (p8.up g5.st) (p9.up g5.st) fun c15 c16 c17 c18 c19 S6 H6 g6 => ?_
    have e46 := g5.st.trans g6.st
    have r11 : SolN K CS S4 m n R B (.int i') (lI xs) v11 S6 := Mn.up g6.st p11
    have r12 : MirN K CM S4 m n R B (lI us) v12 S6 := Mn.up g6.st p12
    refine turn_d L hr g6.sub hs m3 n3 (p3.up e46) (p5.up e46) (p6.up e46) (p8.up e46) (p10.up e46) (r11.p (by omega) (by omega)) (r12.p (by omega) (by omega)) fun c20 c21 S7 H7 g7 => ?_
    have e47 := e46.trans g7.st
    refine turn_e L hr (S0 := H2) (b1 := pntF m n R B i' xs) (b2 := mirF m n R B us) s04 e47 g7.sub hs hx hu (p5.up e47) F4 (Mn.up g7.st r11) (Mn.up g7.st r12) (Mn.up (g6.st.trans g7.st) p13) fun v22 S8 H8 u8 t8 q11 q12 q13 q22 => ?_
    refine turn_f L hr t8 hs m3 n3 i1 i3 hx hx5 hu hu3 q11 q12 q13 q22 fun S9 H9 g9 => hs_nil ?_
    exact ⟨Mn.up ((u8.trans g9.st).trans g9.sub) hb2, _, _, _, _, _, _, _, _, _, _, _, _, _, _, _, _, _, _, _, _, _, _, rfl⟩
  · rintro σ1 H2 ⟨hb2, b2, b3, b4, b5, b6, b7, b8, b9, b10, b11, b12, b13, b14, b15, b16, b17, b18, b19, b20, b21, b22, b23, rfl⟩
    exact hs_ret (P := Dt K (.bool true)) (ee_call0 L.oso (hr.mono (by decide)) spTr_E) (Same.refl H2) fun v S' H' g pv => by
      cases pv
      exact q H'
end
end
end K04
namespace K04
open PySem PySem.Spec PyProof.Rows L2 Z Y LamX NdefX
section
variable {P : Program} {w : World} {K : PySem.W.Frag} {mg : Str → Option Value} {base : Heap} {f : Addr} {fd : FuncData}
theorem kbindsW {K : PySem.W.Frag} {x qual : Str} {params : Arguments} {body : List Stmt} {scope : Scope} {f : Addr} {fd : FuncData} {ps ks : List Str} (F : FunD K x qual params body scope [] [] f fd) (n : Nat)
    (h : ∀ (kV doc pm : Value) (an : Option Addr) (cdv ct : Value) (us ws : List Value), us.length = n → ws.length = ks.length → bindArgs (PySem.W.fnOf x qual params body scope .none kV doc pm an cdv ct) ⟨us, ks.zip ws⟩ = pure (ps.zip (Y.gS us ws))) : KBn K fd ps n ks Y.gS Y.gS := by
  obtain ⟨oc, od, dV, kV, doc, pm, an, cdv, ct, osl, rfl, lk, hcd, hD, hK⟩ := F.ex
  rcases hD with ⟨_, rfl⟩ | ⟨e, _⟩
  · exact ⟨fun s us ws _ l1 l2 => .of_eq (h kV doc pm an cdv ct us ws l1 l2), fun r1 r2 => Y.gS_rel r1 r2⟩
  · exact absurd rfl e
theorem kbindsS3 {P : Program} {K : PySem.W.Frag} {x qual : Str} {params : Arguments} {body : List Stmt} {scope : Scope} {D f : Addr} {fd : FuncData} {ps ks : List Str} (F : FunS P K x qual params body scope D f fd)
    (h : ∀ (kV doc pm : Value) (an : Option Addr) (cdv ct : Value) (cc : Addr) (us ws : List Value), us.length = 1 → ws.length = ks.length → bindArgs (PySem.W.ksFn x qual params body scope .none kV doc pm an cdv ct cc) ⟨us, ks.zip ws⟩ = pure (ps.zip (Y.g3r us ws))) : KBn K fd ps 1 ks Y.g3r Y.g3r := by
  obtain ⟨oc, od, dV, kV, doc, pm, an, c, cc, ct, osl, rfl, _⟩ := F.ex
  have := F.dv
  have hd : dV = .none := this
  subst hd
  exact ⟨fun s us ws _ l1 l2 => .of_eq (h kV doc pm an (.ref c) ct cc us ws l1 l2), fun r1 r2 => Y.g3r_rel r1 r2⟩
theorem facts {P : Program} {w : World} {K : PySem.W.Frag} {h : Heap} {mg : Str → Option Value} {f : Addr} (X : K.In h) (G : h.Ns mainGlobals mg) (hfa : mg ("law" : Str) = some (.ref f)) (c0 : SaysG mf fa fn pn sn un tf ex h K) (hm : P.main.file = mf) (hsup : (P.main.scope.names.lookup ("super" : Str)).isSome = false) :
    ∃ fd : FuncData, (∀ (s : Shared) (v : Value), BindsTo s fd ⟨[v], []⟩ [("_law_script", v)]) ∧ ∀ base : Heap, K.In base → base.Ns mainGlobals mg → FnOk P w K mg base CX0 12 f fd ["_law_script"] (spLaw K) := by
  have d := c0.d
  have more := c0.more
  unfold ex at more
  rw [Bool.and_eq_true] at more
  obtain ⟨x_Outcome_ob, more⟩ := more
  rw [Bool.and_eq_true] at more
  obtain ⟨x_Outcome_cls, more⟩ := more
  rw [Bool.and_eq_true] at more
  obtain ⟨x_Outcome_str, more⟩ := more
  rw [Bool.and_eq_true] at more
  obtain ⟨x_Outcome_sp, more⟩ := more
  rw [Bool.and_eq_true] at more
  obtain ⟨x_Outcome_tk, more⟩ := more
  rw [Bool.and_eq_true] at more
  obtain ⟨x_Solution_ob, more⟩ := more
  rw [Bool.and_eq_true] at more
  obtain ⟨x_Solution_cls, more⟩ := more
  rw [Bool.and_eq_true] at more
  obtain ⟨x_Solution_str, more⟩ := more
  rw [Bool.and_eq_true] at more
  obtain ⟨x_Solution_sp, more⟩ := more
  rw [Bool.and_eq_true] at more
  obtain ⟨x_Solution_tk, more⟩ := more
  rw [Bool.and_eq_true] at more
  obtain ⟨x_Mirror_ob, more⟩ := more
  rw [Bool.and_eq_true] at more
  obtain ⟨x_Mirror_cls, more⟩ := more
  rw [Bool.and_eq_true] at more
  obtain ⟨x_Mirror_str, more⟩ := more
  rw [Bool.and_eq_true] at more
  obtain ⟨x_Mirror_sp, more⟩ := more
  rw [Bool.and_eq_true] at more
  obtain ⟨x_Mirror_tk, more⟩ := more
  rw [Bool.and_eq_true] at more
  obtain ⟨x_Solution_sup, more⟩ := more
  rw [Bool.and_eq_true] at more
  obtain ⟨x_Solution_sub, more⟩ := more
  rw [Bool.and_eq_true] at more
  obtain ⟨x_Solution_eq_rows, more⟩ := more
  rw [Bool.and_eq_true] at more
  obtain ⟨x_Solution_eq_bounds, more⟩ := more
  rw [Bool.and_eq_true] at more
  obtain ⟨x_Solution_eq___repr__, more⟩ := more
  rw [Bool.and_eq_true] at more
  obtain ⟨x_Mirror_sup, more⟩ := more
  rw [Bool.and_eq_true] at more
  obtain ⟨x_Mirror_sub, more⟩ := more
  rw [Bool.and_eq_true] at more
  obtain ⟨x_Mirror_eq_rows, more⟩ := more
  rw [Bool.and_eq_true] at more
  obtain ⟨x_Mirror_eq_bounds, more⟩ := more
  rw [Bool.and_eq_true] at more
  obtain ⟨x_Mirror_eq___repr__, more⟩ := more
  rw [Bool.and_eq_true] at more
  obtain ⟨x_Mirror_eq_bool, more⟩ := more
  rw [Bool.and_eq_true] at more
  obtain ⟨x_Solution_kit, more⟩ := more
  rw [Bool.and_eq_true] at more
  obtain ⟨x_Mirror_kit, more⟩ := more
  rw [Bool.and_eq_true] at more
  obtain ⟨x_sup_no, more⟩ := more
  rw [Bool.and_eq_true] at more
  obtain ⟨x_sup_fn, more⟩ := more
  have x_sup_ty := more
  have x_Outcome_ob := of_decide_eq_true x_Outcome_ob
  have x_Outcome_cls := He.eqO_ok x_Outcome_cls
  have x_Outcome_str := of_decide_eq_true x_Outcome_str
  have x_Outcome_sp := He.eqO_ok x_Outcome_sp
  have x_Outcome_tk := of_decide_eq_true x_Outcome_tk
  have x_Solution_ob := of_decide_eq_true x_Solution_ob
  have x_Solution_cls := He.eqO_ok x_Solution_cls
  have x_Solution_str := of_decide_eq_true x_Solution_str
  have x_Solution_sp := He.eqO_ok x_Solution_sp
  have x_Solution_tk := of_decide_eq_true x_Solution_tk
  have x_Mirror_ob := of_decide_eq_true x_Mirror_ob
  have x_Mirror_cls := He.eqO_ok x_Mirror_cls
  have x_Mirror_str := of_decide_eq_true x_Mirror_str
  have x_Mirror_sp := He.eqO_ok x_Mirror_sp
  have x_Mirror_tk := of_decide_eq_true x_Mirror_tk
  have x_Solution_sup := He.eqO_ok x_Solution_sup
  have x_Solution_sub := of_decide_eq_true x_Solution_sub
  have x_Solution_eq_rows := of_decide_eq_true x_Solution_eq_rows
  have x_Solution_eq_bounds := of_decide_eq_true x_Solution_eq_bounds
  have x_Solution_eq___repr__ := of_decide_eq_true x_Solution_eq___repr__
  have x_Mirror_sup := He.eqO_ok x_Mirror_sup
  have x_Mirror_sub := of_decide_eq_true x_Mirror_sub
  have x_Mirror_eq_rows := of_decide_eq_true x_Mirror_eq_rows
  have x_Mirror_eq_bounds := of_decide_eq_true x_Mirror_eq_bounds
  have x_Mirror_eq___repr__ := of_decide_eq_true x_Mirror_eq___repr__
  have x_Mirror_eq_bool := of_decide_eq_true x_Mirror_eq_bool
  have x_Solution_kit := of_decide_eq_true x_Solution_kit
  have x_Mirror_kit := of_decide_eq_true x_Mirror_kit
  have x_sup_no := He.eqO_ok x_sup_no
  have x_sup_ty := of_decide_eq_true x_sup_ty
  have h_isinstance : mg "isinstance" = none := He.free_ok X G (d.fact 25 (f := .free "isinstance") rfl)
  have h_bool : mg "bool" = none := He.free_ok X G (d.fact 26 (f := .free "bool") rfl)
  have h_int : mg "int" = none := He.free_ok X G (d.fact 27 (f := .free "int") rfl)
  have h_list : mg "list" = none := He.free_ok X G (d.fact 28 (f := .free "list") rfl)
  have h_tuple : mg "tuple" = none := He.free_ok X G (d.fact 29 (f := .free "tuple") rfl)
  have h_len : mg "len" = none := He.free_ok X G (d.fact 30 (f := .free "len") rfl)
  have h_all : mg "all" = none := He.free_ok X G (d.fact 31 (f := .free "all") rfl)
  have h_any : mg "any" = none := He.free_ok X G (d.fact 32 (f := .free "any") rfl)
  have h_sum : mg "sum" = none := He.free_ok X G (d.fact 33 (f := .free "sum") rfl)
  have h_zip : mg "zip" = none := He.free_ok X G (d.fact 34 (f := .free "zip") rfl)
  have h_range : mg "range" = none := He.free_ok X G (d.fact 35 (f := .free "range") rfl)
  have h_enumerate : mg "enumerate" = none := He.free_ok X G (d.fact 36 (f := .free "enumerate") rfl)
  have h_abs : mg "abs" = none := He.free_ok X G (d.fact 37 (f := .free "abs") rfl)
  have h_max : mg "max" = none := He.free_ok X G (d.fact 38 (f := .free "max") rfl)
  have h_super : mg "super" = none := He.free_ok X G (d.fact 39 (f := .free "super") rfl)
  have h_str : mg "str" = none := He.free_ok X G (d.fact 40 (f := .free "str") rfl)
  have h_repr : mg "repr" = none := He.free_ok X G (d.fact 41 (f := .free "repr") rfl)
  have gO : mg "Outcome" = some (.ref (He.ga K "Outcome")) := He.glo_ok X G (d.fact 10 (f := .glo "Outcome") rfl)
  have cO : Cls K (He.ga K "Outcome") := He.cls_ok (d.fact 42 (f := .cls "Outcome") rfl)
  have mkr_Outcome : Mk K (He.ga K "Outcome") (He.ma K (He.ga K "Outcome") "__init__") := He.mkr_ok (d.fact 43 (f := .mkr "Outcome") rfl)
  have n_Outcome__rows : NoAttr K (He.ga K "Outcome") "_rows" := He.noat_ok (d.fact 44 (f := .noat "Outcome" "_rows") rfl)
  have n_Outcome__bounds : NoAttr K (He.ga K "Outcome") "_bounds" := He.noat_ok (d.fact 45 (f := .noat "Outcome" "_bounds") rfl)
  have m_Outcome_rows : Meth K (He.ga K "Outcome") "rows" (He.ma K (He.ga K "Outcome") "rows") := He.meth_ok (d.fact 46 (f := .meth "Outcome" "rows") rfl)
  have m_Outcome_bounds : Meth K (He.ga K "Outcome") "bounds" (He.ma K (He.ga K "Outcome") "bounds") := He.meth_ok (d.fact 47 (f := .meth "Outcome" "bounds") rfl)
  have m_Outcome_holds : Meth K (He.ga K "Outcome") "holds" (He.ma K (He.ga K "Outcome") "holds") := He.meth_ok (d.fact 48 (f := .meth "Outcome" "holds") rfl)
  have m_Outcome_told : Meth K (He.ga K "Outcome") "told" (He.ma K (He.ga K "Outcome") "told") := He.meth_ok (d.fact 49 (f := .meth "Outcome" "told") rfl)
  have m_Outcome___bool__ : Meth K (He.ga K "Outcome") "__bool__" (He.ma K (He.ga K "Outcome") "__bool__") := He.meth_ok (d.fact 50 (f := .meth "Outcome" "__bool__") rfl)
  have m_Outcome___repr__ : Meth K (He.ga K "Outcome") "__repr__" (He.ma K (He.ga K "Outcome") "__repr__") := He.meth_ok (d.fact 51 (f := .meth "Outcome" "__repr__") rfl)
  have m_Outcome___init__ : Meth K (He.ga K "Outcome") "__init__" (He.ma K (He.ga K "Outcome") "__init__") := He.meth_ok (d.fact 52 (f := .meth "Outcome" "__init__") rfl)
  have gS : mg "Solution" = some (.ref (He.ga K "Solution")) := He.glo_ok X G (d.fact 11 (f := .glo "Solution") rfl)
  have cS : Cls K (He.ga K "Solution") := He.cls_ok (d.fact 53 (f := .cls "Solution") rfl)
  have mkr_Solution : Mk K (He.ga K "Solution") (He.ma K (He.ga K "Solution") "__init__") := He.mkr_ok (d.fact 54 (f := .mkr "Solution") rfl)
  have n_Solution__rows : NoAttr K (He.ga K "Solution") "_rows" := He.noat_ok (d.fact 55 (f := .noat "Solution" "_rows") rfl)
  have n_Solution__bounds : NoAttr K (He.ga K "Solution") "_bounds" := He.noat_ok (d.fact 56 (f := .noat "Solution" "_bounds") rfl)
  have n_Solution__scale : NoAttr K (He.ga K "Solution") "_scale" := He.noat_ok (d.fact 57 (f := .noat "Solution" "_scale") rfl)
  have n_Solution__numbers : NoAttr K (He.ga K "Solution") "_numbers" := He.noat_ok (d.fact 58 (f := .noat "Solution" "_numbers") rfl)
  have m_Solution_rows : Meth K (He.ga K "Solution") "rows" (He.ma K (He.ga K "Solution") "rows") := He.meth_ok (d.fact 59 (f := .meth "Solution" "rows") rfl)
  have m_Solution_bounds : Meth K (He.ga K "Solution") "bounds" (He.ma K (He.ga K "Solution") "bounds") := He.meth_ok (d.fact 60 (f := .meth "Solution" "bounds") rfl)
  have m_Solution_holds : Meth K (He.ga K "Solution") "holds" (He.ma K (He.ga K "Solution") "holds") := He.meth_ok (d.fact 61 (f := .meth "Solution" "holds") rfl)
  have m_Solution_numbers : Meth K (He.ga K "Solution") "numbers" (He.ma K (He.ga K "Solution") "numbers") := He.meth_ok (d.fact 62 (f := .meth "Solution" "numbers") rfl)
  have m_Solution_told : Meth K (He.ga K "Solution") "told" (He.ma K (He.ga K "Solution") "told") := He.meth_ok (d.fact 63 (f := .meth "Solution" "told") rfl)
  have m_Solution___bool__ : Meth K (He.ga K "Solution") "__bool__" (He.ma K (He.ga K "Solution") "__bool__") := He.meth_ok (d.fact 64 (f := .meth "Solution" "__bool__") rfl)
  have m_Solution___repr__ : Meth K (He.ga K "Solution") "__repr__" (He.ma K (He.ga K "Solution") "__repr__") := He.meth_ok (d.fact 65 (f := .meth "Solution" "__repr__") rfl)
  have gM : mg "Mirror" = some (.ref (He.ga K "Mirror")) := He.glo_ok X G (d.fact 12 (f := .glo "Mirror") rfl)
  have cM : Cls K (He.ga K "Mirror") := He.cls_ok (d.fact 66 (f := .cls "Mirror") rfl)
  have mkr_Mirror : Mk K (He.ga K "Mirror") (He.ma K (He.ga K "Mirror") "__init__") := He.mkr_ok (d.fact 67 (f := .mkr "Mirror") rfl)
  have n_Mirror__rows : NoAttr K (He.ga K "Mirror") "_rows" := He.noat_ok (d.fact 68 (f := .noat "Mirror" "_rows") rfl)
  have n_Mirror__bounds : NoAttr K (He.ga K "Mirror") "_bounds" := He.noat_ok (d.fact 69 (f := .noat "Mirror" "_bounds") rfl)
  have n_Mirror__numbers : NoAttr K (He.ga K "Mirror") "_numbers" := He.noat_ok (d.fact 70 (f := .noat "Mirror" "_numbers") rfl)
  have m_Mirror_rows : Meth K (He.ga K "Mirror") "rows" (He.ma K (He.ga K "Mirror") "rows") := He.meth_ok (d.fact 71 (f := .meth "Mirror" "rows") rfl)
  have m_Mirror_bounds : Meth K (He.ga K "Mirror") "bounds" (He.ma K (He.ga K "Mirror") "bounds") := He.meth_ok (d.fact 72 (f := .meth "Mirror" "bounds") rfl)
  have m_Mirror_holds : Meth K (He.ga K "Mirror") "holds" (He.ma K (He.ga K "Mirror") "holds") := He.meth_ok (d.fact 73 (f := .meth "Mirror" "holds") rfl)
  have m_Mirror_numbers : Meth K (He.ga K "Mirror") "numbers" (He.ma K (He.ga K "Mirror") "numbers") := He.meth_ok (d.fact 74 (f := .meth "Mirror" "numbers") rfl)
  have m_Mirror_told : Meth K (He.ga K "Mirror") "told" (He.ma K (He.ga K "Mirror") "told") := He.meth_ok (d.fact 75 (f := .meth "Mirror" "told") rfl)
  have m_Mirror___bool__ : Meth K (He.ga K "Mirror") "__bool__" (He.ma K (He.ga K "Mirror") "__bool__") := He.meth_ok (d.fact 76 (f := .meth "Mirror" "__bool__") rfl)
  have m_Mirror___repr__ : Meth K (He.ga K "Mirror") "__repr__" (He.ma K (He.ga K "Mirror") "__repr__") := He.meth_ok (d.fact 77 (f := .meth "Mirror" "__repr__") rfl)
  have gTb : mg "Tableau" = some (.ref (He.ga K "Tableau")) := He.glo_ok X G (d.fact 13 (f := .glo "Tableau") rfl)
  have cTb : Cls K (He.ga K "Tableau") := He.cls_ok (d.fact 78 (f := .cls "Tableau") rfl)
  have mkr_Tableau : Mk K (He.ga K "Tableau") (He.ma K (He.ga K "Tableau") "__init__") := He.mkr_ok (d.fact 79 (f := .mkr "Tableau") rfl)
  have n_Tableau_free : NoAttr K (He.ga K "Tableau") "free" := He.noat_ok (d.fact 80 (f := .noat "Tableau" "free") rfl)
  have n_Tableau_basic : NoAttr K (He.ga K "Tableau") "basic" := He.noat_ok (d.fact 81 (f := .noat "Tableau" "basic") rfl)
  have n_Tableau_parts : NoAttr K (He.ga K "Tableau") "parts" := He.noat_ok (d.fact 82 (f := .noat "Tableau" "parts") rfl)
  have n_Tableau_starts : NoAttr K (He.ga K "Tableau") "starts" := He.noat_ok (d.fact 83 (f := .noat "Tableau" "starts") rfl)
  have n_Tableau_costs : NoAttr K (He.ga K "Tableau") "costs" := He.noat_ok (d.fact 84 (f := .noat "Tableau" "costs") rfl)
  have n_Tableau_total : NoAttr K (He.ga K "Tableau") "total" := He.noat_ok (d.fact 85 (f := .noat "Tableau" "total") rfl)
  have n_Tableau_whole : NoAttr K (He.ga K "Tableau") "whole" := He.noat_ok (d.fact 86 (f := .noat "Tableau" "whole") rfl)
  have m_Tableau_leaving : Meth K (He.ga K "Tableau") "leaving" (He.ma K (He.ga K "Tableau") "leaving") := He.meth_ok (d.fact 87 (f := .meth "Tableau" "leaving") rfl)
  have m_Tableau_entering : Meth K (He.ga K "Tableau") "entering" (He.ma K (He.ga K "Tableau") "entering") := He.meth_ok (d.fact 88 (f := .meth "Tableau" "entering") rfl)
  have m_Tableau_pivot : Meth K (He.ga K "Tableau") "pivot" (He.ma K (He.ga K "Tableau") "pivot") := He.meth_ok (d.fact 89 (f := .meth "Tableau" "pivot") rfl)
  have m_Tableau_run : Meth K (He.ga K "Tableau") "run" (He.ma K (He.ga K "Tableau") "run") := He.meth_ok (d.fact 90 (f := .meth "Tableau" "run") rfl)
  obtain ⟨fd_law, F_law⟩ := d.def_ 39 (d := dlaw) rfl
  have e := hfa.symm.trans (He.glo_ok X G (d.fact 24 (f := .glo "law") rfl))
  cases e
  have b := FunD.bindsA (ps := ["_law_script"]) F_law fun _ _ _ _ _ _ us hl => match us, hl with | [_], _ => rfl
  refine ⟨fd_law, fun s v => b s [v] rfl, fun base _ _ => ?_⟩
  obtain ⟨fd_is_number, F_is_number⟩ := d.def_ 0 (d := dis_number) rfl
  have D_is_number : KD P w K mg base "is_number" 1 (spD K FisNumber) := kd_mk F_is_number (ok_is_number F_is_number h_isinstance h_int h_bool) (He.glo_ok X G (d.fact 0 (f := .glo "is_number") rfl)) (F_is_number.bindsN (fun _ _ _ _ _ _ us hl => match us, hl with | [_, _], _ => rfl))
  obtain ⟨fd_lowest, F_lowest⟩ := d.def_ 1 (d := dlowest) rfl
  have D_lowest : KD P w K mg base "lowest" 1 (spD K Flowest) := kd_mk F_lowest (ok_lowest F_lowest h_abs h_max) (He.glo_ok X G (d.fact 1 (f := .glo "lowest") rfl)) (F_lowest.bindsN (fun _ _ _ _ _ _ us hl => match us, hl with | [_], _ => rfl))
  obtain ⟨fd_L_open, F_L_open⟩ := d.def_ 29 (d := dL_open) rfl
  have D_L_open : KD P w K mg base "_law_open" 1 (spOpen K) := kd_mk F_L_open (ok_L_open F_L_open h_list h_len) (He.glo_ok X G (d.fact 14 (f := .glo "_law_open") rfl)) (F_L_open.bindsN (fun _ _ _ _ _ _ us hl => match us, hl with | [_], _ => rfl))
  obtain ⟨fd_L_take, F_L_take⟩ := d.def_ 30 (d := dL_take) rfl
  have D_L_take : KD P w K mg base "_law_take" 1 (spB K Ftake) := kd_mk F_L_take (ok_L_take F_L_take h_len h_int) (He.glo_ok X G (d.fact 15 (f := .glo "_law_take") rfl)) (F_L_take.bindsN (fun _ _ _ _ _ _ us hl => match us, hl with | [_, _], _ => rfl))
  obtain ⟨fd_L_one, F_L_one⟩ := d.def_ 31 (d := dL_one) rfl
  have D_L_one : KD P w K mg base "_law_one" 2 (spB K Fone) := kd_mk F_L_one (ok_L_one F_L_one D_L_take h_len) (He.glo_ok X G (d.fact 16 (f := .glo "_law_one") rfl)) (F_L_one.bindsN (fun _ _ _ _ _ _ us hl => match us, hl with | [_, _], _ => rfl))
  obtain ⟨fd_L_kind, F_L_kind⟩ := d.def_ 32 (d := dL_kind) rfl
  have D_L_kind : KD P w K mg base "_law_kind" 1 (spD K Fkind) := kd_mk F_L_kind (ok_L_kind F_L_kind h_isinstance h_bool h_int h_str h_list h_tuple) (He.glo_ok X G (d.fact 17 (f := .glo "_law_kind") rfl)) (F_L_kind.bindsN (fun _ _ _ _ _ _ us hl => match us, hl with | [_], _ => rfl))
  obtain ⟨fd_L_same, F_L_same⟩ := d.def_ 33 (d := dL_same) rfl
  have b_same := F_L_same.bindsN (ps := ["_law_found", "_law_due"]) (fun _ _ _ _ _ _ us hl => match us, hl with | [_, _], _ => rfl)
  have g_same := He.glo_ok X G (d.fact 18 (f := .glo "_law_same") rfl)
  have D_L_same : ∀ n, KD P w K mg base "_law_same" (n + 2) (spD K (Fsame n)) := fun n => kd_mk F_L_same (ok_L_same F_L_same g_same b_same D_L_kind h_len h_all h_zip n) g_same b_same
  obtain ⟨fd_copied, F_copied⟩ := d.def_ 2 (d := dcopied) rfl
  have b_cop := F_copied.bindsN (ps := ["value"]) (fun _ _ _ _ _ _ us hl => match us, hl with | [_], _ => rfl)
  have g_cop := He.glo_ok X G (d.fact 2 (f := .glo "copied") rfl)
  have D_copied : KD P w K mg base "copied" 5 (spCop K 4) := kd_mk F_copied (ok_cop F_copied g_cop b_cop h_isinstance h_list h_tuple 4) g_cop b_cop
  obtain ⟨fd_is_whole, F_is_whole⟩ := d.def_ 18 (d := dis_whole) rfl
  have D_is_whole : KD P w K mg base "is_whole" 1 (spD K Fwh) := kd_mk F_is_whole (ok_wh F_is_whole h_isinstance h_int h_bool) (He.glo_ok X G (d.fact 4 (f := .glo "is_whole") rfl)) (F_is_whole.bindsN (fun _ _ _ _ _ _ us hl => match us, hl with | [_], _ => rfl))
  obtain ⟨fd_are_numbers, F_are_numbers⟩ := d.def_ 17 (d := dare_numbers) rfl
  have D_are_numbers : KD P w K mg base "are_numbers" 2 (spD K FareN) := kd_mk F_are_numbers (ok_areN F_are_numbers D_is_number h_isinstance h_list h_tuple h_all) (He.glo_ok X G (d.fact 3 (f := .glo "are_numbers") rfl)) (F_are_numbers.bindsN (fun _ _ _ _ _ _ us hl => match us, hl with | [_], _ => rfl))
  obtain ⟨fd_check_system, F_check_system⟩ := d.def_ 19 (d := dcheck_system) rfl
  have D_check_system : KD P w K mg base "check_system" 2 (spD K Fchk) := kd_mk F_check_system (ok_chk F_check_system D_is_whole h_isinstance h_list h_tuple h_all h_len h_enumerate) (He.glo_ok X G (d.fact 5 (f := .glo "check_system") rfl)) (F_check_system.bindsN (fun _ _ _ _ _ _ us hl => match us, hl with | [_, _], _ => rfl))
  obtain ⟨fd_mixed, F_mixed⟩ := d.def_ 25 (d := dmixed) rfl
  have D_mixed : KD P w K mg base "mixed" 1 spMix := kd_mk F_mixed (ok_mixed F_mixed h_zip) (He.glo_ok X G (d.fact 6 (f := .glo "mixed") rfl)) (F_mixed.bindsN (fun _ _ _ _ _ _ us hl => match us, hl with | [_, _, _, _, _, _], _ => rfl))
  obtain ⟨fd_point_of, F_point_of⟩ := d.def_ 26 (d := dpoint_of) rfl
  have D_point_of : KD P w K mg base "point_of" 2 (spPof K (He.ga K "Tableau")) := kd_mk F_point_of (ok_pof F_point_of h_zip D_lowest cTb n_Tableau_basic n_Tableau_starts n_Tableau_whole) (He.glo_ok X G (d.fact 7 (f := .glo "point_of") rfl)) (F_point_of.bindsN (fun _ _ _ _ _ _ us hl => match us, hl with | [_, _], _ => rfl))
  obtain ⟨fd_mirror_of, F_mirror_of⟩ := d.def_ 27 (d := dmirror_of) rfl
  have D_mirror_of : KD P w K mg base "mirror_of" 2 (spMof K (He.ga K "Tableau")) := kd_mk F_mirror_of (ok_mof F_mirror_of h_zip h_len D_lowest cTb n_Tableau_basic n_Tableau_free n_Tableau_parts n_Tableau_whole) (He.glo_ok X G (d.fact 8 (f := .glo "mirror_of") rfl)) (F_mirror_of.bindsN (fun _ _ _ _ _ _ us hl => match us, hl with | [_, _, _], _ => rfl))
  obtain ⟨fd_T_lea, F_T_lea⟩ := d.def_ 21 (d := dTableau__leaving) rfl
  have D_T_lea : KM P w K mg base (He.ga K "Tableau") "leaving" 1 (spLeav (He.ga K "Tableau")) := ⟨_, _, _, ok_leav F_T_lea h_enumerate cTb n_Tableau_basic n_Tableau_starts, m_Tableau_leaving.at_, m_Tableau_leaving.fn, m_Tableau_leaving.kp, F_T_lea.bindsN (fun _ _ _ _ _ _ us hl => match us, hl with | [_], _ => rfl)⟩
  obtain ⟨fd_T_ent, F_T_ent⟩ := d.def_ 22 (d := dTableau__entering) rfl
  have D_T_ent : KM P w K mg base (He.ga K "Tableau") "entering" 1 (spEnt (He.ga K "Tableau")) := ⟨_, _, _, ok_ent F_T_ent h_enumerate cTb n_Tableau_parts n_Tableau_costs n_Tableau_free, m_Tableau_entering.at_, m_Tableau_entering.fn, m_Tableau_entering.kp, F_T_ent.bindsN (fun _ _ _ _ _ _ us hl => match us, hl with | [_, _], _ => rfl)⟩
  obtain ⟨fd_T_piv, F_T_piv⟩ := d.def_ 23 (d := dTableau__pivot) rfl
  have D_T_piv : KM P w K mg base (He.ga K "Tableau") "pivot" 2 (spPiv (He.ga K "Tableau")) := ⟨_, _, _, ok_piv F_T_piv h_range h_len h_list D_mixed cTb n_Tableau_free n_Tableau_basic n_Tableau_parts n_Tableau_starts n_Tableau_costs n_Tableau_total n_Tableau_whole, m_Tableau_pivot.at_, m_Tableau_pivot.fn, m_Tableau_pivot.kp, F_T_piv.bindsN (fun _ _ _ _ _ _ us hl => match us, hl with | [_, _, _], _ => rfl)⟩
  obtain ⟨fd_T_run, F_T_run⟩ := d.def_ 24 (d := dTableau__run) rfl
  have D_T_run : KM P w K mg base (He.ga K "Tableau") "run" 3 (spRun (He.ga K "Tableau")) := ⟨_, _, _, ok_run F_T_run cTb D_T_lea D_T_ent D_T_piv, m_Tableau_run.at_, m_Tableau_run.fn, m_Tableau_run.kp, F_T_run.bindsN (fun _ _ _ _ _ _ us hl => match us, hl with | [_], _ => rfl)⟩
  obtain ⟨fd_ti, F_ti⟩ := d.def_ 20 (d := dTableau____init__) rfl
  have F_ti : FunD K "__init__" "Tableau.__init__" (defArgs sTableau____init__) (defBody sTableau____init__) (defScope sTableau____init__) [] [] (He.ma K (He.ga K "Tableau") "__init__") fd_ti := F_ti
  have GT := ok_tini (P := P) (w := w) (mg := mg) (base := base) F_ti h_len h_list h_range cTb n_Tableau_free n_Tableau_basic n_Tableau_parts n_Tableau_starts n_Tableau_costs n_Tableau_total n_Tableau_whole
  have bTi := F_ti.bindsN (ps := ["self", "costs", "rows", "bounds"]) (fun _ _ _ _ _ _ us hl => match us, hl with | [_, _, _, _], _ => rfl)
  obtain ⟨fd_oi, F_oi⟩ := d.def_ 3 (d := dOutcome____init__) rfl
  have F_oi : FunD K "__init__" "Outcome.__init__" (defArgs sOutcome____init__) (defBody sOutcome____init__) (defScope sOutcome____init__) [] [] (He.ma K (He.ga K "Outcome") "__init__") fd_oi := F_oi
  have GO := ok_oin (P := P) (w := w) (mg := mg) (base := base) F_oi h_list
  have bO := F_oi.bindsN (ps := ["self", "rows", "bounds"]) (fun _ _ _ _ _ _ us hl => match us, hl with | [_, _, _], _ => rfl)
  have US : SupK P K mg (He.ga K "Solution") (He.ga K "Solution") (He.ma K (He.ga K "Outcome") "__init__") := ⟨h_super, hsup, x_sup_no, x_Solution_sup, x_Solution_sub, x_sup_fn, x_sup_ty⟩
  have UM : SupK P K mg (He.ga K "Mirror") (He.ga K "Mirror") (He.ma K (He.ga K "Outcome") "__init__") := ⟨h_super, hsup, x_sup_no, x_Mirror_sup, x_Mirror_sub, x_sup_fn, x_sup_ty⟩
  obtain ⟨fd_si, F_si⟩ := super_ c0 hm 0 (d := dSolution____init__)
  obtain ⟨fd_mi, F_mi⟩ := super_ c0 hm 1 (d := dMirror____init__)
  have F_si : FunS P K "__init__" "Solution.__init__" (defArgs sSolution____init__) (defBody sSolution____init__) (defScope sSolution____init__) (He.ga K "Solution") (He.ma K (He.ga K "Solution") "__init__") fd_si := F_si
  have F_mi : FunS P K "__init__" "Mirror.__init__" (defArgs sMirror____init__) (defBody sMirror____init__) (defScope sMirror____init__) (He.ga K "Mirror") (He.ma K (He.ga K "Mirror") "__init__") fd_mi := F_mi
  have M1 : MkSol P w K mg base (He.ga K "Solution") := ⟨_, fd_si, ["self", "rows", "bounds", "scale", "numbers"], mkr_Solution, ok_sin F_si US GO bO D_copied cS n_Solution__rows n_Solution__bounds n_Solution__scale n_Solution__numbers, F_si.bindsN (fun _ _ _ _ _ _ _ us hl => match us, hl with | [_, _, _, _, _], _ => rfl)⟩
  have M2 : MkMir P w K mg base (He.ga K "Mirror") := ⟨_, fd_mi, ["self", "rows", "bounds", "numbers"], mkr_Mirror, ok_min F_mi UM GO bO D_copied cM n_Mirror__rows n_Mirror__bounds n_Mirror__numbers, F_mi.bindsN (fun _ _ _ _ _ _ _ us hl => match us, hl with | [_, _, _, _], _ => rfl)⟩
  obtain ⟨fd_solve, F_solve⟩ := d.def_ 28 (d := dsolve) rfl
  have OKV := ok_solve (P := P) (w := w) (mg := mg) (base := base) F_solve D_check_system D_point_of D_mirror_of M1 M2 mkr_Tableau GT bTi D_T_run cTb gS gM gTb h_len
  have D_solve : KD P w K mg base "solve" 8 (spSolve K (He.ga K "Solution") (He.ga K "Mirror")) := kd_mk F_solve OKV (He.glo_ok X G (d.fact 9 (f := .glo "solve") rfl)) (F_solve.bindsN (fun _ _ _ _ _ _ us hl => match us, hl with | [_, _], _ => rfl))
  have K_solve : KDK P w K mg base "solve" ["bounds", "rows"] 8 (spSolve K (He.ga K "Solution") (He.ga K "Mirror")) := ⟨_, _, ["rows", "bounds"], OKV, He.glo_ok X G (d.fact 9 (f := .glo "solve") rfl), F_solve.kp, kbindsW F_solve 0 fun _ _ _ _ _ _ us ws l1 l2 => match us, l1, ws, l2 with | [], _, [_, _], _ => rfl⟩
  obtain ⟨fd_orw, F_orw⟩ := d.def_ 4 (d := dOutcome__rows) rfl
  obtain ⟨fd_obd, F_obd⟩ := d.def_ 5 (d := dOutcome__bounds) rfl
  obtain ⟨fd_obo, F_obo⟩ := d.def_ 8 (d := dOutcome____bool__) rfl
  have mrO : Meth K (He.ga K "Outcome") "rows" (He.ma K (He.ga K "Outcome") "rows") := m_Outcome_rows
  have mbO : Meth K (He.ga K "Outcome") "bounds" (He.ma K (He.ga K "Outcome") "bounds") := m_Outcome_bounds
  have D_O_row : KM P w K mg base (He.ga K "Outcome") "rows" 1 (spOrw K (He.ga K "Outcome")) := ⟨_, _, _, ok_Orw F_orw h_list cO n_Outcome__rows, mrO.at_, mrO.fn, mrO.kp, F_orw.bindsN (fun _ _ _ _ _ _ us hl => match us, hl with | [_], _ => rfl)⟩
  have D_O_bnd : KM P w K mg base (He.ga K "Outcome") "bounds" 1 (spObd K (He.ga K "Outcome")) := ⟨_, _, _, ok_Obd F_obd h_list cO n_Outcome__bounds, mbO.at_, mbO.fn, mbO.kp, F_obd.bindsN (fun _ _ _ _ _ _ us hl => match us, hl with | [_], _ => rfl)⟩
  have mrS : Meth K (He.ga K "Solution") "rows" (He.ma K (He.ga K "Outcome") "rows") := x_Solution_eq_rows ▸ m_Solution_rows
  have mbS : Meth K (He.ga K "Solution") "bounds" (He.ma K (He.ga K "Outcome") "bounds") := x_Solution_eq_bounds ▸ m_Solution_bounds
  have D_S_row : KM P w K mg base (He.ga K "Solution") "rows" 1 (spOrw K (He.ga K "Solution")) := ⟨_, _, _, ok_Orw F_orw h_list cS n_Solution__rows, mrS.at_, mrS.fn, mrS.kp, F_orw.bindsN (fun _ _ _ _ _ _ us hl => match us, hl with | [_], _ => rfl)⟩
  have D_S_bnd : KM P w K mg base (He.ga K "Solution") "bounds" 1 (spObd K (He.ga K "Solution")) := ⟨_, _, _, ok_Obd F_obd h_list cS n_Solution__bounds, mbS.at_, mbS.fn, mbS.kp, F_obd.bindsN (fun _ _ _ _ _ _ us hl => match us, hl with | [_], _ => rfl)⟩
  have mrM : Meth K (He.ga K "Mirror") "rows" (He.ma K (He.ga K "Outcome") "rows") := x_Mirror_eq_rows ▸ m_Mirror_rows
  have mbM : Meth K (He.ga K "Mirror") "bounds" (He.ma K (He.ga K "Outcome") "bounds") := x_Mirror_eq_bounds ▸ m_Mirror_bounds
  have D_M_row : KM P w K mg base (He.ga K "Mirror") "rows" 1 (spOrw K (He.ga K "Mirror")) := ⟨_, _, _, ok_Orw F_orw h_list cM n_Mirror__rows, mrM.at_, mrM.fn, mrM.kp, F_orw.bindsN (fun _ _ _ _ _ _ us hl => match us, hl with | [_], _ => rfl)⟩
  have D_M_bnd : KM P w K mg base (He.ga K "Mirror") "bounds" 1 (spObd K (He.ga K "Mirror")) := ⟨_, _, _, ok_Obd F_obd h_list cM n_Mirror__bounds, mbM.at_, mbM.fn, mbM.kp, F_obd.bindsN (fun _ _ _ _ _ _ us hl => match us, hl with | [_], _ => rfl)⟩
  obtain ⟨fd_S_num, F_S_num⟩ := d.def_ 10 (d := dSolution__numbers) rfl
  have D_S_num : KM P w K mg base (He.ga K "Solution") "numbers" 6 (spOcp K (He.ga K "Solution") "_numbers") := ⟨_, _, _, ok_Snu F_S_num D_copied cS n_Solution__numbers, m_Solution_numbers.at_, m_Solution_numbers.fn, m_Solution_numbers.kp, F_S_num.bindsN (fun _ _ _ _ _ _ us hl => match us, hl with | [_], _ => rfl)⟩
  obtain ⟨fd_M_num, F_M_num⟩ := d.def_ 14 (d := dMirror__numbers) rfl
  have D_M_num : KM P w K mg base (He.ga K "Mirror") "numbers" 6 (spOcp K (He.ga K "Mirror") "_numbers") := ⟨_, _, _, ok_Mnu F_M_num D_copied cM n_Mirror__numbers, m_Mirror_numbers.at_, m_Mirror_numbers.fn, m_Mirror_numbers.kp, F_M_num.bindsN (fun _ _ _ _ _ _ us hl => match us, hl with | [_], _ => rfl)⟩
  obtain ⟨fd_S_boo, F_S_boo⟩ := d.def_ 13 (d := dSolution____bool__) rfl
  have D_S_boo : KM P w K mg base (He.ga K "Solution") "__bool__" 1 (spBoo true) := ⟨_, _, _, ok_Sbo F_S_boo, m_Solution___bool__.at_, m_Solution___bool__.fn, m_Solution___bool__.kp, F_S_boo.bindsN (fun _ _ _ _ _ _ us hl => match us, hl with | [_], _ => rfl)⟩
  have mbM2 : Meth K (He.ga K "Mirror") "__bool__" (He.ma K (He.ga K "Outcome") "__bool__") := x_Mirror_eq_bool ▸ m_Mirror___bool__
  have D_M_boo : KM P w K mg base (He.ga K "Mirror") "__bool__" 1 (spBoo false) := ⟨_, _, _, ok_Obo F_obo, mbM2.at_, mbM2.fn, mbM2.kp, F_obo.bindsN (fun _ _ _ _ _ _ us hl => match us, hl with | [_], _ => rfl)⟩
  obtain ⟨⟨fd_scl, F_scl⟩, hpscl⟩ := getter c0 0 (d := dSolution__scale)
  have OKS := ok_Ssc (P := P) (w := w) (mg := mg) (base := base) F_scl D_copied cS n_Solution__scale
  have bSc := F_scl.bindsN (ps := ["self"]) (fun _ _ _ _ _ _ us hl => match us, hl with | [_], _ => rfl)
  obtain ⟨fd_S_hol, F_S_hol⟩ := d.def_ 12 (d := dSolution__holds) rfl
  have D_S_hol : KM P w K mg base (He.ga K "Solution") "holds" 8 (spSho K (He.ga K "Solution")) := ⟨_, _, _, ok_Sho F_S_hol D_is_number D_are_numbers hpscl OKS bSc cS n_Solution__rows n_Solution__bounds n_Solution__numbers h_len h_sum h_zip, m_Solution_holds.at_, m_Solution_holds.fn, m_Solution_holds.kp, F_S_hol.bindsN (fun _ _ _ _ _ _ us hl => match us, hl with | [_], _ => rfl)⟩
  obtain ⟨fd_M_hol, F_M_hol⟩ := d.def_ 16 (d := dMirror__holds) rfl
  have D_M_hol : KM P w K mg base (He.ga K "Mirror") "holds" 8 (spMho K (He.ga K "Mirror")) := ⟨_, _, _, ok_Mho F_M_hol D_are_numbers cM n_Mirror__rows n_Mirror__bounds n_Mirror__numbers h_len h_sum h_zip h_all h_range, m_Mirror_holds.at_, m_Mirror_holds.fn, m_Mirror_holds.kp, F_M_hol.bindsN (fun _ _ _ _ _ _ us hl => match us, hl with | [_], _ => rfl)⟩
  have D_O_boo : KM P w K mg base (He.ga K "Outcome") "__bool__" 1 (spBoo false) := ⟨_, _, _, ok_Obo F_obo, m_Outcome___bool__.at_, m_Outcome___bool__.fn, m_Outcome___bool__.kp, F_obo.bindsN (fun _ _ _ _ _ _ us hl => match us, hl with | [_], _ => rfl)⟩
  obtain ⟨fd_O_hol, F_O_hol⟩ := d.def_ 6 (d := dOutcome__holds) rfl
  have D_O_hol : KM P w K mg base (He.ga K "Outcome") "holds" 1 (spBoo false) := ⟨_, _, _, ok_Oho F_O_hol, m_Outcome_holds.at_, m_Outcome_holds.fn, m_Outcome_holds.kp, F_O_hol.bindsN (fun _ _ _ _ _ _ us hl => match us, hl with | [_], _ => rfl)⟩
  obtain ⟨fd_O_tld, F_O_tld⟩ := d.def_ 7 (d := dOutcome__told) rfl
  have D_O_tld : KM P w K mg base (He.ga K "Outcome") "told" 1 (spStr "Outcome") := ⟨_, _, _, ok_Oto F_O_tld, m_Outcome_told.at_, m_Outcome_told.fn, m_Outcome_told.kp, F_O_tld.bindsN (fun _ _ _ _ _ _ us hl => match us, hl with | [_], _ => rfl)⟩
  obtain ⟨fd_S_tld, F_S_tld⟩ := d.def_ 11 (d := dSolution__told) rfl
  have D_S_tld : KM P w K mg base (He.ga K "Solution") "told" 1 (spStr "Solution") := ⟨_, _, _, ok_Sto F_S_tld, m_Solution_told.at_, m_Solution_told.fn, m_Solution_told.kp, F_S_tld.bindsN (fun _ _ _ _ _ _ us hl => match us, hl with | [_], _ => rfl)⟩
  obtain ⟨fd_M_tld, F_M_tld⟩ := d.def_ 15 (d := dMirror__told) rfl
  have D_M_tld : KM P w K mg base (He.ga K "Mirror") "told" 1 (spStr "Mirror") := ⟨_, _, _, ok_Mto F_M_tld, m_Mirror_told.at_, m_Mirror_told.fn, m_Mirror_told.kp, F_M_tld.bindsN (fun _ _ _ _ _ _ us hl => match us, hl with | [_], _ => rfl)⟩
  obtain ⟨fd_orp, F_orp⟩ := d.def_ 9 (d := dOutcome____repr__) rfl
  have mpO : Meth K (He.ga K "Outcome") "__repr__" (He.ma K (He.ga K "Outcome") "__repr__") := m_Outcome___repr__
  have D_O_rep : KM P w K mg base (He.ga K "Outcome") "__repr__" 2 (spRep K (He.ga K "Outcome") "Outcome") := ⟨_, _, _, ok_Orp F_orp D_O_tld (by decide +kernel) h_len cO n_Outcome__rows, mpO.at_, mpO.fn, mpO.kp, F_orp.bindsN (fun _ _ _ _ _ _ us hl => match us, hl with | [_], _ => rfl)⟩
  have mpS : Meth K (He.ga K "Solution") "__repr__" (He.ma K (He.ga K "Outcome") "__repr__") := x_Solution_eq___repr__ ▸ m_Solution___repr__
  have D_S_rep : KM P w K mg base (He.ga K "Solution") "__repr__" 2 (spRep K (He.ga K "Solution") "Solution") := ⟨_, _, _, ok_Orp F_orp D_S_tld (by decide +kernel) h_len cS n_Solution__rows, mpS.at_, mpS.fn, mpS.kp, F_orp.bindsN (fun _ _ _ _ _ _ us hl => match us, hl with | [_], _ => rfl)⟩
  have mpM : Meth K (He.ga K "Mirror") "__repr__" (He.ma K (He.ga K "Outcome") "__repr__") := x_Mirror_eq___repr__ ▸ m_Mirror___repr__
  have D_M_rep : KM P w K mg base (He.ga K "Mirror") "__repr__" 2 (spRep K (He.ga K "Mirror") "Mirror") := ⟨_, _, _, ok_Orp F_orp D_M_tld (by decide +kernel) h_len cM n_Mirror__rows, mpM.at_, mpM.fn, mpM.kp, F_orp.bindsN (fun _ _ _ _ _ _ us hl => match us, hl with | [_], _ => rfl)⟩
  have M3 : MkOut P w K mg base (He.ga K "Outcome") := ⟨⟨_, fd_oi, ["self", "rows", "bounds"], mkr_Outcome, GO, bO⟩, cO, n_Outcome__rows, n_Outcome__bounds⟩
  have M4 : MkMirK P w K mg base (He.ga K "Mirror") := ⟨_, fd_mi, ["self", "rows", "bounds", "numbers"], _, _, mkr_Mirror, ok_min F_mi UM GO bO D_copied cM n_Mirror__rows n_Mirror__bounds n_Mirror__numbers, kbindsS3 F_mi (fun _ _ _ _ _ _ _ us ws l1 l2 => match us, l1, ws, l2 with | [_], _, [_, _, _], _ => rfl), fun s u v w => rfl⟩
  obtain ⟨fd_L_some_rows, F_L_some_rows⟩ := d.def_ 36 (d := dL_some_rows) rfl
  have D_L_some_rows : KD P w K mg base "_law_some_rows" 3 (spSrN K) := kd_mk F_L_some_rows (ok_L_srN F_L_some_rows D_L_one h_range) (He.glo_ok X G (d.fact 21 (f := .glo "_law_some_rows") rfl)) (F_L_some_rows.bindsN (fun _ _ _ _ _ _ us hl => match us, hl with | [_, _, _], _ => rfl))
  obtain ⟨fd_L_numbers_from, F_L_numbers_from⟩ := d.def_ 37 (d := dL_numbers_from) rfl
  have D_L_numbers_from : KD P w K mg base "_law_numbers_from" 1 (spD K FLnf) := kd_mk F_L_numbers_from (ok_L_nf F_L_numbers_from h_isinstance h_list h_int h_bool h_all) (He.glo_ok X G (d.fact 22 (f := .glo "_law_numbers_from") rfl)) (F_L_numbers_from.bindsN (fun _ _ _ _ _ _ us hl => match us, hl with | [_], _ => rfl))
  obtain ⟨fd_L_point_fits, F_L_point_fits⟩ := d.def_ 34 (d := dL_point_fits) rfl
  have D_L_point_fits : KD P w K mg base "_law_point_fits" 1 (spD K FLpf) := kd_mk F_L_point_fits (ok_L_pf F_L_point_fits h_any h_all h_sum h_zip) (He.glo_ok X G (d.fact 19 (f := .glo "_law_point_fits") rfl)) (F_L_point_fits.bindsN (fun _ _ _ _ _ _ us hl => match us, hl with | [_, _, _, _], _ => rfl))
  obtain ⟨fd_L_mirror_fits, F_L_mirror_fits⟩ := d.def_ 35 (d := dL_mirror_fits) rfl
  have D_L_mirror_fits : KD P w K mg base "_law_mirror_fits" 1 (spD K FLmf) := kd_mk F_L_mirror_fits (ok_L_mf F_L_mirror_fits h_any h_all h_sum h_zip h_range h_len) (He.glo_ok X G (d.fact 20 (f := .glo "_law_mirror_fits") rfl)) (F_L_mirror_fits.bindsN (fun _ _ _ _ _ _ us hl => match us, hl with | [_, _, _], _ => rfl))
  obtain ⟨fd_L_outcomes_so, F_L_outcomes_so⟩ := d.def_ 38 (d := dL_outcomes_so) rfl
  have D_L_outcomes_so : KD P w K mg base "_law_outcomes_so" 10 spTr := kd_mk F_L_outcomes_so (ok_Loo F_L_outcomes_so D_solve M1 M2 cS cM gS gM D_S_hol D_M_hol D_S_boo D_S_num (D_L_same 2) h_bool) (He.glo_ok X G (d.fact 23 (f := .glo "_law_outcomes_so") rfl)) (F_L_outcomes_so.bindsN (fun _ _ _ _ _ _ us hl => match us, hl with | [], _ => rfl))
  have L : LE P w K mg base (He.ga K "Outcome") (He.ga K "Solution") (He.ga K "Mirror") := ⟨D_L_open, D_L_take, D_L_one, D_L_same, D_L_some_rows, D_L_numbers_from, D_L_point_fits, D_L_mirror_fits, D_solve, M1, M2, M4, M3, cO, cS, cM, gO, gS, gM, D_O_hol, D_S_hol, D_M_hol, D_O_boo, D_S_boo, D_M_boo, D_S_num, D_M_num, D_O_row, D_S_row, D_M_row, D_O_bnd, D_S_bnd, D_M_bnd, ⟨_, _, _, _, hpscl, OKS, bSc⟩, D_O_rep, D_S_rep, D_M_rep, h_list, h_range, h_bool, h_str, h_repr, h_len, D_L_outcomes_so⟩
  exact ok_law F_law L
end
end K04
open PySem PySem.W PySem.Calls PyProof.Rows
theorem PySem.Challenge.cw_dealtpowers_k04_papers_of_systems_judged_holds : PySem.Challenge.rw_dealtpowers_k04_papers_of_systems_judged.Holds := by
  w_on; o_law
  refine HandSHeadRun.head_any (r := OpenLaw.row PySem.Challenge.rw_dealtpowers_k04_papers_of_systems_judged) (q := view (OpenLaw.row PySem.Challenge.rw_dealtpowers_k04_papers_of_systems_judged).prog [30]) (H := K04.hk) (ob := K04.ob) (M := 20000) (loose := K04.nms) (d := HandSHeadRun.topDef (OpenLaw.row PySem.Challenge.rw_dealtpowers_k04_papers_of_systems_judged).prog 30) (kwd := []) K04.ob_eq
    (by kernel_rfl) (fun s => by kernel_rfl) K04.run (by kernel_rfl) (by kernel_rfl) (by kernel_rfl) (by rfl) (by first | assumption | decide +kernel) (by decide +kernel) ⟨rfl, rfl, rfl, rfl, rfl, by decide +kernel⟩ ?hw ?hc
  case hw => w_witness2
  case hc =>
    refine L2.walk_ofE (l := PySem.Challenge.rw_dealtpowers_k04_papers_of_systems_judged) (n := 63) (k := 12) (x := "_law_script") (CX := L2.CX0) rfl (by decide) (by kernel_rfl) ⟨rfl, by decide, by decide⟩ ?F (fun _ _ _ _ z => z)
    intro w mg fa h Y G hmg0
    obtain ⟨K, KX, c⟩ := Y
    have hmg : mg ("law" : PySem.Str) = some (.ref fa) := by
      have e : (HandSHeadRun.topDef (OpenLaw.row PySem.Challenge.rw_dealtpowers_k04_papers_of_systems_judged).prog 30).name = ("law" : PySem.Str) := by kernel_rfl
      rw [← e]
      exact hmg0
    obtain ⟨fd, hb, hF⟩ := K04.facts (P := (PySem.Challenge.rw_dealtpowers_k04_papers_of_systems_judged).prog) (w := w) KX G hmg c rfl (by kernel_rfl)
    exact ⟨K, fd, K04.spLaw K, KX, hb, fun H a ns hl _ hS => ⟨a, ns, rfl, hS, hl, fun _ => rfl⟩, hF⟩
