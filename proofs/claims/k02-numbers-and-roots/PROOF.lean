import PyProof.Rows.All
import Wide.All
import OpenK.AllK
import Wide.FinOn
import KE.KStateDown
import HandS.ForMost
import HandS.ForExc
import HandS.IsInst
import HandS.Zip
import HandS.Defaults
import HandS.MakeKw
import HandS.MakeKwOnly
import HandS.Star
import HandS.ClsMeth
import HandS.Property
import HandS.OwnEq
import HandS.FStr
import HandS.Flow
import HandS.TupMul
import HandS.TupAny
import HandS.Strs
import HandS.WideBits
import HandS.Wide
import HandS.Walk
import HandS.Style
import HandS.SetTxt0
import KE.GoesEnum
import OpenK.KMeth
import OpenK.KOps
import KE.KFmtOwn
import PyProof.Rows.StrStep
import HandS.Exc
import HandS.ExcInit
import HandS.WordsExc
import HandS.TryMany
import HandS.ExcField
import KE.KTryMore
import KE.KExcHand
import HandS.Nested
import HandS.HotCalls
import HandS.HeadHook4
import HandS.Head0
import HandS.Head1
import HandS.Head2
import HandS.HeadEnd
import HandS.HeadHook1
import HandS.HeadHook2
import HandS.HeadHook3
import HandS.HeadWalk
import PySem.Challenge.RW_dealtpowers_k02_numbers_and_roots
set_option Elab.async false
set_option linter.all false
set_option maxRecDepth 100000
set_option maxHeartbeats 0
set_option exponentiation.threshold 256
namespace Z
open PySem PySem.Spec PyProof.Rows L2

/-! ## 1. judgements by the best reading -/
def HE (X : Cx) (e : Expr) (σ : L2.St) (H : Hp) (Q : VK) : Prop := ∀ (pins : List (Addr × Obj)) (s : Shared), Inv X pins σ H s → wpAny (model X.prog X.w) X.A (eval e X.env) (EP X pins σ Q) X.xe s
def HT (X : Cx) (e : Expr) (σ : L2.St) (H : Hp) (Q : Bool → Hp → Prop) : Prop := ∀ (pins : List (Addr × Obj)) (s : Shared), Inv X pins σ H s → wpAny (model X.prog X.w) X.A (isTrue e X.env (eval e X.env)) (TP X pins σ Q) X.xe s
def HW (X : Cx) (e : Expr) (σ : L2.St) (H : Hp) (Q : Bool → Hp → Prop) : Prop := ∀ (whole : Sem Value) (pins : List (Addr × Obj)) (s : Shared), Inv X pins σ H s → wpAny (model X.prog X.w) X.A (isTrue e X.env whole) (TP X pins σ Q) X.xe s
def HA (X : Cx) (es : List Expr) (σ : L2.St) (H : Hp) (Q : List V → Hp → Prop) : Prop := ∀ (pos : Pos) (pins : List (Addr × Obj)) (s : Shared), Inv X pins σ H s → wpAny (model X.prog X.w) X.A (spliced (backTo pos (starEach es X.env))) (AP X pins σ Q) X.xe s
def HS (X : Cx) (D : Ends) (st : List Stmt) (σ : L2.St) (H : Hp) : Prop := ∀ (pins : List (Addr × Obj)) (s : Shared), Inv X pins σ H s → wpAny (model X.prog X.w) X.A (execs st X.env) (SP X pins D) X.xe s
def HG (X : Cx) (tg : Expr) (v : V) (σ : L2.St) (H : Hp) (Q : L2.St → Hp → Prop) : Prop := ∀ (pins : List (Addr × Obj)) (s : Shared) (u : Value), Inv X pins σ H s → RelV v u →
    wpAny (model X.prog X.w) X.A (assign tg X.env u) (fun _ s' => ∃ σ' H', Inv X pins σ' H' s' ∧ Q σ' H') X.xe s
def HI (X : Cx) (tg iter : Expr) (σ : L2.St) (H : Hp) (R : It → Hp → Prop) : Prop := ∀ (pins : List (Addr × Obj)) (s : Shared), Inv X pins σ H s →
    wpAny (model X.prog X.w) X.A (eval iter X.env) (fun v s1 => wpAny (model X.prog X.w) X.A (pyIter v) (PIE X pins σ tg R) X.xe s1) X.xe s
def bE (X : Cx) (e : Expr) : TE := fun σ H Q => HE X e σ H Q
def bT (X : Cx) (e : Expr) : TT := fun σ H Q => HT X e σ H Q
def bW (X : Cx) (e : Expr) : TT := fun σ H Q => HW X e σ H Q
def bA (X : Cx) (es : List Expr) : TA := fun σ H Q => HA X es σ H Q
def bS (X : Cx) (st : List Stmt) : TS := fun D σ H => HS X D st σ H
def bG (X : Cx) (tg : Expr) : TG := fun v σ H Q => HG X tg v σ H Q
def bI (X : Cx) (tg iter : Expr) : TI := fun σ H R => HI X tg iter σ H R
section
variable {X : Cx} {e : Expr} {σ : L2.St} {H : Hp}
theorem peb : PE X e (bE X e) := ⟨fun pins s _ _ _ I h => h pins s I⟩
theorem ptb : PT X e (bT X e) := ⟨fun pins s _ _ _ I h => h pins s I⟩
theorem pwb : PW X e (bW X e) := ⟨fun whole pins s _ _ _ I h => h whole pins s I⟩
theorem pab {es : List Expr} : PA X es (bA X es) := ⟨fun pos pins s _ _ _ I h => h pos pins s I⟩
theorem psb {st : List Stmt} : PSs X st (bS X st) := ⟨fun pins s _ _ _ I h => h pins s I⟩
theorem pgb {tg : Expr} : PG X tg (bG X tg) := ⟨fun pins s _ _ _ u _ I r h => h pins s u I r⟩
theorem pib {tg iter : Expr} : PI X tg iter (bI X tg iter) := ⟨fun pins s _ _ _ I h => h pins s I⟩
theorem he_of {t : TE} {Q : VK} (h : PE X e t) (q : t σ H Q) : HE X e σ H Q := fun pins s I => h.run pins s σ H Q I q
theorem ht_of {t : TT} {Q : Bool → Hp → Prop} (h : PT X e t) (q : t σ H Q) : HT X e σ H Q := fun pins s I => h.run pins s σ H Q I q
theorem hw_of {t : TT} {Q : Bool → Hp → Prop} (h : PW X e t) (q : t σ H Q) : HW X e σ H Q := fun whole pins s I => h.run whole pins s σ H Q I q
theorem ha_of {es : List Expr} {t : TA} {Q : List V → Hp → Prop} (h : PA X es t) (q : t σ H Q) : HA X es σ H Q := fun pos pins s I => h.run pos pins s σ H Q I q
theorem hs_of {st : List Stmt} {t : TS} {D : Ends} (h : PSs X st t) (q : t D σ H) : HS X D st σ H := fun pins s I => h.run pins s σ H D I q
theorem hg_of {tg : Expr} {t : TG} {v : V} {Q : L2.St → Hp → Prop} (h : PG X tg t) (q : t v σ H Q) : HG X tg v σ H Q := fun pins s u I r => h.run pins s σ H v u Q I r q
theorem hi_of {tg iter : Expr} {t : TI} {R : It → Hp → Prop} (h : PI X tg iter t) (q : t σ H R) : HI X tg iter σ H R := fun pins s I => h.run pins s σ H R I q
theorem he_mono {Q Q' : VK} (h : HE X e σ H Q) (hq : ∀ v H', Q v H' → Q' v H') : HE X e σ H Q' := fun pins s I => thn (h pins s I) fun _ _ ⟨v, H', I', r, q⟩ => ⟨v, H', I', r, hq v H' q⟩
theorem ht_mono {Q Q' : Bool → Hp → Prop} (h : HT X e σ H Q) (hq : ∀ v H', Q v H' → Q' v H') : HT X e σ H Q' := fun pins s I => thn (h pins s I) fun _ _ ⟨H', I', q⟩ => ⟨H', I', hq _ H' q⟩
theorem ha_mono {es : List Expr} {Q Q' : List V → Hp → Prop} (h : HA X es σ H Q) (hq : ∀ v H', Q v H' → Q' v H') : HA X es σ H Q' := fun pos pins s I => thn (h pos pins s I) fun _ _ ⟨v, H', I', r, q⟩ => ⟨v, H', I', r, hq v H' q⟩
theorem ht_of_hw {Q : Bool → Hp → Prop} (h : HW X e σ H Q) : HT X e σ H Q := fun pins s I => h _ pins s I
end

/-! ## 2. what stays under growth -/
class Mn (P : V → Hp → Prop) : Prop where
  up : ∀ {v : V} {H H' : Hp}, Same H H' → P v H → P v H'
theorem Same.new {H : Hp} {p : Addr} {o : HO} (h : H p = none) : Same H (upd H p o) := fun a u e => by
  rw [upd_ne (ne_of_none e h)]
  exact e
/-- an object that H does not know may change -/
theorem Same.mut {H H' : Hp} {p : Addr} {o : HO} (e : Same H H') (h : H p = none) : Same H (upd H' p o) := fun a u ha => by
  rw [upd_ne (ne_of_none ha h)]
  exact e a u ha
theorem same_rd {H H' : Hp} {a : Addr} {u : HO} (e : Same H H') (h : Rd H a u) : Rd H' a u := by
  rcases h with h | ⟨o, h⟩
  · exact Or.inl (e a _ h)
  · exact Or.inr ⟨o, e a _ h⟩
theorem sql_up {K : PySem.W.Frag} {H H' : Hp} {a : Addr} {xs : List V} (e : Same H H') (h : SqL K H a xs) : SqL K H' a xs := by
  rcases h with h | h
  · exact Or.inl (same_rd e h)
  · exact Or.inr h
theorem sqt_up {K : PySem.W.Frag} {H H' : Hp} {a : Addr} {xs : List V} (e : Same H H') (h : SqT K H a xs) : SqT K H' a xs := by
  rcases h with h | h
  · exact Or.inl (same_rd e h)
  · exact Or.inr h
theorem sql_of {K : PySem.W.Frag} {H : Hp} {a : Addr} {xs : List V} (h : H a = some (.lst xs)) : SqL K H a xs := Or.inl (Or.inl h)
theorem sqt_of {K : PySem.W.Frag} {H : Hp} {a : Addr} {xs : List V} (h : H a = some (.tup xs)) : SqT K H a xs := Or.inl (Or.inl h)

/-! ## 3. data -/
/-- a value that is data: None, bools, ints, texts, lists that are tracked, tuples -/
inductive Dt (K : PySem.W.Frag) : PyData → V → Hp → Prop
  | non {H : Hp} : Dt K .none .non H
  | bl {H : Hp} (b : Bool) : Dt K (.bool b) (.bl b) H
  | int {H : Hp} (i : Int) : Dt K (.int i) (.int i) H
  | str {H : Hp} (x : Str) : Dt K (.str x) (.str x) H
  | lst {H : Hp} {a : Addr} {xs : List V} {ds : List PyData} : H a = some (.lst xs) → xs.length = ds.length → xs.length ≤ sizeLine → (∀ (i : Nat) (x : V) (d : PyData), xs[i]? = some x → ds[i]? = some d → Dt K d x H) → Dt K (.list ds) (.ref a) H
  | tup {H : Hp} {a : Addr} {xs : List V} {ds : List PyData} : SqT K H a xs → xs.length = ds.length → xs.length ≤ sizeLine → (∀ (i : Nat) (x : V) (d : PyData), xs[i]? = some x → ds[i]? = some d → Dt K d x H) → Dt K (.tuple ds) (.ref a) H
theorem Dt.up {K : PySem.W.Frag} {d : PyData} {v : V} {H H' : Hp} (e : Same H H') (h : Dt K d v H) : Dt K d v H' := by
  induction h with
  | non => exact .non
  | bl b => exact .bl b
  | int i => exact .int i
  | str x => exact .str x
  | lst h l z _ ih => exact .lst (e _ _ h) l z fun i x d hx hd => ih i x d hx hd e
  | tup h l z _ ih => exact .tup (sqt_up e h) l z fun i x d hx hd => ih i x d hx hd e
instance {K : PySem.W.Frag} {d : PyData} : Mn (Dt K d) := ⟨fun e h => h.up e⟩
/-- the values of a sequence's items -/
def Dts (K : PySem.W.Frag) (ds : List PyData) (xs : List V) (H : Hp) : Prop := xs.length = ds.length ∧ ∀ (i : Nat) (x : V) (d : PyData), xs[i]? = some x → ds[i]? = some d → Dt K d x H
theorem Dts.up {K : PySem.W.Frag} {ds : List PyData} {xs : List V} {H H' : Hp} (e : Same H H') (h : Dts K ds xs H) : Dts K ds xs H' := ⟨h.1, fun i x d hx hd => (h.2 i x d hx hd).up e⟩
theorem Dts.nil {K : PySem.W.Frag} {H : Hp} : Dts K [] [] H := ⟨rfl, fun i x d hx _ => by simp at hx⟩
theorem Dts.cons {K : PySem.W.Frag} {d : PyData} {ds : List PyData} {x : V} {xs : List V} {H : Hp} (h : Dt K d x H) (r : Dts K ds xs H) : Dts K (d :: ds) (x :: xs) H := by
  refine ⟨by simp [r.1], fun i y e hy he => ?_⟩
  cases i with
  | zero => simp at hy he; subst hy; subst he; exact h
  | succ i => exact r.2 i y e (by simpa using hy) (by simpa using he)
theorem Dts.get {K : PySem.W.Frag} {ds : List PyData} {xs : List V} {H : Hp} (h : Dts K ds xs H) {i : Nat} {d : PyData} (e : ds[i]? = some d) : ∃ x, xs[i]? = some x ∧ Dt K d x H := by
  have hi : i < xs.length := by rw [h.1]; exact (List.getElem?_eq_some_iff.mp e).1
  exact ⟨xs[i], List.getElem?_eq_getElem hi, h.2 i _ d (List.getElem?_eq_getElem hi) e⟩
theorem Dts.append {K : PySem.W.Frag} {ds es : List PyData} {xs ys : List V} {H : Hp} (h : Dts K ds xs H) (g : Dts K es ys H) : Dts K (ds ++ es) (xs ++ ys) H := by
  refine ⟨by simp [h.1, g.1], fun i y e hy he => ?_⟩
  by_cases hi : i < xs.length
  · rw [List.getElem?_append_left hi] at hy
    rw [List.getElem?_append_left (by rw [← h.1]; exact hi)] at he
    exact h.2 i y e hy he
  · rw [List.getElem?_append_right (by omega)] at hy
    rw [List.getElem?_append_right (by rw [← h.1]; omega), ← h.1] at he
    exact g.2 _ y e hy he
theorem Dts.snoc {K : PySem.W.Frag} {ds : List PyData} {xs : List V} {H : Hp} {d : PyData} {x : V} (h : Dts K ds xs H) (g : Dt K d x H) : Dts K (ds ++ [d]) (xs ++ [x]) H := h.append (Dts.cons g .nil)
theorem Dts.dp {K : PySem.W.Frag} {H : Hp} : ∀ {ds : List PyData} {xs : List V}, xs.length = ds.length → (∀ (i : Nat) (x : V) (d : PyData), xs[i]? = some x → ds[i]? = some d → Dp K H x d) → DpAll K H xs ds
  | [], [], _, _ => .nil
  | [], _ :: _, h, _ => by simp at h
  | _ :: _, [], h, _ => by simp at h
  | d :: ds, x :: xs, h, f => .cons (f 0 x d rfl rfl) (Dts.dp (by simpa using h) fun i y e hy he => f (i + 1) y e (by simpa using hy) (by simpa using he))
theorem Dt.dp {K : PySem.W.Frag} {d : PyData} {v : V} {H : Hp} (h : Dt K d v H) : Dp K H v d := by
  induction h with
  | non => exact .non
  | bl b => exact .bl b
  | int i => exact .int i
  | str x => exact .str x
  | lst h l z _ ih => exact .lst (sql_of h) (Dts.dp l fun i x d hx hd => ih i x d hx hd)
  | tup h l z _ ih => exact .tup h (Dts.dp l fun i x d hx hd => ih i x d hx hd)
theorem Dt.int_inv {K : PySem.W.Frag} {i : Int} {v : V} {H : Hp} (h : Dt K (.int i) v H) : v = .int i := by cases h; rfl
theorem Dt.bl_inv {K : PySem.W.Frag} {b : Bool} {v : V} {H : Hp} (h : Dt K (.bool b) v H) : v = .bl b := by cases h; rfl
theorem Dt.str_inv {K : PySem.W.Frag} {x : Str} {v : V} {H : Hp} (h : Dt K (.str x) v H) : v = .str x := by cases h; rfl
theorem Dt.non_inv {K : PySem.W.Frag} {v : V} {H : Hp} (h : Dt K .none v H) : v = .non := by cases h; rfl
theorem Dt.lst_inv {K : PySem.W.Frag} {ds : List PyData} {v : V} {H : Hp} (h : Dt K (.list ds) v H) : ∃ a xs, v = .ref a ∧ H a = some (.lst xs) ∧ Dts K ds xs H ∧ xs.length ≤ sizeLine := by
  cases h with
  | lst h l z f => exact ⟨_, _, rfl, h, ⟨l, f⟩, z⟩
theorem Dt.tup_inv {K : PySem.W.Frag} {ds : List PyData} {v : V} {H : Hp} (h : Dt K (.tuple ds) v H) : ∃ a xs, v = .ref a ∧ SqT K H a xs ∧ Dts K ds xs H ∧ xs.length ≤ sizeLine := by
  cases h with
  | tup h l z f => exact ⟨_, _, rfl, h, ⟨l, f⟩, z⟩
theorem Dt.lst_mk {K : PySem.W.Frag} {ds : List PyData} {a : Addr} {xs : List V} {H : Hp} (h : H a = some (.lst xs)) (g : Dts K ds xs H) (z : xs.length ≤ sizeLine) : Dt K (.list ds) (.ref a) H := .lst h g.1 z g.2
theorem Dt.tup_mk {K : PySem.W.Frag} {ds : List PyData} {a : Addr} {xs : List V} {H : Hp} (h : SqT K H a xs) (g : Dts K ds xs H) (z : xs.length ≤ sizeLine) : Dt K (.tuple ds) (.ref a) H := .tup h g.1 z g.2

/-! ## 4. growth: S what is known to stay, H the whole -/
structure Gr (S H S' H' : Hp) : Prop where
  st : Same S S'
  sub : Same S' H'
  hh : Same H H'
  old : ∀ a o, H a = some o → S' a = S a
theorem Gr.refl {S H : Hp} (s : Same S H) : Gr S H S H := ⟨Same.refl S, s, Same.refl H, fun _ _ _ => rfl⟩
theorem Gr.trans {S H S1 H1 S2 H2 : Hp} (a : Gr S H S1 H1) (b : Gr S1 H1 S2 H2) : Gr S H S2 H2 :=
  ⟨a.st.trans b.st, b.sub, a.hh.trans b.hh, fun x o h => (b.old x o (a.hh x o h)).trans (a.old x o h)⟩
theorem Gr.new {S H : Hp} {p : Addr} {o : HO} (s : Same S H) (h : H p = none) : Gr S H (upd S p o) (upd H p o) := by
  refine ⟨Same.new (s.free h), fun a u e => ?_, Same.new h, fun a u e => upd_ne (ne_of_none e h)⟩
  by_cases ha : a = p
  · subst ha; rw [upd_same] at e ⊢; exact e
  · rw [upd_ne ha] at e ⊢; exact s a u e
/-- S grown by T -/
def uniS (S T : Hp) : Hp := fun a => match S a with
  | some o => some o
  | none => T a
theorem uni_l {S T : Hp} : Same S (uniS S T) := fun a o h => by unfold uniS; rw [h]
/-- from a smaller S to a greater one -/
theorem Gr.uni {S T H S' H' : Hp} (st : Same S T) (th : Same T H) (g : Gr S H S' H') : Gr T H (uniS S' T) H' := by
  have key : ∀ a o, H a = some o → uniS S' T a = T a := fun a o h => by
    have e := g.old a o h
    unfold uniS
    rw [e]
    cases q : S a with
    | none => rfl
    | some u => rw [st a u q]
  refine ⟨fun a o h => (key a o (th a o h)).trans h, fun a o h => ?_, g.hh, key⟩
  unfold uniS at h
  cases q : S' a with
  | some u => rw [q] at h; cases h; exact g.sub a _ q
  | none => rw [q] at h; exact g.hh a o (th a o h)

/-! ## 5. pure evaluation: e gives a P, and all that stood stands -/
def EE (X : Cx) (σ : L2.St) (S : Hp) (e : Expr) (P : V → Hp → Prop) : Prop := ∀ H, Same S H → ∀ Q : VK, (∀ v S' H', Gr S H S' H' → P v S' → Q v H') → HE X e σ H Q
def ET (X : Cx) (σ : L2.St) (S : Hp) (e : Expr) (b : Bool) : Prop := ∀ H, Same S H → ∀ Q : Bool → Hp → Prop, (∀ S' H', Gr S H S' H' → Q b H') → HT X e σ H Q
def EW (X : Cx) (σ : L2.St) (S : Hp) (e : Expr) (b : Bool) : Prop := ∀ H, Same S H → ∀ Q : Bool → Hp → Prop, (∀ S' H', Gr S H S' H' → Q b H') → HW X e σ H Q
/-- the values vs have the Ps, one by one -/
inductive Al : List (V → Hp → Prop) → List V → Hp → Prop
  | nil {H : Hp} : Al [] [] H
  | cons {P : V → Hp → Prop} {Ps : List (V → Hp → Prop)} {v : V} {vs : List V} {H : Hp} : P v H → Al Ps vs H → Al (P :: Ps) (v :: vs) H
inductive Mns : List (V → Hp → Prop) → Prop
  | nil : Mns []
  | cons {P : V → Hp → Prop} {Ps : List (V → Hp → Prop)} : Mn P → Mns Ps → Mns (P :: Ps)
theorem Al.up {Ps : List (V → Hp → Prop)} {vs : List V} {H H' : Hp} (m : Mns Ps) (s : Same H H') (h : Al Ps vs H) : Al Ps vs H' := by
  induction h with
  | nil => exact .nil
  | cons p _ ih => cases m with
    | cons m1 m2 => exact .cons (m1.up s p) (ih m2 s)
def EA (X : Cx) (σ : L2.St) (S : Hp) (es : List Expr) (Ps : List (V → Hp → Prop)) : Prop := Mns Ps ∧ ∀ H, Same S H → ∀ Q : List V → Hp → Prop, (∀ vs S' H', Gr S H S' H' → Al Ps vs S' → Q vs H') → HA X es σ H Q
section
variable {X : Cx} {σ : L2.St} {S S' : Hp} {e a b c : Expr} {P P' : V → Hp → Prop} {pos : Pos}
theorem EE.up [Mn P] (s : Same S S') (h : EE X σ S e P) : EE X σ S' e P := fun H a Q q => h H (s.trans a) Q fun v S2 H2 g p => q v (uniS S2 S') H2 (g.uni s a) (Mn.up uni_l p)
theorem ET.up {k : Bool} (s : Same S S') (h : ET X σ S e k) : ET X σ S' e k := fun H a Q q => h H (s.trans a) Q fun S2 H2 g => q (uniS S2 S') H2 (g.uni s a)
theorem EW.up {k : Bool} (s : Same S S') (h : EW X σ S e k) : EW X σ S' e k := fun H a Q q => h H (s.trans a) Q fun S2 H2 g => q (uniS S2 S') H2 (g.uni s a)
theorem EA.up {es : List Expr} {Ps : List (V → Hp → Prop)} (s : Same S S') (h : EA X σ S es Ps) : EA X σ S' es Ps := ⟨h.1, fun H a Q q => h.2 H (s.trans a) Q fun v S2 H2 g p => q v (uniS S2 S') H2 (g.uni s a) (p.up h.1 uni_l)⟩
theorem EE.imp (h : EE X σ S e P) (f : ∀ v H', P v H' → P' v H') : EE X σ S e P' := fun H1 s Q q => h H1 s Q fun v S2 H2 s2 p => q v S2 H2 s2 (f v S2 p)
theorem EE.is (h : EE X σ S e P) (f : P = P') : EE X σ S e P' := f ▸ h
theorem ET.is {k k' : Bool} (h : ET X σ S e k) (f : k = k') : ET X σ S e k' := f ▸ h
theorem ea_nil : EA X σ S [] [] := ⟨.nil, fun H1 s Q q => ha_of pa_nil (q [] S H1 (Gr.refl s) .nil)⟩
theorem ea_cons [m : Mn P] {es : List Expr} {Ps : List (V → Hp → Prop)} (h : EE X σ S e P) (r : EA X σ S es Ps) (hs : starEach (e :: es) X.env = (false, eval e X.env) :: starEach es X.env := by rfl) : EA X σ S (e :: es) (P :: Ps) := ⟨.cons m r.1, fun H1 s Q q => by
  refine ha_of (pa_cons (te := bE X e) (t := bA X es) peb pab hs) ?_
  refine h H1 s _ fun v S2 H2 g2 p => ?_
  exact (r.up g2.st).2 H2 g2.sub _ fun vs S3 H3 g3 al => q (v :: vs) S3 H3 (g2.trans g3) (.cons (Mn.up g3.st p) al)⟩
end
end Z

namespace Z
open PySem PySem.Spec PyProof.Rows L2
/-! ## 6. expressions -/
section
variable {X : Cx} {σ : L2.St} {S S' : Hp} {e a b c : Expr} {P Pa Pb R : V → Hp → Prop} {pos p : Pos} {i j : Int} {d d1 d2 : PyData} {k k1 k2 : Bool}
theorem EE.isd {d' : PyData} (h : EE X σ S e (Dt X.K d)) (f : d = d') : EE X σ S e (Dt X.K d') := f ▸ h
theorem ee_var (i : Nat) {x : Str} {v : V} (hv : σ[i]? = some (some v)) (h : P v S) (hN : X.N[i]? = some x := by rfl) (hvis : Vis X.env.scope x := by first | exact Or.inl rfl | exact Or.inr (Or.inl rfl) | exact Or.inr (Or.inr rfl)) (hd : (x == ("__debug__" : Str)) = false := by decide)
    (hcd : (x == ("__classdict__" : Str)) = false := by decide) : EE X σ S (.Name x pos) P := fun H s Q q => he_of (pv i hN hvis hd hcd) ⟨v, hv, q v S H (Gr.refl s) h⟩
theorem ee_cst {v : V} (he : PE X e (tC v)) (h : P v S) : EE X σ S e P := fun H s Q q => he_of he (q v S H (Gr.refl s) h)
theorem ee_int {n} : EE X σ S (.Constant (.int i) n pos) (Dt X.K (.int i)) := ee_cst pe_int (.int i)
theorem ee_bl {n} : EE X σ S (.Constant (.bool k) n pos) (Dt X.K (.bool k)) := ee_cst pe_bl (.bl k)
theorem ee_non {n} : EE X σ S (.Constant .none n pos) (Dt X.K .none) := ee_cst pe_non .non
theorem ee_str {x n} : EE X σ S (.Constant (.str x) n pos) (Dt X.K (.str x)) := ee_cst pe_str (.str x)
theorem ee_glob {x : Str} {v : V} {u : Value} (hm : X.mg x = some u) (r : RelV v u) (h : P v S) (hg : Gl X x := by rfl) (hd : (x == ("__debug__" : Str)) = false := by decide) : EE X σ S (.Name x pos) P := ee_cst (pe_glob hg hm r hd) h
theorem ee_bltn {x : Str} {v : V} {u : Value} (hm : X.mg x = none) (hv : bootBuiltins x = some u) (r : RelV v u) (h : P v S) (hg : Gl X x := by rfl) (hn : x ≠ "__name__" := by decide) (hd : (x == ("__debug__" : Str)) = false := by decide) : EE X σ S (.Name x pos) P := ee_cst (pe_bltn hg hm hv r hn hd) h
theorem ee_globI {x : Str} {t : Tok} (hm : X.mg x = some (.int i t)) (hg : Gl X x := by rfl) (hd : (x == ("__debug__" : Str)) = false := by decide) : EE X σ S (.Name x pos) (Dt X.K (.int i)) := ee_glob (v := .int i) hm ⟨t, rfl⟩ (.int i) hg hd
/-- what a two-place operation gives -/
def OpE (r : R2) (S : Hp) (Pa Pb R : V → Hp → Prop) : Prop := ∀ x y S1 H1, Same S S1 → Same S1 H1 → Pa x S1 → Pb y S1 → ∀ Q : VK, (∀ v S2 H2, Gr S1 H1 S2 H2 → R v S2 → Q v H2) → r x y H1 Q
theorem ee_2 {t : R2} [Mn Pa] [Mn Pb] (hp : PE X e (tOp t (bE X a) (bE X b))) (ha : EE X σ S a Pa) (hb : EE X σ S b Pb) (hr : OpE t S Pa Pb R) : EE X σ S e R := fun H s Q q =>
  he_of hp (ha H s _ fun x S1 H1 g1 px => (hb.up g1.st) H1 g1.sub _ fun y S2 H2 g2 py => hr x y S2 H2 (g1.st.trans g2.st) g2.sub (Mn.up g2.st px) py Q fun v S3 H3 g3 rv => q v S3 H3 ((g1.trans g2).trans g3) rv)
theorem ee_op {op : Operator} {t : R2} [Mn Pa] [Mn Pb] (ho : OpR X (binaryOp op) t) (ha : EE X σ S a Pa) (hb : EE X σ S b Pb) (hr : OpE t S Pa Pb R) : EE X σ S (.BinOp a op b pos) R := ee_2 (pe_op ho peb peb) ha hb hr
theorem ee_cmp {op : CmpOp} {t : R2} [Mn Pa] [Mn Pb] (ho : OpR X (compareOp op) t) (ha : EE X σ S a Pa) (hb : EE X σ S b Pb) (hr : OpE t S Pa Pb R) (hm : behindInMarks op b = false) : EE X σ S (.Compare a [op] [b] pos) R := ee_2 (pe_cmpR ho peb peb hm) ha hb hr
theorem opE_I0 {K : PySem.W.Frag} {g : Int → Int → V} {d : PyData} (h : ∀ S, Dt K d (g i j) S) : OpE (rI0 g) S (Dt K (.int i)) (Dt K (.int j)) (Dt K d) := fun x y S1 H1 _ s px py Q q => by
  cases px; cases py
  exact ⟨i, j, rfl, rfl, q _ S1 H1 (Gr.refl s) (h S1)⟩
theorem opE_I {K : PySem.W.Frag} {C : Int → Int → Prop} {g : Int → Int → V} {d : PyData} (hc : C i j) (h : ∀ S, Dt K d (g i j) S) : OpE (rI C g) S (Dt K (.int i)) (Dt K (.int j)) (Dt K d) := fun x y S1 H1 _ s px py Q q => by
  cases px; cases py
  exact ⟨i, j, rfl, rfl, hc, q _ S1 H1 (Gr.refl s) (h S1)⟩
theorem ee_add (ha : EE X σ S a (Dt X.K (.int i))) (hb : EE X σ S b (Dt X.K (.int j))) : EE X σ S (.BinOp a .Add b pos) (Dt X.K (.int (i + j))) := ee_op op_add ha hb (opE_I0 fun _ => .int _)
theorem ee_sub (ha : EE X σ S a (Dt X.K (.int i))) (hb : EE X σ S b (Dt X.K (.int j))) : EE X σ S (.BinOp a .Sub b pos) (Dt X.K (.int (i - j))) := ee_op op_sub ha hb (opE_I0 fun _ => .int _)
theorem ee_mul (hc : CMulX i j) (ha : EE X σ S a (Dt X.K (.int i))) (hb : EE X σ S b (Dt X.K (.int j))) : EE X σ S (.BinOp a .Mult b pos) (Dt X.K (.int (i * j))) := ee_op op_mulX ha hb (opE_I hc fun _ => .int _)
theorem ee_fdiv (hc : CDivW i j) (ha : EE X σ S a (Dt X.K (.int i))) (hb : EE X σ S b (Dt X.K (.int j))) : EE X σ S (.BinOp a .FloorDiv b pos) (Dt X.K (.int (i / j))) := ee_op op_fdivW ha hb (opE_I hc fun _ => .int _)
theorem ee_mod (hc : 0 < j) (ha : EE X σ S a (Dt X.K (.int i))) (hb : EE X σ S b (Dt X.K (.int j))) : EE X σ S (.BinOp a .Mod b pos) (Dt X.K (.int (i % j))) := ee_op op_mod ha hb (opE_I hc fun _ => .int _)
theorem ee_pow (hc : CPow i j) (ha : EE X σ S a (Dt X.K (.int i))) (hb : EE X σ S b (Dt X.K (.int j))) : EE X σ S (.BinOp a .Pow b pos) (Dt X.K (.int (i ^ j.toNat))) := ee_op op_pow ha hb (opE_I hc fun _ => .int _)
theorem ee_lt (ha : EE X σ S a (Dt X.K (.int i))) (hb : EE X σ S b (Dt X.K (.int j))) : EE X σ S (.Compare a [.Lt] [b] pos) (Dt X.K (.bool (decide (i < j)))) := ee_cmp op_lt ha hb (opE_I0 fun _ => .bl _) (nomark _)
theorem ee_le (ha : EE X σ S a (Dt X.K (.int i))) (hb : EE X σ S b (Dt X.K (.int j))) : EE X σ S (.Compare a [.LtE] [b] pos) (Dt X.K (.bool (decide (i ≤ j)))) := ee_cmp op_le ha hb (opE_I0 fun _ => .bl _) (nomark _)
theorem ee_gt (ha : EE X σ S a (Dt X.K (.int i))) (hb : EE X σ S b (Dt X.K (.int j))) : EE X σ S (.Compare a [.Gt] [b] pos) (Dt X.K (.bool (decide (j < i)))) := ee_cmp op_gt ha hb (opE_I0 fun _ => .bl _) (nomark _)
theorem ee_ge (ha : EE X σ S a (Dt X.K (.int i))) (hb : EE X σ S b (Dt X.K (.int j))) : EE X σ S (.Compare a [.GtE] [b] pos) (Dt X.K (.bool (decide (j ≤ i)))) := ee_cmp op_ge ha hb (opE_I0 fun _ => .bl _) (nomark _)
/-- == and != of data -/
theorem ee_eq {u : Nat} (hr : Room u X.A) (h1 : SeqAt.shaped d1 = true) (h2 : SeqAt.shaped d2 = true) (ha : EE X σ S a (Dt X.K d1)) (hb : EE X σ S b (Dt X.K d2)) : EE X σ S (.Compare a [.Eq] [b] pos) (Dt X.K (.bool (PyData.eqv d1 d2))) :=
  ee_cmp (op_eqD hr.units) ha hb (fun x y S1 H1 _ s px py Q q => ⟨d1, d2, (px.up s).dp, (py.up s).dp, h1, h2, q _ S1 H1 (Gr.refl s) (.bl _)⟩) (nomark _)
theorem ee_ne {u : Nat} (hr : Room u X.A) (h1 : SeqAt.shaped d1 = true) (h2 : SeqAt.shaped d2 = true) (ha : EE X σ S a (Dt X.K d1)) (hb : EE X σ S b (Dt X.K d2)) : EE X σ S (.Compare a [.NotEq] [b] pos) (Dt X.K (.bool (!PyData.eqv d1 d2))) :=
  ee_cmp (op_neD hr.units) ha hb (fun x y S1 H1 _ s px py Q q => ⟨d1, d2, (px.up s).dp, (py.up s).dp, h1, h2, q _ S1 H1 (Gr.refl s) (.bl _)⟩) (nomark _)
/-- == of two ints, of two texts -/
theorem ee_eqI (ha : EE X σ S a (Dt X.K (.int i))) (hb : EE X σ S b (Dt X.K (.int j))) : EE X σ S (.Compare a [.Eq] [b] pos) (Dt X.K (.bool (decide (i = j)))) :=
  ee_cmp op_eq ha hb (fun x y S1 H1 _ s px py Q q => by
    cases px; cases py
    refine ⟨rfl, ?_⟩
    have e : decide (V.int i = V.int j) = decide (i = j) := by simp
    rw [e]
    exact q _ S1 H1 (Gr.refl s) (.bl _)) (nomark _)
theorem ee_neI (ha : EE X σ S a (Dt X.K (.int i))) (hb : EE X σ S b (Dt X.K (.int j))) : EE X σ S (.Compare a [.NotEq] [b] pos) (Dt X.K (.bool (!decide (i = j)))) :=
  ee_cmp op_ne ha hb (fun x y S1 H1 _ s px py Q q => by
    cases px; cases py
    refine ⟨rfl, ?_⟩
    have e : decide (V.int i = V.int j) = decide (i = j) := by simp
    rw [e]
    exact q _ S1 H1 (Gr.refl s) (.bl _)) (nomark _)
theorem ee_eqS {x y : Str} (ha : EE X σ S a (Dt X.K (.str x))) (hb : EE X σ S b (Dt X.K (.str y))) : EE X σ S (.Compare a [.Eq] [b] pos) (Dt X.K (.bool (decide (x = y)))) :=
  ee_cmp op_eq ha hb (fun v w S1 H1 _ s px py Q q => by
    cases px; cases py
    refine ⟨rfl, ?_⟩
    have e : decide (V.str x = V.str y) = decide (x = y) := by simp
    rw [e]
    exact q _ S1 H1 (Gr.refl s) (.bl _)) (nomark _)
/-- x is None -/
theorem ee_isN {v : V} (ha : EE X σ S a (fun w _ => w = v)) {n p2} : EE X σ S (.Compare a [.Is] [.Constant .none n p2] pos) (Dt X.K (.bool (decide (v = .non)))) := by
  haveI : Mn (fun (w : V) (_ : Hp) => w = v) := ⟨fun _ h => h⟩
  exact ee_cmp op_isN ha (ee_non (n := n) (pos := p2)) (fun x y S1 H1 _ s px py Q q => by
    cases py
    subst px
    exact ⟨rfl, q _ S1 H1 (Gr.refl s) (.bl _)⟩) (nomark _)
theorem ee_neg (ha : EE X σ S a (Dt X.K (.int i))) : EE X σ S (.UnaryOp .USub a pos) (Dt X.K (.int (-i))) := fun H s Q q =>
  he_of (pe_un un_neg peb) (ha H s _ fun x S1 H1 g1 px => by cases px; exact ⟨i, rfl, q _ S1 H1 g1 (.int _)⟩)
/-! ### and, or, not, if -/
theorem ee_not (ha : EE X σ S a (Dt X.K (.bool k))) : EE X σ S (.UnaryOp .Not a pos) (Dt X.K (.bool (!k))) := fun H s Q q =>
  he_of (pe_not peb) (ha H s _ fun x S1 H1 g1 px => by cases px; exact ⟨k, rfl, q _ S1 H1 g1 (.bl _)⟩)
theorem ee_one {op} (ha : EE X σ S a P) : EE X σ S (.BoolOp op [a] pos) P := fun H s Q q => he_of (pe_one peb) (ha H s Q q)
theorem ee_and {rest : List Expr} (ha : EE X σ S a (Dt X.K (.bool k1))) (hb : k1 = true → EE X σ S (.BoolOp .And (b :: rest) pos) (Dt X.K (.bool k2))) : EE X σ S (.BoolOp .And (a :: b :: rest) pos) (Dt X.K (.bool (k1 && k2))) := fun H s Q q =>
  he_of (pe_and peb peb) (ha H s _ fun x S1 H1 g1 px => by
    cases px
    refine ⟨k1, rfl, ?_⟩
    cases k1 with
    | false => exact iteF (q _ S1 H1 g1 (.bl _))
    | true => exact iteT (((hb rfl).up g1.st) H1 g1.sub _ fun y S2 H2 g2 py => q y S2 H2 (g1.trans g2) py))
theorem ee_or {rest : List Expr} (ha : EE X σ S a (Dt X.K (.bool k1))) (hb : k1 = false → EE X σ S (.BoolOp .Or (b :: rest) pos) (Dt X.K (.bool k2))) : EE X σ S (.BoolOp .Or (a :: b :: rest) pos) (Dt X.K (.bool (k1 || k2))) := fun H s Q q =>
  he_of (pe_or peb peb) (ha H s _ fun x S1 H1 g1 px => by
    cases px
    refine ⟨k1, rfl, ?_⟩
    cases k1 with
    | true => exact iteT (q _ S1 H1 g1 (.bl _))
    | false => exact iteF (((hb rfl).up g1.st) H1 g1.sub _ fun y S2 H2 g2 py => q y S2 H2 (g1.trans g2) py))
/-- tests -/
theorem et_val (ha : EE X σ S e (Dt X.K (.bool k))) (he : ∀ whole, isTrue e X.env whole = (do let v ← whole; standAt e.pos; holding [v] (truthy v)) := by intro _; rfl) : ET X σ S e k := fun H s Q q =>
  ht_of (pt_val peb he) (ha H s _ fun x S1 H1 g1 px => by cases px; exact ⟨k, rfl, q S1 H1 g1⟩)
theorem et_cmp {op : CmpOp} {t : R2} [Mn Pa] [Mn Pb] (ho : OpR X (compareOp op) t) (ha : EE X σ S a Pa) (hb : EE X σ S b Pb) (hr : OpE t S Pa Pb (Dt X.K (.bool k))) (hm : behindInMarks op b = false) : ET X σ S (.Compare a [op] [b] pos) k := fun H s Q q =>
  ht_of (pt_cmpR ho peb peb hm) (ha H s _ fun x S1 H1 g1 px => (hb.up g1.st) H1 g1.sub _ fun y S2 H2 g2 py => hr x y S2 H2 (g1.st.trans g2.st) g2.sub (Mn.up g2.st px) py _ fun v S3 H3 g3 rv => by
    cases rv; exact ⟨k, rfl, q S3 H3 ((g1.trans g2).trans g3)⟩)
theorem et_lt (ha : EE X σ S a (Dt X.K (.int i))) (hb : EE X σ S b (Dt X.K (.int j))) : ET X σ S (.Compare a [.Lt] [b] pos) (decide (i < j)) := et_cmp op_lt ha hb (opE_I0 fun _ => .bl _) (nomark _)
theorem et_le (ha : EE X σ S a (Dt X.K (.int i))) (hb : EE X σ S b (Dt X.K (.int j))) : ET X σ S (.Compare a [.LtE] [b] pos) (decide (i ≤ j)) := et_cmp op_le ha hb (opE_I0 fun _ => .bl _) (nomark _)
theorem et_gt (ha : EE X σ S a (Dt X.K (.int i))) (hb : EE X σ S b (Dt X.K (.int j))) : ET X σ S (.Compare a [.Gt] [b] pos) (decide (j < i)) := et_cmp op_gt ha hb (opE_I0 fun _ => .bl _) (nomark _)
theorem et_ge (ha : EE X σ S a (Dt X.K (.int i))) (hb : EE X σ S b (Dt X.K (.int j))) : ET X σ S (.Compare a [.GtE] [b] pos) (decide (j ≤ i)) := et_cmp op_ge ha hb (opE_I0 fun _ => .bl _) (nomark _)
theorem et_eqI (ha : EE X σ S a (Dt X.K (.int i))) (hb : EE X σ S b (Dt X.K (.int j))) : ET X σ S (.Compare a [.Eq] [b] pos) (decide (i = j)) :=
  et_cmp op_eq ha hb (fun x y S1 H1 _ s px py Q q => by
    cases px; cases py
    refine ⟨rfl, ?_⟩
    have e : decide (V.int i = V.int j) = decide (i = j) := by simp
    rw [e]
    exact q _ S1 H1 (Gr.refl s) (.bl _)) (nomark _)
theorem et_neI (ha : EE X σ S a (Dt X.K (.int i))) (hb : EE X σ S b (Dt X.K (.int j))) : ET X σ S (.Compare a [.NotEq] [b] pos) (!decide (i = j)) :=
  et_cmp op_ne ha hb (fun x y S1 H1 _ s px py Q q => by
    cases px; cases py
    refine ⟨rfl, ?_⟩
    have e : decide (V.int i = V.int j) = decide (i = j) := by simp
    rw [e]
    exact q _ S1 H1 (Gr.refl s) (.bl _)) (nomark _)
theorem et_eqS {x y : Str} (ha : EE X σ S a (Dt X.K (.str x))) (hb : EE X σ S b (Dt X.K (.str y))) : ET X σ S (.Compare a [.Eq] [b] pos) (decide (x = y)) :=
  et_cmp op_eq ha hb (fun v w S1 H1 _ s px py Q q => by
    cases px; cases py
    refine ⟨rfl, ?_⟩
    have e : decide (V.str x = V.str y) = decide (x = y) := by simp
    rw [e]
    exact q _ S1 H1 (Gr.refl s) (.bl _)) (nomark _)
theorem et_eq {u : Nat} (hr : Room u X.A) (h1 : SeqAt.shaped d1 = true) (h2 : SeqAt.shaped d2 = true) (ha : EE X σ S a (Dt X.K d1)) (hb : EE X σ S b (Dt X.K d2)) : ET X σ S (.Compare a [.Eq] [b] pos) (PyData.eqv d1 d2) :=
  et_cmp (op_eqD hr.units) ha hb (fun x y S1 H1 _ s px py Q q => ⟨d1, d2, (px.up s).dp, (py.up s).dp, h1, h2, q _ S1 H1 (Gr.refl s) (.bl _)⟩) (nomark _)
theorem et_ne {u : Nat} (hr : Room u X.A) (h1 : SeqAt.shaped d1 = true) (h2 : SeqAt.shaped d2 = true) (ha : EE X σ S a (Dt X.K d1)) (hb : EE X σ S b (Dt X.K d2)) : ET X σ S (.Compare a [.NotEq] [b] pos) (!PyData.eqv d1 d2) :=
  et_cmp (op_neD hr.units) ha hb (fun x y S1 H1 _ s px py Q q => ⟨d1, d2, (px.up s).dp, (py.up s).dp, h1, h2, q _ S1 H1 (Gr.refl s) (.bl _)⟩) (nomark _)
theorem et_not (ha : ET X σ S a k) : ET X σ S (.UnaryOp .Not a pos) (!k) := fun H s Q q => ht_of (pt_not ptb) (ha H s _ fun S1 H1 g1 => q S1 H1 g1)
theorem et_w (ha : EW X σ S a k) : ET X σ S a k := fun H s Q q => ht_of (PW.pt pwb) (ha H s Q q)
theorem ew_and1 (ha : ET X σ S a k) : EW X σ S (.BoolOp .And [a] pos) k := fun H s Q q => hw_of (pw_and1 ptb) (ha H s Q q)
theorem ew_or1 (ha : ET X σ S a k) : EW X σ S (.BoolOp .Or [a] pos) k := fun H s Q q => hw_of (pw_or1 ptb) (ha H s Q q)
theorem ew_and {rest : List Expr} (ha : ET X σ S a k1) (hb : k1 = true → EW X σ S (.BoolOp .And (b :: rest) pos) k2) : EW X σ S (.BoolOp .And (a :: b :: rest) pos) (k1 && k2) := fun H s Q q =>
  hw_of (pw_and ptb pwb) (ha H s _ fun S1 H1 g1 => by
    cases k1 with
    | false => exact iteF (q S1 H1 g1)
    | true => exact iteT (((hb rfl).up g1.st) H1 g1.sub _ fun S2 H2 g2 => q S2 H2 (g1.trans g2)))
theorem ew_or {rest : List Expr} (ha : ET X σ S a k1) (hb : k1 = false → EW X σ S (.BoolOp .Or (b :: rest) pos) k2) : EW X σ S (.BoolOp .Or (a :: b :: rest) pos) (k1 || k2) := fun H s Q q =>
  hw_of (pw_or ptb pwb) (ha H s _ fun S1 H1 g1 => by
    cases k1 with
    | true => exact iteT (q S1 H1 g1)
    | false => exact iteF (((hb rfl).up g1.st) H1 g1.sub _ fun S2 H2 g2 => q S2 H2 (g1.trans g2)))
theorem ee_if {Q' : V → Hp → Prop} [Mn Q'] (hc : ET X σ S c k) (ha : k = true → EE X σ S a Q') (hb : k = false → EE X σ S b Q') : EE X σ S (.IfExp c a b pos) Q' := fun H s Q q =>
  he_of (pe_ifExp ptb peb peb) (hc H s _ fun S1 H1 g1 => by
    cases k with
    | false => exact iteF (((hb rfl).up g1.st) H1 g1.sub _ fun y S2 H2 g2 py => q y S2 H2 (g1.trans g2) py)
    | true => exact iteT (((ha rfl).up g1.st) H1 g1.sub _ fun y S2 H2 g2 py => q y S2 H2 (g1.trans g2) py))
/-- truth of a value -/
def truD : PyData → Bool
  | .none => false
  | .bool b => b
  | .int i => i != 0
  | .str x => (x.length : Int) != 0
  | .list xs => !xs.isEmpty
  | .tuple xs => !xs.isEmpty
  | .dict kvs => !kvs.isEmpty
theorem isEmpty_len {α β : Type} {xs : List α} {ys : List β} (h : xs.length = ys.length) : xs.isEmpty = ys.isEmpty := by
  cases xs <;> cases ys <;> simp_all
theorem truV_of {K : PySem.W.Frag} {v : V} {H : Hp} (h : Dt K d v H) (hs : ∀ x, d = .str x → x.length ≤ sizeLine) : TruV K v H (truD d) := by
  cases h with
  | non => rfl
  | bl b => rfl
  | int i => rfl
  | str x => exact ⟨hs x rfl, rfl⟩
  | lst h l z f => exact .inl ⟨_, sql_of h, by show (!_) = _; rw [isEmpty_len l]⟩
  | tup h l z f => exact .inr (.inl ⟨_, h, by show (!_) = _; rw [isEmpty_len l]⟩)
theorem et_tru (ha : EE X σ S a (Dt X.K d)) (hs : ∀ x, d = .str x → x.length ≤ sizeLine) (he : ∀ whole, isTrue a X.env whole = (do let v ← whole; standAt a.pos; holding [v] (truthy v)) := by intro _; rfl) : ET X σ S a (truD d) := fun H s Q q =>
  ht_of (pt_truth peb he) (ha H s _ fun x S1 H1 g1 px => ⟨_, truV_of (px.up g1.sub) hs, q S1 H1 g1⟩)
/-! ### displays -/
theorem ee_tupA {es : List Expr} {x1} {vsP : List V → Hp → Prop} (h : ∀ H, Same S H → ∀ Q : List V → Hp → Prop, (∀ vs S' H', Gr S H S' H' → vsP vs S' → Q vs H') → HA X es σ H Q) (hz : ∀ vs S', vsP vs S' → vs.length ≤ sizeLine)
    (hR : ∀ vs S' p, Same S S' → S' p = none → vsP vs S' → R (.ref p) (upd S' p (.tup vs))) : EE X σ S (.Tuple es x1 pos) R := fun H s Q q =>
  he_of (pe_tup pab) (h H s _ fun vs S1 H1 g1 al => ⟨hz vs S1 al, fun p hp => q _ _ _ (g1.trans (Gr.new g1.sub hp)) (hR vs S1 p g1.st (g1.sub.free hp) al)⟩)
theorem ee_lstA {es : List Expr} {vsP : List V → Hp → Prop} (h : ∀ H, Same S H → ∀ Q : List V → Hp → Prop, (∀ vs S' H', Gr S H S' H' → vsP vs S' → Q vs H') → HA X es σ H Q) (hz : ∀ vs S', vsP vs S' → vs.length ≤ sizeLine)
    (hR : ∀ vs S' p, Same S S' → S' p = none → vsP vs S' → R (.ref p) (upd S' p (.lst vs))) : EE X σ S (.List es pos) R := fun H s Q q =>
  he_of (pe_lst pab) (h H s _ fun vs S1 H1 g1 al => ⟨hz vs S1 al, fun p hp => q _ _ _ (g1.trans (Gr.new g1.sub hp)) (hR vs S1 p g1.st (g1.sub.free hp) al)⟩)
def Ds (K : PySem.W.Frag) (ds : List PyData) : List (V → Hp → Prop) := ds.map (Dt K)
theorem al_dts {K : PySem.W.Frag} : ∀ {ds : List PyData} {vs : List V} {H : Hp}, Al (Ds K ds) vs H → Dts K ds vs H
  | [], _, _, h => by cases h; exact .nil
  | d :: ds, _, _, h => by cases h with
    | cons p r => exact .cons p (al_dts r)
theorem dts_al {K : PySem.W.Frag} : ∀ {ds : List PyData} {vs : List V} {H : Hp}, Dts K ds vs H → Al (Ds K ds) vs H
  | [], [], _, h => .nil
  | [], _ :: _, _, h => by have := h.1; simp at this
  | _ :: _, [], _, h => by have := h.1; simp at this
  | d :: ds, v :: vs, _, h => .cons (h.2 0 v d rfl rfl) (dts_al ⟨by have := h.1; simpa using this, fun i x d hx hd => h.2 (i + 1) x d (by simpa using hx) (by simpa using hd)⟩)
theorem ee_tup {es : List Expr} {x1} {ds : List PyData} (h : EA X σ S es (Ds X.K ds)) (hz : ds.length ≤ sizeLine := by show _ ≤ 16777216; exact Nat.le_of_ble_eq_true rfl) : EE X σ S (.Tuple es x1 pos) (Dt X.K (.tuple ds)) :=
  ee_tupA (vsP := Al (Ds X.K ds)) h.2 (fun vs S' al => by rw [(al_dts al).1]; exact hz) fun vs S' p _ hp al => Dt.tup_mk (sqt_of upd_same) ((al_dts al).up (Same.new hp)) (by rw [(al_dts al).1]; exact hz)
theorem ee_lst {es : List Expr} {ds : List PyData} (h : EA X σ S es (Ds X.K ds)) (hz : ds.length ≤ sizeLine := by show _ ≤ 16777216; exact Nat.le_of_ble_eq_true rfl) : EE X σ S (.List es pos) (Dt X.K (.list ds)) :=
  ee_lstA (vsP := Al (Ds X.K ds)) h.2 (fun vs S' al => by rw [(al_dts al).1]; exact hz) fun vs S' p _ hp al => Dt.lst_mk upd_same ((al_dts al).up (Same.new hp)) (by rw [(al_dts al).1]; exact hz)
end
end Z

namespace Z
open PySem PySem.Spec PyProof.Rows L2
/-! ## 7. calls of built-ins, sequences -/
theorem dts_int {K : PySem.W.Frag} : ∀ {ns : List Int} {xs : List V} {H : Hp}, Dts K (ns.map PyData.int) xs H → xs = ns.map V.int
  | [], [], _, _ => rfl
  | [], _ :: _, _, h => by have := h.1; simp at this
  | _ :: _, [], _, h => by have := h.1; simp at this
  | n :: ns, x :: xs, _, h => by
    have e1 := (h.2 0 x (.int n) rfl rfl).int_inv
    have e2 := dts_int (ns := ns) (xs := xs) ⟨by have := h.1; simpa using this, fun i y d hy hd => h.2 (i + 1) y d (by simpa using hy) (by simpa using hd)⟩
    rw [e1, e2]; rfl
theorem dts_bl {K : PySem.W.Frag} : ∀ {ns : List Bool} {xs : List V} {H : Hp}, Dts K (ns.map PyData.bool) xs H → xs = ns.map V.bl
  | [], [], _, _ => rfl
  | [], _ :: _, _, h => by have := h.1; simp at this
  | _ :: _, [], _, h => by have := h.1; simp at this
  | n :: ns, x :: xs, _, h => by
    have e1 := (h.2 0 x (.bool n) rfl rfl).bl_inv
    have e2 := dts_bl (ns := ns) (xs := xs) ⟨by have := h.1; simpa using this, fun i y d hy hd => h.2 (i + 1) y d (by simpa using hy) (by simpa using hd)⟩
    rw [e1, e2]; rfl
theorem dts_str {K : PySem.W.Frag} : ∀ {ns : List Str} {xs : List V} {H : Hp}, Dts K (ns.map PyData.str) xs H → xs = ns.map V.str
  | [], [], _, _ => rfl
  | [], _ :: _, _, h => by have := h.1; simp at this
  | _ :: _, [], _, h => by have := h.1; simp at this
  | n :: ns, x :: xs, _, h => by
    have e1 := (h.2 0 x (.str n) rfl rfl).str_inv
    have e2 := dts_str (ns := ns) (xs := xs) ⟨by have := h.1; simpa using this, fun i y d hy hd => h.2 (i + 1) y d (by simpa using hy) (by simpa using hd)⟩
    rw [e1, e2]; rfl
theorem int_dts {K : PySem.W.Frag} (ns : List Int) (H : Hp) : Dts K (ns.map PyData.int) (ns.map V.int) H := by
  refine ⟨by simp, fun i x d hx hd => ?_⟩
  rw [List.getElem?_map] at hx hd
  cases e : ns[i]? with
  | none => rw [e] at hx; cases hx
  | some n => rw [e] at hx hd; cases hx; cases hd; exact .int n
def tyN : PyData → String
  | .none => "NoneType"
  | .bool _ => "bool"
  | .int _ => "int"
  | .str _ => "str"
  | .list _ => "list"
  | .tuple _ => "tuple"
  | .dict _ => "dict"
theorem tyX_of {K : PySem.W.Frag} {d : PyData} {v : V} {S H : Hp} (h : Dt K d v S) (s : Same S H) : TyX K H v (.type (tyN d)) := by
  cases h with
  | non => exact .base .non
  | bl b => exact .base (.bl b)
  | int i => exact .base (.int i)
  | str x => exact .base (.str x)
  | lst h l z f => exact .base (.lst (s _ _ h))
  | tup h l z f =>
    rcases h with (h | ⟨o, h⟩) | ⟨o, its, n, h, c, _⟩
    · exact .base (.tup (s _ _ h))
    · exact .fTuple (s _ _ h)
    · exact .kTuple h c
/-- what isinstance says of data -/
def isN (t T : String) : Bool := t == T || (t == "bool" && T == "int")
theorem kit_tab : (["NoneType", "bool", "int", "str", "list", "tuple", "dict"].all fun t => ["int", "bool", "str", "list", "tuple"].all fun T => decide (kitB t T = some (isN t T))) = true := by decide +kernel
def isD (d : PyData) (T : String) : Bool := isN (tyN d) T
theorem isD_ok (d : PyData) {T : String} (hT : T ∈ ["int", "bool", "str", "list", "tuple"]) : kitB (tyN d) T = some (isD d T) := by
  have h := List.all_eq_true.mp (List.all_eq_true.mp kit_tab (tyN d) (by cases d <;> simp [tyN])) T hT
  exact of_decide_eq_true h
theorem isDi (d : PyData) : isD d "int" = (match d with | .int _ => true | .bool _ => true | _ => false) := by cases d <;> rfl
theorem isDb (d : PyData) : isD d "bool" = (match d with | .bool _ => true | _ => false) := by cases d <;> rfl
theorem isDs (d : PyData) : isD d "str" = (match d with | .str _ => true | _ => false) := by cases d <;> rfl
theorem isDl (d : PyData) : isD d "list" = (match d with | .list _ => true | _ => false) := by cases d <;> rfl
theorem isDt (d : PyData) : isD d "tuple" = (match d with | .tuple _ => true | _ => false) := by cases d <;> rfl
section
variable {X : Cx} {σ : L2.St} {S S' : Hp} {e a b c : Expr} {es : List Expr} {P Pa Pb R : V → Hp → Prop} {Ps : List (V → Hp → Prop)} {pos p : Pos} {i j : Int} {d d1 d2 : PyData} {ds ds1 ds2 : List PyData} {k : Bool} {x : Str} {id T : String}
def ClE (r : List V → Hp → VK → Prop) (S : Hp) (Ps : List (V → Hp → Prop)) (R : V → Hp → Prop) : Prop := ∀ vs S1 H1, Same S S1 → Same S1 H1 → Al Ps vs S1 → ∀ Q : VK, (∀ v S2 H2, Gr S1 H1 S2 H2 → R v S2 → Q v H2) → r vs H1 Q
theorem ee_callA {t : List V → Hp → VK → Prop} (hp : PE X e (tCB t (bA X es))) (ha : EA X σ S es Ps) (hr : ClE t S Ps R) : EE X σ S e R := fun H s Q q =>
  he_of hp (ha.2 H s _ fun vs S1 H1 g1 al => hr vs S1 H1 g1.st g1.sub al Q fun v S2 H2 g2 rv => q v S2 H2 (g1.trans g2) rv)
theorem ee_callB {t : List V → Hp → VK → Prop} (hc : CallR X (.builtin id) t) (hm : X.mg x = none) (hv : bootBuiltins x = some (.builtin id)) (ha : EA X σ S (e :: es) Ps) (hr : ClE t S Ps R) (hg : Gl X x := by rfl) (hn : x ≠ "__name__" := by decide) (hdb : (x == ("__debug__" : Str)) = false := by decide)
    (he : starEach (e :: es) X.env = (false, eval e X.env) :: starEach es X.env := by rfl) (hpl : (backTo pos (starEach es X.env)).any (·.1) = false := by rfl) : EE X σ S (.Call (.Name x p) (e :: es) [] pos) R :=
  ee_callA (pe_callB hc hg hm hv pab hn hdb he hpl) ha hr
theorem ee_callTy {t : List V → Hp → VK → Prop} (hc : CallR X (.type T) t) (hm : X.mg x = none) (hv : bootBuiltins x = some (.type T)) (ha : EA X σ S (e :: es) Ps) (hr : ClE t S Ps R) (hg : Gl X x := by rfl) (hn : x ≠ "__name__" := by decide) (hdb : (x == ("__debug__" : Str)) = false := by decide)
    (he : starEach (e :: es) X.env = (false, eval e X.env) :: starEach es X.env := by rfl) (hpl : (backTo pos (starEach es X.env)).any (·.1) = false := by rfl) : EE X σ S (.Call (.Name x p) (e :: es) [] pos) R :=
  ee_callA (pe_callTy hc hg hm hv pab hn hdb he hpl) ha hr
theorem ea_1 [Mn P] (h : EE X σ S e P) (hs : starEach [e] X.env = (false, eval e X.env) :: starEach [] X.env := by rfl) : EA X σ S [e] [P] := ea_cons h ea_nil hs
theorem ea_2 [Mn Pa] [Mn Pb] (h : EE X σ S a Pa) (h2 : EE X σ S b Pb) (hs : starEach [a, b] X.env = (false, eval a X.env) :: starEach [b] X.env := by rfl) (hs2 : starEach [b] X.env = (false, eval b X.env) :: starEach [] X.env := by rfl) : EA X σ S [a, b] [Pa, Pb] := ea_cons h (ea_cons h2 ea_nil hs2) hs
theorem Al.one {Pa : V → Hp → Prop} {vs : List V} {H : Hp} (h : Al [Pa] vs H) : ∃ v, vs = [v] ∧ Pa v H := by
  cases h with
  | cons p r => cases r; exact ⟨_, rfl, p⟩
theorem Al.two {Pa Pb : V → Hp → Prop} {vs : List V} {H : Hp} (h : Al [Pa, Pb] vs H) : ∃ v w, vs = [v, w] ∧ Pa v H ∧ Pb w H := by
  cases h with
  | cons p r => cases r with
    | cons p2 r2 => cases r2; exact ⟨_, _, rfl, p, p2⟩
theorem Al.three {Pa Pb Pc : V → Hp → Prop} {vs : List V} {H : Hp} (h : Al [Pa, Pb, Pc] vs H) : ∃ v w u, vs = [v, w, u] ∧ Pa v H ∧ Pb w H ∧ Pc u H := by
  cases h with
  | cons p r => obtain ⟨w, u, rfl, q1, q2⟩ := Al.two r; exact ⟨_, _, _, rfl, p, q1, q2⟩
theorem ee_isi {cn : Str} {T : String} (hk : kitB (tyN d) T = some k) (hm : X.mg "isinstance" = none) (hmT : X.mg cn = none) (hv : bootBuiltins cn = some (.type T)) (ha : EE X σ S a (Dt X.K d)) {p2 : Pos} (hg : Gl X "isinstance" := by rfl) (hgT : Gl X cn := by rfl) (hn : cn ≠ "__name__" := by decide) (hdb : (cn == ("__debug__" : Str)) = false := by decide)
    (hs : starEach [a, .Name cn p2] X.env = (false, eval a X.env) :: starEach [.Name cn p2] X.env := by rfl) : EE X σ S (.Call (.Name "isinstance" p) [a, .Name cn p2] [] pos) (Dt X.K (.bool k)) := by
  haveI : Mn (fun (w : V) (_ : Hp) => w = .ty T) := ⟨fun _ h => h⟩
  refine ee_callB call_isi hm boot_isinstance (ea_2 ha (ee_bltn (P := fun w _ => w = .ty T) (v := .ty T) (u := .type T) hmT hv rfl rfl hgT hn hdb) hs rfl) (fun vs S1 H1 _ s al Q q => ?_) hg (he := hs) (hpl := by rfl)
  obtain ⟨v, w, rfl, pv, pw⟩ := al.two
  subst pw
  exact ⟨v, .ty T, .type (tyN d), .type T, k, rfl, .ty T, tyX_of pv s, kit_ty hk, q _ S1 H1 (Gr.refl s) (.bl k)⟩
/-- len -/
def lenD : PyData → Option Nat
  | .str x => some x.length
  | .list xs => some xs.length
  | .tuple xs => some xs.length
  | _ => none
theorem ee_len {n : Nat} (hm : X.mg "len" = none) (hl : lenD d = some n) (ha : EE X σ S a (Dt X.K d)) (hz : ∀ x, d = .str x → x.length ≤ sizeLine := by intro _ h; cases h) (hg : Gl X "len" := by rfl)
    (hs : starEach [a] X.env = (false, eval a X.env) :: starEach [] X.env := by rfl) : EE X σ S (.Call (.Name "len" p) [a] [] pos) (Dt X.K (.int n)) :=
  ee_callB call_len hm boot_len (ea_1 ha hs) (fun vs S1 H1 _ s al Q q => by
    obtain ⟨v, rfl, pv⟩ := al.one
    refine ⟨v, n, rfl, ?_, q _ S1 H1 (Gr.refl s) (.int _)⟩
    cases pv with
    | non => cases hl
    | bl b => cases hl
    | int i => cases hl
    | str x => cases hl; exact ⟨hz x rfl, rfl⟩
    | lst h l z f => cases hl; exact .inl ⟨_, sql_of (s _ _ h), l.symm⟩
    | tup h l z f => cases hl; exact .inr ⟨_, sqt_up s h, l.symm⟩) hg (he := hs) (hpl := by rfl)
theorem ee_list (hm : X.mg "list" = none) (hd : d = .list ds ∨ d = .tuple ds) (ha : EE X σ S a (Dt X.K d)) (hg : Gl X "list" := by rfl)
    (hs : starEach [a] X.env = (false, eval a X.env) :: starEach [] X.env := by rfl) : EE X σ S (.Call (.Name "list" p) [a] [] pos) (Dt X.K (.list ds)) :=
  ee_callTy call_list_of hm boot_list (ea_1 ha hs) (fun vs S1 H1 _ s al Q q => by
    obtain ⟨v, rfl, pv⟩ := al.one
    rcases hd with rfl | rfl
    · obtain ⟨l, xs, rfl, hl, hx, z⟩ := pv.lst_inv
      exact ⟨l, xs, rfl, .inl (sql_of (s _ _ hl)), fun t ht => q _ _ _ (Gr.new s ht) (Dt.lst_mk upd_same (hx.up (Same.new (s.free ht))) z)⟩
    · obtain ⟨l, xs, rfl, hl, hx, z⟩ := pv.tup_inv
      exact ⟨l, xs, rfl, .inr (sqt_up s hl), fun t ht => q _ _ _ (Gr.new s ht) (Dt.lst_mk upd_same (hx.up (Same.new (s.free ht))) z)⟩) hg (he := hs) (hpl := by rfl)
theorem ee_tupleOf (hm : X.mg "tuple" = none) (ha : EE X σ S a (Dt X.K (.list ds))) (hg : Gl X "tuple" := by rfl)
    (hs : starEach [a] X.env = (false, eval a X.env) :: starEach [] X.env := by rfl) : EE X σ S (.Call (.Name "tuple" p) [a] [] pos) (Dt X.K (.tuple ds)) :=
  ee_callTy call_tuple_of hm boot_tuple (ea_1 ha hs) (fun vs S1 H1 _ s al Q q => by
    obtain ⟨v, rfl, pv⟩ := al.one
    obtain ⟨l, xs, rfl, hl, hx, z⟩ := pv.lst_inv
    exact ⟨l, xs, rfl, .inl ⟨sql_of (s _ _ hl), fun t ht => q _ _ _ (Gr.new s ht) (Dt.tup_mk (sqt_of upd_same) (hx.up (Same.new (s.free ht))) z)⟩⟩) hg (he := hs) (hpl := by rfl)
theorem ee_sum {ns : List Int} (hc : X.calm = true) (hm : X.mg "sum" = none) (ha : EE X σ S a (Dt X.K (.list (ns.map .int)))) (hg : Gl X "sum" := by rfl)
    (hs : starEach [a] X.env = (false, eval a X.env) :: starEach [] X.env := by rfl) : EE X σ S (.Call (.Name "sum" p) [a] [] pos) (Dt X.K (.int ns.sum)) :=
  ee_callB (cr_sum hc) hm boot_sum (ea_1 ha hs) (fun vs S1 H1 _ s al Q q => by
    obtain ⟨v, rfl, pv⟩ := al.one
    obtain ⟨l, xs, rfl, hl, hx, z⟩ := pv.lst_inv
    rw [dts_int hx] at hl
    exact ⟨l, ns, rfl, sql_of (s _ _ hl), q _ S1 H1 (Gr.refl s) (.int _)⟩) hg (he := hs) (hpl := by rfl)
theorem ee_all {bs : List Bool} (hc : X.calm = true) (hm : X.mg "all" = none) (ha : EE X σ S a (Dt X.K (.list (bs.map .bool)))) (hg : Gl X "all" := by rfl)
    (hs : starEach [a] X.env = (false, eval a X.env) :: starEach [] X.env := by rfl) : EE X σ S (.Call (.Name "all" p) [a] [] pos) (Dt X.K (.bool (bs.all fun b => b))) :=
  ee_callB (cr_all hc) hm boot_all (ea_1 ha hs) (fun vs S1 H1 _ s al Q q => by
    obtain ⟨v, rfl, pv⟩ := al.one
    obtain ⟨l, xs, rfl, hl, hx, z⟩ := pv.lst_inv
    rw [dts_bl hx] at hl
    exact ⟨l, bs, rfl, sql_of (s _ _ hl), q _ S1 H1 (Gr.refl s) (.bl _)⟩) hg (he := hs) (hpl := by rfl)
theorem ee_any {bs : List Bool} (hc : X.calm = true) (hm : X.mg "any" = none) (ha : EE X σ S a (Dt X.K (.list (bs.map .bool)))) (hg : Gl X "any" := by rfl)
    (hs : starEach [a] X.env = (false, eval a X.env) :: starEach [] X.env := by rfl) : EE X σ S (.Call (.Name "any" p) [a] [] pos) (Dt X.K (.bool (bs.any fun b => b))) :=
  ee_callB (cr_any hc) hm boot_any (ea_1 ha hs) (fun vs S1 H1 _ s al Q q => by
    obtain ⟨v, rfl, pv⟩ := al.one
    obtain ⟨l, xs, rfl, hl, hx, z⟩ := pv.lst_inv
    rw [dts_bl hx] at hl
    exact ⟨l, bs, rfl, sql_of (s _ _ hl), q _ S1 H1 (Gr.refl s) (.bl _)⟩) hg (he := hs) (hpl := by rfl)
theorem ee_intOf (hm : X.mg "int" = none) (ha : EE X σ S a (Dt X.K (.int i))) (hg : Gl X "int" := by rfl)
    (hs : starEach [a] X.env = (false, eval a X.env) :: starEach [] X.env := by rfl) : EE X σ S (.Call (.Name "int" p) [a] [] pos) (Dt X.K (.int i)) :=
  ee_callTy call_int1 hm boot_int (ea_1 ha hs) (fun vs S1 H1 _ s al Q q => by
    obtain ⟨v, rfl, pv⟩ := al.one
    cases pv
    exact .inl ⟨i, rfl, q _ S1 H1 (Gr.refl s) (.int _)⟩) hg (he := hs) (hpl := by rfl)
theorem ee_strOf (hm : X.mg "str" = none) (hb : i.natAbs.log2 < 1920) (ha : EE X σ S a (Dt X.K (.int i))) (hg : Gl X "str" := by rfl)
    (hs : starEach [a] X.env = (false, eval a X.env) :: starEach [] X.env := by rfl) : EE X σ S (.Call (.Name "str" p) [a] [] pos) (Dt X.K (.str (toString i))) :=
  ee_callTy call_str_int hm boot_str (ea_1 ha hs) (fun vs S1 H1 _ s al Q q => by
    obtain ⟨v, rfl, pv⟩ := al.one
    cases pv
    exact ⟨i, rfl, hb, q _ S1 H1 (Gr.refl s) (.str _)⟩) hg (he := hs) (hpl := by rfl)
/-! ### subscripts -/
theorem ixN_lt {n k : Nat} {i : Int} (h : ixN n i = some k) : k < n := by
  unfold ixN at h
  by_cases h0 : 0 ≤ i
  · rw [if_pos h0] at h
    by_cases h1 : i < n
    · rw [if_pos h1] at h; cases h; omega
    · rw [if_neg h1] at h; cases h
  · rw [if_neg h0] at h
    by_cases h1 : -(n : Int) ≤ i
    · rw [if_pos h1] at h; cases h; omega
    · rw [if_neg h1] at h; cases h
theorem atI_dts {K : PySem.W.Frag} {xs : List V} {H : Hp} (h : Dts K ds xs H) (e : atI ds i = some d) : ∃ x, atI xs i = some x ∧ Dt K d x H := by
  unfold atI at e ⊢
  rw [h.1]
  cases q : ixN ds.length i with
  | none => rw [q] at e; cases e
  | some k =>
    rw [q] at e
    exact h.get (i := k) e
theorem ee_ixL (he : atI ds i = some d) (ha : EE X σ S a (Dt X.K (.list ds))) (hb : EE X σ S b (Dt X.K (.int i))) (hs : PlainIx b := by exact fun _ _ => rfl) : EE X σ S (.Subscript a b pos) (Dt X.K d) :=
  ee_2 (pe_ix ix_list peb peb hs) ha hb fun x y S1 H1 _ s px py Q q => by
    cases py
    obtain ⟨l, xs, rfl, hl, hx, z⟩ := px.lst_inv
    obtain ⟨x, h1, h2⟩ := atI_dts hx he
    exact ⟨l, xs, i, x, rfl, rfl, sql_of (s _ _ hl), h1, q _ S1 H1 (Gr.refl s) h2⟩
theorem ee_ixT (he : atI ds i = some d) (ha : EE X σ S a (Dt X.K (.tuple ds))) (hb : EE X σ S b (Dt X.K (.int i))) (hs : PlainIx b := by exact fun _ _ => rfl) : EE X σ S (.Subscript a b pos) (Dt X.K d) :=
  ee_2 (pe_ix ix_tup peb peb hs) ha hb fun x y S1 H1 _ s px py Q q => by
    cases py
    obtain ⟨l, xs, rfl, hl, hx, z⟩ := px.tup_inv
    obtain ⟨x, h1, h2⟩ := atI_dts hx he
    exact ⟨l, xs, i, x, rfl, rfl, sqt_up s hl, h1, q _ S1 H1 (Gr.refl s) h2⟩
theorem ee_ixS {z : Str} {c : Nat} (hz : z.length ≤ sizeLine) (he : atI z.cps.toList i = some c) (ha : EE X σ S a (Dt X.K (.str z))) (hb : EE X σ S b (Dt X.K (.int i))) (hs : PlainIx b := by exact fun _ _ => rfl) : EE X σ S (.Subscript a b pos) (Dt X.K (.str ⟨#[c]⟩)) :=
  ee_2 (pe_ix ix_str peb peb hs) ha hb fun x y S1 H1 _ s px py Q q => by
    cases px; cases py
    exact ⟨z, i, c, rfl, rfl, hz, he, q _ S1 H1 (Gr.refl s) (.str _)⟩
/-- slices -/
def EO (X : Cx) (σ : L2.St) (S : Hp) (e : Option Expr) (o : Option Int) : Prop := ∀ H, Same S H → ∀ Q : Option Int → Hp → Prop, (∀ S' H', Gr S H S' H' → Q o H') → ∃ t, PO X e t ∧ t σ H Q
def tOb (X : Cx) (e : Option Expr) : TO := fun σ H Q => ∃ t, PO X e t ∧ t σ H Q
theorem pob {e : Option Expr} : PO X e (tOb X e) := ⟨fun pins s σ H Q I ⟨t, ht, h⟩ => ht.run pins s σ H Q I h⟩
theorem eo_none : EO X σ S none none := fun H s Q q => ⟨_, po_none, q S H (Gr.refl s)⟩
theorem eo_some (h : EE X σ S e (Dt X.K (.int i))) : EO X σ S (some e) (some i) := fun H s Q q => ⟨_, po_some peb, h H s _ fun v S1 H1 g1 pv => by cases pv; exact ⟨i, rfl, q S1 H1 g1⟩⟩
theorem EO.up {o : Option Int} {oe : Option Expr} (s : Same S S') (h : EO X σ S oe o) : EO X σ S' oe o := fun H a Q q => h H (s.trans a) Q fun S2 H2 g => q (uniS S2 S') H2 (g.uni s a)
def cutD {α : Type} (xs : List α) (lo hi : Option Int) : List α := (xs.drop (HT.sIx xs.length 0 lo)).take (HT.sIx xs.length xs.length hi - HT.sIx xs.length 0 lo)
theorem cut_dts {K : PySem.W.Frag} {xs : List V} {H : Hp} {lo hi : Option Int} (h : Dts K ds xs H) : Dts K (cutD ds lo hi) (cutV xs lo hi) H := by
  unfold cutD cutV
  rw [h.1]
  refine ⟨by simp [List.length_take, List.length_drop, h.1], fun i x d hx hd => ?_⟩
  rw [List.getElem?_take] at hx hd
  split at hx
  · rename_i hlt
    rw [if_pos hlt, List.getElem?_drop] at hd
    rw [List.getElem?_drop] at hx
    exact h.2 _ x d hx hd
  · cases hx
theorem ee_slL {lo hi : Option Expr} {l u : Option Int} {p2 : Pos} (ha : EE X σ S a (Dt X.K (.list ds))) (hl : EO X σ S lo l) (hu : EO X σ S hi u) : EE X σ S (.Subscript a (.Slice lo hi none p2) pos) (Dt X.K (.list (cutD ds l u))) := fun H s Q q =>
  he_of (pe_slice sl_list peb pob pob) (ha H s _ fun v S1 H1 g1 pv => (hl.up g1.st) H1 g1.sub _ fun S2 H2 g2 => (hu.up (g1.st.trans g2.st)) H2 g2.sub _ fun S3 H3 g3 => by
    obtain ⟨l, xs, rfl, hl, hx, z⟩ := ((pv.up g2.st).up g3.st).lst_inv
    exact ⟨l, xs, rfl, sql_of (g3.sub _ _ hl), fun t ht => q _ _ _ (((g1.trans g2).trans g3).trans (Gr.new g3.sub ht)) (Dt.lst_mk upd_same ((cut_dts hx).up (Same.new (g3.sub.free ht))) (Nat.le_trans (cutV_length _ _ _) z))⟩)
theorem cutD_whole {α : Type} {xs : List α} {lo hi : Option Int} (h : HT.sIx xs.length 0 lo = 0 ∧ HT.sIx xs.length xs.length hi = xs.length) : cutD xs lo hi = xs := by
  unfold cutD
  rw [h.1, h.2]
  simp
theorem ee_slT {lo hi : Option Expr} {l u : Option Int} {p2 : Pos} (ha : EE X σ S a (Dt X.K (.tuple ds))) (hl : EO X σ S lo l) (hu : EO X σ S hi u) : EE X σ S (.Subscript a (.Slice lo hi none p2) pos) (Dt X.K (.tuple (cutD ds l u))) := fun H s Q q =>
  he_of (pe_slice sl_tupA peb pob pob) (ha H s _ fun v S1 H1 g1 pv => (hl.up g1.st) H1 g1.sub _ fun S2 H2 g2 => (hu.up (g1.st.trans g2.st)) H2 g2.sub _ fun S3 H3 g3 => by
    have pv3 := (pv.up g2.st).up g3.st
    obtain ⟨l, xs, rfl, hl, hx, z⟩ := pv3.tup_inv
    refine ⟨l, xs, rfl, sqt_up g3.sub hl, fun hw => ?_, fun _ t ht => q _ _ _ (((g1.trans g2).trans g3).trans (Gr.new g3.sub ht)) (Dt.tup_mk (sqt_of upd_same) ((cut_dts hx).up (Same.new (g3.sub.free ht))) (Nat.le_trans (cutV_length _ _ _) z))⟩
    rw [hx.1] at hw
    rw [cutD_whole hw] at q
    exact q _ _ _ ((g1.trans g2).trans g3) pv3)
/-! ### + and * of sequences -/
theorem ee_catL (hz : ds1.length + ds2.length ≤ sizeLine) (ha : EE X σ S a (Dt X.K (.list ds1))) (hb : EE X σ S b (Dt X.K (.list ds2))) : EE X σ S (.BinOp a .Add b pos) (Dt X.K (.list (ds1 ++ ds2))) :=
  ee_op op_cat ha hb fun x y S1 H1 _ s px py Q q => by
    obtain ⟨l, xs, rfl, hl, hx, _⟩ := px.lst_inv
    obtain ⟨m, ys, rfl, hm, hy, _⟩ := py.lst_inv
    have hz' : xs.length + ys.length ≤ sizeLine := by rw [hx.1, hy.1]; exact hz
    exact ⟨l, m, xs, ys, rfl, rfl, s _ _ hl, s _ _ hm, hz', fun t ht => q _ _ _ (Gr.new s ht) (Dt.lst_mk upd_same ((hx.append hy).up (Same.new (s.free ht))) (by rw [List.length_append]; exact hz'))⟩
theorem dts_nil_iff {K : PySem.W.Frag} {xs : List V} {H : Hp} (h : Dts K ds xs H) : xs = [] ↔ ds = [] := by
  have := h.1
  constructor
  · intro e; subst e; exact List.length_eq_zero_iff.mp (by simpa using this.symm)
  · intro e; subst e; exact List.length_eq_zero_iff.mp (by simpa using this)
theorem ee_catT (hz : ds1.length + ds2.length ≤ sizeLine) (ha : EE X σ S a (Dt X.K (.tuple ds1))) (hb : EE X σ S b (Dt X.K (.tuple ds2))) : EE X σ S (.BinOp a .Add b pos) (Dt X.K (.tuple (ds1 ++ ds2))) :=
  ee_op op_catA ha hb fun x y S1 H1 _ s px py Q q => by
    have px0 := px
    have py0 := py
    obtain ⟨l, xs, rfl, hl, hx, _⟩ := px.tup_inv
    obtain ⟨m, ys, rfl, hm, hy, _⟩ := py.tup_inv
    have hz' : xs.length + ys.length ≤ sizeLine := by rw [hx.1, hy.1]; exact hz
    refine ⟨l, m, xs, ys, rfl, rfl, sqt_up s hl, sqt_up s hm, hz', fun e => ?_, fun _ e => ?_, fun _ _ t ht => q _ _ _ (Gr.new s ht) (Dt.tup_mk (sqt_of upd_same) ((hx.append hy).up (Same.new (s.free ht))) (by rw [List.length_append]; exact hz'))⟩
    · rw [(dts_nil_iff hx).mp e] at q
      exact q _ _ _ (Gr.refl s) py0
    · rw [(dts_nil_iff hy).mp e, List.append_nil] at q
      exact q _ _ _ (Gr.refl s) px0
theorem ee_catS {x y : Str} (hz : x.length + y.length ≤ sizeLine) (ha : EE X σ S a (Dt X.K (.str x))) (hb : EE X σ S b (Dt X.K (.str y))) : EE X σ S (.BinOp a .Add b pos) (Dt X.K (.str (x ++ y))) :=
  ee_op op_add_str ha hb fun v w S1 H1 _ s px py Q q => by
    cases px; cases py
    exact ⟨x, y, rfl, rfl, hz, q _ S1 H1 (Gr.refl s) (.str _)⟩
theorem flat_dts {K : PySem.W.Frag} {xs : List V} {H : Hp} (f : List.replicate 0 d = []) (h : Dts K ds xs H) : ∀ (n : Nat), Dts K (List.replicate n ds).flatten (List.replicate n xs).flatten H
  | 0 => .nil
  | n + 1 => by
    rw [List.replicate_succ, List.flatten_cons, List.replicate_succ, List.flatten_cons]
    exact h.append (flat_dts f h n)
theorem flatten_len {α : Type} (xs : List α) : ∀ n : Nat, (List.replicate n xs).flatten.length = xs.length * n
  | 0 => by simp
  | n + 1 => by rw [List.replicate_succ, List.flatten_cons, List.length_append, flatten_len xs n, Nat.mul_succ]; omega
theorem ee_repL (h1 : -(2 ^ 63) ≤ i) (h2 : i < 2 ^ 63) (hz : ds.length * i.toNat ≤ sizeLine) (ha : EE X σ S a (Dt X.K (.list ds))) (hb : EE X σ S b (Dt X.K (.int i))) : EE X σ S (.BinOp a .Mult b pos) (Dt X.K (.list (List.replicate i.toNat ds).flatten)) :=
  ee_op op_rep ha hb fun x y S1 H1 _ s px py Q q => by
    cases py
    obtain ⟨l, xs, rfl, hl, hx, _⟩ := px.lst_inv
    have hz' : xs.length * i.toNat ≤ sizeLine := by rw [hx.1]; exact hz
    exact ⟨l, i, xs, rfl, rfl, s _ _ hl, h1, h2, hz', fun t ht => q _ _ _ (Gr.new s ht) (Dt.lst_mk upd_same ((flat_dts (d := .none) rfl hx _).up (Same.new (s.free ht))) (by rw [flatten_len]; exact hz'))⟩
end
end Z

namespace Z
open PySem PySem.Spec PyProof.Rows L2
/-! ## 8. what is walked -/
/-- an iterator that gives, one by one, values that have the Ps; while B stands -/
def ItP (J : It) (B : Hp) (Ps : List (V → Hp → Prop)) : Prop := Walk J Ps.length (fun H => Same B H) (fun i H x H' => ∀ S, Same B S → Same S H → ∃ S', Gr S H S' H' ∧ ∃ P, Ps[i]? = some P ∧ P x S')
def EI (X : Cx) (σ : L2.St) (S : Hp) (tg iter : Expr) (Ps : List (V → Hp → Prop)) : Prop := ∀ H, Same S H → ∀ R : It → Hp → Prop, (∀ J S' H', Gr S H S' H' → ItP J S' Ps → R J H') → HI X tg iter σ H R
section
variable {X : Cx} {σ : L2.St} {S S' : Hp} {e a b tg : Expr} {pos p : Pos} {d d1 d2 : PyData} {ds ds1 ds2 : List PyData}
theorem EI.up {Ps : List (V → Hp → Prop)} {it : Expr} (s : Same S S') (h : EI X σ S tg it Ps) : EI X σ S' tg it Ps := fun H a R q => h H (s.trans a) R fun J S2 H2 g w => q J (uniS S2 S') H2 (g.uni s a)
  ⟨fun i H hi hs => w.goes i H hi (uni_l.trans hs), fun H hs => w.stops H (uni_l.trans hs), fun i H x H' hi hs y T st th => w.yields i H x H' hi (uni_l.trans hs) y T (uni_l.trans st) th⟩
theorem ds_get {K : PySem.W.Frag} {i : Nat} (h : ds[i]? = some d) : (Ds K ds)[i]? = some (Dt K d) := by unfold Ds; rw [List.getElem?_map, h]; rfl
theorem ds_len {K : PySem.W.Frag} : (Ds K ds).length = ds.length := by unfold Ds; simp
theorem ei_list (ha : EE X σ S e (Dt X.K (.list ds))) : EI X σ S tg e (Ds X.K ds) := fun H s R q =>
  hi_of (pi_list peb) (ha H s _ fun v S1 H1 g1 pv => by
    obtain ⟨l, xs, rfl, hl, hx, z⟩ := pv.lst_inv
    refine ⟨l, rfl, ⟨xs, sql_of (g1.sub _ _ hl)⟩, q _ S1 H1 g1 ⟨fun i H hi hs => ?_, fun H hs => ?_, fun i H x H' hi hs y T st th => ?_⟩⟩
    · rw [ds_len, ← hx.1] at hi
      exact (walk_list (K := X.K) (a := l) (xs := xs)).goes i H hi (sql_of (hs _ _ hl))
    · rw [ds_len, ← hx.1]
      exact (walk_list (K := X.K) (a := l) (xs := xs)).stops H (sql_of (hs _ _ hl))
    · rw [ds_len, ← hx.1] at hi
      obtain ⟨rfl, hy⟩ := (walk_list (K := X.K) (a := l) (xs := xs)).yields i H x H' hi (sql_of (hs _ _ hl)) y
      have hi2 : i < ds.length := by rw [← hx.1]; exact hi
      exact ⟨T, Gr.refl th, _, ds_get (List.getElem?_eq_getElem hi2), (hx.2 i x _ hy (List.getElem?_eq_getElem hi2)).up st⟩)
theorem ei_tup (ha : EE X σ S e (Dt X.K (.tuple ds))) : EI X σ S tg e (Ds X.K ds) := fun H s R q =>
  hi_of (pi_tup peb) (ha H s _ fun v S1 H1 g1 pv => by
    obtain ⟨l, xs, rfl, hl, hx, z⟩ := pv.tup_inv
    refine ⟨l, rfl, ⟨xs, sqt_up g1.sub hl⟩, q _ S1 H1 g1 ⟨fun i H hi hs => ?_, fun H hs => ?_, fun i H x H' hi hs y T st th => ?_⟩⟩
    · rw [ds_len, ← hx.1] at hi
      exact (walk_tup (K := X.K) (a := l) (xs := xs)).goes i H hi (sqt_up hs hl)
    · rw [ds_len, ← hx.1]
      exact (walk_tup (K := X.K) (a := l) (xs := xs)).stops H (sqt_up hs hl)
    · rw [ds_len, ← hx.1] at hi
      obtain ⟨rfl, hy⟩ := (walk_tup (K := X.K) (a := l) (xs := xs)).yields i H x H' hi (sqt_up hs hl) y
      have hi2 : i < ds.length := by rw [← hx.1]; exact hi
      exact ⟨T, Gr.refl th, _, ds_get (List.getElem?_eq_getElem hi2), (hx.2 i x _ hy (List.getElem?_eq_getElem hi2)).up st⟩)
/-- 0, 1, .. below n -/
def upto (n : Nat) : List PyData := (List.range n).map fun i => .int (i : Nat)
theorem upto_get {n i : Nat} (h : i < n) : (upto n)[i]? = some (.int (i : Nat)) := by unfold upto; rw [List.getElem?_map, List.getElem?_range h]; rfl
theorem upto_len {n : Nat} : (upto n).length = n := by unfold upto; simp
theorem ei_range {n : Nat} (hm : X.mg "range" = none) (hn : (n : Int) < 2 ^ 62) (ha : EE X σ S a (Dt X.K (.int (n : Nat)))) (hg : Gl X "range" := by rfl) (hs : starEach [a] X.env = [(false, eval a X.env)] := by rfl) : EI X σ S tg (.Call (.Name "range" p) [a] [] pos) (Ds X.K (upto n)) := fun H s R q =>
  hi_of (pi_range1 hg hm pab hs) ((ea_1 ha (by rw [hs]; rfl)).2 H s _ fun vs S1 H1 g1 al => by
    obtain ⟨v, rfl, pv⟩ := al.one
    cases pv
    refine ⟨(n : Int), rfl, by omega, hn, q _ S1 H1 g1 ⟨fun i H hi hs => ?_, fun H hs => ?_, fun i H x H' hi hs y T st th => ?_⟩⟩
    · rw [ds_len, upto_len] at hi
      show i < ((n : Int)).toNat
      omega
    · rw [ds_len, upto_len]
      show ((n : Int)).toNat ≤ n
      omega
    · rw [ds_len, upto_len] at hi
      obtain ⟨rfl, rfl⟩ : H' = H ∧ x = .int (0 + (i : Int)) := y
      rw [Int.zero_add]
      exact ⟨T, Gr.refl th, _, ds_get (upto_get hi), .int _⟩)
/-- pairs -/
def zipD (xs ys : List PyData) : List PyData := List.zipWith (fun x y => .tuple [x, y]) xs ys
theorem zipD_get {i : Nat} {x y : PyData} (h1 : ds1[i]? = some x) (h2 : ds2[i]? = some y) : (zipD ds1 ds2)[i]? = some (.tuple [x, y]) := by
  unfold zipD
  rw [List.getElem?_zipWith, h1, h2]
theorem pair_new {K : PySem.W.Frag} {T H : Hp} {x y : V} {t : Addr} (th : Same T H) (ht : H t = none) (h1 : Dt K d1 x T) (h2 : Dt K d2 y T) : Dt K (.tuple [d1, d2]) (.ref t) (upd T t (.tup [x, y])) :=
  Dt.tup_mk (sqt_of upd_same) ((Dts.cons h1 (Dts.cons h2 .nil)).up (Same.new (th.free ht))) (by show 2 ≤ 16777216; decide)
theorem ei_zipT {elts : List Expr} {kk : Nat} {tpos : Pos} (hm : X.mg "zip" = none) (ha : EE X σ S a (Dt X.K (.tuple ds1))) (hb : EE X σ S b (Dt X.K (.tuple ds2))) (hg : Gl X "zip" := by rfl)
    (hs : starEach [a, b] X.env = (false, eval a X.env) :: starEach [b] X.env := by rfl) (hs2 : starEach [b] X.env = (false, eval b X.env) :: starEach [] X.env := by rfl) (hpl : (backTo pos (starEach [b] X.env)).any (·.1) = false := by rfl) :
    EI X σ S (.Tuple elts kk tpos) (.Call (.Name "zip" p) [a, b] [] pos) (Ds X.K (zipD ds1 ds2)) := fun H s R q =>
  hi_of (RZ.pi_zipA hg hm pab hs hpl) ((ea_2 ha hb hs hs2).2 H s _ fun vs S1 H1 g1 al => by
    obtain ⟨v, w, rfl, pv, pw⟩ := al.two
    obtain ⟨l, xs, rfl, hl, hx, _⟩ := pv.tup_inv
    obtain ⟨m, ys, rfl, hm, hy, _⟩ := pw.tup_inv
    have hlen : (Ds X.K (zipD ds1 ds2)).length = min xs.length ys.length := by rw [ds_len]; unfold zipD; rw [List.length_zipWith, hx.1, hy.1]
    refine ⟨l, m, xs, ys, rfl, .inr ⟨sqt_up g1.sub hl, sqt_up g1.sub hm, q _ S1 H1 g1 ⟨fun i H hi hs => ?_, fun H hs => ?_, fun i H x H' hi hs y T st th => ?_⟩⟩⟩
    · rw [hlen] at hi
      exact ⟨xs, ys, xs[i]'(by omega), ys[i]'(by omega), sqt_up hs hl, sqt_up hs hm, by simp [show i < xs.length by omega], by simp [show i < ys.length by omega]⟩
    · rw [hlen]
      exact ⟨xs, ys, sqt_up hs hl, sqt_up hs hm, by omega⟩
    · rw [hlen] at hi
      obtain ⟨t, x1, y1, rfl, ht, rfl, k1, k2⟩ := y
      have i1 : i < ds1.length := by rw [← hx.1]; omega
      have i2 : i < ds2.length := by rw [← hy.1]; omega
      exact ⟨_, Gr.new th ht, _, ds_get (zipD_get (List.getElem?_eq_getElem i1) (List.getElem?_eq_getElem i2)), pair_new th ht ((hx.2 i _ _ (k1 xs (sqt_up hs hl)) (List.getElem?_eq_getElem i1)).up st) ((hy.2 i _ _ (k2 ys (sqt_up hs hm)) (List.getElem?_eq_getElem i2)).up st)⟩)
theorem ei_zipL {elts : List Expr} {kk : Nat} {tpos : Pos} (hm : X.mg "zip" = none) (ha : EE X σ S a (Dt X.K (.list ds1))) (hb : EE X σ S b (Dt X.K (.list ds2))) (hg : Gl X "zip" := by rfl)
    (hs : starEach [a, b] X.env = (false, eval a X.env) :: starEach [b] X.env := by rfl) (hs2 : starEach [b] X.env = (false, eval b X.env) :: starEach [] X.env := by rfl) (hpl : (backTo pos (starEach [b] X.env)).any (·.1) = false := by rfl) :
    EI X σ S (.Tuple elts kk tpos) (.Call (.Name "zip" p) [a, b] [] pos) (Ds X.K (zipD ds1 ds2)) := fun H s R q =>
  hi_of (RZ.pi_zipA hg hm pab hs hpl) ((ea_2 ha hb hs hs2).2 H s _ fun vs S1 H1 g1 al => by
    obtain ⟨v, w, rfl, pv, pw⟩ := al.two
    obtain ⟨l, xs, rfl, hl, hx, _⟩ := pv.lst_inv
    obtain ⟨m, ys, rfl, hm, hy, _⟩ := pw.lst_inv
    have hlen : (Ds X.K (zipD ds1 ds2)).length = min xs.length ys.length := by rw [ds_len]; unfold zipD; rw [List.length_zipWith, hx.1, hy.1]
    refine ⟨l, m, xs, ys, rfl, .inl ⟨sql_of (g1.sub _ _ hl), sql_of (g1.sub _ _ hm), q _ S1 H1 g1 ⟨fun i H hi hs => ?_, fun H hs => ?_, fun i H x H' hi hs y T st th => ?_⟩⟩⟩
    · rw [hlen] at hi
      exact ⟨xs, ys, xs[i]'(by omega), ys[i]'(by omega), sql_of (hs _ _ hl), sql_of (hs _ _ hm), by simp [show i < xs.length by omega], by simp [show i < ys.length by omega]⟩
    · rw [hlen]
      exact ⟨xs, ys, sql_of (hs _ _ hl), sql_of (hs _ _ hm), by omega⟩
    · rw [hlen] at hi
      obtain ⟨t, x1, y1, rfl, ht, rfl, k1, k2⟩ := y
      have i1 : i < ds1.length := by rw [← hx.1]; omega
      have i2 : i < ds2.length := by rw [← hy.1]; omega
      exact ⟨_, Gr.new th ht, _, ds_get (zipD_get (List.getElem?_eq_getElem i1) (List.getElem?_eq_getElem i2)), pair_new th ht ((hx.2 i _ _ (k1 xs (sql_of (hs _ _ hl))) (List.getElem?_eq_getElem i1)).up st) ((hy.2 i _ _ (k2 ys (sql_of (hs _ _ hm))) (List.getElem?_eq_getElem i2)).up st)⟩)
def enumD (xs : List PyData) : List PyData := zipD (upto xs.length) xs
theorem ei_enumL {elts : List Expr} {kk : Nat} {tpos : Pos} (hm : X.mg "enumerate" = none) (ha : EE X σ S a (Dt X.K (.list ds))) (hg : Gl X "enumerate" := by rfl) (hs : starEach [a] X.env = [(false, eval a X.env)] := by rfl) :
    EI X σ S (.Tuple elts kk tpos) (.Call (.Name "enumerate" p) [a] [] pos) (Ds X.K (enumD ds)) := fun H s R q =>
  hi_of (pi_enum hg hm pab hs) ((ea_1 ha (by rw [hs]; rfl)).2 H s _ fun vs S1 H1 g1 al => by
    obtain ⟨v, rfl, pv⟩ := al.one
    obtain ⟨l, xs, rfl, hl, hx, _⟩ := pv.lst_inv
    have hlen : (Ds X.K (enumD ds)).length = xs.length := by rw [ds_len]; unfold enumD zipD; rw [List.length_zipWith, upto_len, hx.1]; omega
    refine ⟨l, xs, rfl, sql_of (g1.sub _ _ hl), q _ S1 H1 g1 ⟨fun i H hi hs => ?_, fun H hs => ?_, fun i H x H' hi hs y T st th => ?_⟩⟩
    · rw [hlen] at hi
      exact ⟨xs, xs[i], sql_of (hs _ _ hl), by simp [hi]⟩
    · rw [hlen]
      exact ⟨xs, sql_of (hs _ _ hl), Nat.le_refl _⟩
    · rw [hlen] at hi
      obtain ⟨t, x1, rfl, ht, rfl, k1⟩ := y
      have i1 : i < ds.length := by rw [← hx.1]; omega
      exact ⟨_, Gr.new th ht, _, ds_get (zipD_get (upto_get i1) (List.getElem?_eq_getElem i1)), pair_new th ht (.int _) ((hx.2 i _ _ (k1 xs (sql_of (hs _ _ hl))) (List.getElem?_eq_getElem i1)).up st)⟩)
def strD (z : Str) : List PyData := z.cps.toList.map fun c => .str ⟨#[c]⟩
theorem ei_str {z : Str} (ha : EE X σ S e (Dt X.K (.str z))) (he : PI X tg e (iStr (bE X e)) := by exact pi_str peb) : EI X σ S tg e (Ds X.K (strD z)) := fun H s R q =>
  hi_of he (ha H s _ fun v S1 H1 g1 pv => by
    cases pv
    have hlen : (Ds X.K (strD z)).length = z.cps.size := by rw [ds_len]; unfold strD; simp
    refine ⟨z, rfl, q _ S1 H1 g1 ⟨fun i H hi hs => ?_, fun H hs => ?_, fun i H x H' hi hs y T st th => ?_⟩⟩
    · rw [hlen] at hi; exact hi
    · rw [hlen]; exact Nat.le_refl _
    · rw [hlen] at hi
      obtain ⟨rfl, c, hc, rfl⟩ := y
      refine ⟨T, Gr.refl th, _, ds_get (d := .str ⟨#[c]⟩) ?_, .str _⟩
      unfold strD
      rw [List.getElem?_map, Array.getElem?_toList, hc]
      rfl)
end
/-! ## 9. list comprehensions -/
def Ex (K : PySem.W.Frag) (F : PyData → Prop) : V → Hp → Prop := fun v S => ∃ d, F d ∧ Dt K d v S
instance {K : PySem.W.Frag} {F : PyData → Prop} : Mn (Ex K F) := ⟨fun s ⟨d, f, h⟩ => ⟨d, f, h.up s⟩⟩
def HTs (X : Cx) (ifs : List Expr) (σ : L2.St) (H : Hp) (Q : Bool → Hp → Prop) : Prop := ∀ (pins : List (Addr × Obj)) (s : Shared), Inv X pins σ H s →
    wpAny (model X.prog X.w) X.A (forIn ifs true fun c r => if r = true then do let ok ← isTrue c X.env (eval c X.env); pure (ForInStep.yield ok) else pure (ForInStep.yield r)) (TP X pins σ Q) X.xe s
def ETs (X : Cx) (σ : L2.St) (S : Hp) (ifs : List Expr) (b : Bool) : Prop := ∀ H, Same S H → ∀ Q : Bool → Hp → Prop, (∀ S' H', Gr S H S' H' → Q b H') → HTs X ifs σ H Q
theorem ets_nil {X : Cx} {σ : L2.St} {S : Hp} : ETs X σ S [] true := fun H s Q q pins sh I => pts_nil.run pins sh σ H Q I (q S H (Gr.refl s))
theorem ets_one {X : Cx} {σ : L2.St} {S : Hp} {c : Expr} {b : Bool} (h : ET X σ S c b) : ETs X σ S [c] b := fun H s Q q pins sh I => (pts_one ptb).run pins sh σ H Q I (h H s Q q)
/-- a target that takes the value: the slots behind -/
def EG (X : Cx) (S : Hp) (tg : Expr) (v : V) (σ τ : L2.St) : Prop := ∀ H, Same S H → ∀ Q : L2.St → Hp → Prop, Q τ H → HG X tg v σ H Q
theorem eg_name {X : Cx} {S : Hp} {v : V} {σ : L2.St} {i : Nat} {x : Str} {pos : Pos} (hN : X.N.Nodup) (hi : X.N[i]? = some x) (hx : Loc X.env.scope x) (hf : X.fn x = true ∨ X.env.scope.names.lookup x = some .local := by first | exact .inl rfl | exact .inr rfl | assumption) : EG X S (.Name x pos) v σ (σ.set i (some v)) := fun H _ Q q => hg_of (pg_name hN hi hx hf) q
/-- two names from a pair -/
theorem eg_pair {X : Cx} {S : Hp} {d1 d2 : PyData} {v : V} {σ : L2.St} {i j : Nat} {x y : Str} {px py pos : Pos} {kk : Nat} (hc : X.calm = true) (hN : X.N.Nodup) (hi : X.N[i]? = some x) (hj : X.N[j]? = some y) (hx : Loc X.env.scope x) (hy : Loc X.env.scope y) (h : Dt X.K (.tuple [d1, d2]) v S)
    (hfx : X.fn x = true ∨ X.env.scope.names.lookup x = some .local := by first | exact .inl rfl | exact .inr rfl) (hfy : X.fn y = true ∨ X.env.scope.names.lookup y = some .local := by first | exact .inl rfl | exact .inr rfl)
    (hn : (assignEach [.Name x px, .Name y py] X.env).length = 2 := by rfl) (hst : (assignEach [.Name x px, .Name y py] X.env).findIdx? (·.1) = none := by rfl)
    (h1 : (assignEach [.Name x px, .Name y py] X.env).map (·.2) = assign (.Name x px) X.env :: (assignEach [.Name y py] X.env).map (·.2) := by rfl) (h2 : (assignEach [.Name y py] X.env).map (·.2) = assign (.Name y py) X.env :: (assignEach [] X.env).map (·.2) := by rfl) :
    ∃ v1 v2, Dt X.K d1 v1 S ∧ Dt X.K d2 v2 S ∧ EG X S (.Tuple [.Name x px, .Name y py] kk pos) v σ ((σ.set i (some v1)).set j (some v2)) := by
  obtain ⟨l, xs, rfl, hl, hx', _⟩ := h.tup_inv
  obtain ⟨v1, e1, p1⟩ := hx'.get (i := 0) rfl
  obtain ⟨v2, e2, p2⟩ := hx'.get (i := 1) rfl
  have hxs : xs = [v1, v2] := by
    have hl2 := hx'.1
    match xs, hl2 with
    | [u, w], _ => simp at e1 e2; rw [e1, e2]
  subst hxs
  exact ⟨v1, v2, p1, p2, fun H s Q q => hg_of (pg_tup hc (pgs_cons (pg_name hN hi hx hfx) (pgs_cons (pg_name hN hj hy hfy) pgs_nil h2) h1) hn hst) ⟨l, _, rfl, sqt_up s hl, rfl, _, _, rfl, _, _, rfl, rfl, q⟩⟩
theorem paired_snoc {α β : Type} {G : α → β → Prop} : ∀ {l : List α} {r : List β} {x : α} {y : β}, Paired G l r → G x y → Paired G (l ++ [x]) (r ++ [y])
  | _, _, _, _, .nil, h => .cons h .nil
  | _, _, _, _, .cons g t, h => .cons g (paired_snoc t h)
theorem paired_map {α β : Type} {f : α → β} : ∀ {l : List α} {r : List β}, Paired (fun a b => b = f a) l r → r = l.map f
  | _, _, .nil => rfl
  | _, _, .cons g t => by rw [g, paired_map t]; rfl
theorem take_snoc {α : Type} {l : List α} {i : Nat} {x : α} (h : l[i]? = some x) : l.take (i + 1) = l.take i ++ [x] := by
  rw [List.take_add_one, h]
  rfl
def gBlk (X : Cx) (scope : Scope) (tg : Expr) : TG := fun v σ' H' Q' => ∀ (s : Shared) (H0 : Hp) (C : Addr) (cl : List (Str × Addr)) (fp : List Addr), HG (X.blk s H0 scope (compEnvC scope cl C X.env) fp) tg v σ' H' Q'
def tBlk (X : Cx) (scope : Scope) (ifs : List Expr) : TT := fun σ' H' Q' => ∀ (s : Shared) (H0 : Hp) (C : Addr) (cl : List (Str × Addr)) (fp : List Addr), HTs (X.blk s H0 scope (compEnvC scope cl C X.env) fp) ifs σ' H' Q'
def eBlk (X : Cx) (scope : Scope) (e : Expr) : TE := fun σ' H' Q' => ∀ (s : Shared) (H0 : Hp) (C : Addr) (cl : List (Str × Addr)) (fp : List Addr), HE (X.blk s H0 scope (compEnvC scope cl C X.env) fp) e σ' H' Q'
section
variable {X : Cx} {σ : L2.St} {S : Hp} {elt tg iter : Expr} {ifs : List Expr} {scope : Scope} {own : List (Str × Nat)} {pos : Pos} {ds : List PyData} {p : PyData → Bool} {G : PyData → PyData → Prop}
theorem lc_loopG (hz : ds.length ≤ sizeLine)
    (hel : ∀ d ∈ ds, ∀ v S', Same S S' → Dt X.K d v S' → ∃ τ, wipe τ (own.map (·.2)) = wipe σ (own.map (·.2)) ∧ ∀ (s : Shared) (H0 : Hp) (C : Addr) (cl : List (Str × Addr)) (fp : List Addr),
      EG (X.blk s H0 scope (compEnvC scope cl C X.env) fp) S' tg v (wipe σ (own.map (·.2))) τ ∧ ETs (X.blk s H0 scope (compEnvC scope cl C X.env) fp) τ S' ifs (p d) ∧ (p d = true → EE (X.blk s H0 scope (compEnvC scope cl C X.env) fp) τ S' elt (Ex X.K (G d)))) {H : Hp} (Q : VK) (q : ∀ v S' H', Gr S H S' H' → (∃ rs, Paired G (ds.filter p) rs ∧ Dt X.K (.list rs) v S') → Q v H') {J : It} {S1 H1 : Hp} (g1 : Gr S H S1 H1) (it : ItP J S1 (Ds X.K ds)) :
    ∀ D, H1 D = none → ∃ W : Nat → Nat → Hp → Prop, (∃ m, W 0 m (upd H1 D (.lst []))) ∧ ∀ i m H, W i m H →
      (J.stop i H ∧ Q (.ref D) H) ∨ (J.go i H ∧ ∃ Nx : Hp → Prop, (∀ H', Nx H' → ∃ m', m' < m ∧ W (i + 1) m' H') ∧ ∀ x H', J.yld i H x H' → gBlk X scope tg x (wipe σ (own.map (·.2))) H' fun σ2 H2 => wipe σ2 (own.map (·.2)) = wipe σ (own.map (·.2)) ∧ tBlk X scope ifs σ2 H2 fun b H3 =>
        if b = true then eBlk X scope elt σ2 H3 fun y H4 => ∃ acc, H4 D = some (.lst acc) ∧ acc.length < sizeLine ∧ Nx (upd H4 D (.lst (acc ++ [y]))) else Nx H3) := by
  intro D hD
  have hD1 : S1 D = none := g1.sub.free hD
  have hlen : (Ds X.K ds).length = ds.length := ds_len
  refine lc_it (g := gBlk X scope tg) (tt := tBlk X scope ifs) (te := eBlk X scope elt) (vs := own.map (·.2)) (σ := σ) (Qd := Q (.ref D)) it (fun i H' => ∃ S' xs rs, Same S1 S' ∧ Same S' H' ∧ Same H1 H' ∧ (∀ a o, H1 a = some o → S' a = S1 a) ∧ S' D = none ∧ H' D = some (.lst xs) ∧ Paired G ((ds.take i).filter p) rs ∧ Dts X.K rs xs S' ∧ xs.length ≤ i)
    ⟨S1, [], [], Same.refl _, Same.mut g1.sub hD1, Same.new hD, fun _ _ _ => rfl, hD1, upd_same, .nil, .nil, Nat.le_refl _⟩ (fun i H' _ ⟨S', _, _, a, b, _⟩ => a.trans b) ?_ ?_
  · intro i x H2 H3 hi2 ⟨S2, xs, rs, k1, k2, k3, k4, k5, k6, k7, k8, k9⟩ y
    rw [hlen] at hi2
    obtain ⟨S3, g3, P, hP, px⟩ := y S2 k1 k2
    obtain ⟨d, hd⟩ : ∃ d, ds[i]? = some d := ⟨ds[i], List.getElem?_eq_getElem hi2⟩
    rw [ds_get hd] at hP
    obtain rfl := Option.some.inj hP
    have sS3 : Same S S3 := g1.st.trans (k1.trans g3.st)
    obtain ⟨τ, hw, hb⟩ := hel d (List.mem_of_getElem? hd) x S3 sS3 px
    have hf : ∀ q, p d = q → (ds.take (i + 1)).filter p = (ds.take i).filter p ++ (if q = true then [d] else []) := fun q hq => by
      rw [take_snoc hd, List.filter_append]
      cases q with
      | true => simp [hq]
      | false => simp [hq]
    intro sh H0 C cl fp
    refine (hb sh H0 C cl fp).1 H3 g3.sub _ ⟨hw, ?_⟩
    intro sh' H0' C' cl' fp'
    refine (hb sh' H0' C' cl' fp').2.1 H3 g3.sub _ fun S4 H4 g4 => ?_
    have g34 := g3.trans g4
    cases hpd : p d with
    | false =>
      refine iteF ⟨S4, xs, rs, k1.trans g34.st, g34.sub, k3.trans g34.hh, fun a o h => (g34.old a o (k3 a o h)).trans (k4 a o h), (g34.old D _ k6).trans k5, g34.hh _ _ k6, ?_, k8.up g34.st, by omega⟩
      rw [hf false hpd]
      simpa using k7
    | true =>
      refine iteT ?_
      intro sh'' H0'' C'' cl'' fp''
      refine ((hb sh'' H0'' C'' cl'' fp'').2.2 hpd).up g4.st H4 g4.sub _ fun w S5 H5 g5 ⟨r, hr, hrw⟩ => ?_
      have g := g34.trans g5
      have hD5 : S5 D = none := (g.old D _ k6).trans k5
      refine ⟨xs, g.hh _ _ k6, Nat.lt_of_le_of_lt k9 (Nat.lt_of_lt_of_le hi2 hz), S5, xs ++ [w], rs ++ [r], k1.trans g.st, Same.mut g.sub hD5, fun a o h => ?_, fun a o h => (g.old a o (k3 a o h)).trans (k4 a o h), hD5, upd_same, ?_, (k8.up g.st).snoc hrw, by rw [List.length_append]; show xs.length + 1 ≤ i + 1; omega⟩
      · rw [upd_ne (ne_of_none h hD)]; exact g.hh _ _ (k3 a o h)
      · rw [hf true hpd]
        exact paired_snoc k7 hr
  · intro H2 ⟨S2, xs, rs, k1, k2, k3, k4, k5, k6, k7, k8, k9⟩
    rw [hlen] at k7 k9
    rw [List.take_length] at k7
    refine q _ (upd S2 D (.lst xs)) H2 (g1.trans ⟨k1.trans (Same.new k5), fun a o h => ?_, k3, fun a o h => by rw [upd_ne (ne_of_none h hD)]; exact k4 a o h⟩) ⟨rs, k7, Dt.lst_mk upd_same (k8.up (Same.new k5)) (Nat.le_trans k9 hz)⟩
    by_cases ha : a = D
    · subst ha; rw [upd_same] at h; rw [k6]; exact h
    · rw [upd_ne ha] at h; exact k2 a o h
theorem lc_readG (hi : EI X σ S tg iter (Ds X.K ds)) (hz : ds.length ≤ sizeLine)
    (hel : ∀ d ∈ ds, ∀ v S', Same S S' → Dt X.K d v S' → ∃ τ, wipe τ (own.map (·.2)) = wipe σ (own.map (·.2)) ∧ ∀ (s : Shared) (H0 : Hp) (C : Addr) (cl : List (Str × Addr)) (fp : List Addr),
      EG (X.blk s H0 scope (compEnvC scope cl C X.env) fp) S' tg v (wipe σ (own.map (·.2))) τ ∧ ETs (X.blk s H0 scope (compEnvC scope cl C X.env) fp) τ S' ifs (p d) ∧ (p d = true → EE (X.blk s H0 scope (compEnvC scope cl C X.env) fp) τ S' elt (Ex X.K (G d)))) {H : Hp} (s : Same S H) (Q : VK) (q : ∀ v S' H', Gr S H S' H' → (∃ rs, Paired G (ds.filter p) rs ∧ Dt X.K (.list rs) v S') → Q v H') :
    tLc (bI X tg iter) (gBlk X scope tg) (tBlk X scope ifs) (eBlk X scope elt) (own.map (·.2)) σ H Q := hi H s _ fun J S1 H1 g1 it => lc_loopG hz hel Q q g1 it
theorem ee_lcG (hc : X.calm = true) (hN : X.N.Nodup) (ok : BlkOk X.N X.env.scope scope own) (hi : EI X σ S tg iter (Ds X.K ds)) (hz : ds.length ≤ sizeLine)
    (hel : ∀ d ∈ ds, ∀ v S', Same S S' → Dt X.K d v S' → ∃ τ, wipe τ (own.map (·.2)) = wipe σ (own.map (·.2)) ∧ ∀ (s : Shared) (H0 : Hp) (C : Addr) (cl : List (Str × Addr)) (fp : List Addr),
      EG (X.blk s H0 scope (compEnvC scope cl C X.env) fp) S' tg v (wipe σ (own.map (·.2))) τ ∧ ETs (X.blk s H0 scope (compEnvC scope cl C X.env) fp) τ S' ifs (p d) ∧ (p d = true → EE (X.blk s H0 scope (compEnvC scope cl C X.env) fp) τ S' elt (Ex X.K (G d))))
    (hs : ∀ x, foldedSetIterable iter X.env x = pure x := by intro _; rfl) :
    EE X σ S (.ListComp elt [⟨tg, iter, ifs, 0⟩] scope pos) (fun v S' => ∃ rs, Paired G (ds.filter p) rs ∧ Dt X.K (.list rs) v S') := fun H s Q q =>
  he_of (pe_lc (own := own) (wi := bI X tg iter) (g := gBlk X scope tg) (tt := tBlk X scope ifs) (te := eBlk X scope elt) hc hN pib ok
    (fun s H0 C cl fp => ⟨fun pins sh σ' H' v u Q' I r h => h s H0 C cl fp pins sh u I r⟩) (fun s H0 C cl fp => ⟨fun pins sh σ' H' Q' I h => h s H0 C cl fp pins sh I⟩) (fun s H0 C cl fp => ⟨fun pins sh σ' H' Q' I h => h s H0 C cl fp pins sh I⟩) hs) (lc_readG hi hz hel s Q q)
/-- name = [..] on one line, the name a local -/
theorem hs_setLcG {D : Ends} {rest : List Stmt} {i : Nat} {y : Str} {py spos : Pos} {H : Hp} (hc : X.calm = true) (hN : X.N.Nodup) (hy : X.N[i]? = some y) (hyl : X.env.scope.names.lookup y = some .local)
    (hsw : swapsWith (.ListComp elt [⟨tg, iter, ifs, 0⟩] scope pos) (some (.Name y py)) spos.line X.env = pure true) (ok : BlkOk X.N X.env.scope scope own) (hi : EI X σ S tg iter (Ds X.K ds)) (hz : ds.length ≤ sizeLine)
    (hel : ∀ d ∈ ds, ∀ v S', Same S S' → Dt X.K d v S' → ∃ τ, wipe τ (own.map (·.2)) = wipe σ (own.map (·.2)) ∧ ∀ (s : Shared) (H0 : Hp) (C : Addr) (cl : List (Str × Addr)) (fp : List Addr),
      EG (X.blk s H0 scope (compEnvC scope cl C X.env) fp) S' tg v (wipe σ (own.map (·.2))) τ ∧ ETs (X.blk s H0 scope (compEnvC scope cl C X.env) fp) τ S' ifs (p d) ∧ (p d = true → EE (X.blk s H0 scope (compEnvC scope cl C X.env) fp) τ S' elt (Ex X.K (G d)))) (s : Same S H)
    (q : ∀ v S' H', Gr S H S' H' → (∃ rs, Paired G (ds.filter p) rs ∧ Dt X.K (.list rs) v S') → HS X D rest (σ.set i (some v)) H')
    (hs : ∀ x, foldedSetIterable iter X.env x = pure x := by intro _; rfl) : HS X D (.Assign [.Name y py] (.ListComp elt [⟨tg, iter, ifs, 0⟩] scope pos) spos :: rest) σ H :=
  hs_of (pss_cons (ps_setLc (i := i) (own := own) (wi := bI X tg iter) (g := gBlk X scope tg) (tt := tBlk X scope ifs) (te := eBlk X scope elt) hc hN hy hyl hsw pib ok
    (fun s H0 C cl fp => ⟨fun pins sh σ' H' v u Q' I r h => h s H0 C cl fp pins sh u I r⟩) (fun s H0 C cl fp => ⟨fun pins sh σ' H' Q' I h => h s H0 C cl fp pins sh I⟩) (fun s H0 C cl fp => ⟨fun pins sh σ' H' Q' I h => h s H0 C cl fp pins sh I⟩) hs) psb) (lc_readG hi hz hel s _ q)
/-- each item by a function, under a test -/
theorem fun_of_G {f : PyData → PyData} {v : V} {S' : Hp} {K : PySem.W.Frag} (h : ∃ rs, Paired (fun d r => r = f d) (ds.filter p) rs ∧ Dt K (.list rs) v S') : Dt K (.list ((ds.filter p).map f)) v S' := by
  obtain ⟨rs, h1, h2⟩ := h
  rw [paired_map h1] at h2
  exact h2
end
end Z

namespace Z
open PySem PySem.Spec PyProof.Rows L2
/-! ## 10. statements -/
section
variable {X : Cx} {σ : L2.St} {S H : Hp} {e a b c : Expr} {P : V → Hp → Prop} {pos p : Pos} {D : Ends} {rest body orelse : List Stmt} {k : Bool} {st : Stmt} {d d1 d2 : PyData} {ds : List PyData}
theorem hs_cons {t : TS} (h : PS X st t) (q : t { D with nx := fun σ' H' => HS X D rest σ' H' } σ H) : HS X D (st :: rest) σ H := hs_of (pss_cons h psb) q
theorem hs_nil (q : D.nx σ H) : HS X D [] σ H := hs_of pss_nil q
theorem hs_pass (q : HS X D rest σ H) : HS X D (.Pass pos :: rest) σ H := hs_cons ps_pass q
theorem hs_brk (q : D.bk σ H) : HS X D (.Break pos :: rest) σ H := hs_cons ps_break q
theorem hs_cont (q : D.ct σ H) : HS X D (.Continue pos :: rest) σ H := hs_cons ps_continue q
theorem hs_set {i : Nat} {x : Str} {pos' : Pos} (h : EE X σ S e P) (s : Same S H) (hN : X.N.Nodup) (q : ∀ v S' H', Gr S H S' H' → P v S' → HS X D rest (σ.set i (some v)) H') (hi : X.N[i]? = some x := by rfl) (hx : Loc X.env.scope x := by first | exact Or.inl rfl | exact Or.inr rfl)
    (hs : swapsWith e (some (.Name x pos')) pos.line X.env = pure false := by rfl) (hf : X.fn x = true ∨ X.env.scope.names.lookup x = some .local := by first | exact .inl rfl | exact .inr rfl | assumption) : HS X D (.Assign [.Name x pos'] e pos :: rest) σ H :=
  hs_cons (ps_set hN hi hx peb hs hf) (h H s _ fun v S' H' g pv => q v S' H' g pv)
theorem hs_ret (h : EE X σ S e P) (s : Same S H) (q : ∀ v S' H', Gr S H S' H' → P v S' → D.rt v H') : HS X D (.Return (some e) pos :: rest) σ H := hs_cons (ps_ret peb) (h H s _ q)
theorem hs_retN (q : D.rt .non H) : HS X D (.Return none pos :: rest) σ H := hs_cons ps_retN q
theorem hs_expr (h : EE X σ S e P) (s : Same S H) (q : ∀ v S' H', Gr S H S' H' → P v S' → HS X D rest σ H') (hs : swapsWith e none pos.line X.env = pure false := by rfl) : HS X D (.Expr e pos :: rest) σ H := hs_cons (ps_expr peb hs) (h H s _ q)
/-- the ends of a block that stands ahead of rest -/
def Dn (X : Cx) (D : Ends) (rest : List Stmt) : Ends := { D with nx := fun σ' H' => HS X D rest σ' H' }
theorem hs_if (h : ET X σ S c k) (s : Same S H) (qt : k = true → ∀ S' H', Gr S H S' H' → HS X (Dn X D rest) body σ H') (qf : k = false → ∀ S' H', Gr S H S' H' → HS X (Dn X D rest) orelse σ H') : HS X D (.If c body orelse pos :: rest) σ H :=
  hs_cons (ps_if ptb psb psb) (h H s _ fun S' H' g => by
    cases k with
    | true => exact iteT (qt rfl S' H' g)
    | false => exact iteF (qf rfl S' H' g))
theorem hs_ifT (h : ET X σ S c true) (s : Same S H) (q : ∀ S' H', Gr S H S' H' → HS X (Dn X D rest) body σ H') : HS X D (.If c body orelse pos :: rest) σ H := hs_if h s (fun _ => q) (fun z => nomatch z)
/-- not taken, and there is no else -/
theorem hs_ifN (h : ET X σ S c false) (s : Same S H) (q : ∀ S' H', Gr S H S' H' → HS X D rest σ H') : HS X D (.If c body [] pos :: rest) σ H := hs_if h s (fun z => nomatch z) (fun _ S' H' g => hs_nil (q S' H' g))
theorem hs_ifF (h : ET X σ S c false) (s : Same S H) (q : ∀ S' H', Gr S H S' H' → HS X (Dn X D rest) orelse σ H') : HS X D (.If c body orelse pos :: rest) σ H := hs_if h s (fun z => nomatch z) (fun _ => q)
theorem mn_eq {v : V} : Mn (fun (w : V) (_ : Hp) => w = v) := ⟨fun _ h => h⟩
/-- a, b = x, y with plain names -/
theorem hs_par {i j : Nat} {x y : Str} {Pa Pb : V → Hp → Prop} [Mn Pa] [Mn Pb] {px py pt : Pos} {kt k2 pt2} (hc : X.calm = true) (hN : X.N.Nodup) (ha : EE X σ S a Pa) (hb : EE X σ S b Pb) (s : Same S H)
    (hw : swappedStores [.Tuple [.Name x px, .Name y py] kt pt] (.Tuple [a, b] k2 pt2) X.env = pure (some [x, y]))
    (q : ∀ v w S' H', Gr S H S' H' → Pa v S' → Pb w S' → HS X D rest ((σ.set i (some v)).set j (some w)) H')
    (hi : X.N[i]? = some x := by rfl) (hj : X.N[j]? = some y := by rfl) (hij : i ≠ j := by decide) (hx : X.env.scope.names.lookup x = some .local := by rfl) (hy : X.env.scope.names.lookup y = some .local := by rfl)
    (hs : starEach [a, b] X.env = (false, eval a X.env) :: starEach [b] X.env := by rfl) (hs2 : starEach [b] X.env = (false, eval b X.env) :: starEach [] X.env := by rfl)
    (hss : swapsWithSole [.Tuple [.Name x px, .Name y py] kt pt] (.Tuple [a, b] k2 pt2) pos.line X.env = pure false := by rfl) : HS X D (.Assign [.Tuple [.Name x px, .Name y py] kt pt] (.Tuple [a, b] k2 pt2) pos :: rest) σ H :=
  hs_cons (ps_par hc hN hi hj hij hx hy pab hw hss) ((ea_2 ha hb hs hs2).2 H s _ fun vs S' H' g al => by
    obtain ⟨v, w, rfl, p1, p2⟩ := al.two
    exact ⟨v, w, rfl, q v w S' H' g p1 p2⟩)
/-- a, b, c = x, y, z with plain names -/
theorem hs_par3 {i j l : Nat} {x y z : Str} {Pa Pb Pc : V → Hp → Prop} [Mn Pa] [Mn Pb] [Mn Pc] {px py pz pt : Pos} {kt k2 pt2} (hc : X.calm = true) (hN : X.N.Nodup) (ha : EE X σ S a Pa) (hb : EE X σ S b Pb) (hcc : EE X σ S c Pc) (s : Same S H)
    (hw : swappedStores [.Tuple [.Name x px, .Name y py, .Name z pz] kt pt] (.Tuple [a, b, c] k2 pt2) X.env = pure (some [x, y, z]))
    (q : ∀ v w u S' H', Gr S H S' H' → Pa v S' → Pb w S' → Pc u S' → HS X D rest (((σ.set i (some v)).set j (some w)).set l (some u)) H')
    (hi : X.N[i]? = some x := by rfl) (hj : X.N[j]? = some y := by rfl) (hl : X.N[l]? = some z := by rfl) (hij : i ≠ j := by decide) (hil : i ≠ l := by decide) (hjl : j ≠ l := by decide)
    (hx : X.env.scope.names.lookup x = some .local := by rfl) (hy : X.env.scope.names.lookup y = some .local := by rfl) (hz : X.env.scope.names.lookup z = some .local := by rfl)
    (hs : starEach [a, b, c] X.env = (false, eval a X.env) :: starEach [b, c] X.env := by rfl) (hs2 : starEach [b, c] X.env = (false, eval b X.env) :: starEach [c] X.env := by rfl) (hs3 : starEach [c] X.env = (false, eval c X.env) :: starEach [] X.env := by rfl)
    (hss : swapsWithSole [.Tuple [.Name x px, .Name y py, .Name z pz] kt pt] (.Tuple [a, b, c] k2 pt2) pos.line X.env = pure false := by rfl) : HS X D (.Assign [.Tuple [.Name x px, .Name y py, .Name z pz] kt pt] (.Tuple [a, b, c] k2 pt2) pos :: rest) σ H :=
  hs_cons (ps_par3 hc hN hi hj hl hij hil hjl hx hy hz pab hw hss) ((ea_cons ha (ea_2 hb hcc hs2 hs3) hs).2 H s _ fun vs S' H' g al => by
    obtain ⟨v, w, u, rfl, p1, p2, p3⟩ := al.three
    exact ⟨v, w, u, rfl, q v w u S' H' g p1 p2 p3⟩)
/-- a, b = e, e a pair -/
theorem hs_unpack {i j : Nat} {x y : Str} {px py pt : Pos} {kt : Nat} (hc : X.calm = true) (hN : X.N.Nodup) (ha : EE X σ S e (Dt X.K (.tuple [d1, d2]))) (s : Same S H)
    (q : ∀ v w S' H', Gr S H S' H' → Dt X.K d1 v S' → Dt X.K d2 w S' → HS X D rest ((σ.set i (some v)).set j (some w)) H')
    (hi : X.N[i]? = some x := by rfl) (hj : X.N[j]? = some y := by rfl) (hx : Loc X.env.scope x := by first | exact Or.inl rfl | exact Or.inr rfl) (hy : Loc X.env.scope y := by first | exact Or.inl rfl | exact Or.inr rfl)
    (hfx : X.fn x = true ∨ X.env.scope.names.lookup x = some .local := by first | exact .inl rfl | exact .inr rfl) (hfy : X.fn y = true ∨ X.env.scope.names.lookup y = some .local := by first | exact .inl rfl | exact .inr rfl)
    (hn : (assignEach [.Name x px, .Name y py] X.env).length = 2 := by rfl) (hst : (assignEach [.Name x px, .Name y py] X.env).findIdx? (·.1) = none := by rfl)
    (h1 : (assignEach [.Name x px, .Name y py] X.env).map (·.2) = assign (.Name x px) X.env :: (assignEach [.Name y py] X.env).map (·.2) := by rfl) (h2 : (assignEach [.Name y py] X.env).map (·.2) = assign (.Name y py) X.env :: (assignEach [] X.env).map (·.2) := by rfl)
    (hss : swapsWithSole [.Tuple [.Name x px, .Name y py] kt pt] e pos.line X.env = pure false := by rfl) (hw : swappedStores [.Tuple [.Name x px, .Name y py] kt pt] e X.env = pure none := by rfl)
    (h3 : (assignEach [.Tuple [.Name x px, .Name y py] kt pt] X.env).map (·.2) = [assign (.Tuple [.Name x px, .Name y py] kt pt) X.env] := by rfl) : HS X D (.Assign [.Tuple [.Name x px, .Name y py] kt pt] e pos :: rest) σ H :=
  hs_cons (ps_asg peb pgb hss hw h3) (ha H s _ fun v S' H' g pv => by
    obtain ⟨v1, v2, p1, p2, hg⟩ := eg_pair (σ := σ) (px := px) (py := py) (pos := pt) (kk := kt) hc hN hi hj hx hy pv hfx hfy hn hst h1 h2
    exact hg H' g.sub _ (q v1 v2 S' H' g p1 p2))
theorem hs_mono {D' : Ends} {st : List Stmt} (h : HS X D st σ H) (h1 : ∀ σ H, D.nx σ H → D'.nx σ H) (h2 : ∀ v H, D.rt v H → D'.rt v H) (h3 : ∀ σ H, D.bk σ H → D'.bk σ H) (h4 : ∀ σ H, D.ct σ H → D'.ct σ H) : HS X D' st σ H := fun pins s I => thn (h pins s I) fun f s' q => by
  cases f with
  | next => obtain ⟨σ', H', I', z⟩ := q; exact ⟨σ', H', I', h1 _ _ z⟩
  | brk => obtain ⟨σ', H', I', z⟩ := q; exact ⟨σ', H', I', h3 _ _ z⟩
  | cont => obtain ⟨σ', H', I', z⟩ := q; exact ⟨σ', H', I', h4 _ _ z⟩
  | ret u => obtain ⟨v, σ', H', I', r, z⟩ := q; exact ⟨v, σ', H', I', r, h2 _ _ z⟩
/-- the ends of a statement that leads to M -/
def Dj (D : Ends) (S H : Hp) (M : L2.St → Hp → Prop) : Ends := { D with nx := fun σ' H' => ∃ S', Gr S H S' H' ∧ M σ' S' }
/-- an if whose ways meet in M -/
theorem hs_ifJ (M : L2.St → Hp → Prop) (h : ET X σ S c k) (s : Same S H) (qt : k = true → ∀ S' H', Gr S H S' H' → HS X (Dj D S' H' M) body σ H') (qf : k = false → ∀ S' H', Gr S H S' H' → HS X (Dj D S' H' M) orelse σ H')
    (h2 : ∀ σ' S' H', Gr S H S' H' → M σ' S' → HS X D rest σ' H') : HS X D (.If c body orelse pos :: rest) σ H :=
  hs_cons (ps_if ptb psb psb) (h H s _ fun S' H' g => by
    have key : ∀ st, HS X (Dj D S' H' M) st σ H' → HS X (Dn X D rest) st σ H' := fun st z => hs_mono z (fun σ' H2 ⟨S2, g2, m⟩ => h2 σ' S2 H2 (g.trans g2) m) (fun _ _ z => z) (fun _ _ z => z) (fun _ _ z => z)
    cases k with
    | true => exact iteT (key _ (qt rfl S' H' g))
    | false => exact iteF (key _ (qf rfl S' H' g)))
/-- the ends of a turn: Iv again behind it -/
def Dl (X : Cx) (D : Ends) (rest : List Stmt) (S H : Hp) (Iv : L2.St → Hp → Prop) : Ends :=
  { D with nx := fun σ' H' => ∃ S', Gr S H S' H' ∧ Iv σ' S', ct := fun σ' H' => ∃ S', Gr S H S' H' ∧ Iv σ' S', bk := fun σ' H' => HS X D rest σ' H' }
/-- for, nothing that stands is changed -/
theorem hs_for {tg iter : Expr} {Ps : List (V → Hp → Prop)} (Iv : Nat → L2.St → Hp → Prop) (hp : PassesOwn (model X.prog X.w) X.A X.env X.xe) (hc : X.calm = true) (hi : EI X σ S tg iter Ps) (s : Same S H) (h0 : ∀ S' H', Gr S H S' H' → Iv 0 σ S')
    (step : ∀ i P σ1 S1 H1 x S2 H2, Ps[i]? = some P → Gr S H S1 H1 → Iv i σ1 S1 → Gr S1 H1 S2 H2 → P x S2 → HG X tg x σ1 H2 fun σ3 H3 => HS X (Dl X D rest S2 H2 (Iv (i + 1))) body σ3 H3)
    (done : ∀ σ1 S1 H1, Gr S H S1 H1 → Iv Ps.length σ1 S1 → HS X D rest σ1 H1)
    (hs : ∀ x, foldedSetIterable iter X.env x = pure x := by intro _; rfl) : HS X D (.For tg iter body [] pos :: rest) σ H :=
  hs_cons (ps_for hp hc pib pgb psb hs) (hi H s _ fun J S1 H1 g1 it => for_it (g := bG X tg) (tb := bS X body) it (fun i σ' H' => ∃ S', Gr S1 H1 S' H' ∧ Iv i σ' S') ⟨S1, Gr.refl g1.sub, h0 S1 H1 g1⟩ (fun i σ' H' _ ⟨S', g, _⟩ => g.st.trans g.sub)
    (fun i x σ' H2 H3 hlt ⟨S2, g2, iv⟩ y => by
      obtain ⟨S3, g3, P, hP, px⟩ := y S2 g2.st g2.sub
      intro pins sh u I r
      refine thn ((step i P σ' S2 H2 x S3 H3 hP (g1.trans g2) iv g3 px) pins sh u I r) fun _ s' ⟨σ4, H4, I4, q4⟩ => ⟨σ4, H4, I4, ?_⟩
      exact hs_mono q4 (fun σ5 H5 ⟨S5, g5, iv5⟩ => ⟨S5, g2.trans (g3.trans g5), iv5⟩) (fun _ _ z => z) (fun _ _ z => z) (fun σ5 H5 ⟨S5, g5, iv5⟩ => ⟨S5, g2.trans (g3.trans g5), iv5⟩)) (fun σ' H' ⟨S', g, iv⟩ => done σ' S' H' (g1.trans g) iv))
/-- while, nothing that stands is changed; m falls -/
theorem hs_while (Iv : Nat → L2.St → Hp → Prop) (m0 : Nat) (hp : PassesOwn (model X.prog X.w) X.A X.env X.xe) (s : Same S H) (h0 : Iv m0 σ S)
    (step : ∀ m σ1 S1 H1, Gr S H S1 H1 → Iv m σ1 S1 → ∃ k, ET X σ1 S1 c k ∧ (k = true → ∀ S2 H2, Gr S1 H1 S2 H2 → HS X (Dl X D rest S2 H2 (fun σ' S' => ∃ m', m' < m ∧ Iv m' σ' S')) body σ1 H2) ∧ (k = false → ∀ S2 H2, Gr S1 H1 S2 H2 → HS X D rest σ1 H2)) :
    HS X D (.While c body [] pos :: rest) σ H :=
  hs_cons (ps_while hp ptb psb) ⟨fun m σ' H' => ∃ S', Gr S H S' H' ∧ Iv m σ' S', ⟨m0, S, Gr.refl s, h0⟩, fun m σ' H' ⟨S1, g1, iv⟩ => by
    obtain ⟨k, hk, h1, h2⟩ := step m σ' S1 H' g1 iv
    refine hk H' g1.sub _ fun S2 H2 g2 => ?_
    cases k with
    | false => exact iteF (h2 rfl S2 H2 g2)
    | true =>
      refine iteT ⟨fun σ3 H3 => ∃ S3 m', Gr S2 H2 S3 H3 ∧ m' < m ∧ Iv m' σ3 S3, fun σ3 H3 ⟨S3, m', g3, hm, iv3⟩ => ⟨m', hm, S3, g1.trans (g2.trans g3), iv3⟩, ?_⟩
      exact hs_mono (h1 rfl S2 H2 g2) (fun σ5 H5 ⟨S5, g5, m', hm, iv5⟩ => ⟨S5, m', g5, hm, iv5⟩) (fun _ _ z => z) (fun _ _ z => z) (fun σ5 H5 ⟨S5, g5, m', hm, iv5⟩ => ⟨S5, m', g5, hm, iv5⟩)⟩
end
/-! ## 11. defs -/
/-- a def that is known: where it stands, what it promises (no exception leaves it) -/
structure KD (P : Program) (w : World) (K : PySem.W.Frag) (mg : Str → Option Value) (base : Heap) (x : Str) (k : Nat) (sp : Sp) : Prop where
  ex : ∃ f fd ps, FnOk P w K mg base CX0 k f fd ps sp ∧ mg x = some (.ref f) ∧ PySem.W.keepIn K (.ref f) = true ∧ Binds K fd ps []
theorem KD.mono {P : Program} {w : World} {K : PySem.W.Frag} {mg : Str → Option Value} {base : Heap} {x : Str} {j k : Nat} {sp : Sp} (h : KD P w K mg base x j sp) (hk : j ≤ k) : KD P w K mg base x k sp := by
  obtain ⟨f, fd, ps, F, r⟩ := h.ex
  exact ⟨f, fd, ps, F.mono hk, r⟩
section
variable {X : Cx} {σ : L2.St} {S S' : Hp} {e a b c : Expr} {es : List Expr} {P R : V → Hp → Prop} {Ps : List (V → Hp → Prop)} {pos p : Pos} {k : Nat} {x : Str} {sp : Sp} {d : PyData} {ds : List PyData}
def SpE (sp : Sp) (S : Hp) (Ps : List (V → Hp → Prop)) (R : V → Hp → Prop) : Prop := ∀ vs S1 H1, Same S S1 → Same S1 H1 → Al Ps vs S1 → ∀ Q : VK, (∀ v S2 H2, Gr S1 H1 S2 H2 → R v S2 → Q v H2) → sp vs H1 Q E0
theorem ee_call (D : KD X.prog X.w X.K X.mg X.base x k sp) (hr : Room k X.A) (ha : EA X σ S (e :: es) Ps) (hsp : SpE sp S Ps R) (hg : Gl X x := by rfl) (hdb : (x == ("__debug__" : Str)) = false := by decide)
    (he : starEach (e :: es) X.env = (false, eval e X.env) :: starEach es X.env := by rfl) (hpl : (backTo pos (starEach es X.env)).any (·.1) = false := by rfl) : EE X σ S (.Call (.Name x p) (e :: es) [] pos) R := fun H s Q q => by
  obtain ⟨f, fd, ps, F, hm, hk, hb⟩ := D.ex
  refine he_of (pe_call F hr hg hm hk hb .nil pass0 pab hdb he hpl) (ha.2 H s _ fun vs S1 H1 g1 al => ?_)
  rw [List.append_nil]
  exact hsp vs S1 H1 g1.st g1.sub al Q fun v S2 H2 g2 rv => q v S2 H2 (g1.trans g2) rv
/-- a def of data: F tells what it gives -/
def spD (K : PySem.W.Frag) (F : List PyData → PyData → Prop) : Sp := fun vs H Q _ => ∃ S ds d, Same S H ∧ Dts K ds vs S ∧ F ds d ∧ ∀ v S' H', Gr S H S' H' → Dt K d v S' → Q v H'
theorem spD_E {F : List PyData → PyData → Prop} (hF : F ds d) : SpE (spD X.K F) S (Ds X.K ds) (Dt X.K d) := fun vs S1 H1 _ s al Q q => ⟨S1, ds, d, s, al_dts al, hF, q⟩
theorem ee_callD {F : List PyData → PyData → Prop} (D : KD X.prog X.w X.K X.mg X.base x k (spD X.K F)) (hr : Room k X.A) (hF : F ds d) (ha : EA X σ S (e :: es) (Ds X.K ds)) (hg : Gl X x := by rfl) (hdb : (x == ("__debug__" : Str)) = false := by decide)
    (he : starEach (e :: es) X.env = (false, eval e X.env) :: starEach es X.env := by rfl) (hpl : (backTo pos (starEach es X.env)).any (·.1) = false := by rfl) : EE X σ S (.Call (.Name x p) (e :: es) [] pos) (Dt X.K d) :=
  ee_call D hr ha (spD_E hF) hg hdb he hpl
end
section
variable {P : Program} {w : World} {K : PySem.W.Frag} {mg : Str → Option Value} {base : Heap} {x qual : Str} {params : Arguments} {body : List Stmt} {scope : Scope} {dvs : List V} {kws : List (Str × V)} {f : Addr} {fd : FuncData} {N ps : List Str} {k : Nat} {sp : Sp}
/-- a def by its body -/
theorem fn_hs (F : FunD K x qual params body scope dvs kws f fd) (Sc : FnScope N ps scope) (len : ∀ vs H Q E, sp vs H Q E → vs.length = ps.length)
    (hb : ∀ (cdv : Value) (A : Around) (outer : List Env) (s : Shared) (H : Hp) (vs : List V) (Q : VK) (E : XK), Room k (A.deeper (envOfC qual scope s.heap.objs.size f cdv)) → sp vs H Q E →
      HS (cxOf CX0 P w K mg base N qual scope f cdv A outer s H E).nox { nx := fun _ H' => Q .non H', rt := Q } body (start N vs) H) : FnOk P w K mg base CX0 (k + 1) f fd ps sp :=
  F.ok Sc len fun cdv A outer s H vs Q E hr h => ⟨_, PSs.nox psb, hb cdv A outer s H vs Q E hr h⟩
theorem kd_mk (F : FunD K x qual params body scope [] kws f fd) (G : FnOk P w K mg base CX0 k f fd ps sp) (hm : mg x = some (.ref f)) (hb : Binds K fd ps []) : KD P w K mg base x k sp := ⟨f, fd, ps, G, hm, F.kp, hb⟩
end
end Z
namespace Z
open PySem PySem.Spec PyProof.Rows L2
theorem Dts.one {K : PySem.W.Frag} {d : PyData} {vs : List V} {S : Hp} (h : Dts K [d] vs S) : ∃ v, vs = [v] ∧ Dt K d v S := (dts_al h).one
theorem Dts.two {K : PySem.W.Frag} {d e : PyData} {vs : List V} {S : Hp} (h : Dts K [d, e] vs S) : ∃ v w, vs = [v, w] ∧ Dt K d v S ∧ Dt K e w S := (dts_al h).two
theorem Dts.three {K : PySem.W.Frag} {d e g : PyData} {vs : List V} {S : Hp} (h : Dts K [d, e, g] vs S) : ∃ v w u, vs = [v, w, u] ∧ Dt K d v S ∧ Dt K e w S ∧ Dt K g u S := (dts_al h).three
end Z

namespace Z
open PySem PySem.Spec PyProof.Rows L2
/-! ## 12. comprehensions in short -/
def tupP (q : PyData × PyData) : PyData := .tuple [q.1, q.2]
theorem zipD_eq (xs ys : List PyData) : zipD xs ys = (xs.zip ys).map tupP := by
  unfold zipD
  rw [List.zip_eq_zipWith, List.map_zipWith]
  rfl
section
variable {X : Cx} {σ : L2.St} {S : Hp} {elt iter : Expr} {ifs : List Expr} {scope : Scope} {pos px py tp : Pos} {ds : List PyData} {ps : List (PyData × PyData)} {α : Type} {enc : α → PyData} {i j kk : Nat} {x y : Str}
theorem wipe1 {σ : L2.St} {i : Nat} {v : Option V} : wipe ((wipe σ [i]).set i v) [i] = wipe σ [i] := by
  show (((σ.set i none).set i v).set i none) = σ.set i none
  rw [List.set_set, List.set_set]
theorem filter_true {α : Type} (l : List α) : l.filter (fun _ => true) = l := by
  induction l with
  | nil => rfl
  | cons a l ih => rw [List.filter_cons]; simp
/-- [elt for x in iter if t] -/
theorem ee_lcf {p : PyData → Bool} {f : PyData → α} (hc : X.calm = true) (hN : X.N.Nodup) (ok : BlkOk X.N X.env.scope scope [(x, i)]) (hi : EI X σ S (.Name x px) iter (Ds X.K ds)) (hz : ds.length ≤ sizeLine)
    (hel : ∀ d ∈ ds, ∀ v S', Same S S' → Dt X.K d v S' → ∀ (s : Shared) (H0 : Hp) (C : Addr) (cl : List (Str × Addr)) (fp : List Addr),
      ETs (X.blk s H0 scope (compEnvC scope cl C X.env) fp) ((wipe σ [i]).set i (some v)) S' ifs (p d) ∧ (p d = true → EE (X.blk s H0 scope (compEnvC scope cl C X.env) fp) ((wipe σ [i]).set i (some v)) S' elt (Dt X.K (enc (f d)))))
    (hix : X.N[i]? = some x := by rfl) (hx : ∀ (s : Shared) (H0 : Hp) (C : Addr) (cl : List (Str × Addr)) (fp : List Addr), Loc (X.blk s H0 scope (compEnvC scope cl C X.env) fp).env.scope x ∧ ((X.blk s H0 scope (compEnvC scope cl C X.env) fp).fn x = true ∨ (X.blk s H0 scope (compEnvC scope cl C X.env) fp).env.scope.names.lookup x = some .local) := by
      intros; exact ⟨by first | exact Or.inl rfl | exact Or.inr rfl, by first | exact .inl rfl | exact .inr rfl⟩)
    (hs : ∀ x, foldedSetIterable iter X.env x = pure x := by intro _; rfl) :
    EE X σ S (.ListComp elt [⟨.Name x px, iter, ifs, 0⟩] scope pos) (Dt X.K (.list (((ds.filter p).map f).map enc))) := by
  refine (ee_lcG (own := [(x, i)]) (p := p) (G := fun d r => r = enc (f d)) hc hN ok hi hz (fun d hd v S' s hv => ⟨(wipe σ [i]).set i (some v), wipe1, fun sh H0 C cl fp => ?_⟩) hs).imp fun v S' h => ?_
  · obtain ⟨h1, h2⟩ := hel d hd v S' s hv sh H0 C cl fp
    obtain ⟨k1, k2⟩ := hx sh H0 C cl fp
    exact ⟨eg_name hN hix k1 k2, h1, fun hp => (h2 hp).imp fun w S2 hw => ⟨_, rfl, hw⟩⟩
  · have e : (ds.filter p).map (fun d => enc (f d)) = ((ds.filter p).map f).map enc := by rw [List.map_map]; rfl
    rw [← e]
    exact fun_of_G h
/-- [elt for x in iter] -/
theorem ee_lc {f : PyData → α} (hc : X.calm = true) (hN : X.N.Nodup) (ok : BlkOk X.N X.env.scope scope [(x, i)]) (hi : EI X σ S (.Name x px) iter (Ds X.K ds)) (hz : ds.length ≤ sizeLine)
    (hel : ∀ d ∈ ds, ∀ v S', Same S S' → Dt X.K d v S' → ∀ (s : Shared) (H0 : Hp) (C : Addr) (cl : List (Str × Addr)) (fp : List Addr), EE (X.blk s H0 scope (compEnvC scope cl C X.env) fp) ((wipe σ [i]).set i (some v)) S' elt (Dt X.K (enc (f d))))
    (hix : X.N[i]? = some x := by rfl) (hx : ∀ (s : Shared) (H0 : Hp) (C : Addr) (cl : List (Str × Addr)) (fp : List Addr), Loc (X.blk s H0 scope (compEnvC scope cl C X.env) fp).env.scope x ∧ ((X.blk s H0 scope (compEnvC scope cl C X.env) fp).fn x = true ∨ (X.blk s H0 scope (compEnvC scope cl C X.env) fp).env.scope.names.lookup x = some .local) := by
      intros; exact ⟨by first | exact Or.inl rfl | exact Or.inr rfl, by first | exact .inl rfl | exact .inr rfl⟩)
    (hs : ∀ x, foldedSetIterable iter X.env x = pure x := by intro _; rfl) :
    EE X σ S (.ListComp elt [⟨.Name x px, iter, [], 0⟩] scope pos) (Dt X.K (.list ((ds.map f).map enc))) :=
  (ee_lcf (p := fun _ => true) hc hN ok hi hz (fun d hd v S' s hv sh H0 C cl fp => ⟨ets_nil, fun _ => hel d hd v S' s hv sh H0 C cl fp⟩) hix hx hs).is (by rw [filter_true])
/-- [elt for x in iter], elements that are not fixed -/
theorem ee_lcN {F : PyData → PyData → Prop} (hc : X.calm = true) (hN : X.N.Nodup) (ok : BlkOk X.N X.env.scope scope [(x, i)]) (hi : EI X σ S (.Name x px) iter (Ds X.K ds)) (hz : ds.length ≤ sizeLine)
    (hel : ∀ d ∈ ds, ∀ v S', Same S S' → Dt X.K d v S' → ∀ (s : Shared) (H0 : Hp) (C : Addr) (cl : List (Str × Addr)) (fp : List Addr), EE (X.blk s H0 scope (compEnvC scope cl C X.env) fp) ((wipe σ [i]).set i (some v)) S' elt (Ex X.K (F d)))
    (hix : X.N[i]? = some x := by rfl) (hx : ∀ (s : Shared) (H0 : Hp) (C : Addr) (cl : List (Str × Addr)) (fp : List Addr), Loc (X.blk s H0 scope (compEnvC scope cl C X.env) fp).env.scope x ∧ ((X.blk s H0 scope (compEnvC scope cl C X.env) fp).fn x = true ∨ (X.blk s H0 scope (compEnvC scope cl C X.env) fp).env.scope.names.lookup x = some .local) := by
      intros; exact ⟨by first | exact Or.inl rfl | exact Or.inr rfl, by first | exact .inl rfl | exact .inr rfl⟩)
    (hs : ∀ x, foldedSetIterable iter X.env x = pure x := by intro _; rfl) :
    EE X σ S (.ListComp elt [⟨.Name x px, iter, [], 0⟩] scope pos) (Ex X.K fun d => ∃ rs, d = .list rs ∧ Paired F ds rs) := by
  refine (ee_lcG (own := [(x, i)]) (p := fun _ => true) (G := F) hc hN ok hi hz (fun d hd v S' s hv => ⟨(wipe σ [i]).set i (some v), wipe1, fun sh H0 C cl fp => ?_⟩) hs).imp fun v S' h => ?_
  · obtain ⟨k1, k2⟩ := hx sh H0 C cl fp
    exact ⟨eg_name hN hix k1 k2, ets_nil, fun _ => hel d hd v S' s hv sh H0 C cl fp⟩
  · obtain ⟨rs, h1, h2⟩ := h
    rw [filter_true] at h1
    exact ⟨_, ⟨rs, rfl, h1⟩, h2⟩
theorem wipe2 {σ : L2.St} {i j : Nat} {v w : Option V} (hij : i ≠ j) : wipe (((wipe σ [i, j]).set i v).set j w) [i, j] = wipe σ [i, j] := by
  show ((((((σ.set j none).set i none).set i v).set j w).set j none).set i none) = ((σ.set j none).set i none)
  rw [List.set_set, List.set_set, List.set_comm _ _ hij, List.set_set, List.set_set]
/-- [elt for x, y in iter if t] -/
theorem ee_lc2f {p : PyData × PyData → Bool} {f : PyData × PyData → α} (hc : X.calm = true) (hN : X.N.Nodup) (ok : BlkOk X.N X.env.scope scope [(x, i), (y, j)]) (hi : EI X σ S (.Tuple [.Name x px, .Name y py] kk tp) iter (Ds X.K (ps.map tupP))) (hz : ps.length ≤ sizeLine)
    (hel : ∀ q ∈ ps, ∀ v w S', Same S S' → Dt X.K q.1 v S' → Dt X.K q.2 w S' → ∀ (s : Shared) (H0 : Hp) (C : Addr) (cl : List (Str × Addr)) (fp : List Addr),
      ETs (X.blk s H0 scope (compEnvC scope cl C X.env) fp) (((wipe σ [i, j]).set i (some v)).set j (some w)) S' ifs (p q) ∧ (p q = true → EE (X.blk s H0 scope (compEnvC scope cl C X.env) fp) (((wipe σ [i, j]).set i (some v)).set j (some w)) S' elt (Dt X.K (enc (f q)))))
    (hij : i ≠ j := by decide) (hix : X.N[i]? = some x := by rfl) (hjy : X.N[j]? = some y := by rfl) (hx : ∀ (s : Shared) (H0 : Hp) (C : Addr) (cl : List (Str × Addr)) (fp : List Addr), (Loc (X.blk s H0 scope (compEnvC scope cl C X.env) fp).env.scope x ∧ ((X.blk s H0 scope (compEnvC scope cl C X.env) fp).fn x = true ∨ (X.blk s H0 scope (compEnvC scope cl C X.env) fp).env.scope.names.lookup x = some .local)) ∧
      (Loc (X.blk s H0 scope (compEnvC scope cl C X.env) fp).env.scope y ∧ ((X.blk s H0 scope (compEnvC scope cl C X.env) fp).fn y = true ∨ (X.blk s H0 scope (compEnvC scope cl C X.env) fp).env.scope.names.lookup y = some .local)) := by
      intros; exact ⟨⟨by first | exact Or.inl rfl | exact Or.inr rfl, by first | exact .inl rfl | exact .inr rfl⟩, ⟨by first | exact Or.inl rfl | exact Or.inr rfl, by first | exact .inl rfl | exact .inr rfl⟩⟩)
    (ha : ∀ (s : Shared) (H0 : Hp) (C : Addr) (cl : List (Str × Addr)) (fp : List Addr), (assignEach [.Name x px, .Name y py] (X.blk s H0 scope (compEnvC scope cl C X.env) fp).env).length = 2 ∧ (assignEach [.Name x px, .Name y py] (X.blk s H0 scope (compEnvC scope cl C X.env) fp).env).findIdx? (·.1) = none ∧
      (assignEach [.Name x px, .Name y py] (X.blk s H0 scope (compEnvC scope cl C X.env) fp).env).map (·.2) = assign (.Name x px) (X.blk s H0 scope (compEnvC scope cl C X.env) fp).env :: (assignEach [.Name y py] (X.blk s H0 scope (compEnvC scope cl C X.env) fp).env).map (·.2) ∧ (assignEach [.Name y py] (X.blk s H0 scope (compEnvC scope cl C X.env) fp).env).map (·.2) = assign (.Name y py) (X.blk s H0 scope (compEnvC scope cl C X.env) fp).env :: (assignEach [] (X.blk s H0 scope (compEnvC scope cl C X.env) fp).env).map (·.2) := by intros; exact ⟨rfl, rfl, rfl, rfl⟩)
    (hs : ∀ x, foldedSetIterable iter X.env x = pure x := by intro _; rfl) :
    EE X σ S (.ListComp elt [⟨.Tuple [.Name x px, .Name y py] kk tp, iter, ifs, 0⟩] scope pos) (Dt X.K (.list (((ps.filter p).map f).map enc))) := by
  have e0 : ∀ q ∈ ps.map tupP, ∃ r ∈ ps, q = tupP r := fun q hq => by
    obtain ⟨r, h1, h2⟩ := List.mem_map.mp hq
    exact ⟨r, h1, h2.symm⟩
  let un : PyData → PyData × PyData := fun d => match d with
    | .tuple [a, b] => (a, b)
    | _ => (.none, .none)
  have un_t : ∀ q, un (tupP q) = q := fun q => rfl
  refine (ee_lcG (own := [(x, i), (y, j)]) (p := fun d => p (un d)) (G := fun d r => r = enc (f (un d))) hc hN ok hi (by rw [List.length_map]; exact hz) (fun d hd v S' s hv => ?_) hs).imp fun v S' h => ?_
  · obtain ⟨q, hq, rfl⟩ := e0 d hd
    obtain ⟨l, xs, rfl, hl, hx', _⟩ := hv.tup_inv
    obtain ⟨v1, e1, p1⟩ := hx'.get (i := 0) (d := q.1) rfl
    obtain ⟨v2, e2, p2⟩ := hx'.get (i := 1) (d := q.2) rfl
    have hxs : xs = [v1, v2] := by
      have hl2 := hx'.1
      match xs, hl2 with
      | [u, w], _ => simp at e1 e2; rw [e1, e2]
    subst hxs
    refine ⟨((wipe σ [i, j]).set i (some v1)).set j (some v2), wipe2 hij, fun sh H0 C cl fp => ?_⟩
    obtain ⟨h1, h2⟩ := hel q hq v1 v2 S' s p1 p2 sh H0 C cl fp
    obtain ⟨⟨k1, k2⟩, ⟨k3, k4⟩⟩ := hx sh H0 C cl fp
    obtain ⟨a1, a2, a3, a4⟩ := ha sh H0 C cl fp
    refine ⟨fun H s2 Q qq => ?_, h1, fun hp => (h2 hp).imp fun w S2 hw => ⟨_, rfl, hw⟩⟩
    exact hg_of (pg_tup hc (pgs_cons (pg_name hN hix k1 k2) (pgs_cons (pg_name hN hjy k3 k4) pgs_nil a4) a3) a1 a2) ⟨l, _, rfl, sqt_up s2 hl, rfl, _, _, rfl, _, _, rfl, rfl, qq⟩
  · have h3 := fun_of_G (f := fun d => enc (f (un d))) (p := fun d => p (un d)) h
    have e : ((ps.map tupP).filter fun d => p (un d)).map (fun d => enc (f (un d))) = ((ps.filter p).map f).map enc := by
      rw [List.filter_map, List.map_map, List.map_map]
      rfl
    rw [← e]
    exact h3
/-- [elt for x, y in iter] -/
theorem ee_lc2 {f : PyData × PyData → α} (hc : X.calm = true) (hN : X.N.Nodup) (ok : BlkOk X.N X.env.scope scope [(x, i), (y, j)]) (hi : EI X σ S (.Tuple [.Name x px, .Name y py] kk tp) iter (Ds X.K (ps.map tupP))) (hz : ps.length ≤ sizeLine)
    (hel : ∀ q ∈ ps, ∀ v w S', Same S S' → Dt X.K q.1 v S' → Dt X.K q.2 w S' → ∀ (s : Shared) (H0 : Hp) (C : Addr) (cl : List (Str × Addr)) (fp : List Addr), EE (X.blk s H0 scope (compEnvC scope cl C X.env) fp) (((wipe σ [i, j]).set i (some v)).set j (some w)) S' elt (Dt X.K (enc (f q))))
    (hij : i ≠ j := by decide) (hix : X.N[i]? = some x := by rfl) (hjy : X.N[j]? = some y := by rfl) (hx : ∀ (s : Shared) (H0 : Hp) (C : Addr) (cl : List (Str × Addr)) (fp : List Addr), (Loc (X.blk s H0 scope (compEnvC scope cl C X.env) fp).env.scope x ∧ ((X.blk s H0 scope (compEnvC scope cl C X.env) fp).fn x = true ∨ (X.blk s H0 scope (compEnvC scope cl C X.env) fp).env.scope.names.lookup x = some .local)) ∧
      (Loc (X.blk s H0 scope (compEnvC scope cl C X.env) fp).env.scope y ∧ ((X.blk s H0 scope (compEnvC scope cl C X.env) fp).fn y = true ∨ (X.blk s H0 scope (compEnvC scope cl C X.env) fp).env.scope.names.lookup y = some .local)) := by
      intros; exact ⟨⟨by first | exact Or.inl rfl | exact Or.inr rfl, by first | exact .inl rfl | exact .inr rfl⟩, ⟨by first | exact Or.inl rfl | exact Or.inr rfl, by first | exact .inl rfl | exact .inr rfl⟩⟩)
    (ha : ∀ (s : Shared) (H0 : Hp) (C : Addr) (cl : List (Str × Addr)) (fp : List Addr), (assignEach [.Name x px, .Name y py] (X.blk s H0 scope (compEnvC scope cl C X.env) fp).env).length = 2 ∧ (assignEach [.Name x px, .Name y py] (X.blk s H0 scope (compEnvC scope cl C X.env) fp).env).findIdx? (·.1) = none ∧
      (assignEach [.Name x px, .Name y py] (X.blk s H0 scope (compEnvC scope cl C X.env) fp).env).map (·.2) = assign (.Name x px) (X.blk s H0 scope (compEnvC scope cl C X.env) fp).env :: (assignEach [.Name y py] (X.blk s H0 scope (compEnvC scope cl C X.env) fp).env).map (·.2) ∧ (assignEach [.Name y py] (X.blk s H0 scope (compEnvC scope cl C X.env) fp).env).map (·.2) = assign (.Name y py) (X.blk s H0 scope (compEnvC scope cl C X.env) fp).env :: (assignEach [] (X.blk s H0 scope (compEnvC scope cl C X.env) fp).env).map (·.2) := by intros; exact ⟨rfl, rfl, rfl, rfl⟩)
    (hs : ∀ x, foldedSetIterable iter X.env x = pure x := by intro _; rfl) :
    EE X σ S (.ListComp elt [⟨.Tuple [.Name x px, .Name y py] kk tp, iter, [], 0⟩] scope pos) (Dt X.K (.list ((ps.map f).map enc))) :=
  (ee_lc2f (p := fun _ => true) hc hN ok hi hz (fun q hq v w S' s hv hw sh H0 C cl fp => ⟨ets_nil, fun _ => hel q hq v w S' s hv hw sh H0 C cl fp⟩) hij hix hjy hx ha hs).is (by rw [filter_true])
end
end Z

namespace Z
open PySem PySem.Spec PyProof.Rows L2
/-! ## 13. the law's box: an object known by what holds of it alone -/
def Stab (b : Addr) (φ : Heap → Prop) : Prop := ∀ h1 h2 : Heap, φ h1 → (∀ o, h1.get? b = some o → h2.get? b = some o) → φ h2
section
variable {P : Program} {w : World} {H : Hp} {h : Heap} {b : Addr} {φ : Heap → Prop} {xs : List V}
theorem hok_swap {o o' : HO} (x : HOk P w H h) (hb : H b = some o) (no : ∀ a, o ≠ .own a) (nt : ∀ xs, o ≠ .tup xs) (new : ObjOk P w (upd H b o') h b o') : HOk P w (upd H b o') h := fun a u e => by
  by_cases ha : a = b
  · subst ha; rw [upd_same] at e; cases e; exact new
  · rw [upd_ne ha] at e
    refine (x a u e).stay (fun _ _ _ q => q) (fun c q => ?_) fun c ys q => ?_
    · rw [upd_ne (fun z => by subst z; rw [hb] at q; exact no a (Option.some.inj q))]; exact q
    · rw [upd_ne (fun z => by subst z; rw [hb] at q; exact nt ys (Option.some.inj q))]; exact q
end
theorem un_swap {fs ex : List Addr} {H H1 H2 H3 : Hp} {h h' : Heap} (u : Un fs ex H1 H2 h h') (k1 : ∀ a, H a = none → H1 a = none) (k2 : ∀ a, H a = none → H2 a = none → H3 a = none)
    (kt : ∀ a xs, H a = some (.tup xs) → H3 a = some (.tup xs)) (kf : ∀ a o x, H a = some (.frz o x) → H3 a = some (.frz o x)) (kb : ∀ a ps, H a = some (.tbl ps) → ∃ more, H3 a = some (.tbl (ps ++ more))) : Un fs ex H H3 h h' where
  keep := fun a o q n => u.keep a o q (k1 a n)
  slot := fun a o q n => u.slot a o q (k1 a n)
  free := fun a o q n x => k2 a n (u.free a o q (k1 a n) x)
  there := u.there
  tups := kt
  frzs := kf
  tbls := kb
section
variable {P : Program} {w : World} {K : PySem.W.Frag} {mg : Str → Option Value} {base : Heap} {k : Nat} {f : Addr} {fd : FuncData} {ps : List Str} {sp0 sp : Sp}
/-- a def over the list at b, for callers that know b by φ -/
theorem FnOk.box (F : FnOk P w K mg base CX0 k f fd ps sp0) (len : ∀ vs H Q E, sp vs H Q E → vs.length = ps.length)
    (hc : ∀ vs H Q E, sp vs H Q E → ∃ (b : Addr) (φ : Heap → Prop), H b = some (.ext φ) ∧ ∀ h, φ h → ∃ xs, ObjOk P w H h b (.lst xs) ∧
      sp0 vs (upd H b (.lst xs)) (fun v H' => ∃ ys, H' b = some (.lst ys) ∧ (∀ h', ObjOk P w H' h' b (.lst ys) → φ h') ∧ (∀ a o, H a = some o → a ≠ b → H' a = some o) ∧ Q v (upd H' b (.ext φ))) E0) : FnOk P w K mg base CX0 k f fd ps sp := by
  refine ⟨len, fun A outer s H args us vs Q E hr e0 hb rv hsp => ?_⟩
  obtain ⟨b, φ, hbo, hc⟩ := hc vs H Q E hsp
  obtain ⟨p, ⟨ob, hob⟩, st⟩ := e0.hok b _ hbo
  obtain ⟨xs, hx, hs0⟩ := hc s.heap p
  have ne : ∀ a, H a = none → a ≠ b := fun a n z => by rw [z, hbo] at n; cases n
  have e1 : Env0 P w K mg base A outer s (upd H b (.lst xs)) := ⟨e0.frames, e0.mod, fun a o q => ⟨(e0.bs a o q).1, by rw [upd_ne (ne a (e0.bs a o q).2)]; exact (e0.bs a o q).2⟩, e0.bsz, e0.funs, fun a ha => by rw [upd_ne (ne a (e0.frf a ha))]; exact e0.frf a ha,
    hok_swap e0.hok hbo (fun _ z => nomatch z) (fun _ z => nomatch z) hx, e0.bare⟩
  refine codeAny_mono (F.run A outer s _ args us vs _ E0 hr e1 hb rv hs0) fun r s' hq => ?_
  cases r with
  | error e => exact hq
  | ok fl =>
    cases fl with
    | ret u =>
      obtain ⟨v, H', os, bare, un, hok, r, ys, hy, hφ, hsm, q⟩ := hq
      refine ⟨v, upd H' b (.ext φ), os, bare, ?_, ?_, r, q⟩
      · refine un_swap un (fun a n => by rw [upd_ne (ne a n)]; exact n) (fun a n n2 => by rw [upd_ne (ne a n)]; exact n2) (fun a ys e => ?_) (fun a o x e => ?_) fun a ps e => ?_
        · have hne : a ≠ b := fun z => by rw [z, hbo] at e; cases e
          rw [upd_ne hne]; exact hsm a _ e hne
        · have hne : a ≠ b := fun z => by rw [z, hbo] at e; cases e
          rw [upd_ne hne]; exact hsm a _ e hne
        · have hne : a ≠ b := fun z => by rw [z, hbo] at e; cases e
          refine ⟨#[], ?_⟩
          rw [upd_ne hne, Array.append_empty]; exact hsm a _ e hne
      · have ox := hok b _ hy
        refine hok_swap hok hy (fun _ z => nomatch z) (fun _ z => nomatch z) ⟨hφ _ ox, ?_, st⟩
        obtain ⟨_, its, n, _, e⟩ := ox
        exact ⟨_, e⟩
    | next => exact hq
    | brk => exact hq
    | cont => exact hq
/-- a def that hands back a new list, for callers that know it by φ -/
theorem FnOk.close (F : FnOk P w K mg base CX0 k f fd ps sp0) (len : ∀ vs H Q E, sp vs H Q E → vs.length = ps.length)
    (hc : ∀ vs H Q E, sp vs H Q E → sp0 vs H (fun v H' => ∃ b ys φ, H b = none ∧ H' b = some (.lst ys) ∧ Same H H' ∧ (∀ h', ObjOk P w H' h' b (.lst ys) → φ h') ∧ Stab b φ ∧ Q v (upd H' b (.ext φ))) E0) : FnOk P w K mg base CX0 k f fd ps sp := by
  refine ⟨len, fun A outer s H args us vs Q E hr e0 hb rv hsp => ?_⟩
  refine codeAny_mono (F.run A outer s _ args us vs _ E0 hr e0 hb rv (hc vs H Q E hsp)) fun r s' hq => ?_
  cases r with
  | error e => exact hq
  | ok fl =>
    cases fl with
    | ret u =>
      obtain ⟨v, H', os, bare, un, hok, r, b, ys, φ, hn, hy, hs, hφ, st, q⟩ := hq
      refine ⟨v, upd H' b (.ext φ), os, bare, ?_, ?_, r, q⟩
      · refine un_swap un (fun _ n => n) (fun a n n2 => by rw [upd_ne (fun z => by rw [z, hy] at n2; cases n2)]; exact n2) (fun a ys e => ?_) (fun a o x e => ?_) fun a ps e => ?_
        · rw [upd_ne (ne_of_none e hn)]; exact hs _ _ e
        · rw [upd_ne (ne_of_none e hn)]; exact hs _ _ e
        · refine ⟨#[], ?_⟩
          rw [upd_ne (ne_of_none e hn), Array.append_empty]; exact hs _ _ e
      · have ox := hok b _ hy
        refine hok_swap hok hy (fun _ z => nomatch z) (fun _ z => nomatch z) ⟨hφ _ ox, ?_, st⟩
        obtain ⟨_, its, n, _, e⟩ := ox
        exact ⟨_, e⟩
    | next => exact hq
    | brk => exact hq
    | cont => exact hq
end
/-- what the box holds: the cells, the place, a great rest, a mixed number, a count -/
structure BoxV (c : Addr) (xs : List V) : Prop where
  ex : ∃ i g m k : Int, xs = [.ref c, .int i, .int g, .int m, .int k] ∧ 0 ≤ i ∧ 0 ≤ g ∧ 0 ≤ m ∧ m < 2147483648 ∧ 0 ≤ k
def boxPhi (b c : Addr) : Heap → Prop := fun h => ∃ (xs : List V) (its : List Value) (n : Nat), BoxV c xs ∧ Vals xs its ∧ h.get? b = some { cls := .type "list", data := .seq its.toArray n }
theorem box_stab {b c : Addr} : Stab b (boxPhi b c) := fun h1 h2 ⟨xs, its, n, hx, r, e⟩ k => ⟨xs, its, n, hx, r, k _ e⟩
theorem box_of {P : Program} {w : World} {H : Hp} {h : Heap} {b c : Addr} {xs : List V} (hx : BoxV c xs) (o : ObjOk P w H h b (.lst xs)) : boxPhi b c h := by
  obtain ⟨_, its, n, r, e⟩ := o
  exact ⟨xs, its, n, hx, r, e⟩
theorem of_box {P : Program} {w : World} {H : Hp} {h : Heap} {b c : Addr} (p : boxPhi b c h) : ∃ xs, BoxV c xs ∧ ObjOk P w H h b (.lst xs) := by
  obtain ⟨xs, its, n, hx, r, e⟩ := p
  refine ⟨xs, hx, ?_, its, n, r, e⟩
  obtain ⟨i, g, m, k, rfl, _⟩ := hx.ex
  show 5 ≤ 16777216
  decide
/-- v is a box -/
def BX : V → Hp → Prop := fun v S => ∃ (b c : Addr) (ns : List Int), v = .ref b ∧ b ≠ c ∧ S b = some (.ext (boxPhi b c)) ∧ S c = some (.lst (ns.map V.int)) ∧ ns.length ≤ 63
instance : Mn BX := ⟨fun s ⟨b, c, ns, e, n, h1, h2, l⟩ => ⟨b, c, ns, e, n, s _ _ h1, s _ _ h2, l⟩⟩
/-- a def over the box and data: any of what G tells may come back -/
def spB (K : PySem.W.Frag) (F : List PyData → (PyData → Prop) → Prop) : Sp := fun vs H Q _ => ∃ S v ws ds G, vs = v :: ws ∧ Same S H ∧ BX v S ∧ Dts K ds ws S ∧ F ds G ∧ ∀ d, G d → ∀ u S' H', Gr S H S' H' → Dt K d u S' → Q u H'
section
variable {X : Cx} {σ : L2.St} {S S' : Hp} {e a b c : Expr} {es : List Expr} {P R : V → Hp → Prop} {Ps : List (V → Hp → Prop)} {pos p : Pos} {k : Nat} {x : Str} {sp : Sp} {d : PyData} {ds : List PyData}
theorem spB_E {F : List PyData → (PyData → Prop) → Prop} {G : PyData → Prop} (hF : F ds G) : SpE (spB X.K F) S (BX :: Ds X.K ds) (Ex X.K G) := fun vs S1 H1 _ s al Q q => by
  cases al with
  | cons p r => exact ⟨S1, _, _, ds, G, rfl, s, p, al_dts r, hF, fun d hd u S' H' g pd => q u S' H' g ⟨d, hd, pd⟩⟩
theorem ee_callBx {F : List PyData → (PyData → Prop) → Prop} {G : PyData → Prop} (D : KD X.prog X.w X.K X.mg X.base x k (spB X.K F)) (hr : Room k X.A) (hF : F ds G) (ha : EA X σ S (e :: es) (BX :: Ds X.K ds)) (hg : Gl X x := by rfl) (hdb : (x == ("__debug__" : Str)) = false := by decide)
    (he : starEach (e :: es) X.env = (false, eval e X.env) :: starEach es X.env := by rfl) (hpl : (backTo pos (starEach es X.env)).any (·.1) = false := by rfl) : EE X σ S (.Call (.Name x p) (e :: es) [] pos) (Ex X.K G) :=
  ee_call D hr ha (spB_E hF) hg hdb he hpl
/-! ### what is not fixed, taken on -/
theorem ex_imp {K : PySem.W.Frag} {F G : PyData → Prop} {v : V} {S : Hp} (h : Ex K F v S) (f : ∀ d, F d → G d) : Ex K G v S := by
  obtain ⟨d, hd, p⟩ := h
  exact ⟨d, f d hd, p⟩
theorem EE.ex {F : PyData → Prop} (h : EE X σ S e (Dt X.K d)) (f : F d) : EE X σ S e (Ex X.K F) := h.imp fun v S' p => ⟨d, f, p⟩
theorem EE.exi {F G : PyData → Prop} (h : EE X σ S e (Ex X.K F)) (f : ∀ d, F d → G d) : EE X σ S e (Ex X.K G) := h.imp fun v S' p => ex_imp p f
/-- + of numbers that are not fixed -/
theorem ee_addE {F G : Int → Prop} (ha : EE X σ S a (Ex X.K fun d => ∃ i, d = .int i ∧ F i)) (hb : EE X σ S b (Ex X.K fun d => ∃ i, d = .int i ∧ G i)) : EE X σ S (.BinOp a .Add b pos) (Ex X.K fun d => ∃ i, d = .int i ∧ ∃ x y, F x ∧ G y ∧ i = x + y) :=
  ee_op op_add ha hb fun v w S1 H1 _ s ⟨d, ⟨i, e, fi⟩, pv⟩ ⟨d', ⟨j, e', gj⟩, pw⟩ Q q => by
    subst e; subst e'
    cases pv; cases pw
    exact ⟨i, j, rfl, rfl, q _ S1 H1 (Gr.refl s) ⟨_, ⟨_, rfl, i, j, fi, gj, rfl⟩, .int _⟩⟩
theorem ee_tupleE {F : List PyData → Prop} (hm : X.mg "tuple" = none) (ha : EE X σ S a (Ex X.K fun d => ∃ rs, d = .list rs ∧ F rs)) (hg : Gl X "tuple" := by rfl)
    (hs : starEach [a] X.env = (false, eval a X.env) :: starEach [] X.env := by rfl) : EE X σ S (.Call (.Name "tuple" p) [a] [] pos) (Ex X.K fun d => ∃ rs, d = .tuple rs ∧ F rs) :=
  ee_callTy call_tuple_of hm boot_tuple (ea_1 ha hs) (fun vs S1 H1 _ s al Q q => by
    obtain ⟨v, rfl, d, ⟨rs, rfl, hf⟩, pv⟩ := al.one
    obtain ⟨l, xs, rfl, hl, hx, z⟩ := pv.lst_inv
    exact ⟨l, xs, rfl, .inl ⟨sql_of (s _ _ hl), fun t ht => q _ _ _ (Gr.new s ht) ⟨_, ⟨rs, rfl, hf⟩, Dt.tup_mk (sqt_of upd_same) (hx.up (Same.new (s.free ht))) z⟩⟩⟩) hg (he := hs) (hpl := by rfl)
/-- displays of data that is not fixed -/
def Exs (K : PySem.W.Frag) (Fs : List (PyData → Prop)) : List (V → Hp → Prop) := Fs.map (Ex K)
inductive AllF : List (PyData → Prop) → List PyData → Prop
  | nil : AllF [] []
  | cons {F : PyData → Prop} {Fs : List (PyData → Prop)} {d : PyData} {ds : List PyData} : F d → AllF Fs ds → AllF (F :: Fs) (d :: ds)
theorem AllF.len {Fs : List (PyData → Prop)} {ds : List PyData} (h : AllF Fs ds) : ds.length = Fs.length := by
  induction h with
  | nil => rfl
  | cons _ _ ih => simp [ih]
theorem al_exs {K : PySem.W.Frag} : ∀ {Fs : List (PyData → Prop)} {vs : List V} {H : Hp}, Al (Exs K Fs) vs H → ∃ ds, AllF Fs ds ∧ Dts K ds vs H
  | [], _, _, h => by cases h; exact ⟨[], .nil, .nil⟩
  | F :: Fs, _, _, h => by cases h with
    | cons p r =>
      obtain ⟨ds, h1, h2⟩ := al_exs r
      obtain ⟨d, hd, pd⟩ := p
      exact ⟨d :: ds, .cons hd h1, .cons pd h2⟩
theorem ee_tupE {es : List Expr} {x1} {Fs : List (PyData → Prop)} (h : EA X σ S es (Exs X.K Fs)) (hz : Fs.length ≤ sizeLine := by show _ ≤ 16777216; exact Nat.le_of_ble_eq_true rfl) : EE X σ S (.Tuple es x1 pos) (Ex X.K fun d => ∃ ds, d = .tuple ds ∧ AllF Fs ds) :=
  ee_tupA (vsP := fun vs S' => ∃ ds, AllF Fs ds ∧ Dts X.K ds vs S') (fun H s Q q => h.2 H s Q fun vs S' H' g al => q vs S' H' g (al_exs al)) (fun vs S' ⟨ds, h1, h2⟩ => by rw [h2.1, h1.len]; exact hz)
    fun vs S' p _ hp ⟨ds, h1, h2⟩ => ⟨_, ⟨ds, rfl, h1⟩, Dt.tup_mk (sqt_of upd_same) (h2.up (Same.new hp)) (by rw [h2.1, h1.len]; exact hz)⟩
theorem ee_lstE {es : List Expr} {Fs : List (PyData → Prop)} (h : EA X σ S es (Exs X.K Fs)) (hz : Fs.length ≤ sizeLine := by show _ ≤ 16777216; exact Nat.le_of_ble_eq_true rfl) : EE X σ S (.List es pos) (Ex X.K fun d => ∃ ds, d = .list ds ∧ AllF Fs ds) :=
  ee_lstA (vsP := fun vs S' => ∃ ds, AllF Fs ds ∧ Dts X.K ds vs S') (fun H s Q q => h.2 H s Q fun vs S' H' g al => q vs S' H' g (al_exs al)) (fun vs S' ⟨ds, h1, h2⟩ => by rw [h2.1, h1.len]; exact hz)
    fun vs S' p _ hp ⟨ds, h1, h2⟩ => ⟨_, ⟨ds, rfl, h1⟩, Dt.lst_mk upd_same (h2.up (Same.new hp)) (by rw [h2.1, h1.len]; exact hz)⟩
end
end Z
namespace Z
open PySem PySem.Spec PyProof.Rows L2
/-! ### lists that change -/
section
variable {X : Cx} {σ : L2.St} {S H : Hp} {e o i : Expr} {P : V → Hp → Prop} {pos pos' : Pos} {D : Ends} {rest : List Stmt} {b : Addr} {xs : List V} {k : Int} {j : Nat} {v : V}
/-- o[i] = e -/
theorem hs_setL [Mn P] (he : EE X σ H e P) (ho : EE X σ H o (fun w _ => w = .ref b)) (hi : EE X σ H i (Dt X.K (.int k))) (hb : H b = some (.lst xs)) (hk : ixN xs.length k = some j)
    (q : ∀ v H', Same H H' → P v H' → HS X D rest σ (upd H' b (.lst (xs.set j v))))
    (ha : ∀ v, assign (.Subscript o i pos') X.env v = (do
      let ov ← holding [v] (eval o X.env)
      let iv ← holding [v, ov] (eval i X.env)
      standAt pos'
      holding [v, ov, iv] (setItem ov iv v)
      release [v, ov, iv] []) := by intro _; rfl)
    (hs : swapsWithSole [.Subscript o i pos'] e pos.line X.env = pure false := by rfl) (hw : swappedStores [.Subscript o i pos'] e X.env = pure none := by rfl)
    (h1 : (assignEach [.Subscript o i pos'] X.env).map (·.2) = [assign (.Subscript o i pos') X.env] := by rfl) : HS X D (.Assign [.Subscript o i pos'] e pos :: rest) σ H :=
  hs_cons (ps_asg peb (pg_sub peb peb set_list ha) hs hw h1) (he H (Same.refl H) _ fun v S1 H1 g1 pv => ho H1 g1.hh _ fun w S2 H2 g2 pw => hi H2 (g1.hh.trans g2.hh) _ fun u S3 H3 g3 pu => by
    subst pw
    cases pu
    have s3 := (g1.hh.trans g2.hh).trans g3.hh
    exact ⟨b, xs, k, j, rfl, rfl, s3 _ _ hb, hk, q v H3 s3 (Mn.up (g1.sub.trans (g2.hh.trans g3.hh)) pv)⟩)
/-- an item of such a list -/
theorem ee_ixB (hb : S b = some (.lst xs)) (ho : EE X σ S o (fun w _ => w = .ref b)) (hi : EE X σ S i (Dt X.K (.int k))) (hx : atI xs k = some v) (hp : ∀ S', Same S S' → P v S') (hs : PlainIx i := by exact fun _ _ => rfl) : EE X σ S (.Subscript o i pos) P := by
  haveI := mn_eq (v := .ref b)
  exact ee_2 (pe_ix ix_list peb peb hs) ho hi fun x y S1 H1 s0 s px py Q q => by
    subst px
    cases py
    exact ⟨b, xs, k, v, rfl, rfl, sql_of (s _ _ (s0 _ _ hb)), hx, q _ S1 H1 (Gr.refl s) (hp S1 s0)⟩
end
end Z
namespace Z
open PySem PySem.Spec PyProof.Rows L2
/-- an if whose ways meet in M, told of the whole heap -/
theorem hs_ifR {X : Cx} {σ : L2.St} {S H : Hp} {c : Expr} {pos : Pos} {D : Ends} {rest body orelse : List Stmt} {k : Bool} (M : L2.St → Hp → Prop) (h : ET X σ S c k) (s : Same S H) (qt : k = true → ∀ S' H', Gr S H S' H' → HS X { D with nx := M } body σ H') (qf : k = false → ∀ S' H', Gr S H S' H' → HS X { D with nx := M } orelse σ H')
    (h2 : ∀ σ' H', M σ' H' → HS X D rest σ' H') : HS X D (.If c body orelse pos :: rest) σ H :=
  hs_cons (ps_if ptb psb psb) (h H s _ fun S' H' g => by
    have key : ∀ st, HS X { D with nx := M } st σ H' → HS X (Dn X D rest) st σ H' := fun st z => hs_mono z (fun σ' H2 m => h2 σ' H2 m) (fun _ _ z => z) (fun _ _ z => z) (fun _ _ z => z)
    cases k with
    | true => exact iteT (key _ (qt rfl S' H' g))
    | false => exact iteF (key _ (qf rfl S' H' g)))
theorem ee_mulS {X : Cx} {σ : L2.St} {S : Hp} {a b : Expr} {pos : Pos} {i j : Int} (hc : CMul i j) (ha : EE X σ S a (Dt X.K (.int i))) (hb : EE X σ S b (Dt X.K (.int j))) : EE X σ S (.BinOp a .Mult b pos) (Dt X.K (.int (i * j))) := ee_op op_mul ha hb (opE_I hc fun _ => .int _)
end Z

namespace Z
open PySem PySem.Spec PyProof.Rows L2
/-! ## 14. more rules -/
/-- walked things that are not fixed: W tells which lists they may be -/
def EIW (X : Cx) (σ : L2.St) (S : Hp) (tg iter : Expr) (W : List PyData → Prop) : Prop := ∀ H, Same S H → ∀ R : It → Hp → Prop, (∀ ds J S' H', W ds → Gr S H S' H' → ItP J S' (Ds X.K ds) → R J H') → HI X tg iter σ H R
section
variable {X : Cx} {σ : L2.St} {S S' : Hp} {e a b c o elt tg iter : Expr} {es : List Expr} {P R : V → Hp → Prop} {Ps : List (V → Hp → Prop)} {pos p px : Pos} {k : Bool} {x y : Str} {d d1 d2 : PyData} {ds ds1 ds2 : List PyData} {i j : Nat} {n : Int} {scope : Scope} {own : List (Str × Nat)} {D : Ends} {rest : List Stmt}
theorem eiw_range {F : Nat → Prop} (hm : X.mg "range" = none) (hn : ∀ n, F n → (n : Int) < 2 ^ 62) (ha : EE X σ S a (Ex X.K fun d => ∃ n : Nat, d = .int n ∧ F n)) (hg : Gl X "range" := by rfl) (hs : starEach [a] X.env = [(false, eval a X.env)] := by rfl) :
    EIW X σ S tg (.Call (.Name "range" p) [a] [] pos) (fun ds => ∃ n, F n ∧ ds = upto n) := fun H s R q =>
  hi_of (pi_range1 hg hm pab hs) ((ea_1 ha (by rw [hs]; rfl)).2 H s _ fun vs S1 H1 g1 al => by
    obtain ⟨v, rfl, d, ⟨n, rfl, fn⟩, pv⟩ := al.one
    cases pv
    refine ⟨(n : Int), rfl, by omega, hn n fn, q _ _ S1 H1 ⟨n, fn, rfl⟩ g1 ⟨fun i H hi hs => ?_, fun H hs => ?_, fun i H x H' hi hs y T st th => ?_⟩⟩
    · rw [ds_len, upto_len] at hi
      show i < ((n : Int)).toNat
      omega
    · rw [ds_len, upto_len]
      show ((n : Int)).toNat ≤ n
      omega
    · rw [ds_len, upto_len] at hi
      obtain ⟨rfl, rfl⟩ : H' = H ∧ x = .int (0 + (i : Int)) := y
      rw [Int.zero_add]
      exact ⟨T, Gr.refl th, _, ds_get (upto_get hi), .int _⟩)
theorem eiw_list {F : List PyData → Prop} (ha : EE X σ S e (Ex X.K fun d => ∃ ds, d = .list ds ∧ F ds)) : EIW X σ S tg e F := fun H s R q =>
  hi_of (pi_list peb) (ha H s _ fun v S1 H1 g1 ⟨d, ⟨ds, e, fd⟩, pv⟩ => by
    subst e
    obtain ⟨l, xs, rfl, hl, hx, z⟩ := pv.lst_inv
    refine ⟨l, rfl, ⟨xs, sql_of (g1.sub _ _ hl)⟩, q ds _ S1 H1 fd g1 ⟨fun i H hi hs => ?_, fun H hs => ?_, fun i H x H' hi hs y T st th => ?_⟩⟩
    · rw [ds_len, ← hx.1] at hi
      exact (walk_list (K := X.K) (a := l) (xs := xs)).goes i H hi (sql_of (hs _ _ hl))
    · rw [ds_len, ← hx.1]
      exact (walk_list (K := X.K) (a := l) (xs := xs)).stops H (sql_of (hs _ _ hl))
    · rw [ds_len, ← hx.1] at hi
      obtain ⟨rfl, hy⟩ := (walk_list (K := X.K) (a := l) (xs := xs)).yields i H x H' hi (sql_of (hs _ _ hl)) y
      have hi2 : i < ds.length := by rw [← hx.1]; exact hi
      exact ⟨T, Gr.refl th, _, ds_get (List.getElem?_eq_getElem hi2), (hx.2 i x _ hy (List.getElem?_eq_getElem hi2)).up st⟩)
/-- [elt for x in iter], the walked and the elements not fixed -/
theorem ee_lcW {F : PyData → PyData → Prop} {W : List PyData → Prop} (hc : X.calm = true) (hN : X.N.Nodup) (ok : BlkOk X.N X.env.scope scope [(x, i)]) (hi : EIW X σ S (.Name x px) iter W) (hz : ∀ ds, W ds → ds.length ≤ sizeLine)
    (hel : ∀ ds, W ds → ∀ d ∈ ds, ∀ v S', Same S S' → Dt X.K d v S' → ∀ (s : Shared) (H0 : Hp) (C : Addr) (cl : List (Str × Addr)) (fp : List Addr), EE (X.blk s H0 scope (compEnvC scope cl C X.env) fp) ((wipe σ [i]).set i (some v)) S' elt (Ex X.K (F d)))
    (hix : X.N[i]? = some x := by rfl) (hx : ∀ (s : Shared) (H0 : Hp) (C : Addr) (cl : List (Str × Addr)) (fp : List Addr), Loc (X.blk s H0 scope (compEnvC scope cl C X.env) fp).env.scope x ∧ ((X.blk s H0 scope (compEnvC scope cl C X.env) fp).fn x = true ∨ (X.blk s H0 scope (compEnvC scope cl C X.env) fp).env.scope.names.lookup x = some .local) := by
      intros; exact ⟨by first | exact Or.inl rfl | exact Or.inr rfl, by first | exact .inl rfl | exact .inr rfl⟩)
    (hs : ∀ x, foldedSetIterable iter X.env x = pure x := by intro _; rfl) :
    EE X σ S (.ListComp elt [⟨.Name x px, iter, [], 0⟩] scope pos) (Ex X.K fun d => ∃ rs, d = .list rs ∧ ∃ ds, W ds ∧ Paired F ds rs) := fun H s Q q =>
  he_of (pe_lc (own := [(x, i)]) (wi := bI X (.Name x px) iter) (g := gBlk X scope (.Name x px)) (tt := tBlk X scope []) (te := eBlk X scope elt) hc hN pib ok
    (fun s H0 C cl fp => ⟨fun pins sh σ' H' v u Q' I r h => h s H0 C cl fp pins sh u I r⟩) (fun s H0 C cl fp => ⟨fun pins sh σ' H' Q' I h => h s H0 C cl fp pins sh I⟩) (fun s H0 C cl fp => ⟨fun pins sh σ' H' Q' I h => h s H0 C cl fp pins sh I⟩) hs)
    (hi H s _ fun ds J S1 H1 hw g1 it => lc_loopG (own := [(x, i)]) (p := fun _ => true) (G := F) (hz ds hw) (fun d hd v S' s hv => ⟨(wipe σ [i]).set i (some v), wipe1, fun sh H0 C cl fp => by
        obtain ⟨k1, k2⟩ := hx sh H0 C cl fp
        exact ⟨eg_name hN hix k1 k2, ets_nil, fun _ => hel ds hw d hd v S' s hv sh H0 C cl fp⟩⟩) Q (fun v S' H' g ⟨rs, h1, h2⟩ => by
        rw [filter_true] at h1
        exact q v S' H' g ⟨_, ⟨rs, rfl, ds, hw, h1⟩, h2⟩) g1 it)
/-- xs[i], i any place of the list -/
theorem atI_nat {xs : List PyData} {n : Int} (h0 : 0 ≤ n) (h1 : n < (xs.length : Int)) : ∃ d, d ∈ xs ∧ atI xs n = some d := by
  refine ⟨xs[n.toNat]'(by omega), List.getElem_mem _, ?_⟩
  unfold atI ixN
  rw [if_pos h0, if_pos h1]
  exact List.getElem?_eq_getElem _
theorem ee_ixE (ha : EE X σ S a (Dt X.K (.list ds))) (hb : EE X σ S b (Ex X.K fun d => ∃ n, d = .int n ∧ 0 ≤ n ∧ n < (ds.length : Int))) (hs : PlainIx b := by exact fun _ _ => rfl) : EE X σ S (.Subscript a b pos) (Ex X.K fun d => d ∈ ds) :=
  ee_2 (pe_ix ix_list peb peb hs) ha hb fun x y S1 H1 _ s px ⟨d, ⟨n, e, n0, n1⟩, py⟩ Q q => by
    subst e
    cases py
    obtain ⟨l, xs, rfl, hl, hx, z⟩ := px.lst_inv
    obtain ⟨d, hd, he⟩ := atI_nat n0 n1
    obtain ⟨x, h1, h2⟩ := atI_dts hx he
    exact ⟨l, xs, n, x, rfl, rfl, sql_of (s _ _ hl), h1, q _ S1 H1 (Gr.refl s) ⟨d, hd, h2⟩⟩
/-- n in (a, b, ..) -/
theorem inV_int (n : Int) : ∀ ns : List Int, inV (.int n) (ns.map V.int) = ns.contains n
  | [] => rfl
  | m :: ns => by
    unfold inV
    rw [List.map_cons, List.any_cons]
    have h := inV_int n ns
    unfold inV at h
    rw [h, List.contains_cons]
    show (m == n || _) = _
    rw [show (m == n) = (n == m) by
      by_cases e : m = n
      · rw [e]
      · rw [beq_false_of_ne e, beq_false_of_ne (Ne.symm e)]]
theorem flat_ints (ns : List Int) : (ns.map V.int).all flatV = true := by
  induction ns with
  | nil => rfl
  | cons n ns ih => rw [List.map_cons, List.all_cons, ih]; rfl
theorem opE_inT {K : PySem.W.Frag} {ns : List Int} : OpE (rIn K false) S (Dt K (.int n)) (Dt K (.tuple (ns.map .int))) (Dt K (.bool (ns.contains n))) := fun v w S1 H1 _ s pv pw Q q => by
  cases pv
  obtain ⟨l, xs, rfl, hl, hx, z⟩ := pw.tup_inv
  rw [dts_int hx] at hl
  refine ⟨l, ns.map V.int, rfl, .inr (sqt_up s hl), rfl, flat_ints ns, ?_⟩
  rw [if_neg Bool.false_ne_true, inV_int]
  exact q _ S1 H1 (Gr.refl s) (.bl _)
theorem et_inT {ns : List Int} (ha : EE X σ S a (Dt X.K (.int n))) (hb : EE X σ S b (Dt X.K (.tuple (ns.map .int)))) (hm : behindInMarks .In b = false := by rfl) : ET X σ S (.Compare a [.In] [b] pos) (ns.contains n) := et_cmp op_in_seq ha hb opE_inT hm
/-- e.index(True) of a list of bools -/
theorem ee_indexT {bs : List Bool} {j : Nat} {apos : Pos} (hj : bs[j]? = some true) (hno : ∀ m, m < j → bs[m]? = some false) (ha : EE X σ S a (Dt X.K (.list (bs.map .bool)))) (hb : EE X σ S b (Dt X.K (.bool true)))
    (hbase : attributeBase a "index" X.env (eval a X.env) = eval a X.env := by rfl)
    (hfew : ((backTo pos (starEach [b] X.env)).all (fun x => !x.1) && (backToKw pos (keywordEach [] X.env)).all (fun x => x.1.isSome) && decide (([b] : List Expr).length + ([] : List Keyword).length + (if ([] : List Keyword).isEmpty then 0 else 1) < 30)) = true := by rfl)
    (hline : (apos.endLine == pos.line) = true := by rfl) (hs : starEach [b] X.env = (false, eval b X.env) :: starEach [] X.env := by rfl) (hplain : (backTo pos (starEach [] X.env)).any (·.1) = false := by rfl) :
    EE X σ S (.Call (.Attribute a "index" apos) [b] [] pos) (Dt X.K (.int (j : Nat))) := fun H s Q q =>
  he_of (pe_bm PySem.F.plainAttrs_list PySem.F.slot_list_index PySem.F.type_list_index mt_index peb pab hbase hfew hline hs hplain) (ha H s _ fun v S1 H1 g1 pv => by
    obtain ⟨l, xs, rfl, hl, hx, z⟩ := pv.lst_inv
    have e := dts_bl hx
    subst e
    refine ⟨.inl ⟨rfl, _, sql_of (g1.sub _ _ hl)⟩, ((ea_1 hb hs).up g1.st).2 H1 g1.sub _ fun vs S2 H2 g2 al => ?_⟩
    obtain ⟨w, rfl, pw⟩ := al.one
    cases pw
    refine ⟨l, bs.map V.bl, .bl true, j, .bl true, rfl, rfl, sql_of (g2.hh _ _ (g1.sub _ _ hl)), rfl, ?_, ?_, rfl, fun m z' hm hz => ?_, q _ S2 H2 (g1.trans g2) (.int _)⟩
    · rw [List.all_map]; exact List.all_eq_true.mpr fun b _ => rfl
    · rw [List.getElem?_map, hj]; rfl
    · rw [List.getElem?_map, hno m hm] at hz
      cases hz
      rfl)
/-- a, b = e, e a pair that is not fixed -/
theorem hs_unpackE {H : Hp} {F G : PyData → Prop} {px py pt : Pos} {kt : Nat} (hc : X.calm = true) (hN : X.N.Nodup) (ha : EE X σ S e (Ex X.K fun d => ∃ d1 d2, d = .tuple [d1, d2] ∧ F d1 ∧ G d2)) (s : Same S H)
    (q : ∀ d1 d2 v w S' H', F d1 → G d2 → Gr S H S' H' → Dt X.K d1 v S' → Dt X.K d2 w S' → HS X D rest ((σ.set i (some v)).set j (some w)) H')
    (hi : X.N[i]? = some x := by rfl) (hj : X.N[j]? = some y := by rfl) (hx : Loc X.env.scope x := by first | exact Or.inl rfl | exact Or.inr rfl) (hy : Loc X.env.scope y := by first | exact Or.inl rfl | exact Or.inr rfl)
    (hfx : X.fn x = true ∨ X.env.scope.names.lookup x = some .local := by first | exact .inl rfl | exact .inr rfl) (hfy : X.fn y = true ∨ X.env.scope.names.lookup y = some .local := by first | exact .inl rfl | exact .inr rfl)
    (hn : (assignEach [.Name x px, .Name y py] X.env).length = 2 := by rfl) (hst : (assignEach [.Name x px, .Name y py] X.env).findIdx? (·.1) = none := by rfl)
    (h1 : (assignEach [.Name x px, .Name y py] X.env).map (·.2) = assign (.Name x px) X.env :: (assignEach [.Name y py] X.env).map (·.2) := by rfl) (h2 : (assignEach [.Name y py] X.env).map (·.2) = assign (.Name y py) X.env :: (assignEach [] X.env).map (·.2) := by rfl)
    (hss : swapsWithSole [.Tuple [.Name x px, .Name y py] kt pt] e pos.line X.env = pure false := by rfl) (hw : swappedStores [.Tuple [.Name x px, .Name y py] kt pt] e X.env = pure none := by rfl)
    (h3 : (assignEach [.Tuple [.Name x px, .Name y py] kt pt] X.env).map (·.2) = [assign (.Tuple [.Name x px, .Name y py] kt pt) X.env] := by rfl) : HS X D (.Assign [.Tuple [.Name x px, .Name y py] kt pt] e pos :: rest) σ H :=
  hs_cons (ps_asg peb pgb hss hw h3) (ha H s _ fun v S' H' g ⟨d, ⟨d1, d2, e, f1, f2⟩, pv⟩ => by
    subst e
    obtain ⟨v1, v2, p1, p2, hg⟩ := eg_pair (σ := σ) (px := px) (py := py) (pos := pt) (kk := kt) hc hN hi hj hx hy pv hfx hfy hn hst h1 h2
    exact hg H' g.sub _ (q d1 d2 v1 v2 S' H' f1 f2 g p1 p2))
theorem AllF.one {F : PyData → Prop} {ds : List PyData} (h : AllF [F] ds) : ∃ d, ds = [d] ∧ F d := by
  cases h with
  | cons f r => cases r; exact ⟨_, rfl, f⟩
theorem AllF.two {F G : PyData → Prop} {ds : List PyData} (h : AllF [F, G] ds) : ∃ d e, ds = [d, e] ∧ F d ∧ G e := by
  cases h with
  | cons f r => obtain ⟨e, rfl, g⟩ := r.one; exact ⟨_, _, rfl, f, g⟩
theorem ee_pairE {F G : PyData → Prop} {x1} (ha : EE X σ S a (Ex X.K F)) (hb : EE X σ S b (Ex X.K G)) (hs : starEach [a, b] X.env = (false, eval a X.env) :: starEach [b] X.env := by rfl) (hs2 : starEach [b] X.env = (false, eval b X.env) :: starEach [] X.env := by rfl) : EE X σ S (.Tuple [a, b] x1 pos) (Ex X.K fun d => ∃ d1 d2, d = .tuple [d1, d2] ∧ F d1 ∧ G d2) :=
  (ee_tupE (Fs := [F, G]) (ea_2 ha hb hs hs2)).exi fun d ⟨ds, e, h⟩ => by
    obtain ⟨d1, d2, rfl, f, g⟩ := h.two
    exact ⟨d1, d2, e, f, g⟩
/-- sep.join(list of texts) -/
theorem ee_join {z : Str} {ys : List Str} {apos : Pos} (hz : (ys.map (·.length)).sum + ys.length * z.length ≤ 16777216) (ha : EE X σ S a (Dt X.K (.str z))) (hb : EE X σ S b (Dt X.K (.list (ys.map .str))))
    (hbase : attributeBase a "join" X.env (eval a X.env) = eval a X.env := by rfl)
    (hfew : ((backTo pos (starEach [b] X.env)).all (fun x => !x.1) && (backToKw pos (keywordEach [] X.env)).all (fun x => x.1.isSome) && decide (([b] : List Expr).length + ([] : List Keyword).length + (if ([] : List Keyword).isEmpty then 0 else 1) < 30)) = true := by rfl)
    (hline : (apos.endLine == pos.line) = true := by rfl) (hs : starEach [b] X.env = (false, eval b X.env) :: starEach [] X.env := by rfl) (hplain : (backTo pos (starEach [] X.env)).any (·.1) = false := by rfl) :
    EE X σ S (.Call (.Attribute a "join" apos) [b] [] pos) (Dt X.K (.str (Txt.join z ys))) := fun H s Q q =>
  he_of (pe_bm PySem.F.plainAttrs_str PySem.F.slot_str_join PySem.F.type_str_join mt_join peb pab hbase hfew hline hs hplain) (ha H s _ fun v S1 H1 g1 pv => by
    cases pv
    refine ⟨rfl, ((ea_1 hb hs).up g1.st).2 H1 g1.sub _ fun vs S2 H2 g2 al => ?_⟩
    obtain ⟨w, rfl, pw⟩ := al.one
    obtain ⟨l, xs, rfl, hl, hx, _⟩ := pw.lst_inv
    rw [dts_str hx] at hl
    exact ⟨z, l, ys, rfl, rfl, .inl (sql_of (g2.sub _ _ hl)), hz, q _ S2 H2 (g1.trans g2) (.str _)⟩)
end
end Z

namespace Z
open PySem PySem.Spec PyProof.Rows L2 PySem.Froz
/-! ## 15. set(text), a text of different ascii signs -/
section
variable {prog : Program} {w : World} {A : Around} {E : Value → Shared → Prop} {s : Shared}
theorem fresh_fits (led : Bool) : (SetTable.fresh 0 0 led).fits 0 = true := by cases led <;> decide +kernel
theorem run_ok {P : Program} : ∀ (cs : List Nat) (tk : Tok) (D : SD) (l : List Str), TxOk P w D l → ∃ l', TxOk P w (runD w cs tk D) l' ∧ l'.length = cs.length + l.length
  | [], _, D, l, F => ⟨l, F, by simp⟩
  | c :: r, tk, D, l, F => by
    obtain ⟨l', h1, h2⟩ := run_ok r (tk + 2) _ (sing c :: l) (add_ok tk F)
    exact ⟨l', h1, by rw [h2]; simp; omega⟩
theorem finU_get {s : Shared} {a it : Addr} {T : String} {X : SD} {n m : Nat} {o : Obj} (hne : a ≠ it) (h : s.heap.get? a = some o) : (finU s a T it X n m).heap.get? a = some (sObj T X) :=
  Heap.get?_push_of_some _ (Heap.get?_push_of_some _ (PySem.Heap.get?_update_of_ne _ (Ne.symm hne) (get_upd _ h rfl)))
theorem finU_old {s : Shared} {a it b : Addr} {T : String} {X : SD} {n m : Nat} {o : Obj} (h1 : b ≠ a) (h2 : b ≠ it) (h : s.heap.get? b = some o) : (finU s a T it X n m).heap.get? b = some o :=
  Heap.get?_push_of_some _ (Heap.get?_push_of_some _ (PySem.Heap.get?_update_of_ne _ (Ne.symm h2) (PySem.Heap.get?_update_of_ne _ (Ne.symm h1) h)))
theorem call_set_text {x : Str} {u : Tok} {Q : Value → Shared → Prop} (hh : A.handled = none) (ha : x.cps.all (· < 128) = true) (hnd : x.cps.toList.Nodup) (hlen : x.cps.size ≤ 1000)
    (h : ∀ (h' : Heap) (tk : Nat) (o : Obj) (es : Array (Int × Value)) (ep : Nat) (t : SetTable), h'.get? s.heap.objs.size = some o → o = sObj "set" (es, ep, t) → t.fits es.size = true → es.size = x.cps.size →
      (∀ b o, b < s.heap.objs.size → s.heap.get? b = some o → h'.get? b = some o) → Q (.ref s.heap.objs.size) { s with heap := h', toks := tk }) :
    wpAny (model prog w) A (call (.type "set") [.str x u]) Q E s := by
  obtain ⟨c, tl, hmro⟩ := PySem.F.called_set.mro
  have hmade := PySem.F.called_set.made
  have hsub := PySem.F.called_set.sub
  refine wpAny_call (codeAny_of_tree ?_)
  show wpAny _ _ (callAny (.type "set") _) _ _ _
  refine wpAny_pure ⟨Code.quiet_builtin _ (by decide +kernel), codeAny_builtin PySem.F.entry_type_call ?_⟩
  rw [Around.under_plain (weight_type_call_type "set" [.str x u] []) rfl]
  have h1 := PySem.F.called_set.notType
  have h2 := PySem.F.called_set.canCreate
  have hct := PySem.F.typeCall_set_1 (.str x u)
  repeat (any_goals (first | assumption | wp_step))
  refine codeAny_mono (code_set_new_1 (.str x u) (E := E) (Q₁ := fun obj s₁ => ∃ led : Bool, obj = .ref s.heap.objs.size ∧ s₁ = { s with heap := s.heap.push { cls := .type "set", dict := none, data := .set #[] 0 (.fresh 0 0 led) } }) fun led => ⟨led, rfl, rfl⟩) fun r s₁ hr => ?_
  cases r with
  | error e => exact hr
  | ok fl =>
    cases fl with
    | ret obj =>
      obtain ⟨led, rfl, rfl⟩ := hr
      have hS : (s.heap.push { cls := .type "set", dict := none, data := .set #[] 0 (.fresh 0 0 led) }).get? s.heap.objs.size = some { cls := .type "set", dict := none, data := .set #[] 0 (.fresh 0 0 led) } := Heap.get?_push_size _ rfl
      have hT : Shared.TypeIs { s with heap := s.heap.push { cls := .type "set", dict := none, data := .set #[] 0 (.fresh 0 0 led) } } (.ref s.heap.objs.size) "set" := ⟨_, hS, rfl⟩
      have hli := PySem.F.called_set.init.lookup
      have hbi := PySem.F.called_set.init.bind (.ref s.heap.objs.size)
      repeat (any_goals (first | assumption | wp_step))
      refine codeAny_mono (codeAny_call_builtin (R := wants (fun r s₂ => r = .none ∧ ∃ h' tk es ep t, s₂ = { s with heap := h', toks := tk } ∧
          h'.get? s.heap.objs.size = some (sObj "set" (es, ep, t)) ∧ t.fits es.size = true ∧ es.size = x.cps.size ∧
          (∀ b o, b < s.heap.objs.size → s.heap.get? b = some o → h'.get? b = some o)) E) PySem.F.called_set.init.plain PySem.F.entry_set_init (check_set_init_1 hT ?_)) fun r₂ s₂ hr₂ => ?_
      · have hsls := PySem.F.sub_str_set
        have hslf := PySem.F.sub_str_frozenset
        have hne : (Value.type "str" == Value.type "dict") = false := by decide
        unfold Builtin.«set.__init__» noKeywords Builtin.Frozenset.updateFrom
        generalize hPI : pyIter = PI
        wp_walk
        subst hPI
        refine wpAny_pyIter_ascii ha ?_
        refine wpAny_bind (wpAny_runValue ?_)
        have e1 : (s.heap.push { cls := .type "set", dict := none, data := .set #[] 0 (.fresh 0 0 led) }).objs.size = s.heap.objs.size + 1 := Heap.size_push _ _
        have hSz : (s.heap.push { cls := .type "set", dict := none, data := .set #[] 0 (.fresh 0 0 led) }).get? s.heap.objs.size = some (sObj "set" (#[], 0, .fresh 0 0 led)) := hS
        have hS2 : ((s.heap.push { cls := .type "set", dict := none, data := .set #[] 0 (.fresh 0 0 led) }).push { cls := .type "str_ascii_iterator", data := .fields #[.str x u, .int 0 0] }).get? s.heap.objs.size = some (sObj "set" (#[], 0, .fresh 0 0 led)) := Heap.get?_push_of_some _ hSz
        have hI2 : ((s.heap.push { cls := .type "set", dict := none, data := .set #[] 0 (.fresh 0 0 led) }).push { cls := .type "str_ascii_iterator", data := .fields #[.str x u, .int 0 0] }).get? (s.heap.objs.size + 1) = some (itObj x u 0) := by
          rw [← e1]; exact Heap.get?_push_size _ rfl
        have hne2 : s.heap.objs.size ≠ s.heap.objs.size + 1 := by omega
        rw [e1]
        refine code_update (P := prog) (w := w) (x := x) (u := u) (T := "set") hne2 (by simp [hh]) x.cps.toList 0 (#[], 0, .fresh 0 0 led) [] _ (by simp) hS2 hI2 (TxOk.nil (fresh_fits led)) (by simp) hnd (by rw [Array.length_toList]; unfold scanBound; simp; omega) ?_
        obtain ⟨l', F', hl'⟩ := run_ok (w := w) (P := prog) x.cps.toList s.toks (#[], 0, .fresh 0 0 led) [] (TxOk.nil (fresh_fits led))
        refine wpAny_pure (wpAny_pure ⟨rfl, _, _, _, _, _, rfl, finU_get (m := x.cps.toList.length) hne2 hS2, F'.fit, by rw [F'.sz, hl']; simp, fun b o hb e => ?_⟩)
        exact finU_old (m := x.cps.toList.length) (Nat.ne_of_lt hb) (Nat.ne_of_lt (Nat.lt_succ_of_lt hb)) (Heap.get?_push_of_some _ (Heap.get?_push_of_some _ e))
      · cases r₂ with
        | error e => exact hr₂
        | ok fl₂ =>
          cases fl₂ with
          | ret r =>
            obtain ⟨rfl, h', tk, es, ep, t, rfl, hS', hf, hsz, hk'⟩ := hr₂
            repeat (any_goals (first | assumption | wp_step))
            exact h _ _ _ es ep t hS' rfl hf hsz hk'
          | _ => exact hr₂.elim
    | _ => exact hr.elim
end
def tLenSetS (ta : TE) : TE := fun σ H Q => ta σ H fun x H1 => ∃ z : Str, x = .str z ∧ z.cps.all (· < 128) = true ∧ z.cps.toList.Nodup ∧ z.cps.size ≤ 1000 ∧ Q (.int (z.cps.size : Nat)) H1
theorem pe_lenSetS {X : Cx} {a : Expr} {ta : TE} {p p2 q pos : Pos} (hg : Gl X "len") (hm : X.mg "len" = none) (hg2 : Gl X "set") (hm2 : X.mg "set" = none) (ha : PE X a ta) (hc : X.calm = true := by rfl)
    (na : starEach [a] X.env = (false, eval a X.env) :: starEach [] X.env := by rfl) : PE X (.Call (.Name "len" p) [.Call (.Name "set" p2) [a] [] q] [] pos) (tLenSetS ta) := by
  refine ⟨fun pins s σ H Q I h => ?_⟩
  refine Call_ (ld_blt I hg hm boot_len ?_)
  refine PyProof.Rows.callWith_builtin1 (PyProof.Rows.args_cons ?_ rfl) rfl rfl
  refine Call_ (ld_blt I hg2 hm2 boot_set ?_)
  refine PyProof.Rows.callWith_type1 (PyProof.Rows.args_cons (thn (ha.run pins s σ H _ I h) fun v s1 ⟨x, H1, I1, r1, q1⟩ => PyProof.Rows.args_nil ?_) na) na rfl
  obtain ⟨z, rfl, ha1, hnd, hl, q1⟩ := q1
  obtain ⟨u, rfl⟩ := r1
  refine call_set_text (I1.ok.hd hc) ha1 hnd hl fun h' tk o es ep t ho he hf hn hk => ?_
  refine PyProof.Rows.args_nil ?_
  subst he
  have I2 : Inv X pins σ H1 { s1 with heap := h', toks := tk } := I1.kept fun b o e => hk b o (Heap.lt_size e) e
  exact call_len_set ho ⟨rfl, rfl, rfl⟩ rfl hf (by rw [hn] <;> omega) ⟨.int z.cps.size, H1, I2.tok _, ⟨_, by rw [hn]⟩, q1⟩
theorem ee_lenSetS {X : Cx} {σ : L2.St} {S : Hp} {a : Expr} {z : Str} {p p2 q pos : Pos} (hm : X.mg "len" = none) (hm2 : X.mg "set" = none) (ha : EE X σ S a (Dt X.K (.str z))) (h1 : z.cps.all (· < 128) = true) (h2 : z.cps.toList.Nodup) (h3 : z.cps.size ≤ 1000) (hc : X.calm = true := by rfl) (hg : Gl X "len" := by rfl) (hg2 : Gl X "set" := by rfl)
    (na : starEach [a] X.env = (false, eval a X.env) :: starEach [] X.env := by rfl) : EE X σ S (.Call (.Name "len" p) [.Call (.Name "set" p2) [a] [] q] [] pos) (Dt X.K (.int (z.cps.size : Nat))) := fun H s Q qq =>
  he_of (pe_lenSetS hg hm hg2 hm2 peb hc na) (ha H s _ fun v S1 H1 g1 pv => by
    cases pv
    exact ⟨z, rfl, h1, h2, h3, qq _ S1 H1 g1 (.int _)⟩)
end Z

namespace Y
open PySem PySem.Spec PyProof.Rows L2 Z
/-! ## enumerate over a tuple -/
theorem meets_enumT {v : Value} {o : Obj} {H : Heap → Prop} (B : Begins v o H) :
    Meets (Builtin.«enumerate.__new__» ⟨[.type "enumerate", v], []⟩) (fun _ R s => H s.heap ∧
      R (.ok (.ret (.ref (s.heap.push o).objs.size))) { s with heap := (s.heap.push o).push { cls := .type "enumerate", data := .fields #[.none, .bool false, .ref s.heap.objs.size, rawInt 0, .none, .none] } }) :=
  .of_wp fun prog w A R s h => by
    obtain ⟨hp, g, d, tk, os⟩ := s; obtain ⟨h1, h⟩ := h
    have hsub := sub_enumerate
    have q1 : ∀ {A' : Around} {E : Value → Shared → Prop} {Q : Value → Shared → Prop}, Q (.ref hp.objs.size) ⟨hp.push o, g, d, tk, os⟩ → wpAny (model prog w) A' (pyIter v) Q E ⟨hp, g, d, tk, os⟩ :=
      fun q => B.iter prog w _ _ ⟨hp, g, d, tk, os⟩ _ h1 q
    wp_walk using q1
    refine wpAny_stack_any fun st => wpAny_pure ?_
    split
    · rename_i c _ _ _ _ _
      cases (c == Value.type "enumerate")
      · wp_walk using q1
        exact ⟨_, rfl, h⟩
      · wp_walk using q1
        exact ⟨_, rfl, h⟩
    · wp_walk using q1
      exact ⟨_, rfl, h⟩
theorem call_enumT {prog : Program} {w : World} {A : Around} {E : Value → Shared → Prop} {s : Shared} {v : Value} {o : Obj} {H : Heap → Prop} {Q : Value → Shared → Prop} (B : Begins v o H) (h1 : H s.heap)
    (h : ∀ h', IsEnum h' (s.heap.objs.size + 1) s.heap.objs.size 0 .none → h'.get? s.heap.objs.size = some o → h'.objs.size = s.heap.objs.size + 2 →
      (∀ b o, s.heap.get? b = some o → h'.get? b = some o) → Q (.ref (s.heap.objs.size + 1)) { s with heap := h' }) :
    wpAny (model prog w) A (call (.type "enumerate") [v]) Q E s := by
  refine callType_new F.called_enumerate (by decide) (F.typeCall_enumerate_1 _) (F.newCall_enumerate_1 _) (fun obj => F.args_object_init_2 obj _) F.entry_enumerate_new
    (meets_enumT B) ⟨h1, ?_⟩
  have hz : (s.heap.push o).objs.size = s.heap.objs.size + 1 := Heap.size_push ..
  show _ ∧ _
  rw [hz]
  have he : IsEnum ((s.heap.push o).push { cls := .type "enumerate", data := .fields #[.none, .bool false, .ref s.heap.objs.size, rawInt 0, .none, .none] }) (s.heap.objs.size + 1) s.heap.objs.size 0 .none := by
    have := Heap.get?_push_size (s.heap.push o) (o := { cls := .type "enumerate", data := .fields #[.none, .bool false, .ref s.heap.objs.size, rawInt 0, .none, .none] }) rfl
    rw [hz] at this; exact this
  refine ⟨⟨_, he, rfl⟩, h _ he (Heap.get?_push_of_some _ (Heap.get?_push_size _ B.free)) (by rw [Heap.size_push, hz]) fun b o x => Heap.get?_push_of_some _ (Heap.get?_push_of_some _ x)⟩
/-- the tuple at a, each item in a new pair -/
def IteT (K : PySem.W.Frag) (a : Addr) : It :=
  ⟨fun i H => ∃ (xs : List V) (x : V), SqT K H a xs ∧ xs[i]? = some x, fun i H v H' => ∃ T x, v = .ref T ∧ H T = none ∧ H' = upd H T (.tup [.int (i : Nat), x]) ∧ ∀ xs, SqT K H a xs → xs[i]? = some x, fun i H => ∃ xs : List V, SqT K H a xs ∧ xs.length ≤ i⟩
theorem isTup_tuple {h : Heap} {a : Addr} {its : Array Value} (p : IsTup h a its) : h.IsTuple a its := by
  obtain ⟨o, e, c, n, d⟩ := p
  exact ⟨o, e, c, n, d⟩
theorem apart_tup {h : Heap} {a it : Addr} {its : Array Value} {i : Nat} (p : h.IsTuple a its) (q : h.IsTupleIter it a i) : a ≠ it := by
  rintro rfl
  obtain ⟨o, e, c, _⟩ := p
  obtain ⟨o', e', c', _⟩ := q
  rw [e] at e'; cases e'
  rw [c] at c'
  exact absurd c' (by decide)
theorem apart_en {h : Heap} {a e it : Addr} {its : Array Value} {k : Int} {old : Value} (p : h.IsTuple a its) (q : IsEnum h e it k old) : e ≠ a := by
  rintro rfl
  obtain ⟨o, e, c, _⟩ := p
  have e' := q
  unfold IsEnum at e'
  rw [e] at e'; cases e'
  exact absurd (Value.type.inj c) (by decide)
theorem turn_enumT {P : Program} {w : World} {K : PySem.W.Frag} {elts : List Expr} {kk : Nat} {tpos : Pos} (a e it : Addr) :
    Turn P w K (.Tuple elts kk tpos) (IteT K a) [e, it] e (fun i h => (∃ old, IsEnum h e it ((i : Nat) : Int) old) ∧ h.IsTupleIter it a i ∧ e ≠ it) where
  mem := by simp
  obj := fun i h st b hb => by
    obtain ⟨⟨old, he⟩, ⟨o, ho, hc, hd⟩, _⟩ := st
    have e' : b = e ∨ b = it := by simpa using hb
    rcases e' with z | z
    · rw [z]; exact ⟨_, he, fun v q => nomatch q⟩
    · rw [z]; exact ⟨o, ho, fun v q => by rw [hd] at q; cases q⟩
  keep := fun i h h' st k => let ⟨⟨old, he⟩, hi, hne⟩ := st; ⟨⟨old, k e (by simp) _ he⟩, hi.at fun o q => k it (by simp) o q, hne⟩
  item := by
    intro X hP hw hK hc i pins s σ H E I hf st hg
    subst hP hw hK
    obtain ⟨⟨old, he⟩, hit, hne⟩ := st
    obtain ⟨xs, x, hq, hx⟩ := hg
    obtain ⟨its, rv, p, hz⟩ := I.tuple hq
    have p := isTup_tuple p
    obtain ⟨u, hu, ru⟩ := rv.get hx
    have hel : e < s.heap.objs.size := Heap.lt_size he
    have hil : it < s.heap.objs.size := by obtain ⟨_, q, _⟩ := hit; exact Heap.lt_size q
    have D : Draws X.prog X.w X.A.in1 it [it, a] its.toArray.size (fun i v => its.toArray[i]? = some v) (fun i h => h.IsTupleIter it a i ∧ h.IsTuple a its.toArray) := Draws.tuple (show X.A.in1.handled = none from I.ok.hd hc) it a (apart_tup p hit) its.toArray
    refine wpAny_pyNext_enum_itemD D he ⟨hit, p⟩ (by
        have := (List.getElem?_eq_some_iff.mp hu).1
        simpa using this) hne (by
        intro z
        rcases List.mem_cons.mp z with z | z
        · exact hne z
        · exact apart_en p he (List.mem_singleton.mp z)) fun x' h' tk hx' ho hit' hT hsz hk => ?_
    have hx'' : its.toArray[i]? = some x' := hx'
    obtain rfl : x' = u := by
      have h2 : its[i]? = some x' := by simpa using hx''
      rw [hu] at h2; exact (Option.some.inj h2).symm
    refine ⟨_, rfl, wpAny_letOwnedTupleGo_enum (s := { s with heap := h', toks := tk + 1 }) ho fun h'' he' sb => ?_⟩
    have hT2 : h''.get? s.heap.objs.size = some { cls := .type "tuple", data := .seq #[.int i tk, x'] } := (sb.2 _ (Nat.ne_of_gt hel)).trans hT
    have new : ObjOk X.prog X.w (upd H s.heap.objs.size (.tup [.int (i : Nat), x])) h'' s.heap.objs.size (.tup [.int (i : Nat), x]) :=
      ⟨by show 2 ≤ sizeLine; decide, [.int i tk, x'], .cons ⟨_, rfl⟩ (.cons ru .nil), ⟨_, hT2, rfl, _, rfl⟩⟩
    have I1 : Inv X pins σ (upd H s.heap.objs.size (.tup [.int (i : Nat), x])) { s with heap := h'', toks := tk + 1 } :=
      I.turnedNew (ch := [e, it]) (fun b ob hb q => (sb.2 b (fun z => hb (by simp [z]))).trans (hk b ob (fun z => hb (by simp [z])) (fun z => hb (by simp [z])) q)) hf (Nat.le_refl _) new
    refine ⟨.ref s.heap.objs.size, _, I1, rfl, ⟨_, x, rfl, I.hok.fresh (Nat.le_refl _), rfl, fun ys hy => by rw [I.tuple_inj hy hq]; exact hx⟩, ⟨⟨x', ?_⟩, hit'.1.at fun o q => (sb.2 it (Ne.symm hne)).trans q, hne⟩, fun b hb => ?_⟩
    · have e1 : ((i + 1 : Nat) : Int) = (i : Int) + 1 := by omega
      rw [e1]; exact he'
    · have hb' : b < s.heap.objs.size := by
        have e' : b = e ∨ b = it := by simpa using hb
        rcases e' with z | z
        · rw [z]; exact hel
        · rw [z]; exact hil
      rw [upd_ne (Nat.ne_of_lt hb')]
      exact (hf b hb).1
  done := by
    intro X hP hw hK hc i pins s σ H E I hf st hg
    subst hP hw hK
    obtain ⟨⟨old, he⟩, hit, hne⟩ := st
    obtain ⟨xs, hq, hx⟩ := hg
    obtain ⟨its, rv, p, hz⟩ := I.tuple hq
    have p := isTup_tuple p
    obtain ⟨f0, f1, f2, f3, f4, f5⟩ := hf it (by simp)
    have hl := rv.length
    have hT : s.TypeIs (.ref e) "enumerate" := ⟨_, he, rfl⟩
    unfold pyNext
    refine wpAny_bind (wpAny_attempt (wpAny_callSpecial?_slot (name := Str.ofString "__next__") hT F.slot_enumerate_next
      (wpAny_call_entry F.slot_enumerate_next hT F.entry_enumerate_next ?_ (F.args_enumerate_next_1 _))))
    show wpAny _ _ (PySem.field (.ref e) 2 >>= _) _ _ _
    refine wpAny_bind (wpAny_field he rfl (x := .ref it) rfl ?_)
    refine wpAny_bind (wpAny_nextOf_tuple_end (I.ok.hd hc) hit p (by simp; omega) fun h' x he' hx' => ?_)
    obtain ⟨o, ho, hc'⟩ := hx'
    refine wpAny_bind (wpAny_isInstance (T := "StopIteration") (b := true) ⟨o, ho, hc'⟩ isSubtype_stop ?_)
    exact wpAny_pure ⟨rfl, I.turned (t' := s.toks) (fun b o hb q => he' b o hb q) f0 f1 f3 f4 f5⟩
  self := fun A i s Q E st h => let ⟨⟨_, he⟩, _⟩ := st; wpAny_pyIter_enum he h
def iEnumT (K : PySem.W.Frag) (ta : TA) : TI := fun σ H R => ta σ H fun vs H1 => ∃ a xs, vs = [.ref a] ∧ SqT K H1 a xs ∧ R (IteT K a) H1
theorem pi_enumT {X : Cx} {tg e : Expr} {ta : TA} {p pos tpos : Pos} {elts : List Expr} {kk : Nat} (hg : Gl X "enumerate") (hm : X.mg "enumerate" = none) (ha : PA X [e] ta) (hs : starEach [e] X.env = [(false, eval e X.env)] := by rfl) :
    PI X (.Tuple elts kk tpos) (.Call (.Name "enumerate" p) [e] [] pos) (iEnumT X.K ta) := by
  refine ⟨fun pins s σ H R I h => ?_⟩
  refine Call_ (ld_blt I hg hm boot_enumerate (PyProof.Rows.callWith_type1 (thn (ha.run pos pins s σ H _ I h) fun us s1 ⟨vs, H1, I1, r1, q1⟩ => ?_) hs rfl))
  obtain ⟨a, xs, ex, hq, q⟩ := q1
  subst ex
  cases r1 with
  | cons r rr =>
    cases rr
    cases r
    obtain ⟨its, rv, p', hz⟩ := I1.tuple hq
    refine call_enumT (begins_tuple a its.toArray) (isTup_tuple p') fun h' he hit hsz hk => wpAny_pyIter_enum he ?_
    have I2 : Inv X pins σ H1 { s1 with heap := h' } := I1.kept (t' := s1.toks) hk
    refine ⟨s1.heap.objs.size + 1, [s1.heap.objs.size + 1, s1.heap.objs.size], _, _, H1, rfl, I2, turn_enumT a (s1.heap.objs.size + 1) s1.heap.objs.size, ⟨⟨.none, he⟩, ⟨_, hit, rfl, rfl⟩, Nat.succ_ne_self _⟩, fun b hb => ?_, q⟩
    have e' : b = s1.heap.objs.size + 1 ∨ b = s1.heap.objs.size := by simpa using hb
    have hle : s1.heap.objs.size ≤ b := by
      rcases e' with z | z
      · rw [z]; exact Nat.le_add_right _ _
      · rw [z]; exact Nat.le_refl _
    exact I1.fpOk hle (I1.hok.fresh hle)
section
variable {X : Cx} {σ : L2.St} {S S' : Hp} {e a b c o : Expr} {es : List Expr} {P R : V → Hp → Prop} {pos p : Pos} {ds : List PyData}
theorem ei_enumT {elts : List Expr} {kk : Nat} {tpos : Pos} (hm : X.mg "enumerate" = none) (ha : EE X σ S a (Dt X.K (.tuple ds))) (hg : Gl X "enumerate" := by rfl) (hs : starEach [a] X.env = [(false, eval a X.env)] := by rfl) :
    EI X σ S (.Tuple elts kk tpos) (.Call (.Name "enumerate" p) [a] [] pos) (Ds X.K (enumD ds)) := fun H s R q =>
  hi_of (pi_enumT (tg := a) hg hm pab hs) ((ea_1 ha (by rw [hs]; rfl)).2 H s _ fun vs S1 H1 g1 al => by
    obtain ⟨v, rfl, pv⟩ := al.one
    obtain ⟨l, xs, rfl, hl, hx, _⟩ := pv.tup_inv
    have hlen : (Ds X.K (enumD ds)).length = xs.length := by rw [ds_len]; unfold enumD zipD; rw [List.length_zipWith, upto_len, hx.1]; omega
    refine ⟨l, xs, rfl, sqt_up g1.sub hl, q _ S1 H1 g1 ⟨fun i H hi hs => ?_, fun H hs => ?_, fun i H x H' hi hs y T st th => ?_⟩⟩
    · rw [hlen] at hi
      exact ⟨xs, xs[i], sqt_up hs hl, by simp [hi]⟩
    · rw [hlen]
      exact ⟨xs, sqt_up hs hl, Nat.le_refl _⟩
    · rw [hlen] at hi
      obtain ⟨t, x1, rfl, ht, rfl, k1⟩ := y
      have i1 : i < ds.length := by rw [← hx.1]; omega
      exact ⟨_, Gr.new th ht, _, ds_get (zipD_get (upto_get i1) (List.getElem?_eq_getElem i1)), pair_new th ht (.int _) ((hx.2 i _ _ (k1 xs (sqt_up hs hl)) (List.getElem?_eq_getElem i1)).up st)⟩)
end
end Y

namespace Y
open PySem PySem.Spec PyProof.Rows L2 Z
/-! ## own classes -/
/-- a known method -/
structure KM (P : Program) (w : World) (K : PySem.W.Frag) (mg : Str → Option Value) (base : Heap) (C : Addr) (m : Str) (k : Nat) (sp : Sp) : Prop where
  ex : ∃ f fd ps, FnOk P w K mg base CX0 k f fd ps sp ∧ PySem.W.findIn K (.ref C) m = some (some (.ref f)) ∧ PySem.W.isFn K (.ref f) = true ∧ PySem.W.keepIn K (.ref f) = true ∧ Binds K fd ps []
theorem KM.mono {P : Program} {w : World} {K : PySem.W.Frag} {mg : Str → Option Value} {base : Heap} {C : Addr} {m : Str} {j k : Nat} {sp : Sp} (h : KM P w K mg base C m j sp) (hk : j ≤ k) : KM P w K mg base C m k sp := by
  obtain ⟨f, fd, ps, F, r⟩ := h.ex
  exact ⟨f, fd, ps, F.mono hk, r⟩
/-- an instance of the class at C without the attribute m of its own -/
def InsP (C : Addr) (m : Str) (P : V → Hp → Prop) : Prop := ∀ v S, P v S → ∃ a dx fs, v = .ref a ∧ S a = some (.ins C dx fs) ∧ fs.lookup m = none
section
variable {X : Cx} {σ : L2.St} {S S' H : Hp} {e a b c o : Expr} {es : List Expr} {P P0 R : V → Hp → Prop} {Ps : List (V → Hp → Prop)} {pos p apos : Pos} {k : Nat} {x m f : Str} {sp : Sp} {C dx r : Addr} {fs : List (Str × V)} {v : V} {D : Ends} {rest : List Stmt}
/-- o.f, an attribute -/
theorem ee_fld (ho : EE X σ S o P0) (hP : ∀ w S1, P0 w S1 → ∃ a dx fs v, w = .ref a ∧ S1 a = some (.ins C dx fs) ∧ fs.lookup f = some v ∧ P v S1) (c : Cls X.K C) (n : NoAttr X.K C f) (hb : attributeBase o f X.env (eval o X.env) = eval o X.env := by rfl) : EE X σ S (.Attribute o f pos) P := fun H s Q q =>
  he_of (pe_fld peb hb) (ho H s _ fun w S1 H1 g1 pw => by
    obtain ⟨a, dx, fs, v, rfl, h1, h2, pv⟩ := hP w S1 pw
    exact ⟨a, C, dx, fs, v, rfl, g1.sub _ _ h1, c, n, h2, q v S1 H1 g1 pv⟩)
/-- self.f = e where self is not yet told in S -/
theorem hs_fld (hv : EE X σ S e P) (s : Same S H) (ho : ∀ S1, Same S S1 → EE X σ S1 o (fun w _ => w = .ref r)) (hH : H r = some (.ins C dx fs)) (c : Cls X.K C) (n : NoAttr X.K C f) (hl : fs.length < 1000)
    (q : ∀ v S' H', Gr S H S' H' → P v S' → H' r = some (.ins C dx fs) → HS X D rest σ (upd H' r (.ins C dx (putF f v fs)))) (hs : swapsWith e (some (.Attribute o f apos)) pos.line X.env = pure false := by rfl) : HS X D (.Assign [.Attribute o f apos] e pos :: rest) σ H :=
  hs_cons (ps_fld peb peb hs) (hv H s _ fun v S1 H1 g1 pv => by
    refine (ho S1 g1.st) H1 g1.sub _ fun w S2 H2 g2 pw => ?_
    subst pw
    have e1 := g1.hh _ _ hH
    have e2 := g2.hh _ _ e1
    refine ⟨r, C, dx, fs, rfl, e2, c, n, hl, ?_⟩
    have hS : S2 = S2 := rfl
    exact q v S1 H2 ⟨g1.st, g2.st.trans g2.sub, g1.hh.trans g2.hh, g1.old⟩ pv e2)
theorem ee_meth {pl : Sem Bool} (D : KM X.prog X.w X.K X.mg X.base C m k sp) (c : Cls X.K C) (hr : Room k X.A) (ho : EE X σ S o P0) [Mn P0] (hP : InsP C m P0) (ha : EA X σ S (e :: es) Ps) (hsp : SpE sp S (P0 :: Ps) R)
    (hst : starEach (e :: es) X.env = (false, eval e X.env) :: starEach es X.env := by rfl) (hpl : (backTo pos (starEach es X.env)).any (·.1) = false := by rfl)
    (ht : eval (.Call (.Attribute o m apos) (e :: es) [] pos) X.env = (do
      let ov ← eval o X.env
      standAt apos.atName
      let (f, first) ← holding [ov] (getMethod ov m pl)
      callWith pos f first (backTo pos (starEach (e :: es) X.env)) (backToKw pos (keywordEach [] X.env))) := by rfl) : EE X σ S (.Call (.Attribute o m apos) (e :: es) [] pos) R := fun H s Q q => by
  obtain ⟨f, fd, ps, F, hm, hf, hk, hb⟩ := D.ex
  refine he_of (pe_meth peb c ⟨hm, hf, hk⟩ F hr hb .nil pass0 pab hst hpl ht) (ho H s _ fun w S1 H1 g1 pw => ?_)
  obtain ⟨a, dx, fs, rfl, h1, h2⟩ := hP w S1 pw
  refine ⟨a, dx, fs, rfl, g1.sub _ _ h1, h2, (ha.up g1.st).2 H1 g1.sub _ fun vs S2 H2 g2 al => ?_⟩
  rw [List.append_nil]
  exact hsp _ S2 H2 (g1.st.trans g2.st) g2.sub (.cons (Mn.up g2.st pw) al) Q fun v S3 H3 g3 rv => q v S3 H3 ((g1.trans g2).trans g3) rv
theorem ee_meth0 {pl : Sem Bool} (D : KM X.prog X.w X.K X.mg X.base C m k sp) (c : Cls X.K C) (hr : Room k X.A) (ho : EE X σ S o P0) (hP : InsP C m P0) (hsp : SpE sp S [P0] R)
    (ht : eval (.Call (.Attribute o m apos) [] [] pos) X.env = (do
      let ov ← eval o X.env
      standAt apos.atName
      let (f, first) ← holding [ov] (getMethod ov m pl)
      callWith pos f first (backTo pos (starEach [] X.env)) (backToKw pos (keywordEach [] X.env))) := by rfl) : EE X σ S (.Call (.Attribute o m apos) [] [] pos) R := fun H s Q q => by
  obtain ⟨f, fd, ps, F, hm, hf, hk, hb⟩ := D.ex
  refine he_of (pe_meth0 peb c ⟨hm, hf, hk⟩ F hr hb .nil pass0 ht) (ho H s _ fun w S1 H1 g1 pw => ?_)
  obtain ⟨a, dx, fs, rfl, h1, h2⟩ := hP w S1 pw
  refine ⟨a, dx, fs, rfl, g1.sub _ _ h1, h2, ?_⟩
  exact hsp _ S1 H1 g1.st g1.sub (.cons pw .nil) Q fun v S3 H3 g3 rv => q v S3 H3 (g1.trans g3) rv
/-- a call anywhere below the body -/
theorem run_fnA {CX : CXT} {k : Nat} {f : Addr} {fd : FuncData} {ps : List Str} {E : XK} {A : Around} {pins : List (Addr × Obj)} {s : Shared} {Q : VK} {us : List Value} {vs : List V} (F : FnOk X.prog X.w X.K X.mg X.base CX k f fd ps sp) (hr : Room k A) (hA : A.frames = X.A.frames) (hb : Binds X.K fd ps []) (hx : Passes CX X E)
    (I : Inv X pins σ H s) (r : Vals vs us) (h : sp vs H Q E) : wpAny (model X.prog X.w) A (call (.ref f) us) (EP X pins σ Q) X.xe s := by
  have hl : (us ++ []).length = ps.length := by rw [List.append_nil, ← r.length]; exact F.len _ _ _ _ h
  have e0 : Env0 X.prog X.w X.K X.mg X.base A X.stack s H := by
    have e := I.env0
    exact ⟨by rw [hA]; exact e.frames, e.mod, e.bs, e.bsz, e.funs, e.frf, e.hok, e.bare⟩
  refine wpAny_call (codeAny_mono (F.run A X.stack s H ⟨us, []⟩ us vs Q E hr e0 (by have := hb s us I.kIn hl; simpa using this) r h) fun r s' hq => ?_)
  cases r with
  | error e => exact hx pins σ H s e s' I hq
  | ok fl =>
    cases fl with
    | ret u => exact I.after hq
    | next => exact False.elim hq
    | brk => exact False.elim hq
    | cont => exact False.elim hq
theorem insAt {pins : List (Addr × Obj)} {s : Shared} {r : Addr} (I : Inv X pins σ H s) (e : H r = some (.ins C dx fs)) : ∃ ox od, PySem.W.InstAt s.heap r ox C (some od) := by
  obtain ⟨mA, J, _⟩ := ins_get I.hok e
  obtain ⟨od, J, _⟩ := J.look
  exact ⟨_, od, J⟩
/-- v in o, an own __contains__ that gives a bool -/
def rInO (C : Addr) (sp : Sp) : R2 := fun x y H Q => ∃ r dx fs, y = .ref r ∧ H r = some (.ins C dx fs) ∧ sp [y, x] H (fun v H' => ∃ b, v = .bl b ∧ Q (.bl b) H') E0
theorem op_inO (D : KM X.prog X.w X.K X.mg X.base C "__contains__" k sp) (hr : Room k X.A) : OpR X (compareOp .In) (rInO C sp) := by
  intro pins s σ H x y v u Q I rx ry hq
  obtain ⟨r, dx, fs, rfl, hy, q⟩ := hq
  cases ry
  obtain ⟨f, fd, ps, F, hm, hf, hk, hb⟩ := D.ex
  obtain ⟨ox, od, J⟩ := insAt I hy
  obtain ⟨m, hF⟩ := I.fr
  refine PySem.W.in_K hF I.ok.mod.kin J hm hf (wpAny_mono (run_fnA (vs := [.ref r, x]) F hr rfl hb pass0 I (.cons rfl (.cons rx .nil)) q) (fun rv s' hq' => ?_) fun _ _ z => z)
  obtain ⟨w, H', I', rw', b, rfl, q'⟩ := hq'
  cases rw'
  exact wpAny_truthy_bool ⟨.bl b, H', I', rfl, q'⟩
/-- what v's type is, told apart from C -/
structure NotC (K : PySem.W.Frag) (C : Addr) (v : V) (H : Hp) : Prop where
  ty : (∃ r dx fs, v = .ref r ∧ H r = some (.ins C dx fs)) ∨ (∃ z, v = .str z) ∧ PySem.W.subIn K (.type "str") (.ref C) = some false
def rEqO (K : PySem.W.Frag) (C : Addr) (sp : Sp) : R2 := fun x y H Q => ∃ r dx fs, x = .ref r ∧ H r = some (.ins C dx fs) ∧ NotC K C y H ∧ sp [x, y] H (fun v H' => ∃ b, v = .bl b ∧ Q (.bl b) H') E0
theorem notC_ok {pins : List (Addr × Obj)} {s : Shared} {y : V} {u : Value} (I : Inv X pins σ H s) (ry : RelV y u) (h : NotC X.K C y H) : ∃ tb, PySem.W.Looks (model X.prog X.w) s.heap (typeOf u) tb ∧ PySem.W.notFirst X.K C tb = true := by
  rcases h.ty with ⟨r, dx, fs, rfl, e⟩ | ⟨⟨z, rfl⟩, e⟩
  · cases ry
    obtain ⟨ox, od, J⟩ := insAt I e
    exact ⟨_, J.type, by simp [PySem.W.notFirst]⟩
  · obtain ⟨t, rfl⟩ := ry
    exact ⟨.type "str", PySem.W.Looks.of_pure rfl, by simp [PySem.W.notFirst, e]⟩
theorem op_eqO (D : KM X.prog X.w X.K X.mg X.base C "__eq__" k sp) (hr : Room k X.A) : OpR X (compareOp .Eq) (rEqO X.K C sp) := by
  intro pins s σ H x y v u Q I rx ry hq
  obtain ⟨r, dx, fs, rfl, hx, hy, q⟩ := hq
  cases rx
  obtain ⟨f, fd, ps, F, hm, hf, hk, hb⟩ := D.ex
  obtain ⟨ox, od, J⟩ := insAt I hx
  obtain ⟨m, hF⟩ := I.fr
  obtain ⟨tb, L, nf⟩ := notC_ok I ry hy
  show wpAny (model X.prog X.w) X.A (richCompare .Eq (.ref r) u) _ _ _
  refine PySem.W.cmp_K (op := .Eq) hr.units0 hF I.ok.mod.kin J L nf hm hf (wpAny_mono (run_fnA (vs := [.ref r, y]) F hr rfl hb pass0 I (.cons rfl (.cons ry .nil)) q) (fun rv s' hq' => ?_) fun _ _ z => z)
  obtain ⟨w, H', I', rw', b, rfl, q'⟩ := hq'
  cases rw'
  exact ⟨.bl b, H', I', rfl, q'⟩
end
section
open PySem.W
variable {prog : Program} {w : World} {A : Around} {E : Value → Shared → Prop} {s : Shared} {K : Frag} {x C L f : Addr} {h₀ : Heap} {m : Str → Option Value} {ox : Obj} {od : Option Obj} {b tb : Value}
theorem ifBound_B {M : Model} {name : Str} {id : String} {args : List Value} {Q : Option Value → Shared → Prop} (X : K.In s.heap) (I : InstAt s.heap x ox C od) (hs : findIn K (.ref C) name = some (some (.builtin id)))
    (hb : ∀ self, bindSpecial (.builtin id) self = pure (.builtin id, [self])) (h : wpAny M A (call (.builtin id) (.ref x :: args)) (fun v => Q (some v)) E s) : wpAny M A (callSpecialIfBound? (.ref x) name args) Q E s := by
  simp only [callSpecialIfBound?, bindSpecialIfBound?]
  refine wpAny_holding (wpAny_bind (wpAny_bind (wpAny_bind (I.type.here ((looks_findIn X hs).here ?_)))))
  refine wpAny_bind (wpAny_askSetting (wpAny_ite ?_))
  have fin : wpAny M A (call (.builtin id) ([.ref x] ++ args) >>= fun v => pure (some v)) Q E s := wpAny_bind (wpAny_mono h (fun v s' h' => wpAny_pure h') fun _ _ h' => h')
  split
  · exact wpAny_bind ((Looks.of_pure (hb _)).here (wpAny_pure (by exact fin)))
  · exact wpAny_tryCatch (wpAny_bind ((Looks.of_pure (hb _)).here (wpAny_pure (by exact fin))))
theorem ne_K {Q : Value → Shared → Prop} (hu : A.units + 1 < cLine) (F : Fr h₀ L s.heap m) (X₀ : K.In h₀) (I : InstAt s.heap x ox C od) (hb : Looks (model prog w) s.heap (typeOf b) tb) (hn : notFirst K C tb = true)
    (hne : findIn K (.ref C) "__ne__" = some (some (.builtin "object.__ne__"))) (hm : mroIn K C (.type "object") = some true) (hs : findIn K (.ref C) "__eq__" = some (some (.ref f))) (hf : isFn K (.ref f) = true)
    (h : wpAny (model prog w) A.in1 (call (.ref f) [.ref x, b]) (fun v s' => ∃ k, v = .bool k ∧ Q (.bool (!k)) s') E s) : wpAny (model prog w) A (richCompare .NotEq (.ref x) b) Q E s := by
  have X := X₀.keeps F.keep
  have inner : wpAny (model prog w) A.in1 (Builtin.«object.__ne__» ⟨[.ref x, b], []⟩) (fun fin s' => ∃ v, fin = .done (.ret v) ∧ (∃ k, v = .bool k ∧ Q (.bool k) s')) E s := by
    unfold Builtin.«object.__ne__»
    refine wpAny_bind (m := slotArgs "__ne__" 1 _) (wpAny_pure ?_)
    refine wpAny_bind (m := cRoomFor _ _) (wpAny_cRoomFor hu ?_)
    refine wpAny_bind (m := callSpecialIfBound? (.ref x) (Str.ofString "__eq__") [b]) (ifBound_K X I hs hf (wpAny_mono h (fun r s' hr => ?_) fun _ _ y => y))
    obtain ⟨k, rfl, hq⟩ := hr
    refine wpAny_bind (m := truthy (.bool k)) (wpAny_truthy_bool (wpAny_pure ⟨_, rfl, _, rfl, hq⟩))
  have one : wpAny (model prog w) A (tryCompare (.ref x) (cmpInfo .NotEq).2.1 b) (fun r s' => ∃ v, r = some v ∧ Q v s') E s := by
    unfold tryCompare
    refine wpAny_bind (ifBound_B X I hne PySem.F.slot_enumerate_ne.bind (wpAny_call (codeAny_call_builtin PySem.F.slot_enumerate_ne.plain PySem.F.cmpEntry_ne (check_slot (i := "object.__ne__") (owner := "object") (n := "__ne__") (by decide +kernel) (by decide +kernel) (I.type.andThen (looks_mroIn X hm)) (PySem.F.cmpArgs_ne _ _) ?_))))
    refine wpAny_mono inner (fun fin s' hq => ?_) fun _ _ e => e
    obtain ⟨v, rfl, k, rfl, q⟩ := hq
    exact wpAny_pure ⟨_, rfl, q⟩
  unfold richCompare
  simp only [oneThing_ref]
  refine wpAny_holding (wpAny_bind (wpAny_cRoomFor (Nat.lt_of_succ_lt hu) ?_))
  refine wpAny_bind (I.type.here (wpAny_bind (hb.here ?_)))
  split
  · rename_i q
    have e : subIn K tb (.ref C) = some false := by
      rcases Bool.or_eq_true_iff.mp hn with e | e
      · rw [beq_iff_eq.mp e] at q; simp at q
      · exact beq_iff_eq.mp e
    refine wpAny_bind ((looks_subIn X e).here ?_)
    simp only [Bool.false_eq_true, if_false]
    refine wpAny_bind (wpAny_mono one (fun r s' z => ?_) fun _ _ e => e)
    obtain ⟨v, rfl, hq⟩ := z
    exact wpAny_pure hq
  · refine wpAny_bind (wpAny_pure ?_)
    simp only [Bool.false_eq_true, if_false]
    refine wpAny_bind (wpAny_mono one (fun r s' z => ?_) fun _ _ e => e)
    obtain ⟨v, rfl, hq⟩ := z
    exact wpAny_pure hq
end
end Y

namespace Y
open PySem PySem.Spec PyProof.Rows L2 Z
section
variable {X : Cx} {σ : L2.St} {S S' H : Hp} {e a b c o : Expr} {es : List Expr} {P Pa Pb P0 R : V → Hp → Prop} {Ps : List (V → Hp → Prop)} {pos p apos : Pos} {k : Nat} {x m f : Str} {sp : Sp} {C dx r : Addr} {fs : List (Str × V)} {v : V} {D : Ends} {rest : List Stmt} {bo : Bool}
/-- the facts that an own class without __ne__ has -/
structure NeC (K : PySem.W.Frag) (C : Addr) : Prop where
  ne : PySem.W.findIn K (.ref C) "__ne__" = some (some (.builtin "object.__ne__"))
  ob : PySem.W.mroIn K C (.type "object") = some true
theorem op_neO (D : KM X.prog X.w X.K X.mg X.base C "__eq__" k sp) (N : NeC X.K C) (hr : Room (k + 1) X.A) : OpR X (compareOp .NotEq) (fun x y H Q => rEqO X.K C sp x y H (fun v H' => ∀ b, v = .bl b → Q (.bl (!b)) H')) := by
  intro pins s σ H x y v u Q I rx ry hq
  obtain ⟨r, dx, fs, rfl, hx, hy, q⟩ := hq
  cases rx
  obtain ⟨f, fd, ps, F, hm, hf, hk, hb⟩ := D.ex
  obtain ⟨ox, od, J⟩ := insAt I hx
  obtain ⟨m, hF⟩ := I.fr
  obtain ⟨tb, L, nf⟩ := notC_ok I ry hy
  show wpAny (model X.prog X.w) X.A (richCompare .NotEq (.ref r) u) _ _ _
  refine ne_K (by have := hr.in1.units0; simpa [Around.in1] using this) hF I.ok.mod.kin J L nf N.ne N.ob hm hf (wpAny_mono (run_fnA (vs := [.ref r, y]) F hr.in1 rfl hb pass0 I (.cons rfl (.cons ry .nil)) q) (fun rv s' hq' => ?_) fun _ _ z => z)
  obtain ⟨w, H', I', rw', b, rfl, q'⟩ := hq'
  cases rw'
  exact ⟨b, rfl, .bl (!b), H', I', rfl, q' b rfl⟩
/-- what the promise of an own == (or `in`) is to be: a bool -/
def CmpP (sp : Sp) (S : Hp) (Pa Pb : V → Hp → Prop) (b : Bool) : Prop := ∀ v w S1 H1, Same S S1 → Same S1 H1 → Pa v S1 → Pb w S1 → ∀ Q : VK, (∀ S2 H2, Gr S1 H1 S2 H2 → Q (.bl b) H2) → sp [v, w] H1 Q E0
theorem opE_eqO [Mn Pa] [Mn Pb] (hC : ∀ w S1, Pa w S1 → ∃ r dx fs, w = .ref r ∧ S1 r = some (.ins C dx fs)) (hN : ∀ w S1, Pb w S1 → NotC X.K C w S1) (h : CmpP sp S Pa Pb bo) : OpE (rEqO X.K C sp) S Pa Pb (Dt X.K (.bool bo)) := fun x y S1 H1 st s px py Q q => by
  obtain ⟨r, dx, fs, rfl, e⟩ := hC x S1 px
  refine ⟨r, dx, fs, rfl, s _ _ e, ⟨?_⟩, h _ _ S1 H1 st s px py _ fun S2 H2 g => ⟨bo, rfl, q _ S2 H2 g (.bl _)⟩⟩
  rcases (hN y S1 py).ty with ⟨r', dx', fs', rfl, e'⟩ | e'
  · exact Or.inl ⟨r', dx', fs', rfl, s _ _ e'⟩
  · exact Or.inr e'
theorem ee_eqO [Mn Pa] [Mn Pb] (D : KM X.prog X.w X.K X.mg X.base C "__eq__" k sp) (hr : Room k X.A) (ha : EE X σ S a Pa) (hb : EE X σ S b Pb) (hC : ∀ w S1, Pa w S1 → ∃ r dx fs, w = .ref r ∧ S1 r = some (.ins C dx fs)) (hN : ∀ w S1, Pb w S1 → NotC X.K C w S1) (h : CmpP sp S Pa Pb bo) (hm : behindInMarks .Eq b = false := by exact nomark _) : EE X σ S (.Compare a [.Eq] [b] pos) (Dt X.K (.bool bo)) :=
  ee_cmp (op_eqO D hr) ha hb (opE_eqO hC hN h) hm
theorem et_eqO [Mn Pa] [Mn Pb] (D : KM X.prog X.w X.K X.mg X.base C "__eq__" k sp) (hr : Room k X.A) (ha : EE X σ S a Pa) (hb : EE X σ S b Pb) (hC : ∀ w S1, Pa w S1 → ∃ r dx fs, w = .ref r ∧ S1 r = some (.ins C dx fs)) (hN : ∀ w S1, Pb w S1 → NotC X.K C w S1) (h : CmpP sp S Pa Pb bo) (hm : behindInMarks .Eq b = false := by exact nomark _) : ET X σ S (.Compare a [.Eq] [b] pos) bo :=
  et_cmp (op_eqO D hr) ha hb (opE_eqO hC hN h) hm
theorem opE_neO [Mn Pa] [Mn Pb] (hC : ∀ w S1, Pa w S1 → ∃ r dx fs, w = .ref r ∧ S1 r = some (.ins C dx fs)) (hN : ∀ w S1, Pb w S1 → NotC X.K C w S1) (h : CmpP sp S Pa Pb bo) : OpE (fun x y H Q => rEqO X.K C sp x y H (fun v H' => ∀ b, v = .bl b → Q (.bl (!b)) H')) S Pa Pb (Dt X.K (.bool (!bo))) := fun x y S1 H1 st s px py Q q => by
  obtain ⟨r, dx, fs, rfl, e⟩ := hC x S1 px
  refine ⟨r, dx, fs, rfl, s _ _ e, ⟨?_⟩, h _ _ S1 H1 st s px py _ fun S2 H2 g => ⟨bo, rfl, fun b' eb => ?_⟩⟩
  · rcases (hN y S1 py).ty with ⟨r', dx', fs', rfl, e'⟩ | e'
    · exact Or.inl ⟨r', dx', fs', rfl, s _ _ e'⟩
    · exact Or.inr e'
  · cases eb
    exact q _ S2 H2 g (.bl _)
theorem et_neO [Mn Pa] [Mn Pb] (D : KM X.prog X.w X.K X.mg X.base C "__eq__" k sp) (N : NeC X.K C) (hr : Room (k + 1) X.A) (ha : EE X σ S a Pa) (hb : EE X σ S b Pb) (hC : ∀ w S1, Pa w S1 → ∃ r dx fs, w = .ref r ∧ S1 r = some (.ins C dx fs)) (hN : ∀ w S1, Pb w S1 → NotC X.K C w S1) (h : CmpP sp S Pa Pb bo) (hm : behindInMarks .NotEq b = false := by exact nomark _) : ET X σ S (.Compare a [.NotEq] [b] pos) (!bo) :=
  et_cmp (op_neO D N hr) ha hb (opE_neO hC hN h) hm
theorem opE_inO [Mn Pa] [Mn Pb] (hC : ∀ w S1, Pb w S1 → ∃ r dx fs, w = .ref r ∧ S1 r = some (.ins C dx fs)) (h : CmpP sp S Pb Pa bo) : OpE (rInO C sp) S Pa Pb (Dt X.K (.bool bo)) := fun x y S1 H1 st s px py Q q => by
  obtain ⟨r, dx, fs, rfl, e⟩ := hC y S1 py
  exact ⟨r, dx, fs, rfl, s _ _ e, h _ _ S1 H1 st s py px _ fun S2 H2 g => ⟨bo, rfl, q _ S2 H2 g (.bl _)⟩⟩
theorem ee_inO [Mn Pa] [Mn Pb] (D : KM X.prog X.w X.K X.mg X.base C "__contains__" k sp) (hr : Room k X.A) (ha : EE X σ S a Pa) (hb : EE X σ S b Pb) (hC : ∀ w S1, Pb w S1 → ∃ r dx fs, w = .ref r ∧ S1 r = some (.ins C dx fs)) (h : CmpP sp S Pb Pa bo) (hm : behindInMarks .In b = false := by rfl) : EE X σ S (.Compare a [.In] [b] pos) (Dt X.K (.bool bo)) :=
  ee_cmp (op_inO D hr) ha hb (opE_inO hC h) hm
theorem et_inO [Mn Pa] [Mn Pb] (D : KM X.prog X.w X.K X.mg X.base C "__contains__" k sp) (hr : Room k X.A) (ha : EE X σ S a Pa) (hb : EE X σ S b Pb) (hC : ∀ w S1, Pb w S1 → ∃ r dx fs, w = .ref r ∧ S1 r = some (.ins C dx fs)) (h : CmpP sp S Pb Pa bo) (hm : behindInMarks .In b = false := by rfl) : ET X σ S (.Compare a [.In] [b] pos) bo :=
  et_cmp (op_inO D hr) ha hb (opE_inO hC h) hm
/-- repr(o), an own __repr__ that gives a text -/
theorem ee_repr (D : KM X.prog X.w X.K X.mg X.base C "__repr__" k sp) (hr : Room (k + 1) X.A) (hm : X.mg "repr" = none) (ha : EE X σ S a P0) [Mn P0] (hC : ∀ w S1, P0 w S1 → ∃ r dx fs, w = .ref r ∧ S1 r = some (.ins C dx fs)) {z : Str} (hsp : SpE sp S [P0] (Dt X.K (.str z))) (hg : Gl X "repr" := by rfl)
    (he : starEach [a] X.env = (false, eval a X.env) :: starEach [] X.env := by rfl) (hpl : (backTo pos (starEach [] X.env)).any (·.1) = false := by rfl) : EE X σ S (.Call (.Name "repr" p) [a] [] pos) (Dt X.K (.str z)) := by
  have hc : CallR X (.builtin "repr") (fun vs H Q => ∃ r dx fs, vs = [.ref r] ∧ H r = some (.ins C dx fs) ∧ sp vs H (fun v H' => ∃ z, v = .str z ∧ Q (.str z) H') E0) := by
    intro pins s σ H vs us Q I rv hq
    obtain ⟨r, dx, fs, rfl, hx, q⟩ := hq
    obtain ⟨f, fd, ps, F, hm, hf, hk, hb⟩ := D.ex
    obtain ⟨u, rfl, rx⟩ : ∃ u, us = [u] ∧ RelV (.ref r) u := by
      cases rv with
      | cons h t => cases t; exact ⟨_, rfl, h⟩
    cases rx
    obtain ⟨ox, od, J⟩ := insAt I hx
    obtain ⟨m, hF⟩ := I.fr
    refine PySem.W.repr_K (by have := hr.in1.units0; simpa [Around.in1] using this) hF I.ok.mod.kin J hm hf (wpAny_mono (run_fnA (vs := [.ref r]) F hr.in1 rfl hb pass0 I (.cons rfl .nil) q) (fun rv s' hq' => ?_) fun _ _ z => z)
    obtain ⟨w, H', I', rw', b, rfl, q'⟩ := hq'
    obtain ⟨t, rfl⟩ := rw'
    exact ⟨.str b, H', I', ⟨t, rfl⟩, q'⟩
  refine ee_callB hc hm (by first | rfl | decide +kernel) (ea_1 ha he) (fun vs S1 H1 st s al Q q => ?_) hg (by decide) (by decide) he hpl
  obtain ⟨v, rfl, pv⟩ := al.one
  obtain ⟨r, dx, fs, rfl, e⟩ := hC v S1 pv
  exact ⟨r, dx, fs, rfl, s _ _ e, hsp _ S1 H1 st s (.cons pv .nil) _ fun v S2 H2 g pv => by
    cases pv
    exact ⟨z, rfl, q _ S2 H2 g (.str _)⟩⟩
end
/-! ## a new instance -/
structure GrI (a : Addr) (S H S' H' : Hp) : Prop where
  st : Same S S'
  sub : Same S' H'
  hh : ∀ z o, z ≠ a → H z = some o → H' z = some o
  old : ∀ z o, z ≠ a → H z = some o → S' z = S z
/-- what __init__ promises -/
def spI (C : Addr) (K : PySem.W.Frag) (F : List PyData → (Addr → V → Hp → Prop) → Prop) : Sp := fun vs H Q _ => ∃ S a dx ws ds R, vs = .ref a :: ws ∧ Same S H ∧ S a = none ∧ H a = some (.ins C dx []) ∧ Dts K ds ws S ∧ F ds R ∧ ∀ l S' H', GrI a S H S' H' → S l = none → R l (.ref a) S' → Q .non H'
/-- a thing whose part at l is new -/
def NewR (R : Addr → V → Hp → Prop) (S : Hp) : V → Hp → Prop := fun v S' => ∃ l, S l = none ∧ R l v S'
theorem NewR.dn {R : Addr → V → Hp → Prop} {S S0 S' : Hp} {v : V} (s : Same S0 S) (h : NewR R S v S') : NewR R S0 v S' := let ⟨l, a, b⟩ := h; ⟨l, s.free a, b⟩
instance {R : Addr → V → Hp → Prop} {S : Hp} [h : ∀ l, Mn (R l)] : Mn (NewR R S) := ⟨fun s ⟨l, a, b⟩ => ⟨l, a, (h l).up s b⟩⟩
theorem GrI.step {a : Addr} {S H S1 H1 S2 H2 : Hp} (i : GrI a S H S1 H1) (g : Gr S1 H1 S2 H2) : GrI a S H S2 H2 :=
  ⟨i.st.trans g.st, g.sub, fun z o n h => g.hh _ _ (i.hh z o n h), fun z o n h => (g.old z o (i.hh z o n h)).trans (i.old z o n h)⟩
theorem GrI.put {a : Addr} {S H S1 H1 : Hp} {o : HO} (i : GrI a S H S1 H1) (h : S a = none) : GrI a S H (upd S1 a o) (upd H1 a o) :=
  ⟨fun z u e => by
    have ne : z ≠ a := fun q => by subst q; rw [h] at e; cases e
    rw [upd_ne ne]; exact i.st z u e, fun z u e => by
    by_cases ne : z = a
    · subst ne; rw [upd_same] at e ⊢; exact e
    · rw [upd_ne ne] at e ⊢; exact i.sub z u e, fun z u n e => by rw [upd_ne n]; exact i.hh z u n e, fun z u n e => by rw [upd_ne n]; exact i.old z u n e⟩
theorem GrI.start {a : Addr} {S H : Hp} {o : HO} (s : Same S H) (h : S a = none) (e : H a = some o) : GrI a S H (upd S a o) H :=
  ⟨Same.new h, fun z u q => by
    by_cases ne : z = a
    · subst ne; rw [upd_same] at q; rw [e]; exact q
    · rw [upd_ne ne] at q; exact s z u q, fun z u n q => q, fun z u n q => upd_ne n⟩
section
variable {X : Cx} {σ : L2.St} {S S' H : Hp} {e a b c o : Expr} {es : List Expr} {P P0 : V → Hp → Prop} {Ps : List (V → Hp → Prop)} {pos p apos : Pos} {k : Nat} {x m : Str} {sp : Sp} {C f : Addr} {fd : FuncData} {ps : List Str} {ds dd : List PyData} {dvs : List V} {us : List Value} {R : Addr → V → Hp → Prop}
theorem make_init {F : List PyData → (Addr → V → Hp → Prop) → Prop} {vs : List V} {S1 H1 : Hp} {a dx : Addr} {Q : Hp → Prop} (s : Same S1 H1) (hd : Dts X.K ds vs S1) (hF : F ds R) (ha : H1 a = none) (hdx : H1 dx = none) (hne : dx ≠ a) (q : ∀ S2 H2, Gr S1 H1 S2 H2 → NewR R S1 (.ref a) S2 → Q H2) :
    spI C X.K F (.ref a :: vs) (upd (upd H1 dx (.own a)) a (.ins C dx [])) (fun v H2 => v = .non ∧ Q H2) E0 := by
  have hst : Same H1 (upd (upd H1 dx (.own a)) a (.ins C dx [])) := (Same.new hdx).trans (Same.new (by rw [upd_ne hne.symm]; exact ha))
  refine ⟨S1, a, dx, vs, ds, R, rfl, s.trans hst, s.free ha, upd_same, hd, hF, fun l S' H' g hl r => ⟨rfl, q S' H' ⟨g.st, g.sub, fun z o hz => ?_, fun z o hz => ?_⟩ ⟨l, hl, r⟩⟩⟩
  · exact g.hh z o (ne_of_none hz ha) (hst z o hz)
  · exact g.old z o (ne_of_none hz ha) (hst z o hz)
theorem ee_make {F : List PyData → (Addr → V → Hp → Prop) → Prop} (M : Mk X.K C f) (G : FnOk X.prog X.w X.K X.mg X.base CX0 k f fd ps (spI C X.K F)) (hr : Room (k + 1) X.A) (hm : X.mg x = some (.ref C)) (hb : Binds X.K fd ps us) (hd : Vals dvs us) (hdd : ∀ S, Dts X.K dd dvs S) (ha : EA X σ S (e :: es) (Ds X.K ds)) (hF : F (ds ++ dd) R)
    (hg : Gl X x := by rfl) (hdb : (x == ("__debug__" : Str)) = false := by decide) (he : starEach (e :: es) X.env = (false, eval e X.env) :: starEach es X.env := by rfl) (hpl : (backTo pos (starEach es X.env)).any (·.1) = false := by rfl) : EE X σ S (.Call (.Name x p) (e :: es) [] pos) (NewR R S) := fun H s Q q =>
  he_of (pe_make M G hr hg hm hb hd pass0 pab hdb he hpl) (ha.2 H s _ fun vs S1 H1 g1 al a dx h1 h2 h3 =>
    make_init g1.sub ((al_dts al).append (hdd S1)) hF h1 h2 h3 fun S2 H2 g2 r => q _ S2 H2 (g1.trans g2) (r.dn g1.st))
theorem ee_makeK2 {F : List PyData → (Addr → V → Hp → Prop) → Prop} {k1 k2 : Str} {e1 e2 : Expr} {q1 q2 : Pos} {d1 d2 : PyData} {g : List Value → List Value → List Value} {gV : List V → List V → List V} (M : Mk X.K C f) (G : FnOk X.prog X.w X.K X.mg X.base CX0 k f fd ps (spI C X.K F)) (hr : Room (k + 1) X.A) (hm : X.mg x = some (.ref C)) (hb : KBn X.K fd ps 1 [k1, k2] g gV) (hgV : ∀ s v w, gV [s] [v, w] = [s, w, v]) (h1 : EE X σ S e1 (Dt X.K d1)) (h2 : EE X σ S e2 (Dt X.K d2)) (hF : F [d2, d1] R)
    (hall : (backToKw pos (keywordEach [⟨some k1, e1, q1⟩, ⟨some k2, e2, q2⟩] X.env)).all (·.1.isSome) = true := by rfl) (hks : (backToKw pos (keywordEach [⟨some k1, e1, q1⟩, ⟨some k2, e2, q2⟩] X.env)).filterMap (·.1) = [k1, k2] := by rfl) (hdb : (x == ("__debug__" : Str)) = false := by decide)
    (hpl : ((backTo pos (starEach [] X.env)).any (·.1) || (backToKw pos (keywordEach [⟨some k1, e1, q1⟩, ⟨some k2, e2, q2⟩] X.env)).any (·.1.isNone)) = false := by rfl) (hg : Gl X x := by rfl) : EE X σ S (.Call (.Name x p) [] [⟨some k1, e1, q1⟩, ⟨some k2, e2, q2⟩] pos) (NewR R S) := fun H s Q q =>
  he_of (pe_makeK0 M G hr hg hm hb pass0 (pk_cons (te := bE X e1) peb (pk_cons (te := bE X e2) (t := tNil) peb pk_nil)) hall hks hdb hpl) (h1 H s _ fun v S1 H1 g1 pv => (h2.up g1.st) H1 g1.sub _ fun w S2 H2 g2 pw => ⟨rfl, rfl, fun a dx a1 a2 a3 => by
    rw [hgV]
    exact make_init (vs := [w, v]) g2.sub (Dts.cons pw (Dts.cons (pv.up g2.st) Dts.nil)) hF a1 a2 a3 fun S3 H3 g3 r => q _ S3 H3 ((g1.trans g2).trans g3) (r.dn (g1.st.trans g2.st))⟩)
end
end Y

namespace Y
open PySem PySem.Spec PyProof.Rows L2 Z
section
variable {X : Cx} {σ : L2.St} {S S' H : Hp} {e a b c o : Expr} {es : List Expr} {P Pa Pb P0 R : V → Hp → Prop} {Ps : List (V → Hp → Prop)} {pos p apos : Pos} {i j l : Int} {d : PyData} {ds : List PyData} {k : Bool}
/-- a <= b <= c -/
theorem et_chainLE (ha : EE X σ S a (Dt X.K (.int i))) (hb : EE X σ S b (Dt X.K (.int j))) (hc : EE X σ S c (Dt X.K (.int l))) (hm : lastMarks [.LtE, .LtE] [b, c] = false := by with_unfolding_all rfl) : ET X σ S (.Compare a [.LtE, .LtE] [b, c] pos) (decide (i ≤ j) && decide (j ≤ l)) := fun H s Q q =>
  ht_of (pt_chain op_le op_le peb peb peb hm) (ha H s _ fun x S1 H1 g1 px => (hb.up g1.st) H1 g1.sub _ fun y S2 H2 g2 py => by
    cases px; cases py
    refine ⟨i, j, rfl, rfl, decide (i ≤ j), rfl, ?_⟩
    by_cases h : i ≤ j
    · rw [if_pos (decide_eq_true h)]
      exact (hc.up (g1.st.trans g2.st)) H2 g2.sub _ fun z S3 H3 g3 pz => by
        cases pz
        refine ⟨j, l, rfl, rfl, decide (j ≤ l), rfl, ?_⟩
        have := q S3 H3 ((g1.trans g2).trans g3)
        rw [decide_eq_true h, Bool.true_and] at this
        exact this
    · rw [if_neg (by rw [decide_eq_false h]; exact Bool.false_ne_true)]
      refine ⟨false, rfl, ?_⟩
      have := q S2 H2 (g1.trans g2)
      rw [decide_eq_false h, Bool.false_and] at this
      exact this)
/-- a sign not in a text -/
theorem et_notInC {n : Nat} {z : Str} (ha : EE X σ S a (Dt X.K (.str ⟨#[n]⟩))) (hb : EE X σ S b (Dt X.K (.str z))) (hm : behindInMarks .NotIn b = false := by with_unfolding_all rfl) : ET X σ S (.Compare a [.NotIn] [b] pos) (!decide (n ∈ z.cps.toList)) :=
  et_cmp op_notIn_sign ha hb (fun v w S1 H1 _ s px py Q q => by cases px; cases py; exact ⟨n, z, rfl, rfl, q _ S1 H1 (Gr.refl s) (.bl _)⟩) hm
theorem ee_inC {n : Nat} {z : Str} (ha : EE X σ S a (Dt X.K (.str ⟨#[n]⟩))) (hb : EE X σ S b (Dt X.K (.str z))) (hm : behindInMarks .In b = false := by with_unfolding_all rfl) : EE X σ S (.Compare a [.In] [b] pos) (Dt X.K (.bool (decide (n ∈ z.cps.toList)))) :=
  ee_cmp op_in_sign ha hb (fun v w S1 H1 _ s px py Q q => by cases px; cases py; exact ⟨n, z, rfl, rfl, q _ S1 H1 (Gr.refl s) (.bl _)⟩) hm
/-- isinstance(a, (list, tuple)) -/
theorem ee_isiLT (hk : k = (isD d "list" || isD d "tuple")) (hm : X.mg "isinstance" = none) (h1 : X.mg "list" = none) (h2 : X.mg "tuple" = none) (ha : EE X σ S a (Dt X.K d)) {p1 p2 p3 : Pos} {x1} (hg : Gl X "isinstance" := by rfl) (hg1 : Gl X "list" := by rfl) (hg2 : Gl X "tuple" := by rfl)
    (hs : starEach [a, .Tuple [.Name "list" p1, .Name "tuple" p2] x1 p3] X.env = (false, eval a X.env) :: starEach [.Tuple [.Name "list" p1, .Name "tuple" p2] x1 p3] X.env := by rfl) : EE X σ S (.Call (.Name "isinstance" p) [a, .Tuple [.Name "list" p1, .Name "tuple" p2] x1 p3] [] pos) (Dt X.K (.bool k)) := by
  haveI m1 : Mn (fun (w : V) (_ : Hp) => w = .ty "list") := ⟨fun _ h => h⟩
  haveI m2 : Mn (fun (w : V) (_ : Hp) => w = .ty "tuple") := ⟨fun _ h => h⟩
  haveI m3 : Mn (fun (w : V) (S : Hp) => ∃ t, w = .ref t ∧ S t = some (.tup [.ty "list", .ty "tuple"])) := ⟨fun s ⟨t, e, h⟩ => ⟨t, e, s _ _ h⟩⟩
  have ht : EE X σ S (.Tuple [.Name "list" p1, .Name "tuple" p2] x1 p3) (fun (w : V) (S : Hp) => ∃ t, w = .ref t ∧ S t = some (.tup [.ty "list", .ty "tuple"])) :=
    ee_tupA (vsP := fun vs _ => vs = [.ty "list", .ty "tuple"]) (fun H s Q q => (ea_2 (ee_bltn (P := fun w _ => w = .ty "list") (v := .ty "list") (u := .type "list") h1 (by first | rfl | decide +kernel | exact boot_list) rfl rfl hg1 (by decide) (by decide)) (ee_bltn (P := fun w _ => w = .ty "tuple") (v := .ty "tuple") (u := .type "tuple") h2 (by first | rfl | decide +kernel | exact boot_tuple) rfl rfl hg2 (by decide) (by decide)) rfl rfl).2 H s Q fun vs S' H' g al => q vs S' H' g (by
        obtain ⟨v, w, rfl, rfl, rfl⟩ := al.two
        rfl)) (fun vs _ e => by subst e; show 2 ≤ 16777216; decide) (fun vs S' t st ht e => by subst e; exact ⟨t, rfl, upd_same⟩)
  refine ee_callB call_isiT hm boot_isinstance (ea_2 ha ht hs rfl) (fun vs S1 H1 _ s al Q q => ?_) hg (he := hs) (hpl := by rfl)
  obtain ⟨v, w, rfl, pv, t, rfl, pw⟩ := al.two
  refine ⟨v, t, [.ty "list", .ty "tuple"], .type (tyN d), [.type "list", .type "tuple"], k, rfl, s _ _ pw, .cons (.ty "list") (.cons (.ty "tuple") .nil), tyX_of pv s, ?_, q _ S1 H1 (Gr.refl s) (.bl k)⟩
  subst hk
  refine kitAny_cons (kit_ty (isD_ok d (by simp))) (fun e => kitAny_cons (kit_ty (isD_ok d (by simp))) (fun e2 => ?_) (fun e2 => ?_)) (fun e => ?_)
  · rw [e, e2]; exact kitAny_nil
  · rw [e2]; simp
  · rw [e]; simp
/-- list(a): a new list -/
def NewL (K : PySem.W.Frag) (S : Hp) (ds : List PyData) : V → Hp → Prop := fun v S' => ∃ l xs, v = .ref l ∧ S l = none ∧ S' l = some (.lst xs) ∧ Dts K ds xs S' ∧ xs.length ≤ sizeLine
instance {K : PySem.W.Frag} {S : Hp} {ds : List PyData} : Mn (NewL K S ds) := ⟨fun s ⟨l, xs, e, h, h1, h2, z⟩ => ⟨l, xs, e, h, s _ _ h1, h2.up s, z⟩⟩
theorem NewL.dt {K : PySem.W.Frag} {S S' : Hp} {ds : List PyData} {v : V} (h : NewL K S ds v S') : Dt K (.list ds) v S' := by
  obtain ⟨l, xs, rfl, _, h1, h2, z⟩ := h
  exact Dt.lst_mk h1 h2 z
theorem NewL.dn {K : PySem.W.Frag} {S S0 S' : Hp} {ds : List PyData} {v : V} (s : Same S0 S) (h : NewL K S ds v S') : NewL K S0 ds v S' := by
  obtain ⟨l, xs, rfl, h0, h1, h2, z⟩ := h
  exact ⟨l, xs, rfl, s.free h0, h1, h2, z⟩
theorem ee_listN (hm : X.mg "list" = none) (hd : d = .list ds ∨ d = .tuple ds) (ha : EE X σ S a (Dt X.K d)) (hg : Gl X "list" := by rfl)
    (hs : starEach [a] X.env = (false, eval a X.env) :: starEach [] X.env := by rfl) : EE X σ S (.Call (.Name "list" p) [a] [] pos) (NewL X.K S ds) :=
  ee_callTy call_list_of hm boot_list (ea_1 ha hs) (fun vs S1 H1 st s al Q q => by
    obtain ⟨v, rfl, pv⟩ := al.one
    rcases hd with rfl | rfl
    · obtain ⟨l, xs, rfl, hl, hx, z⟩ := pv.lst_inv
      exact ⟨l, xs, rfl, .inl (sql_of (s _ _ hl)), fun t ht => q _ _ _ (Gr.new s ht) ⟨t, xs, rfl, st.free (s.free ht), upd_same, hx.up (Same.new (s.free ht)), z⟩⟩
    · obtain ⟨l, xs, rfl, hl, hx, z⟩ := pv.tup_inv
      exact ⟨l, xs, rfl, .inr (sqt_up s hl), fun t ht => q _ _ _ (Gr.new s ht) ⟨t, xs, rfl, st.free (s.free ht), upd_same, hx.up (Same.new (s.free ht)), z⟩⟩) hg (he := hs) (hpl := by rfl)
/-- (x,) * n -/
theorem tuple_mul1 (l : Addr) (items : Array Value) (n : Nat) (dd : Option Addr) (sl : Array (Option Value)) (u : Tok) :
    Meets (Builtin.«tuple.__mul__» ⟨[.ref l, .int 1 u], []⟩) (fun _ R s => s.heap.get? l = some { cls := .type "tuple", dict := dd, data := .seq items n, slots := sl } ∧ R (.ok (.ret (Value.ref l))) s) :=
  .of_wp fun prog w A R s h => by
    obtain ⟨hp, g, d, tk, os⟩ := s
    obtain ⟨hl, h⟩ := h
    have f1 := AutoSeq1.idx_int
    have c0 : (decide ((1 : Int) < -(2 ^ 63)) || decide ((1 : Int) ≥ 2 ^ 63)) = false := by decide
    have c1 : (items.isEmpty || (1 : Int) == 1) = true := by simp
    wp_walk using wpAny_loadPart' hl
    repeat (first
      | (refine wpAny_ite_false (decide_eq_false (by rw [c0]; exact Bool.false_ne_true)) ?_; wp_walk using wpAny_loadPart' hl)
      | (refine wpAny_ite_true (decide_eq_true c1) ?_; wp_walk using wpAny_loadPart' hl))
    exact ⟨_, rfl, h⟩
def rRep1 (K : PySem.W.Frag) : R2 := fun x y H Q => ∃ l xs, x = .ref l ∧ y = .int 1 ∧ SqT K H l xs ∧ Q (.ref l) H
theorem op_rep1 : OpR X (binaryOp .Mult) (rRep1 X.K) := by
  intro pins s σ H x y v u Q I rx ry h
  obtain ⟨l, xs, rfl, rfl, hT, q⟩ := h
  cases rx
  obtain ⟨t, rfl⟩ := ry
  obtain ⟨its, r, ⟨⟨cls, dd, data, sl⟩, ho, hc, n, hd⟩, hs⟩ := I.tuple hT
  simp only at hc hd
  subst hc hd
  refine wpAny_binaryOp_repeat_ref (T := "tuple") (U := "int") (by decide) ⟨_, ho, rfl⟩ (fun s' => typeIs_int s' 1 t) noFill_tuple_mul F.fills_int_mul F.slot_int_rmul repeat_tuple F.slot_int_index.lookup
    (call_meets F.slot_int_rmul (typeIs_int s 1 t) F.entry_int_rmul (F.args_int_rmul_2 _ _) (int_rmul_tuple 1 t l its.toArray n dd sl)
      ⟨ho, rfl, ⟨_, ho, rfl⟩, call_meets F.slot_tuple_mul ⟨_, ho, rfl⟩ F.entry_tuple_mul (F.args_tuple_mul_2 _ _) (tuple_mul1 l its.toArray n dd sl t) ⟨ho, ?_⟩⟩)
  exact ⟨.ref l, H, I, rfl, q⟩
theorem ee_repT {n : Nat} (hn : 1 ≤ n) (hz : n ≤ 1000) (hc : ds.length ≤ 1000) (hne : ds ≠ []) (ha : EE X σ S a (Dt X.K (.tuple ds))) (hb : EE X σ S b (Dt X.K (.int n))) : EE X σ S (.BinOp a .Mult b pos) (Dt X.K (.tuple (List.replicate n ds).flatten)) := by
  by_cases h1 : n = 1
  · subst h1
    refine (ee_op op_rep1 ha hb (R := Dt X.K (.tuple ds)) fun x y S1 H1 _ s px py Q q => ?_).isd (by simp)
    cases py
    obtain ⟨l, xs, rfl, hl, hx, z⟩ := px.tup_inv
    exact ⟨l, xs, rfl, rfl, sqt_up s hl, q _ S1 H1 (Gr.refl s) (Dt.tup_mk hl hx z)⟩
  · refine ee_op op_repT ha hb fun x y S1 H1 _ s px py Q q => ?_
    cases py
    obtain ⟨l, xs, rfl, hl, hx, z⟩ := px.tup_inv
    refine ⟨l, n, xs, rfl, rfl, sqt_up s hl, fun e => hne ?_, by omega, by omega, by rw [hx.1]; exact hc, fun t ht => q _ _ _ (Gr.new s ht) ?_⟩
    · have := hx.1; rw [e] at this; exact List.eq_nil_of_length_eq_zero this.symm
    · have e : ((n : Int)).toNat = n := by omega
      rw [e]
      refine Dt.tup_mk (sqt_of upd_same) ((flat_dts (d := .none) rfl hx _).up (Same.new (s.free ht))) ?_
      rw [flatten_len, hx.1]
      have : ds.length * n ≤ 1000 * 1000 := Nat.mul_le_mul hc hz
      show _ ≤ 16777216
      omega
/-- z[::-1] of a text -/
def revS (z : Str) : Str := ⟨z.cps.toList.reverse.toArray⟩
theorem ssi1 : Builtin.Str.strSliceIndices none none (-1) 1 = [0] := by decide +kernel
theorem ssi2 : Builtin.Str.strSliceIndices none none (-1) 2 = [1, 0] := by decide +kernel
theorem ssi3 : Builtin.Str.strSliceIndices none none (-1) 3 = [2, 1, 0] := by decide +kernel
theorem sliceBy_eq {z : Str} {u : Tok} {q : List Nat} (h : Builtin.Str.strSliceIndices none none (-1) z.length = q) : Txt.sliceBy z none none (-1, u) = ⟨(q.filterMap (z.cps[·]?)).toArray⟩ := by
  subst h
  rfl
theorem sliceBy_rev3 {z : Str} {u : Tok} (h : z.cps.size ≤ 3) : Txt.sliceBy z none none (-1, u) = revS z := by
  obtain ⟨⟨l⟩⟩ := z
  match l, h with
  | [], _ => rfl
  | [a], _ => exact (sliceBy_eq (z := ⟨⟨[a]⟩⟩) (u := u) (q := [0]) ssi1).trans rfl
  | [a, b], _ => exact (sliceBy_eq (z := ⟨⟨[a, b]⟩⟩) (u := u) (q := [1, 0]) ssi2).trans rfl
  | [a, b, c], _ => exact (sliceBy_eq (z := ⟨⟨[a, b, c]⟩⟩) (u := u) (q := [2, 1, 0]) ssi3).trans rfl
  | _ :: _ :: _ :: _ :: _, h => simp at h
def tRevS (te : TE) : TE := fun σ H Q => te σ H fun x H1 => ∃ z : Str, x = .str z ∧ z.cps.size ≤ 3 ∧ Q (.str (revS z)) H1
theorem pe_revS {e : Expr} {te : TE} {k : Nat} {p1 p2 p3 pos : Pos} (he : PE X e te) (ht : ∀ x t r, letTemporaryGo e (.str x t) r = pure () := by intro _ _ _; with_unfolding_all rfl)
    (hs : ∀ x t q, subscripted (.Slice none none (some (.UnaryOp .USub (.Constant (.int 1) k p1) p2)) p3) false (.str x t) (.ref q) = operate [.ref q, .str x t] (getItem (.str x t) (.ref q)) := by intro _ _ _; with_unfolding_all rfl) : PE X (.Subscript e (.Slice none none (some (.UnaryOp .USub (.Constant (.int 1) k p1) p2)) p3) pos) (tRevS te) := by
  refine ⟨fun pins s σ H Q I h => ?_⟩
  refine Subscript_ (thn (he.run pins s σ H _ I h) fun v s1 ⟨x, H1, I1, r1, q1⟩ => ?_)
  obtain ⟨z, rfl, hz, q⟩ := q1
  obtain ⟨t, rfl⟩ := r1
  have hst : PO X (some (.UnaryOp .USub (.Constant (.int 1) k p1) p2)) (tPart (tUn (rU fun i => .int (-i)) (tC (.int 1)))) := po_some (pe_un un_neg pe_int)
  refine wpAny_Slice (thn (po_none.run pins s1 σ H1 (fun o H2 => o = none ∧ H2 = H1) I1 ⟨rfl, rfl⟩) fun vl s2 ⟨l, H2, I2, pl, el, e2⟩ => ?_)
  subst el e2
  refine thn (po_none.run pins s2 σ H2 (fun o H3 => o = none ∧ H3 = H2) I2 ⟨rfl, rfl⟩) fun vu s3 ⟨u, H3, I3, pu, eu, e3⟩ => ?_
  subst eu e3
  refine thn (hst.run pins s3 σ H3 (fun o H4 => o = some (-1) ∧ H4 = H3) I3 ⟨1, rfl, -1, rfl, rfl, rfl⟩) fun vs s4 ⟨o, H4, I4, ps, eo, e4⟩ => ?_
  subst eo e4
  have el : vl = .none := by cases pl; rfl
  have eu : vu = .none := by cases pu; rfl
  obtain ⟨uk, es⟩ : ∃ uk, vs = .int (-1) uk := by cases ps; exact ⟨_, rfl⟩
  subst el eu es
  have I5 : Inv X pins σ H4 { s4 with heap := s4.heap.push { cls := .type "slice", data := .fields #[.none, .none, .int (-1) uk] } } := I4.kept (t' := s4.toks) fun b ob q => Heap.get?_push_of_some _ q
  have hsz : z.length ≤ sizeLine := Nat.le_trans hz (by show 3 ≤ 16777216; decide)
  refine tail_of_ItemOn ⟨"str", _, F.slot_str_getitem.lookup, typeIs_str _ _ _, wpAny_getItem_str_slice (l := none) (u := none) (st := some (-1, uk)) ⟨_, Heap.get?_push_size _ rfl, rfl, rfl⟩ (by rfl)
    (post_val_or_str ⟨Nat.le_trans (Txt.sliceBy_le z _ _ (-1, uk) (by simp)) hsz, fun t' c => ?_⟩)⟩ (hs _ _ _) (ht _ _)
  exact ⟨.str (revS z), H4, I5.tok _, ⟨t', by first | rfl | (have := sliceBy_rev3 (u := uk) hz; rw [← this]; rfl)⟩, q⟩
end
end Y

namespace Y
open PySem PySem.Spec PyProof.Rows L2 Z
section
variable {X : Cx} {σ : L2.St} {S S' H : Hp} {e a b c o : Expr} {es : List Expr} {P Pa Pb P0 P1 R : V → Hp → Prop} {Ps : List (V → Hp → Prop)} {pos p apos kpos : Pos} {i j l : Int} {d : PyData} {ds ds1 ds2 : List PyData} {k : Nat} {x m f kn : Str} {sp : Sp} {C dx r : Addr} {D : Ends} {rest : List Stmt}
/-! ### o.m(k = e) -/
structure KMK (P : Program) (w : World) (K : PySem.W.Frag) (mg : Str → Option Value) (base : Heap) (C : Addr) (m kn : Str) (k : Nat) (sp : Sp) : Prop where
  ex : ∃ f fd ps, FnOk P w K mg base CX0 k f fd ps sp ∧ PySem.W.findIn K (.ref C) m = some (some (.ref f)) ∧ PySem.W.isFn K (.ref f) = true ∧ PySem.W.keepIn K (.ref f) = true ∧ KBn K fd ps 1 [kn] (fun us ws => us ++ ws) (fun vs zs => vs ++ zs)
theorem run_fnK {CX : CXT} {k n : Nat} {f : Addr} {fd : FuncData} {ps ks : List Str} {E : XK} {pins : List (Addr × Obj)} {s : Shared} {Q : VK} {us ws : List Value} {vs zs : List V} {g : List Value → List Value → List Value} {gV : List V → List V → List V} (F : FnOk X.prog X.w X.K X.mg X.base CX k f fd ps sp) (hr : Room k X.A) (hb : KBn X.K fd ps n ks g gV) (hx : Passes CX X E)
    (I : Inv X pins σ H s) (r : Vals vs us) (rz : Vals zs ws) (l1 : vs.length = n) (l2 : zs.length = ks.length) (h : sp (gV vs zs) H Q E) : wpAny (model X.prog X.w) X.A (call (.ref f) us (ks.zip ws)) (EP X pins σ Q) X.xe s := by
  have r2 := hb.rel r rz
  refine wpAny_call (codeAny_mono (F.run X.A X.stack s H ⟨us, ks.zip ws⟩ (g us ws) (gV vs zs) Q E hr I.env0 (hb.to s us ws I.kIn (r.length.symm.trans l1) (rz.length.symm.trans l2)) r2 h) fun r s' hq => ?_)
  cases r with
  | error e => exact hx pins σ H s e s' I hq
  | ok fl =>
    cases fl with
    | ret u => exact I.after hq
    | next => exact False.elim hq
    | brk => exact False.elim hq
    | cont => exact False.elim hq
theorem ee_methK {pl : Sem Bool} (D : KMK X.prog X.w X.K X.mg X.base C m kn k sp) (c : Cls X.K C) (hr : Room k X.A) (ho : EE X σ S o P0) [Mn P0] [Mn P1] (hP : InsP C m P0) (ha : EE X σ S e P1) (hsp : SpE sp S [P0, P1] R)
    (hall : (backToKw pos (keywordEach [⟨some kn, e, kpos⟩] X.env)).all (·.1.isSome) = true := by rfl) (hks : (backToKw pos (keywordEach [⟨some kn, e, kpos⟩] X.env)).filterMap (·.1) = [kn] := by rfl)
    (hpl : ((backTo pos (starEach [] X.env)).any (·.1) || (backToKw pos (keywordEach [⟨some kn, e, kpos⟩] X.env)).any (·.1.isNone)) = false := by rfl)
    (ht : eval (.Call (.Attribute o m apos) [] [⟨some kn, e, kpos⟩] pos) X.env = (do
      let ov ← eval o X.env
      standAt apos.atName
      let (f, first) ← holding [ov] (getMethod ov m pl)
      callWith pos f first (backTo pos (starEach [] X.env)) (backToKw pos (keywordEach [⟨some kn, e, kpos⟩] X.env))) := by rfl) : EE X σ S (.Call (.Attribute o m apos) [] [⟨some kn, e, kpos⟩] pos) R := fun H s Q q => by
  obtain ⟨f, fd, ps, F, hm, hf, hk, hb⟩ := D.ex
  intro pins s0 I
  refine PySem.W.methodCall_KW (pl := pl) (thn (ho H s (fun w H1 => ∃ S1, Gr S H S1 H1 ∧ P0 w S1) (fun v S1 H1 g1 pw => ⟨S1, g1, pw⟩) pins s0 I) fun u s1 ⟨w, H1, I1, rx, S1, g1, pw⟩ => ?_) ht
  obtain ⟨a, dx, fs, rfl, h1, h2⟩ := hP w S1 pw
  obtain rfl : u = Value.ref a := rx
  refine getmeth_ok I1 (g1.sub _ _ h1) c ⟨hm, hf, hk⟩ h2 ?_
  refine PySem.W.callWith_KW0 (h₀ := X.base) (first := [.ref a]) I.ok.mod.kin hk hall ?_ hpl
  refine thn ((pk_cons (te := bE X e) (t := tNil) peb pk_nil).run pos pins s1 σ H1 (fun zs H2 => ∃ v S2, zs = [v] ∧ Gr S1 H1 S2 H2 ∧ P1 v S2) I1 ((ha.up g1.st) H1 g1.sub _ fun v S2 H2 g2 pv => ⟨v, S2, rfl, g2, pv⟩)) fun ws s2 ⟨zs, H2, I2, rz, v, S2, ez, g2, pv⟩ => ⟨I2.kIn, ?_⟩
  subst ez
  rw [hks]
  exact run_fnK (us := [.ref a]) (vs := [.ref a]) (zs := [v]) F hr hb pass0 I2 (.cons rfl .nil) rz rfl rfl (hsp _ S2 H2 (g1.st.trans g2.st) g2.sub (.cons (Mn.up g2.st pw) (.cons pv .nil)) Q fun v S3 H3 g3 rv => q v S3 H3 ((g1.trans g2).trans g3) rv)
/-! ### a def with a star parameter -/
structure KMS (P : Program) (w : World) (K : PySem.W.Frag) (mg : Str → Option Value) (base : Heap) (C : Addr) (m : Str) (k : Nat) (sp : Sp) : Prop where
  ex : ∃ f, FnR P w K mg base CX0 k f sp ∧ PySem.W.findIn K (.ref C) m = some (some (.ref f)) ∧ PySem.W.isFn K (.ref f) = true ∧ PySem.W.keepIn K (.ref f) = true
theorem ee_methS {pl : Sem Bool} (D : KMS X.prog X.w X.K X.mg X.base C m k sp) (c : Cls X.K C) (hr : Room k X.A) (ho : EE X σ S o P0) [Mn P0] (hP : InsP C m P0) (ha : EA X σ S (e :: es) Ps) (hsp : SpE sp S (P0 :: Ps) R)
    (hst : starEach (e :: es) X.env = (false, eval e X.env) :: starEach es X.env := by rfl) (hpl : (backTo pos (starEach es X.env)).any (·.1) = false := by rfl)
    (ht : eval (.Call (.Attribute o m apos) (e :: es) [] pos) X.env = (do
      let ov ← eval o X.env
      standAt apos.atName
      let (f, first) ← holding [ov] (getMethod ov m pl)
      callWith pos f first (backTo pos (starEach (e :: es) X.env)) (backToKw pos (keywordEach [] X.env))) := by rfl) : EE X σ S (.Call (.Attribute o m apos) (e :: es) [] pos) R := fun H s Q q => by
  obtain ⟨f, F, hm, hf, hk⟩ := D.ex
  refine he_of (pe_methR peb c ⟨hm, hf, hk⟩ F hr pass0 pab hst hpl ht) (ho H s _ fun w S1 H1 g1 pw => ?_)
  obtain ⟨a, dx, fs, rfl, h1, h2⟩ := hP w S1 pw
  refine ⟨a, dx, fs, rfl, g1.sub _ _ h1, h2, (ha.up g1.st).2 H1 g1.sub _ fun vs S2 H2 g2 al => ?_⟩
  exact hsp _ S2 H2 (g1.st.trans g2.st) g2.sub (.cons (Mn.up g2.st pw) al) Q fun v S3 H3 g3 rv => q v S3 H3 ((g1.trans g2).trans g3) rv
theorem ee_methS0 {pl : Sem Bool} (D : KMS X.prog X.w X.K X.mg X.base C m k sp) (c : Cls X.K C) (hr : Room k X.A) (ho : EE X σ S o P0) (hP : InsP C m P0) (hsp : SpE sp S [P0] R)
    (ht : eval (.Call (.Attribute o m apos) [] [] pos) X.env = (do
      let ov ← eval o X.env
      standAt apos.atName
      let (f, first) ← holding [ov] (getMethod ov m pl)
      callWith pos f first (backTo pos (starEach [] X.env)) (backToKw pos (keywordEach [] X.env))) := by rfl) : EE X σ S (.Call (.Attribute o m apos) [] [] pos) R := fun H s Q q => by
  obtain ⟨f, F, hm, hf, hk⟩ := D.ex
  intro pins s0 I
  refine PySem.W.methodCall_KW (pl := pl) (thn (ho H s (fun w H1 => ∃ S1, Gr S H S1 H1 ∧ P0 w S1) (fun v S1 H1 g1 pw => ⟨S1, g1, pw⟩) pins s0 I) fun u s1 ⟨w, H1, I1, rx, S1, g1, pw⟩ => ?_) ht
  obtain ⟨a, dx, fs, rfl, h1, h2⟩ := hP w S1 pw
  obtain rfl : u = Value.ref a := rx
  refine getmeth_ok I1 (g1.sub _ _ h1) c ⟨hm, hf, hk⟩ h2 ?_
  exact PySem.W.callWith_K0 (first := [.ref a]) I1.kIn hk (wpAny_call (run_fnR (us := [.ref a]) (vs := [.ref a]) F hr pass0 I1 (.cons rfl .nil) (hsp _ S1 H1 g1.st g1.sub (.cons pw .nil) Q fun v S3 H3 g3 rv => q v S3 H3 (g1.trans g3) rv)))
/-! ### f-strings -/
inductive EJ (X : Cx) (σ : L2.St) (S : Hp) : List Expr → List Str → Prop
  | nil : EJ X σ S [] []
  | cons {e : Expr} {es : List Expr} {y : Str} {ys : List Str} : EE X σ S e (Dt X.K (.str y)) → EJ X σ S es ys → EJ X σ S (e :: es) (y :: ys)
theorem EJ.pj {es : List Expr} {ys : List Str} (h : EJ X σ S es ys) : PJ X es (es.map (bE X)) := by
  induction h with
  | nil => exact .nil
  | cons _ _ ih => exact .cons peb ih
theorem EJ.run {es : List Expr} {ys : List Str} (h : EJ X σ S es ys) : ∀ (acc : Str) (S1 H1 : Hp) (Q : Str → Hp → Prop), Same S S1 → Same S1 H1 → acc.length + (ys.map (·.length)).sum ≤ sizeLine → (∀ S2 H2, Gr S1 H1 S2 H2 → Q (ys.foldl (· ++ ·) acc) H2) → tJs (es.map (bE X)) acc σ H1 Q := by
  induction h with
  | nil => intro acc S1 H1 Q _ s _ q; exact q S1 H1 (Gr.refl s)
  | @cons e es y ys he _ ih =>
    intro acc S1 H1 Q st s hz q
    rw [List.map_cons, List.sum_cons] at hz
    have el : (acc ++ y).length = acc.length + y.length := by
      show (acc.cps ++ y.cps).size = _
      rw [Array.size_append]; rfl
    refine (he.up st) H1 s _ fun v S2 H2 g2 pv => ?_
    cases pv
    exact ⟨y, rfl, by rw [el]; omega, ih (acc ++ y) S2 H2 Q (st.trans g2.st) g2.sub (by rw [el]; omega) fun S3 H3 g3 => q S3 H3 (g2.trans g3)⟩
theorem ee_joined {v1 v2 : Expr} {rest : List Expr} {ys : List Str} (h : EJ X σ S (v1 :: v2 :: rest) ys) (hz : (ys.map (·.length)).sum ≤ sizeLine) : EE X σ S (.JoinedStr (v1 :: v2 :: rest) pos) (Dt X.K (.str (ys.foldl (· ++ ·) Str.empty))) := fun H s Q q =>
  he_of (pe_joined h.pj) (h.run Str.empty S H _ (Same.refl S) s (by show 0 + _ ≤ _; omega) fun S2 H2 g => q _ S2 H2 g (.str _))
theorem ee_fmtS {y : Str} (hz : y.length ≤ sizeLine) (h : EE X σ S e (Dt X.K (.str y))) : EE X σ S (.FormattedValue e (-1) none pos) (Dt X.K (.str y)) := fun H s Q q =>
  he_of (pe_fmt peb) (h H s _ fun v S1 H1 g pv => by cases pv; exact .inl ⟨y, rfl, hz, q _ S1 H1 g (.str _)⟩)
theorem ee_fmtI (hz : i.natAbs.log2 < 1920) (h : EE X σ S e (Dt X.K (.int i))) : EE X σ S (.FormattedValue e (-1) none pos) (Dt X.K (.str (toString i))) := fun H s Q q =>
  he_of (pe_fmt peb) (h H s _ fun v S1 H1 g pv => by cases pv; exact .inr ⟨i, rfl, hz, q _ S1 H1 g (.str _)⟩)
/-! ### [*a, *b] -/
theorem ee_lst2 {p1 p2 : Pos} {d1 d2 : PyData} (h1 : d1 = .list ds1 ∨ d1 = .tuple ds1) (h2 : d2 = .list ds2 ∨ d2 = .tuple ds2) (hz : ds1.length + ds2.length ≤ sizeLine) (ha : EE X σ S a (Dt X.K d1)) (hb : EE X σ S b (Dt X.K d2)) (hs1 : starEach [.Starred a p1, .Starred b p2] X.env = (true, eval a X.env) :: starEach [.Starred b p2] X.env := by rfl) (hs2 : starEach [.Starred b p2] X.env = (true, eval b X.env) :: starEach [] X.env := by rfl) :
    EE X σ S (.List [.Starred a p1, .Starred b p2] pos) (Dt X.K (.list (ds1 ++ ds2))) := by
  have key : ∀ {d : PyData} {ds : List PyData} {v : V} {S1 H1 : Hp}, (d = .list ds ∨ d = .tuple ds) → Same S1 H1 → Dt X.K d v S1 → ∃ p xs, v = .ref p ∧ (SqT X.K H1 p xs ∨ SqL X.K H1 p xs) ∧ Dts X.K ds xs S1 := by
    intro d ds v S1 H1 hd s pv
    rcases hd with rfl | rfl
    · obtain ⟨l, xs, rfl, hl, hx, _⟩ := pv.lst_inv
      exact ⟨l, xs, rfl, .inr (sql_of (s _ _ hl)), hx⟩
    · obtain ⟨l, xs, rfl, hl, hx, _⟩ := pv.tup_inv
      exact ⟨l, xs, rfl, .inl (sqt_up s hl), hx⟩
  refine ee_lstA (vsP := fun vs S' => Dts X.K (ds1 ++ ds2) vs S') (fun H s Q q => ?_) (fun vs S' h => by rw [h.1, List.length_append]; exact hz) (fun vs S' p st hp h => Dt.lst_mk upd_same (h.up (Same.new hp)) (by rw [h.1, List.length_append]; exact hz))
  refine ha_of (StX.pa_star (te := bE X a) (t := StX.tStar X.K (bE X b) tNil) peb (StX.pa_star peb pa_nil hs2) hs1) (ha H s _ fun v S1 H1 g1 pv => ?_)
  obtain ⟨p, xs, rfl, hp, hx⟩ := key h1 g1.sub pv
  refine ⟨p, xs, rfl, hp, (hb.up g1.st) H1 g1.sub _ fun w S2 H2 g2 pw => ?_⟩
  obtain ⟨p', ys, rfl, hp', hy⟩ := key h2 g2.sub pw
  exact ⟨p', ys, rfl, hp', by
    show Q (xs ++ (ys ++ [])) H2
    rw [List.append_nil]
    exact q _ S2 H2 (g1.trans g2) ((hx.up g2.st).append hy)⟩
/-! ### a new list is changed -/
def del (S : Hp) (l : Addr) : Hp := fun a => if a = l then none else S a
theorem del_self {S : Hp} {l : Addr} : del S l l = none := by unfold del; rw [if_pos rfl]
theorem del_ne {S : Hp} {l a : Addr} (h : a ≠ l) : del S l a = S a := by unfold del; rw [if_neg h]
theorem del_sub {S : Hp} {l : Addr} : Same (del S l) S := fun a o h => by
  by_cases e : a = l
  · subst e; rw [del_self] at h; cases h
  · rw [del_ne e] at h; exact h
theorem Gr.cut {Sb Hb S H : Hp} {l : Addr} {o : HO} (g : Gr Sb Hb S H) (sb : Same Sb Hb) (h : Hb l = none) : Gr Sb Hb (del S l) (upd H l o) := by
  have hs : Sb l = none := sb.free h
  exact ⟨fun a u e => by
    have ne : a ≠ l := fun z => by subst z; rw [hs] at e; cases e
    rw [del_ne ne]; exact g.st a u e, fun a u e => by
    by_cases ne : a = l
    · subst ne; rw [del_self] at e; cases e
    · rw [del_ne ne] at e; rw [upd_ne ne]; exact g.sub a u e, fun a u e => by
    have ne : a ≠ l := fun z => by subst z; rw [h] at e; cases e
    rw [upd_ne ne]; exact g.hh a u e, fun a u e => by
    have ne : a ≠ l := fun z => by subst z; rw [h] at e; cases e
    rw [del_ne ne]; exact g.old a u e⟩
/-- a new list's address is not in what stood -/
theorem Gr.isnew {Sb Hb S H : Hp} {l : Addr} {o : HO} (g : Gr Sb Hb S H) (h0 : Sb l = none) (h1 : S l = some o) : Hb l = none := by
  cases e : Hb l with
  | none => rfl
  | some u => have := g.old l u e; rw [h0, h1] at this; cases this
theorem mts {id : String} {r : V → List V → Hp → VK → Prop} (h : MtM X id r) : MtR X id r := h
/-- o.clear(), o the list at l -/
theorem hs_clear {xs : List V} {lp : Addr} (ho : EE X σ S o (fun w _ => w = .ref lp)) (s : Same S H) (hl : S lp = some (.lst xs)) (q : ∀ S' H', Gr S H S' H' → HS X D rest σ (upd H' lp (.lst []))) (hbase : attributeBase o "clear" X.env (eval o X.env) = eval o X.env := by rfl) (hline : (apos.endLine == p.line) = true := by rfl) (hs : swapsWith (.Call (.Attribute o "clear" apos) [] [] p) none pos.line X.env = pure false := by rfl) : HS X D (.Expr (.Call (.Attribute o "clear" apos) [] [] p) pos :: rest) σ H :=
  hs_cons (ps_expr (pe_bm0 PySem.F.plainAttrs_list PySem.F.slot_list_clear PySem.F.type_list_clear mt_clear peb hbase hline) hs) (ho H s _ fun w S1 H1 g1 pw => by
    subst pw
    have e := g1.sub _ _ (g1.st _ _ hl)
    exact ⟨.inl ⟨rfl, _, .inl (.inl e)⟩, lp, xs, rfl, rfl, e, q S1 H1 g1⟩)
/-- o.append(e), o a new list -/
theorem hs_append {ds : List PyData} (ho : EE X σ S o (NewL X.K S ds)) (s : Same S H) (hz : ds.length < 1000) [Mn P] (ha : EE X σ S e P) (q : ∀ l xs v S' H', Gr S H S' H' → S l = none → S' l = some (.lst xs) → HS X D rest σ (upd H' l (.lst (xs ++ [v])))) (hbase : attributeBase o "append" X.env (eval o X.env) = eval o X.env := by rfl) (hline : (apos.endLine == p.line) = true := by rfl)
    (hs : swapsWith (.Call (.Attribute o "append" apos) [e] [] p) none pos.line X.env = pure false := by rfl) (hst : starEach [e] X.env = (false, eval e X.env) :: starEach [] X.env := by rfl)
    (hfew : ((backTo p (starEach [e] X.env)).all (fun x => !x.1) && (backToKw p (keywordEach [] X.env)).all (fun x => x.1.isSome) && decide ([e].length + ([] : List Keyword).length + (if ([] : List Keyword).isEmpty then 0 else 1) < 30)) = true := by rfl) : HS X D (.Expr (.Call (.Attribute o "append" apos) [e] [] p) pos :: rest) σ H :=
  hs_cons (ps_expr (pe_bm PySem.F.plainAttrs_list PySem.F.slot_list_append PySem.F.type_list_append mt_append peb (pa_cons (te := bE X e) (t := tNil) peb pa_nil hst) hbase hfew hline hst (by rfl)) hs) (ho H s _ fun w S1 H1 g1 pw => by
    obtain ⟨l, xs, rfl, h0, h1, h2, h3⟩ := pw
    refine ⟨.inl ⟨rfl, _, .inl (.inl (g1.sub _ _ h1))⟩, ?_⟩
    exact (ha.up g1.st) H1 g1.sub _ fun v S2 H2 g2 pv => ⟨l, xs, v, rfl, rfl, g2.sub _ _ (g2.st _ _ h1), by rw [h2.1]; show _ < 16777216; omega, q l xs v S2 H2 (g1.trans g2) h0 (g2.st _ _ h1)⟩)
end
end Y

namespace Y
open PySem PySem.Spec PyProof.Rows L2 Z
section
variable {X : Cx} {σ : L2.St} {S S' H : Hp} {a b e : Expr} {Pa Pb : V → Hp → Prop} {pos p px py pt : Pos} {D : Ends} {rest : List Stmt} {x y : Str} {i j kt : Nat}
/-- x, y = a, b by a pair -/
theorem hs_unp2 [Mn Pa] [Mn Pb] {x1} (hc : X.calm = true) (hN : X.N.Nodup) (ha : EE X σ S a Pa) (hb : EE X σ S b Pb) (s : Same S H)
    (q : ∀ v w S' H', Pa v S' → Pb w S' → Gr S H S' H' → HS X D rest ((σ.set i (some v)).set j (some w)) H')
    (hi : X.N[i]? = some x := by rfl) (hj : X.N[j]? = some y := by rfl) (hx : Loc X.env.scope x := by first | exact Or.inl rfl | exact Or.inr rfl) (hy : Loc X.env.scope y := by first | exact Or.inl rfl | exact Or.inr rfl)
    (hfx : X.fn x = true ∨ X.env.scope.names.lookup x = some .local := by first | exact .inl rfl | exact .inr rfl) (hfy : X.fn y = true ∨ X.env.scope.names.lookup y = some .local := by first | exact .inl rfl | exact .inr rfl)
    (hn : (assignEach [.Name x px, .Name y py] X.env).length = 2 := by rfl) (hst : (assignEach [.Name x px, .Name y py] X.env).findIdx? (·.1) = none := by rfl)
    (h1 : (assignEach [.Name x px, .Name y py] X.env).map (·.2) = assign (.Name x px) X.env :: (assignEach [.Name y py] X.env).map (·.2) := by rfl) (h2 : (assignEach [.Name y py] X.env).map (·.2) = assign (.Name y py) X.env :: (assignEach [] X.env).map (·.2) := by rfl)
    (hss : swapsWithSole [.Tuple [.Name x px, .Name y py] kt pt] (.Tuple [a, b] x1 p) pos.line X.env = pure false := by rfl) (hw : swappedStores [.Tuple [.Name x px, .Name y py] kt pt] (.Tuple [a, b] x1 p) X.env = pure none := by rfl)
    (h3 : (assignEach [.Tuple [.Name x px, .Name y py] kt pt] X.env).map (·.2) = [assign (.Tuple [.Name x px, .Name y py] kt pt) X.env] := by rfl)
    (hs1 : starEach [a, b] X.env = (false, eval a X.env) :: starEach [b] X.env := by rfl) (hs2 : starEach [b] X.env = (false, eval b X.env) :: starEach [] X.env := by rfl) : HS X D (.Assign [.Tuple [.Name x px, .Name y py] kt pt] (.Tuple [a, b] x1 p) pos :: rest) σ H := by
  have ht : EE X σ S (.Tuple [a, b] x1 p) (fun v S' => ∃ l v1 v2, v = .ref l ∧ S' l = some (.tup [v1, v2]) ∧ Pa v1 S' ∧ Pb v2 S') :=
    ee_tupA (vsP := fun vs S' => ∃ v1 v2, vs = [v1, v2] ∧ Pa v1 S' ∧ Pb v2 S') (fun H s Q q => (ea_2 ha hb hs1 hs2).2 H s Q fun vs S' H' g al => q vs S' H' g (by
      obtain ⟨v, w, rfl, p1, p2⟩ := al.two
      exact ⟨v, w, rfl, p1, p2⟩)) (fun vs _ ⟨_, _, e, _⟩ => by subst e; show 2 ≤ 16777216; decide) (fun vs S' t st ht ⟨v1, v2, e, p1, p2⟩ => by subst e; exact ⟨t, v1, v2, rfl, upd_same, Mn.up (Same.new ht) p1, Mn.up (Same.new ht) p2⟩)
  exact hs_cons (ps_asg peb pgb hss hw h3) (ht H s _ fun v S' H' g ⟨l, v1, v2, e, hl, p1, p2⟩ => by
    subst e
    exact hg_of (pg_tup hc (pgs_cons (pg_name hN hi hx hfx) (pgs_cons (pg_name hN hj hy hfy) pgs_nil h2) h1) hn hst) ⟨l, _, rfl, .inl (.inl (g.sub _ _ hl)), rfl, _, _, rfl, _, _, rfl, rfl, q v1 v2 S' H' p1 p2 g⟩)
/-- what stood ahead of l -/
theorem Same.cut {S0 S1 : Hp} {l : Addr} (s : Same S0 S1) (h : S0 l = none) : Same S0 (del S1 l) := fun z o e => by
  have ne : z ≠ l := fun q => by subst q; rw [h] at e; cases e
  rw [del_ne ne]; exact s z o e
end
end Y
namespace Y
open PySem PySem.Spec PyProof.Rows L2 Z
theorem ee_revS {X : Cx} {σ : L2.St} {S : Hp} {e : Expr} {k : Nat} {p1 p2 p3 pos : Pos} {z : Str} (he : EE X σ S e (Dt X.K (.str z))) (hz : z.cps.size ≤ 3) (ht : ∀ x t r, letTemporaryGo e (.str x t) r = pure () := by intro _ _ _; with_unfolding_all rfl)
    (hs : ∀ x t q, subscripted (.Slice none none (some (.UnaryOp .USub (.Constant (.int 1) k p1) p2)) p3) false (.str x t) (.ref q) = operate [.ref q, .str x t] (getItem (.str x t) (.ref q)) := by intro _ _ _; with_unfolding_all rfl) : EE X σ S (.Subscript e (.Slice none none (some (.UnaryOp .USub (.Constant (.int 1) k p1) p2)) p3) pos) (Dt X.K (.str (revS z))) := fun H s Q q =>
  he_of (pe_revS peb ht hs) (he H s _ fun v S1 H1 g pv => by cases pv; exact ⟨z, rfl, hz, q _ S1 H1 g (.str _)⟩)
end Y

namespace Y
open PySem PySem.Spec PyProof.Rows L2 Z
/-! ## own errors -/
/-- what the __init__ of an own error promises: its field, its code -/
def spXI (C : Addr) (fname code : Str) : Sp := fun vs H Q _ => ∃ a v, vs = [.ref a, v] ∧ H a = some (exo a C none) ∧ ∀ dx, H dx = none → dx ≠ a → Q .non (upd (upd (upd H dx (exd dx [(fname, v)])) a (exo a C (some dx))) dx (exd dx [("code", .str code), (fname, v)]))
/-- an own error, ready to be raised -/
structure Err (P : Program) (w : World) (K : PySem.W.Frag) (mg : Str → Option Value) (base : Heap) (x : Str) (C : Addr) (fname code : Str) : Prop where
  T : OexC K C
  gl : mg x = some (.ref C)
  ex : ∃ fI fd ps, PySem.W.findIn K (.ref C) "__init__" = some (some (.ref fI)) ∧ PySem.W.typeIn K (.ref fI) = some (.type "function") ∧ FnOk P w K mg base CX0 1 fI fd ps (spXI C fname code) ∧ Binds K fd ps []
section
variable {X : Cx} {σ : L2.St} {S S' H : Hp} {e : Expr} {Pv : V → Hp → Prop} {pos p pos2 : Pos} {D : Ends} {rest : List Stmt} {x fname code : Str} {C : Addr} {E : XK} {W : WX}
/-- raise C(e) -/
theorem hs_raiseO (hc : X.calm = true) (tk : Takes X (fun cls d _ H => E cls d H)) (R : Err X.prog X.w X.K X.mg X.base x C fname code) (hr : Room 2 X.A) (ha : EE X σ S e Pv) (s : Same S H)
    (q : ∀ v S1 H1 d H3, Gr S H S1 H1 → Pv v S1 → H1 d = none → Same (upd S1 d (.xd [("code", .str code), (fname, v)])) H3 → Same H1 H3 → E (.ref C) (some d) H3) (hg : Gl X x := by rfl)
    (hdb : (x == ("__debug__" : Str)) = false := by decide) (he : starEach [e] X.env = (false, eval e X.env) :: starEach [] X.env := by rfl) (hpl : (backTo pos (starEach [] X.env)).any (·.1) = false := by rfl) : HS X D (.Raise (some (.Call (.Name x p) [e] [] pos)) none pos2 :: rest) σ H := by
  obtain ⟨fI, fd, ps, iC, tI, F1, hb⟩ := R.ex
  refine hs_cons (ps_raise hc tk (pmk_oex R.T iC tI F1 hr hb .nil pass0 hg R.gl (pa_cons (te := bE X e) (t := tNil) peb pa_nil he) hdb he hpl)) (ha H s _ fun v S1 H1 g1 pv => ?_)
  refine ⟨by show 1 ≤ 1000; decide, fun a ha0 => ⟨a, v, rfl, upd_same, fun dx hdx hne => ⟨rfl, dx, [("code", .str code), (fname, v)], ?_, upd_same, ?_, ?_⟩⟩⟩
  · rw [upd_ne (Ne.symm hne), upd_same]
  · rw [upd_ne hne] at hdx; exact hdx
  · rw [upd_ne hne] at hdx
    have key : ∀ z o, H1 z = some o → upd (L2.del (upd (upd (upd (upd H1 a (exo a C none)) dx (exd dx [(fname, v)])) a (exo a C (some dx))) dx (exd dx [("code", .str code), (fname, v)])) a) dx (.xd [("code", .str code), (fname, v)]) z = some o := fun z o hz => by
      have n1 : z ≠ a := ne_of_none hz ha0
      have n2 : z ≠ dx := ne_of_none hz hdx
      rw [upd_ne n2, L2.del_ne n1, upd_ne n2, upd_ne n1, upd_ne n2, upd_ne n1]; exact hz
    refine q v S1 H1 dx _ g1 pv hdx (fun z o hz => ?_) key
    by_cases hzd : z = dx
    · subst hzd; rw [upd_same] at hz ⊢; exact hz
    · rw [upd_ne hzd] at hz; exact key z o (g1.sub _ _ hz)
/-- f(e, ..) that raises -/
theorem hs_callX {k : Nat} {sp : Sp} {es : List Expr} {Ps : List (V → Hp → Prop)} {fx : Str} (tk : Takes X (fun cls d _ H => E cls d H)) (D1 : ∃ f fd ps, FnOk X.prog X.w X.K X.mg X.base (L2.CX X.prog X.w) k f fd ps sp ∧ X.mg fx = some (.ref f) ∧ PySem.W.keepIn X.K (.ref f) = true ∧ Binds X.K fd ps []) (hr : Room k X.A) (ha : EA X σ S (e :: es) Ps) (s : Same S H)
    (q : ∀ vs S1 H1, Gr S H S1 H1 → Al Ps vs S1 → ∀ Q, sp vs H1 Q E) (hg : Gl X fx := by rfl) (hdb : (fx == ("__debug__" : Str)) = false := by decide)
    (he : starEach (e :: es) X.env = (false, eval e X.env) :: starEach es X.env := by rfl) (hpl : (backTo pos (starEach es X.env)).any (·.1) = false := by rfl) (hs : swapsWith (.Call (.Name fx p) (e :: es) [] pos) none pos2.line X.env = pure false := by rfl) : HS X D (.Expr (.Call (.Name fx p) (e :: es) [] pos) pos2 :: rest) σ H := by
  obtain ⟨f, fd, ps, F, hm, hk, hb⟩ := D1
  refine hs_cons (ps_expr (pe_call F hr hg hm hk hb .nil (passes_call tk fun _ _ _ _ h => h) pab hdb he hpl) hs) (ha.2 H s _ fun vs S1 H1 g1 al => ?_)
  rw [List.append_nil]
  exact q vs S1 H1 g1 al _
end
/-- a def that may raise, by its body -/
theorem fn_hsX {P : Program} {w : World} {K : PySem.W.Frag} {mg : Str → Option Value} {base : Heap} {x qual : Str} {params : Arguments} {body : List Stmt} {scope : Scope} {dvs : List V} {kws : List (Str × V)} {f : Addr} {fd : FuncData} {N ps : List Str} {k : Nat} {sp : Sp}
    (F : FunD K x qual params body scope dvs kws f fd) (Sc : FnScope N ps scope) (len : ∀ vs H Q E, sp vs H Q E → vs.length = ps.length)
    (hb : ∀ (cdv : Value) (A : Around) (outer : List Env) (s : Shared) (H : Hp) (vs : List V) (Q : VK) (E : XK), Room k (A.deeper (envOfC qual scope s.heap.objs.size f cdv)) → sp vs H Q E →
      Takes (cxOf (L2.CX P w) P w K mg base N qual scope f cdv A outer s H E) (fun cls d _ H' => E cls d H') →
      HS (cxOf (L2.CX P w) P w K mg base N qual scope f cdv A outer s H E) { nx := fun _ H' => Q .non H', rt := Q } body (start N vs) H) : FnOk P w K mg base (L2.CX P w) (k + 1) f fd ps sp :=
  F.ok Sc len fun cdv A outer s H vs Q E hr h => ⟨_, psb, hb cdv A outer s H vs Q E hr h (takes_of rfl rfl rfl rfl)⟩
end Y

namespace Y
open PySem PySem.Spec PyProof.Rows L2 Z
/-! ## try: .. except (A, B, C) as e: .. (the outline of the catch follows HandS.Exc's ps_try_as) -/
theorem flying_kept {B h h' : Heap} {l : List Env} {e : Addr} {Z : Obj → Prop} (x : HandSPX.FlyingZ B l e Z h) (k : ∀ b o, h.get? b = some o → h'.get? b = some o) : HandSPX.FlyingZ B l e Z h' := by
  obtain ⟨x1, x2, x3, oe, vs, T, oT, ts, he, hz, hd, h1, hn, hTe, hT, hdT, h3⟩ := x
  exact ⟨fun b o e => k b o (x1 b o e), x2, x3.of_keeps fun b o hb _ => ⟨o, k b o hb, rfl⟩, oe, vs, T, oT, ts, k _ _ he, hz, hd, h1, hn, hTe, k _ _ hT, hdT, h3⟩
theorem up_kept {h h' : Heap} (k : ∀ b o, h.get? b = some o → h'.get? b = some o) : h.UpToSlots h' := fun b o hb _ => ⟨o.slots, k b o hb⟩
/-- the test of a clause: it lays new objects at most, and answers b for exceptions of the class cls -/
def Tst (X : Cx) (t : Expr) (cls : Value) (b : Bool) : Prop := ∀ (a : Addr) (pn : List (Addr × Obj)) (σ : L2.St) (H : Hp) (s : Shared) (E : Value → Shared → Prop) (Q : Value → Shared → Prop), Inv (X.suite a pn) [] σ H s →
  PySem.W.Looks (model X.prog X.w) s.heap (typeOf (.ref a)) cls → (∀ c h', (∀ b o, s.heap.get? b = some o → h'.get? b = some o) → PySem.W.Looks (model X.prog X.w) h' (excMatches (.ref a) c) b → Q c { s with heap := h' }) →
  wpAny (model X.prog X.w) (X.A.mark (some (.ref a))) (eval t X.env) Q E s
theorem tst_name {X : Cx} {x1 : Str} {c1 cls : Value} {p1 : Pos} {b : Bool} {H : Hp} {a : Addr} {pn : List (Addr × Obj)} {σ : L2.St} {s : Shared} {E Q : Value → Shared → Prop} (n1 : Names X x1 c1) (I : Inv (X.suite a pn) [] σ H s) (q : Q c1 s) :
    wpAny (model X.prog X.w) (X.A.mark (some (.ref a))) (eval (.Name x1 p1) X.env) Q E s := by
  obtain ⟨hg, hdbg, hm | ⟨hm, hv, hnn⟩⟩ := n1
  · exact ld_glob (X := X.suite a pn) I hg hm q hdbg
  · exact ld_blt (X := X.suite a pn) I hg hm hv q hnn hdbg
theorem tst3 {X : Cx} {x1 x2 x3 : Str} {c1 c2 c3 cls : Value} {p1 p2 p3 p : Pos} {k : Nat} {b : Bool} (n1 : Names X x1 c1) (n2 : Names X x2 c2) (n3 : Names X x3 c3) (he : PySem.W.exmAny X.K cls [c1, c2, c3] = some b) : Tst X (.Tuple [.Name x1 p1, .Name x2 p2, .Name x3 p3] k p) cls b := by
  intro a pn σ H s E Q I LT q
  refine wpAny_Tuple ?_
  refine wpAny_items_cons (tst_name (cls := cls) (b := b) n1 I ?_)
  refine wpAny_items_cons (tst_name (cls := cls) (b := b) n2 I ?_)
  refine wpAny_items_cons (tst_name (cls := cls) (b := b) n3 I ?_)
  refine wpAny_items_nil ⟨by size_fits, ?_⟩
  have kp : ∀ q o, s.heap.get? q = some o → (s.heap.push { cls := .type "tuple", data := .seq [c1, c2, c3].toArray }).get? q = some o := fun _ _ z => Heap.get?_push_of_some _ z
  exact q _ _ kp (PySem.W.exm_tup3 (I.kIn.keeps kp) (LT.keeps kp) (Heap.get?_push_size s.heap rfl) he)
def bS (X : Cx) (st : Stmt) : TS := fun D σ H => ∀ (pins : List (Addr × Obj)) (s : Shared), Inv X pins σ H s → wpAny (model X.prog X.w) X.A (exec st X.env) (SP X pins D) X.xe s
/-- the ends of a suite whose name goes -/
def Dgo (i : Nat) (D : Ends) : Ends := { nx := fun σ H => D.nx (σ.set i none) H, rt := D.rt, bk := fun σ H => D.bk (σ.set i none) H, ct := fun σ H => D.ct (σ.set i none) H }
/-- what the clause wishes of an exception of the body -/
def WAs (X : Cx) (t : Expr) (i : Nat) (suite : List Stmt) (Wout : WX) (D : Ends) : WX := fun cls d σ H => σ.length = X.N.length → ∃ b, Tst X t cls b ∧
  (b = true → ∀ a oe pn, H a = none → X.base.get? a = none → Zc cls d oe → (∃ vs, oe.data = .fields vs) → HS (X.suite a ((a, oe) :: pn)) (Dgo i D) suite (σ.set i (some (.ref a))) H) ∧ (b = false → Wout cls d σ H)
theorem hs_tryAs {X : Cx} {D : Ends} {t : Expr} {n : Str} {i : Nat} {body suite rest : List Stmt} {b₀ : Stmt} {pos pos' : Pos} {Wout : WX} {σ : L2.St} {H : Hp} (hs : X.stack = X.env :: X.outer) (hf : X.env.frame = some X.env.locals) (hN : X.N.Nodup) (hi : X.N[i]? = some n) (hln : X.env.kindOf n = some .local) (tk : Takes X Wout)
    (hb : ∀ (pn : List (Addr × Obj)) (xe : Value → Shared → Prop), Takes (X.tr pn xe) (WAs X t i (b₀ :: suite) Wout (Dn X D rest)) → PassesOwn (model X.prog X.w) X.A X.env xe → HS (X.tr pn xe) (Dn X D rest) body σ H) :
    HS X D (.Try body [.ExceptHandler (some t) (some n) (b₀ :: suite) pos'] [] [] pos :: rest) σ H := by
  refine hs_cons (t := bS X _) ⟨fun pins s σ H D I h => h pins s I⟩ fun pins s I => ?_
  have ok := I.ok
  have hfr : X.A.frames = some (X.env :: X.outer) := by rw [ok.frames, hs]
  refine wpAny_Try_except ?_
  refine wpAny_mono (hb (X.pn ++ pins) (fun e s₁ => wpAny (model X.prog X.w) X.A (noteFrame e X.env) (fun _ s₂ => wpAny (model X.prog X.w) X.A (setFlight e none) (fun _ s₃ =>
    wpAny (model X.prog X.w) X.A (handleBy e X.env [.ExceptHandler (some t) (some n) (b₀ :: suite) pos']) (SP X pins (Dn X D rest)) X.xe s₃) X.xe s₂) X.xe s₁) (fun u s' xx => ?_) PassesOwn.looking [] s (I.toTry _)) (fun f s1 hsp => ?_) (fun e s1 he => he)
  · obtain ⟨a, B, sI, pins', σ', H', cls, d, rfl, J', nb, up, sky, na, os, ag, hw⟩ := xx
    have J : Inv X pins σ' H' sI := J'.ofTry ok
    obtain ⟨b, hT, hyes, hno⟩ := hw J.len
    refine Sky.land Zc.steady hfr hf (by rw [← hs]; exact sky) fun h3 fl3 up3 => ?_
    have J3 : Inv X pins σ' H' { s' with heap := h3 } := J.landed nb fl3.1 (up.trans up3) os ag
    have away : ∀ {h : Heap} {o : Obj} {vs : Array Value}, h.FunFrames B (X.env :: X.outer) → h.get? a = some o → o.data = .fields vs → a ≠ X.env.locals ∧ a ∉ X.fs := fun {h o vs} ff e dd => by
      have nfr : a ∉ frs (X.env :: X.outer) := fun hm => by
        obtain ⟨_, o', e', hnf⟩ := ff.mem hm
        rw [e] at e'; cases e'
        exact hnf _ dd
      refine ⟨fun z => nfr (List.mem_filterMap.mpr ⟨X.env, List.mem_cons_self, by rw [hf, z]⟩), fun hm => ?_⟩
      obtain ⟨e, he, q⟩ := List.mem_filterMap.mp hm
      exact nfr (List.mem_filterMap.mpr ⟨e, List.mem_cons_of_mem _ he, q⟩)
    obtain ⟨oe3, vs3, he3, hz3, hd3⟩ := fl3.there
    obtain ⟨nL, nF⟩ := away fl3.2.2.1 he3 hd3
    have nB : X.base.get? a = none := by
      cases e : X.base.get? a with
      | none => rfl
      | some o =>
        have z := nb a o (J.bs a o e).1 fun hm => by
          have z := (J.stack.mem hm).1
          rw [e] at z; cases z
        rw [fl3.2.1] at z; cases z
    have LT : PySem.W.Looks (model X.prog X.w) h3 (typeOf (.ref a)) cls := fun A Q E s k q => wpAny_typeOf_ref (k _ _ he3) (by rw [hz3.1]; exact q)
    refine PySem.W.exc_clause_as (hT a _ σ' H' _ _ _ (J3.suite he3 hd3 na nL nF) LT fun c h5 k5 L5 => ⟨b, L5, ?_⟩)
    have fl5 := flying_kept fl3 k5
    have up5 := (up.trans up3).trans (up_kept k5)
    cases b with
    | true =>
      rw [if_pos rfl]
      refine HandSPX.lands_againZ fl5 fun h4 fl4 up4 => ?_
      have J4 : Inv X pins σ' H' { s' with heap := h4 } := J.landed nb fl4.1 (up5.trans up4) os ag
      obtain ⟨oe4, vs4, he4, hz4, hd4⟩ := fl4.there
      refine store_ok (X := X.suite a ((a, oe4) :: (X.pn ++ pins))) (v := .ref a) (J4.suite he4 hd4 na nL nF) hN hi (.inl hln) rfl (fun s5 S5 => ?_) (.inr hln)
      refine wpAny_mono (hyes rfl a oe4 (X.pn ++ pins) na nB hz4 ⟨_, hd4⟩ [] s5 S5) (fun f s6 hsp => ?_) (fun _ _ z => False.elim z)
      cases f with
      | next => exact hsp.elim fun σ6 ⟨H6, S6, q6⟩ => gone_ok (S6.unsuite ok) hN hi hln fun s7 J7 => ⟨_, _, J7, q6⟩
      | brk => exact hsp.elim fun σ6 ⟨H6, S6, q6⟩ => gone_ok (S6.unsuite ok) hN hi hln fun s7 J7 => ⟨_, _, J7, q6⟩
      | cont => exact hsp.elim fun σ6 ⟨H6, S6, q6⟩ => gone_ok (S6.unsuite ok) hN hi hln fun s7 J7 => ⟨_, _, J7, q6⟩
      | ret u => exact hsp.elim fun v6 ⟨σ6, H6, S6, r6, q6⟩ => gone_ok (S6.unsuite ok) hN hi hln fun s7 J7 => ⟨_, _, _, J7, r6, q6⟩
    | false =>
      rw [if_neg (by decide)]
      refine wpAny_handleBy_nil ?_
      obtain ⟨k1, k2, k3, oe, vs, T, oT, ts', he, hz, hd, h1, hr⟩ := id fl5
      unfold PySem.passOn
      refine wpAny_bind (wpAny_field he hd h1 ?_)
      rw [if_neg (show ¬ ((Value.ref T == Value.none) = true) from by simp)]
      have fin : wpAny (model X.prog X.w) X.A (setFlight (.ref a) X.env.frame) (fun _ s4 => wpAny (model X.prog X.w) X.A (throw (.ref a) : Sem Flow) (SP X pins (Dn X D rest)) X.xe s4) X.xe { s' with heap := h5 } := by
        rw [hf]
        refine HandSPX.setFlight_upZ fl5 fun h4 hh4 up4 => wpAny_throw (tk _ _ ?_)
        exact ⟨a, B, sI, pins, σ', H', cls, d, rfl, J, nb, up5.trans up4, .inr (.inr (by rw [hs]; exact hh4)), na, os, ag, hno rfl⟩
      first
        | exact wpAny_bind (wpAny_pure (wpAny_bind fin))
        | exact wpAny_bind fin
  · cases f with
    | next => exact hsp.elim fun σ' ⟨H', J', q⟩ => wpAny_execs_nil ⟨σ', H', J'.ofTry ok, q⟩
    | brk => exact hsp.elim fun σ' ⟨H', J', q⟩ => ⟨σ', H', J'.ofTry ok, q⟩
    | cont => exact hsp.elim fun σ' ⟨H', J', q⟩ => ⟨σ', H', J'.ofTry ok, q⟩
    | ret u => exact hsp.elim fun v ⟨σ', H', J', r, q⟩ => ⟨v, σ', H', J'.ofTry ok, r, q⟩
end Y

namespace Y
open PySem PySem.Spec PyProof.Rows L2 Z
/-! ## objects shown to a call: untracked ones, told by their objects while the call runs -/
def shown (H : Hp) (a : Addr) (o : Obj) : Hp := upd H a (.frz o (.ext fun _ => True))
def shownL (H : Hp) : List (Addr × Obj) → Hp
  | [] => H
  | p :: L => shown (shownL H L) p.1 p.2
def delL (H : Hp) : List (Addr × Obj) → Hp
  | [] => H
  | p :: L => delL (L2.del H p.1) L
section
variable {P : Program} {w : World} {H H1 : Hp} {h h1 B : Heap} {a b : Addr} {o : Obj} {u : HO} {fs : List Addr}
theorem shown_same : shown H a o a = some (.frz o (.ext fun _ => True)) := upd_same
theorem shown_ne (hb : b ≠ a) : shown H a o b = H b := upd_ne hb
theorem shown_hok (x : HOk P w H h) (n : H a = none) (e : h.get? a = some o) : HOk P w (shown H a o) h := fun b v q => by
  by_cases hb : b = a
  · subst hb
    rw [shown_same] at q
    cases q
    exact ⟨e, trivial, ⟨o, e⟩, fun _ _ _ _ => trivial⟩
  · rw [shown_ne hb] at q
    exact (x b v q).stay (fun _ _ _ z => z) (fun c z => (shown_ne (ne_of_none z n)).trans z) (fun c xs z => (shown_ne (ne_of_none z n)).trans z)
theorem del_hok (x : HOk P w H h) (e : H a = some (.frz o u)) : HOk P w (L2.del H a) h := fun b v q => by
  have hb : b ≠ a := fun z => by rw [z, L2.del_same] at q; cases q
  rw [L2.del_ne hb] at q
  exact (x b v q).stay (fun _ _ _ z => z) (fun c z => (L2.del_ne (fun y => by rw [y, e] at z; cases z)).trans z) (fun c xs z => (L2.del_ne (fun y => by rw [y, e] at z; cases z)).trans z)
theorem del_un (U : Un fs [] (shown H a o) H1 h h1) (ok : HOk P w H1 h1) (n : H a = none) (e : h.get? a = some o) : Un fs [] H (L2.del H1 a) h h1 := by
  have e1 : h1.get? a = some o := (ok a _ (U.frzs a _ _ shown_same)).1
  refine ⟨fun b ob q nb hf hx => ?_, fun b ob q nb hf hx => ?_, fun b ob q nb hx => ?_, U.there, fun b xs q => ?_, fun b ob v q => ?_, fun b ps q => ?_⟩
  · by_cases hb : b = a
    · subst hb; rw [e] at q; cases q; exact e1
    · exact U.keep b ob q ((shown_ne hb).trans nb) hf hx
  · by_cases hb : b = a
    · subst hb; rw [e] at q; cases q; exact ⟨_, e1⟩
    · exact U.slot b ob q ((shown_ne hb).trans nb) hf hx
  · by_cases hb : b = a
    · subst hb; exact L2.del_same
    · exact (L2.del_ne hb).trans (U.free b ob q ((shown_ne hb).trans nb) hx)
  · have hb := ne_of_none q n
    exact (L2.del_ne hb).trans (U.tups b xs ((shown_ne hb).trans q))
  · have hb := ne_of_none q n
    exact (L2.del_ne hb).trans (U.frzs b ob v ((shown_ne hb).trans q))
  · have hb := ne_of_none q n
    obtain ⟨m, z⟩ := U.tbls b ps ((shown_ne hb).trans q)
    exact ⟨m, (L2.del_ne hb).trans z⟩
theorem del_ub (U : UB fs (shown H a o) H1 h B h1) (ok : HOk P w H1 B) (n : H a = none) (e : h.get? a = some o) : UB fs H (L2.del H1 a) h B h1 := by
  have e1 : B.get? a = some o := (ok a _ (U.frzs a _ _ shown_same)).1
  refine ⟨fun b ob q nb hf => ?_, U.slot, fun b ob q nb => ?_, U.there, fun b xs q => ?_, fun b ob v q => ?_, fun b ps q => ?_⟩
  · by_cases hb : b = a
    · subst hb; rw [e] at q; cases q; exact e1
    · exact U.keep b ob q ((shown_ne hb).trans nb) hf
  · by_cases hb : b = a
    · subst hb; exact L2.del_same
    · exact (L2.del_ne hb).trans (U.free b ob q ((shown_ne hb).trans nb))
  · have hb := ne_of_none q n
    exact (L2.del_ne hb).trans (U.tups b xs ((shown_ne hb).trans q))
  · have hb := ne_of_none q n
    exact (L2.del_ne hb).trans (U.frzs b ob v ((shown_ne hb).trans q))
  · have hb := ne_of_none q n
    obtain ⟨m, z⟩ := U.tbls b ps ((shown_ne hb).trans q)
    exact ⟨m, (L2.del_ne hb).trans z⟩
end
/-- what leaves a call by an exception bears the hiding of a shown object -/
def Hides (CX : CXT) : Prop := ∀ (outer : List Env) (H : Hp) (a : Addr) (o : Obj) (s : Shared) (E : XK) (u : Value) (s' : Shared), H a = none → s.heap.get? a = some o → CX outer (shown H a o) s (fun cls d H' => E cls d (L2.del H' a)) u s' → CX outer H s E u s'
theorem hides0 : Hides CX0 := fun _ _ _ _ _ _ _ _ _ _ h => h.elim
theorem hidesX {P : Program} {w : World} : Hides (L2.CX P w) := fun outer H a o s E u s' n e ⟨x, B, H', cls, d, eu, fl, ok, ub, na, os, ag, hE⟩ => by
  have ea : H' a = some (.frz o (.ext fun _ => True)) := ub.frzs a _ _ shown_same
  refine ⟨x, B, L2.del H' a, cls, d, eu, fl, del_hok ok ea, del_ub ub ok n e, ?_, os, ag, hE⟩
  rw [L2.del_ne (fun z => by rw [z, ea] at na; cases na)]
  exact na
/-- a thing that may be shown at this state -/
structure Show (base : Heap) (outer : List Env) (H : Hp) (s : Shared) (a : Addr) (o : Obj) : Prop where
  ob : s.heap.get? a = some o
  no : H a = none
  nf : a ∉ frs outer
  nb : base.get? a = none
theorem Show.skip {base : Heap} {outer : List Env} {H : Hp} {s : Shared} {a b : Addr} {o p : Obj} (x : Show base outer H s a o) (h : a ≠ b) : Show base outer (shown H b p) s a o := ⟨x.ob, (shown_ne h).trans x.no, x.nf, x.nb⟩
theorem Show.list {base : Heap} {outer : List Env} {H : Hp} {s : Shared} {a : Addr} {o : Obj} (x : Show base outer H s a o) : ∀ {L : List (Addr × Obj)}, a ∉ L.map (·.1) → Show base outer (shownL H L) s a o
  | [], _ => x
  | p :: L, h => by
    simp only [List.map_cons, List.mem_cons, not_or] at h
    exact (x.list h.2).skip h.1
section
variable {P : Program} {w : World} {K : PySem.W.Frag} {mg : Str → Option Value} {base : Heap} {A : Around} {outer : List Env} {s : Shared} {H : Hp} {a : Addr} {o : Obj} {CX : CXT} {c : Code} {Q : VK} {E : XK}
theorem env0_shown (e : Env0 P w K mg base A outer s H) (x : Show base outer H s a o) : Env0 P w K mg base A outer s (shown H a o) := by
  refine ⟨e.frames, e.mod, fun b ob q => ⟨(e.bs b ob q).1, ?_⟩, e.bsz, e.funs, fun b hb => ?_, shown_hok e.hok x.no x.ob, e.bare⟩
  · rw [shown_ne (fun z => by rw [z, x.nb] at q; cases q)]
    exact (e.bs b ob q).2
  · have hba : b ≠ a := fun z => x.nf (by rw [← z]; exact hb)
    rw [shown_ne hba]
    exact e.frf b hb
theorem hide (hd : Hides CX) (n : H a = none) (e : s.heap.get? a = some o) (h : codeAny (model P w) A c (CR CX outer P w (shown H a o) s (fun v H' => Q v (L2.del H' a)) (fun cls d H' => E cls d (L2.del H' a))) s) : codeAny (model P w) A c (CR CX outer P w H s Q E) s := by
  refine codeAny_mono h fun r s' hq => ?_
  cases r with
  | error u => exact hd _ _ _ _ _ _ _ _ n e hq
  | ok fl =>
    cases fl with
    | ret u =>
      obtain ⟨v, H', os, bare, un, hok, r, q⟩ := hq
      exact ⟨v, L2.del H' a, os, bare, del_un un hok n e, del_hok hok (un.frzs a _ _ shown_same), r, q⟩
    | next => exact False.elim hq
    | brk => exact False.elim hq
    | cont => exact False.elim hq
theorem env0_shownL (e : Env0 P w K mg base A outer s H) : ∀ {L : List (Addr × Obj)}, (∀ p ∈ L, Show base outer H s p.1 p.2) → (L.map (·.1)).Nodup → Env0 P w K mg base A outer s (shownL H L)
  | [], _, _ => e
  | p :: L, x, nd => by
    rw [List.map_cons, List.nodup_cons] at nd
    exact env0_shown (env0_shownL e (fun q hq => x q (List.mem_cons_of_mem _ hq)) nd.2) ((x p List.mem_cons_self).list nd.1)
theorem hideL (hd : Hides CX) : ∀ {L : List (Addr × Obj)} {Q : VK} {E : XK}, (∀ p ∈ L, Show base outer H s p.1 p.2) → (L.map (·.1)).Nodup → codeAny (model P w) A c (CR CX outer P w (shownL H L) s (fun v H' => Q v (delL H' L)) (fun cls d H' => E cls d (delL H' L))) s → codeAny (model P w) A c (CR CX outer P w H s Q E) s
  | [], _, _, _, _, h => h
  | p :: L, Q, E, x, nd, h => by
    rw [List.map_cons, List.nodup_cons] at nd
    have xp := (x p List.mem_cons_self).list nd.1
    exact hideL hd (fun q hq => x q (List.mem_cons_of_mem _ hq)) nd.2 (hide hd xp.no xp.ob h)
end
section
variable {X : Cx} {CX : CXT} {k : Nat} {f : Addr} {fd : FuncData} {ps : List Str} {sp : Sp} {ds : List Value} {dvs : List V} {E : XK} {pins : List (Addr × Obj)} {σ : L2.St} {H : Hp} {s : Shared} {Q : VK} {us : List Value} {vs : List V} {L : List (Addr × Obj)}
/-- the call of a def to which the things of L are shown -/
theorem run_shown (F : FnOk X.prog X.w X.K X.mg X.base CX k f fd ps sp) (hr : Room k X.A) (hb : Binds X.K fd ps ds) (hv : Vals dvs ds) (hx : Passes CX X E) (hd : Hides CX) (I : Inv X pins σ H s) (r : Vals vs us)
    (x : ∀ p ∈ L, Show X.base X.stack H s p.1 p.2) (nd : (L.map (·.1)).Nodup) (h : sp (vs ++ dvs) (shownL H L) (fun v H' => Q v (delL H' L)) (fun cls d H' => E cls d (delL H' L))) :
    wpAny (model X.prog X.w) X.A (call (.ref f) us) (EP X pins σ Q) X.xe s := by
  have r2 : Vals (vs ++ dvs) (us ++ ds) := r.append hv
  have hl : (us ++ ds).length = ps.length := by rw [← r2.length]; exact F.len _ _ _ _ h
  refine wpAny_call (codeAny_mono (hideL (base := X.base) (L := L) (Q := Q) (E := E) hd x nd (F.run X.A X.stack s (shownL H L) ⟨us, []⟩ (us ++ ds) (vs ++ dvs) _ _ hr (env0_shownL I.env0 x nd) (hb s us I.kIn hl) r2 h)) fun r s' hq => ?_)
  cases r with
  | error e => exact hx pins σ H s e s' I hq
  | ok fl =>
    cases fl with
    | ret u => exact I.after hq
    | next => exact False.elim hq
    | brk => exact False.elim hq
    | cont => exact False.elim hq
/-- what is pinned may be shown -/
theorem show_pin (I : Inv X pins σ H s) {p : Addr × Obj} (hp : p ∈ X.pn ++ pins) (nb : X.base.get? p.1 = none) : Show X.base X.stack H s p.1 p.2 := by
  obtain ⟨e, n, nL, nF, _⟩ := I.pin p hp
  exact ⟨e, n, fun hm => (List.mem_cons.mp (I.stkSub _ hm)).elim nL nF, nb⟩
end
end Y

namespace Y
open PySem PySem.Spec PyProof.Rows L2 Z
/-! ## the other way: shown things are taken out for a call (the cells of a closure) -/
abbrev Tr : HO := .ext fun _ => True
section
variable {P : Program} {w : World} {H H1 : Hp} {h h1 B : Heap} {a b : Addr} {o : Obj} {u : HO} {fs : List Addr}
theorem unshow_un (U : Un fs [] (L2.del H a) H1 h h1) (hH : H a = some (.frz o Tr)) : Un fs [] H (shown H1 a o) h h1 := by
  have ne : ∀ b v, H b = some v → (∀ p q, v ≠ .frz p q) → b ≠ a := fun b v e q z => by
    rw [z, hH] at e; cases e; exact q _ _ rfl
  have nn : ∀ b, H b = none → b ≠ a := fun b e z => by rw [z, hH] at e; cases e
  refine ⟨fun b ob q nb hf hx => U.keep b ob q ((L2.del_ne (nn b nb)).trans nb) hf hx, fun b ob q nb hf hx => U.slot b ob q ((L2.del_ne (nn b nb)).trans nb) hf hx, fun b ob q nb hx => (shown_ne (nn b nb)).trans (U.free b ob q ((L2.del_ne (nn b nb)).trans nb) hx), U.there, fun b xs q => ?_, fun b ob v q => ?_, fun b ps q => ?_⟩
  · have hb := ne b _ q fun _ _ z => by cases z
    exact (shown_ne hb).trans (U.tups b xs ((L2.del_ne hb).trans q))
  · by_cases hb : b = a
    · subst hb; rw [hH] at q; cases q; exact shown_same
    · exact (shown_ne hb).trans (U.frzs b ob v ((L2.del_ne hb).trans q))
  · have hb := ne b _ q fun _ _ z => by cases z
    obtain ⟨m, z⟩ := U.tbls b ps ((L2.del_ne hb).trans q)
    exact ⟨m, (shown_ne hb).trans z⟩
theorem unshow_ub (U : UB fs (L2.del H a) H1 h B h1) (hH : H a = some (.frz o Tr)) : UB fs H (shown H1 a o) h B h1 := by
  have ne : ∀ b v, H b = some v → (∀ p q, v ≠ .frz p q) → b ≠ a := fun b v e q z => by
    rw [z, hH] at e; cases e; exact q _ _ rfl
  have nn : ∀ b, H b = none → b ≠ a := fun b e z => by rw [z, hH] at e; cases e
  refine ⟨fun b ob q nb hf => U.keep b ob q ((L2.del_ne (nn b nb)).trans nb) hf, U.slot, fun b ob q nb => (shown_ne (nn b nb)).trans (U.free b ob q ((L2.del_ne (nn b nb)).trans nb)), U.there, fun b xs q => ?_, fun b ob v q => ?_, fun b ps q => ?_⟩
  · have hb := ne b _ q fun _ _ z => by cases z
    exact (shown_ne hb).trans (U.tups b xs ((L2.del_ne hb).trans q))
  · by_cases hb : b = a
    · subst hb; rw [hH] at q; cases q; exact shown_same
    · exact (shown_ne hb).trans (U.frzs b ob v ((L2.del_ne hb).trans q))
  · have hb := ne b _ q fun _ _ z => by cases z
    obtain ⟨m, z⟩ := U.tbls b ps ((L2.del_ne hb).trans q)
    exact ⟨m, (shown_ne hb).trans z⟩
end
/-- a thing that is shown here -/
structure Shown (outer : List Env) (H : Hp) (s : Shared) (a : Addr) (o : Obj) : Prop where
  at_ : H a = some (.frz o Tr)
  ob : s.heap.get? a = some o
  nf : a ∉ frs outer
theorem Shown.of {P : Program} {w : World} {outer : List Env} {H : Hp} {s : Shared} {a : Addr} {o : Obj} (ok : HOk P w H s.heap) (fr : ∀ b ∈ frs outer, H b = none) (h : H a = some (.frz o Tr)) : Shown outer H s a o :=
  ⟨h, (ok a _ h).1, fun z => by have q := fr a z; rw [h] at q; cases q⟩
theorem Shown.skip {outer : List Env} {H : Hp} {s : Shared} {a b : Addr} {o : Obj} (x : Shown outer H s a o) (n : a ≠ b) : Shown outer (L2.del H b) s a o := ⟨(L2.del_ne n).trans x.at_, x.ob, x.nf⟩
/-- what leaves a call by an exception bears that a hidden thing is shown again -/
structure Bares (P : Program) (w : World) (CX : CXT) : Prop where
  mono : ∀ (outer : List Env) (H : Hp) (s : Shared) (E E' : XK) (u : Value) (s' : Shared), (∀ c d H', E c d H' → E' c d H') → CX outer H s E u s' → CX outer H s E' u s'
  show_ : ∀ (outer : List Env) (H : Hp) (a : Addr) (o : Obj) (s : Shared) (E : XK) (u : Value) (s' : Shared), Shown outer H s a o → CX outer (L2.del H a) s (fun cls d H' => H' a = none → E cls d (shown H' a o)) u s' → CX outer H s E u s'
theorem bares0 {P : Program} {w : World} : Bares P w CX0 := ⟨fun _ _ _ _ _ _ _ _ h => h, fun _ _ _ _ _ _ _ _ _ h => h.elim⟩
theorem baresX {P : Program} {w : World} : Bares P w (L2.CX P w) := ⟨fun outer H s E E' u s' hE ⟨y, B, H', cls, d, eu, fl, ok, ub, na, os, ag, q⟩ => ⟨y, B, H', cls, d, eu, fl, ok, ub, na, os, ag, hE _ _ _ q⟩, fun outer H a o s E u s' x ⟨y, B, H', cls, d, eu, fl, ok, ub, na, os, ag, hE⟩ => by
  have e1 : B.get? a = some o := ub.keep a o x.ob L2.del_same x.nf
  have n1 : H' a = none := ub.free a o x.ob L2.del_same
  refine ⟨y, B, shown H' a o, cls, d, eu, fl, shown_hok ok n1 e1, unshow_ub ub x.at_, ?_, os, ag, hE n1⟩
  rw [shown_ne (fun z => by have q := fl.2.1; rw [z, e1] at q; cases q)]
  exact na⟩
theorem shownL_ne {b : Addr} : ∀ {L : List (Addr × Obj)} {H : Hp}, b ∉ L.map (·.1) → shownL H L b = H b
  | [], _, _ => rfl
  | p :: L, H, h => by
    rw [List.map_cons, List.mem_cons, not_or] at h
    exact (shown_ne h.1).trans (shownL_ne h.2)
section
variable {P : Program} {w : World} {K : PySem.W.Frag} {mg : Str → Option Value} {base : Heap} {A : Around} {outer : List Env} {s : Shared} {H : Hp} {a : Addr} {o : Obj} {CX : CXT} {c : Code} {Q : VK} {E : XK}
theorem env0_del (e : Env0 P w K mg base A outer s H) (x : Shown outer H s a o) : Env0 P w K mg base A outer s (L2.del H a) := by
  have nn : ∀ b, H b = none → b ≠ a := fun b e z => by rw [z, x.at_] at e; cases e
  refine ⟨e.frames, e.mod, fun b ob q => ⟨(e.bs b ob q).1, ?_⟩, e.bsz, e.funs, fun b hb => ?_, del_hok e.hok x.at_, e.bare⟩
  · rw [L2.del_ne (nn b (e.bs b ob q).2)]
    exact (e.bs b ob q).2
  · rw [L2.del_ne (nn b (e.frf b hb))]
    exact e.frf b hb
theorem bare (hd : Bares P w CX) (x : Shown outer H s a o) (h : codeAny (model P w) A c (CR CX outer P w (L2.del H a) s (fun v H' => H' a = none → Q v (shown H' a o)) (fun cls d H' => H' a = none → E cls d (shown H' a o))) s) : codeAny (model P w) A c (CR CX outer P w H s Q E) s := by
  refine codeAny_mono h fun r s' hq => ?_
  cases r with
  | error u => exact hd.show_ _ _ _ _ _ _ _ _ x hq
  | ok fl =>
    cases fl with
    | ret u =>
      obtain ⟨v, H', os, br, un, hok, r, q⟩ := hq
      have e1 : s'.heap.get? a = some o := un.keep a o x.ob L2.del_same x.nf (by simp)
      have n1 : H' a = none := un.free a o x.ob L2.del_same (by simp)
      exact ⟨v, shown H' a o, os, br, unshow_un un x.at_, shown_hok hok n1 e1, r, q n1⟩
    | next => exact False.elim hq
    | brk => exact False.elim hq
    | cont => exact False.elim hq
theorem env0_delL : ∀ {L : List (Addr × Obj)} {H : Hp}, Env0 P w K mg base A outer s H → (∀ p ∈ L, Shown outer H s p.1 p.2) → (L.map (·.1)).Nodup → Env0 P w K mg base A outer s (delL H L)
  | [], _, e, _, _ => e
  | p :: L, H, e, x, nd => by
    rw [List.map_cons, List.nodup_cons] at nd
    exact env0_delL (L := L) (H := L2.del H p.1) (env0_del e (x p List.mem_cons_self)) (fun q hq => (x q (List.mem_cons_of_mem _ hq)).skip fun z => nd.1 (by rw [← z]; exact List.mem_map_of_mem hq)) nd.2
theorem cr_mono {Q' : VK} {E' : XK} (hd : Bares P w CX) (hQ : ∀ v H', Q v H' → Q' v H') (hE : ∀ c d H', E c d H' → E' c d H') (h : codeAny (model P w) A c (CR CX outer P w H s Q E) s) : codeAny (model P w) A c (CR CX outer P w H s Q' E') s := by
  refine codeAny_mono h fun r s' hq => ?_
  cases r with
  | error u => exact hd.mono _ _ _ _ _ _ _ hE hq
  | ok fl =>
    cases fl with
    | ret u =>
      obtain ⟨v, H', os, br, un, hok, r, q⟩ := hq
      exact ⟨v, H', os, br, un, hok, r, hQ _ _ q⟩
    | next => exact hq
    | brk => exact hq
    | cont => exact hq
theorem bareL (hd : Bares P w CX) : ∀ {L : List (Addr × Obj)} {H : Hp} {Q : VK} {E : XK}, (∀ p ∈ L, Shown outer H s p.1 p.2) → (L.map (·.1)).Nodup → codeAny (model P w) A c (CR CX outer P w (delL H L) s (fun v H' => (∀ p ∈ L, H' p.1 = none) → Q v (shownL H' L)) (fun cls d H' => (∀ p ∈ L, H' p.1 = none) → E cls d (shownL H' L))) s → codeAny (model P w) A c (CR CX outer P w H s Q E) s
  | [], _, _, _, _, _, h => cr_mono hd (fun v H' q => q (fun p hp => by cases hp)) (fun cl d H' q => q (fun p hp => by cases hp)) h
  | p :: L, H, Q, E, x, nd, h => by
    rw [List.map_cons, List.nodup_cons] at nd
    refine bare hd (x p List.mem_cons_self) (bareL hd (fun q hq => (x q (List.mem_cons_of_mem _ hq)).skip fun z => nd.1 (by rw [← z]; exact List.mem_map_of_mem hq)) nd.2 (cr_mono hd (fun v H' q q1 q2 => q fun r hr => ?_) (fun cl d H' q q1 q2 => q fun r hr => ?_) h))
    · rcases List.mem_cons.mp hr with e | e
      · rw [e]; rw [shownL_ne nd.1] at q2; exact q2
      · exact q1 r e
    · rcases List.mem_cons.mp hr with e | e
      · rw [e]; rw [shownL_ne nd.1] at q2; exact q2
      · exact q1 r e
end
section
variable {X : Cx} {σ : L2.St} {S : Hp} {e : Expr} {P P0 : V → Hp → Prop} {pos : Pos} {C : Addr} {n : Str} {u : HO}
/-- e.n of a shown exception -/
theorem ee_xf (T : XfC X.K C) (hno : PySem.W.findIn X.K (.ref C) n = some none) (he : EE X σ S e P0)
    (hP : ∀ w S1, P0 w S1 → ∃ (a : Addr) (oe : Obj) (dd : Addr) (fs : List (Str × V)) (v : V), w = .ref a ∧ S1 a = some (.frz oe u) ∧ oe.cls = .ref C ∧ oe.dict = some dd ∧ (∃ vs, oe.data = .fields vs) ∧ S1 dd = some (.xd fs) ∧ fs.lookup n = some v ∧ P v S1)
    (hb : attributeBase e n X.env (eval e X.env) = eval e X.env := by rfl) : EE X σ S (.Attribute e n pos) P := fun H s Q q pins sh I => by
  refine attr_of hb (thn (he H s (fun w H1 => ∃ S1, Gr S H S1 H1 ∧ P0 w S1) (fun v S1 H1 g pv => ⟨S1, g, pv⟩) pins sh I) fun x s1 hh => ?_)
  obtain ⟨w, H1, I1, rx, S1, g, pw⟩ := hh
  obtain ⟨a, oe, dd, fs, v, rfl, ha, hc, hdd, ⟨vs, hd⟩, hx, l, pv⟩ := hP w S1 pw
  obtain rfl : x = Value.ref a := rx
  have ho : s1.heap.get? a = some oe := (I1.hok a _ (g.sub _ _ ha)).1
  have hx1 : ObjOk X.prog X.w H1 s1.heap dd (.xd fs) := I1.hok dd _ (g.sub _ _ hx)
  obtain ⟨mA, hns, hr⟩ := hx1
  obtain ⟨od, hod, hl⟩ := lookIn_ns hns
  obtain ⟨u', hu, ru⟩ := RelO.some_of (v := v) (o := mA n) (by rw [← l]; exact hr n)
  have J : PySem.W.InstAt s1.heap a oe C (some od) := ⟨ho, hc, by unfold PySem.W.notCls; rw [hd] <;> rfl, by rw [hdd]; exact hod⟩
  exact HandSPX.exc_get I1.kIn J T.ga T.gg T.exC (PySem.W.findObj_own T.hdC hno rfl (by rw [hl, hu])) (handed_of ru) ⟨v, H1, I1.tok _, ru, q v S1 H1 g pv⟩
end
end Y

namespace Y
open PySem PySem.Spec PyProof.Rows L2 Z LamX NdefX
/-! ## lambdas that are kept: what one promises, called wherever (after HandS.Nested's nok_of and HandS.Lambda's pe_act) -/
/-- a lambda: its words, the cells that it captured, its code object, its defaults' tuple -/
structure LF where
  qual : Str
  params : Arguments
  body : Expr
  scope : Scope
  cl : List (Str × Addr)
  c : Addr
  dT : Option Addr
abbrev LF.nf (F : LF) : NF := ⟨"<lambda>", F.qual, F.params, [], F.scope, F.cl, F.c⟩
abbrev LF.fd (F : LF) (pm ctv : Value) : FuncData := { PySem.W.kla_fn "<lambda>" F.qual F.params F.body F.scope F.cl pm (.ref F.c) ctv with defaults := F.dT.elim .none .ref }
/-- the object at f is the lambda F -/
def LamO (f : Addr) (F : LF) : HO := .ext fun h => ∃ (pm ctv : Value), h.get? f = some ({ cls := .type "function", data := .func (F.fd pm ctv) } : Obj)
/-- what its parameters get -/
def LBind (F : LF) (ps : List Str) : Prop := ∀ (pm ctv : Value) (its : List Value) (s : Shared), (F.dT = none → its = []) → (∀ T, F.dT = some T → ∃ o n, s.heap.get? T = some o ∧ o.data = .seq its.toArray n) → its.length = ps.length → BindsTo s (F.fd pm ctv) ⟨[], []⟩ (ps.zip its)
/-- its defaults stand in H -/
def LDef (F : LF) (dvs : List V) (H : Hp) : Prop := (F.dT = none → dvs = []) ∧ ∀ T, F.dT = some T → H T = some (.tup dvs)
/-- the promise of the lambda F at f: sp ws, ws what its captured cells hold at the call -/
structure LOk (P : Program) (w : World) (K : PySem.W.Frag) (mg : Str → Option Value) (base : Heap) (CX : CXT) (k : Nat) (f : Addr) (F : LF) (fr : List Str) (dvs : List V) (sp : List (Option V) → Hp → VK → XK → Prop) : Prop where
  run : ∀ (A : Around) (outer : List Env) (s : Shared) (H : Hp) (ws : List (Option V)) (Q : VK) (E : XK), Room k A → Env0 P w K mg base A outer s H → H f = some (LamO f F) → H F.c = some (CodeO F.c F.qual) → LDef F dvs H →
    CellsAt F.cl fr ws s.heap H → sp ws H Q E → codeAny (model P w) A (.call (.ref f) ⟨[], []⟩) (CR CX outer P w H s Q E) s
section
variable {CX : CXT} {P : Program} {w : World} {K : PySem.W.Frag} {mg : Str → Option Value} {base : Heap} {N ps fr : List Str} {F : LF} {f : Addr} {k j : Nat} {dvs : List V} {sp : List (Option V) → Hp → VK → XK → Prop}
theorem lok_of (S : NScope N ps fr F.scope) (hb : LBind F ps) (hl : dvs.length = ps.length)
    (hbody : ∀ (A : Around) (outer : List Env) (s : Shared) (H : Hp) (ws : List (Option V)) (Q : VK) (E : XK), Room k (A.deeper (envF F.nf f s.heap.objs.size)) → ws.length = fr.length → sp ws H Q E →
      HE (ncx CX P w K mg base N F.nf f A outer s H E) F.body (startF N dvs ws) H Q) : LOk P w K mg base CX (k + 1) f F fr dvs sp := by
  refine ⟨fun A outer s H ws Q E hr e0 hf hc hd C hsp => ?_⟩
  have lim : s.heap.NoLimit := e0.mod.nolimit.keeps fun b o e => (e0.bs b o e).1
  obtain ⟨⟨pm, ctv, ho⟩, _, _⟩ := e0.hok f _ hf
  obtain ⟨us, r, hus⟩ : ∃ us : List Value, Vals dvs us ∧ ((F.dT = none → us = []) ∧ ∀ T, F.dT = some T → ∃ o n, s.heap.get? T = some o ∧ o.data = .seq us.toArray n) := by
    cases e : F.dT with
    | none =>
      have z := hd.1 e
      subst z
      exact ⟨[], .nil, ⟨fun _ => rfl, fun T q => (by cases q)⟩⟩
    | some T =>
      obtain ⟨_, its, r, o, ho, _, hn⟩ : _ ∧ ∃ its : List Value, Vals dvs its ∧ IsTup s.heap T its.toArray := e0.hok T _ (hd.2 T e)
      obtain ⟨m, hn⟩ := hn
      exact ⟨its, r, ⟨fun q => (by cases q), fun T' q => (by cases q; exact ⟨o, m, ho, hn⟩)⟩⟩
  refine PySem.W.kla_callFunE hr.depth ho rfl S.co S.gen rfl (codeO_at e0.hok hc) (hb pm ctv us s hus.1 hus.2 (by rw [← r.length]; exact hl) _ _ _ _ ?_)
  refine wpAny_newFunctionEnv S.nocell (fun ⟨n, _⟩ hy => S.par n (List.of_mem_zip hy).1) (fun h₁ hns hsb => ⟨lim.fresh _ hsb, ?_⟩) S.kind
  show codeAny _ _ (.expr F.body (envF F.nf f s.heap.objs.size)) _ _
  have kp : ∀ b o, s.heap.get? b = some o → h₁.get? b = some o := fun b o e => hsb.extBut b o (Nat.ne_of_lt (Heap.lt_size e)) (Heap.get?_push_of_some _ e)
  have I : Inv (ncx CX P w K mg base N F.nf f A outer s H E) [] (startF N dvs ws) H { s with heap := h₁, toks := s.toks + (ps.zip us).length } := inv_startN (F := F.nf) S hr.hd e0 hl r C hns kp
  refine PySem.W.kla_codeExpr (wpAny_mono (hbody A outer s H ws Q E (hr.deeper _) C.len hsp [] _ I) (fun v s' hq => ?_) fun e s' hq => hq)
  obtain ⟨w', H', J, rv, q⟩ := hq
  exact ⟨w', H', J.os, J.bare, J.base, J.hok, rv, q⟩
theorem LOk.mono (o : LOk P w K mg base CX j f F fr dvs sp) (h : j ≤ k) : LOk P w K mg base CX k f F fr dvs sp := ⟨fun A outer s H ws Q E hr => o.run A outer s H ws Q E (hr.mono h)⟩
end
end Y

namespace Y
open PySem PySem.Spec PyProof.Rows L2 Z LamX NdefX
/-! ## a lambda is made, with defaults or without (after KE.KLam's kla_makeTail and HandS.Nested's ndef_make, which have no defaults) -/
section
variable {M : Model} {A : Around} {E : Value → Shared → Prop} {s : Shared} {name qual : Str} {params : Arguments} {body : Expr} {scope : Scope} {env : Env} {c P : Addr} {ps : Array Value} {pos : Pos} {line : Nat} {mg : Str → Option Value} {clos : List (Str × Addr)} {Q : Value → Shared → Prop} {dV : Value}
abbrev lamFd (qual : Str) (params : Arguments) (body : Expr) (scope : Scope) (cl : List (Str × Addr)) (pm cdv ct dV : Value) : FuncData := { PySem.W.kla_fn "<lambda>" qual params body scope cl pm cdv ct with defaults := dV }
/-- the end of the making: what closes over, the code object got by t, then the function -/
theorem tail_end {cv ct : Value} (hg : s.heap.Ns mainGlobals mg) (hge0 : env.globals = mainGlobals) (hb : s.heap.BuiltinsAt mg P)
    (h : Q (.ref s.heap.objs.size) { s with heap := s.heap.push { cls := .type "function", data := .func (lamFd qual params body scope clos ((mg "__name__").getD .none) cv ct dV) } }) :
    wpAny M A (do let bl ← builtinsFor mainGlobals env.builtins
                  let pm ← nsGet mainGlobals "__name__"
                  let dc ← (pure .none : Sem Value)
                  newObj (.type "function") (.func { name := "<lambda>", qualname := qual, params, body := .expr body, scope, globals := mainGlobals, closure := clos, closureTuple := ct, code := cv, builtins := bl, defaults := dV, kwdefaults := .none, annotations := none, pyModule := pm.getD .none, doc := dc })) Q E s := by
  obtain ⟨bm, ob, hbm, hne0, _, hneP, hbo, hcls, hdict, hdata⟩ := hb
  refine wpAny_bind (wpAny_builtinsFor hg hbm hne0 hbo hcls hdict hdata ?_)
  refine wpAny_bind (wpAny_nsGet hg ?_)
  exact wpAny_bind (wpAny_pure (wpAny_newObj_type h (by size_fits)))
theorem lam_tail (hcl : closureFor scope env = pure clos) (hge0 : env.globals = mainGlobals) (hg : s.heap.Ns mainGlobals mg) (hcode : env.code = .ref c) (C : PySem.W.CodeHd s.heap c P) (hP : s.heap.get? P = some { cls := .none, data := .fields ps }) (ht : TriplesOk ps.toList) (hgP : mainGlobals ≠ P) (hb : s.heap.BuiltinsAt mg P)
    (hnew : codeAmong pos ps.toList = none → ∀ (c' : Addr) (ctv : Value) (h' : Heap) (tk : Tok), Heap.ExtBut P s.heap h' → s.heap.objs.size ≤ c' → c' < h'.objs.size → h'.CodeRec (.ref c') qual → h'.get? P = some { cls := .none, data := .fields (ps ++ #[rawInt pos.line, rawInt pos.col, .ref c']) } →
      Q (.ref h'.objs.size) { s with heap := h'.push { cls := .type "function", data := .func (lamFd qual params body scope clos ((mg "__name__").getD .none) (.ref c') ctv dV) }, toks := tk })
    (hhit : ∀ cv, codeAmong pos ps.toList = some cv → ∀ (ctv : Value) (h' : Heap) (tk : Tok), (∀ b o, s.heap.get? b = some o → h'.get? b = some o) → s.heap.objs.size ≤ h'.objs.size →
      Q (.ref h'.objs.size) { s with heap := h'.push { cls := .type "function", data := .func (lamFd qual params body scope clos ((mg "__name__").getD .none) cv ctv dV) }, toks := tk }) :
    wpAny M A (makeTail "<lambda>" qual params (.expr body) scope env dV .none none pos line) Q E s := by
  have key : ∀ (ct : Value) (h1 : Heap), (∀ b o, s.heap.get? b = some o → h1.get? b = some o) → s.heap.objs.size ≤ h1.objs.size → h1.Ns mainGlobals mg →
      wpAny M A (do let cv ← functionCode env pos line "<lambda>" qual params scope (.expr body)
                    let bl ← builtinsFor mainGlobals env.builtins
                    let pm ← nsGet mainGlobals "__name__"
                    let dc ← (pure .none : Sem Value)
                    newObj (.type "function") (.func { name := "<lambda>", qualname := qual, params, body := .expr body, scope, globals := mainGlobals, closure := clos, closureTuple := ct, code := cv, builtins := bl, defaults := dV, kwdefaults := .none, annotations := none, pyModule := pm.getD .none, doc := dc })) Q E { s with heap := h1 } := by
    intro ct h1 k1 z1 g1
    have C1 := C.keeps k1
    have hP1 := k1 _ _ hP
    have hb1 := hb.keeps k1
    cases hc : codeAmong pos ps.toList with
    | none =>
      refine wpAny_bind (wpAny_functionCodeX hcode (C1.code hP1 ht) (C1.tab hP1) hc fun c' h' tk hx hge hlt _ hrec htb _ => ?_)
      have hx' : Heap.ExtBut P s.heap h' := fun b o hb' e => hx b o hb' (k1 b o e)
      obtain ⟨bm, ob, hbm, hne0, q4, hneP, hbo, q⟩ := hb1
      exact tail_end (g1.extBut hx hgP) hge0 ⟨bm, ob, hbm, hne0, q4, hneP, hx _ _ hneP hbo, q⟩ (hnew hc c' ct h' tk hx' (Nat.le_trans z1 hge) hlt hrec htb.2)
    | some cv =>
      refine wpAny_bind (wpAny_functionCode_hit hcode (C1.code hP1 ht) hc ?_)
      exact tail_end g1 hge0 hb1 (hhit cv hc ct h1 s.toks k1 z1)
  unfold makeTail
  rw [hcl, hge0]
  refine wpAny_bind (wpAny_pure ?_)
  cases hq : clos.isEmpty with
  | true =>
    simp only [if_true]
    exact wpAny_bind (wpAny_pure (key .none s.heap (fun _ _ e => e) (Nat.le_refl _) hg))
  | false =>
    simp only [Bool.false_eq_true, if_false]
    refine wpAny_bind (wpAny_newTextTuple ?_)
    exact key _ _ (fun b o e => Heap.get?_push_of_some _ e) (by rw [Heap.size_push]; omega) (hg.push _)
end
end Y

namespace Y
open PySem PySem.Spec PyProof.Rows L2 Z LamX NdefX
theorem lamO_ne {f : Addr} {F : LF} (ps : Array Value) : LamO f F ≠ .tbl ps := fun z => by unfold LamO at z; cases z
section
variable {X : Cx} {pins : List (Addr × Obj)} {σ : L2.St} {H : Hp} {s : Shared}
/-- a lambda's object just made is known from now on -/
theorem inv_lam {F : LF} {o : Obj} {t' : Nat} {pm ctv : Value} (I : Inv X pins σ H s) (ho : o = { cls := .type "function", data := .func (F.fd pm ctv) }) :
    Inv X pins σ (upd H s.heap.objs.size (LamO s.heap.objs.size F)) { s with heap := s.heap.push o, toks := t' } := by
  subst ho
  have e : (s.heap.push ({ cls := .type "function", data := .func (F.fd pm ctv) } : Obj)).get? s.heap.objs.size = some ({ cls := .type "function", data := .func (F.fd pm ctv) } : Obj) := Heap.get?_push_size _ rfl
  exact I.laid (a := s.heap.objs.size) (fun b u e => Heap.get?_push_of_some _ e) (Nat.le_refl _) ⟨⟨pm, ctv, e⟩, ⟨_, e⟩, fun h1 h2 ⟨p, t, z⟩ st => ⟨p, t, st _ z⟩⟩
/-- what stands behind the making: the lambda at f, its code object at c' -/
structure Made (T : List NTab) (F : Addr → LF) (H H1 : Hp) (f c' : Addr) : Prop where
  ext : ExtN H H1
  mono : ∀ b, H1 b = none → H b = none
  tabs : TabsN T H1
  new : H f = none
  lam : H1 f = some (LamO f (F c'))
  code : H1 c' = some (CodeO c' (F c').qual)
theorem lam_made {T : List NTab} {nm : Nat → Nat → Str} {c P : Addr} {params : Arguments} {body : Expr} {scope : Scope} {pos : Pos} {dT : Option Addr} {E : Value → Shared → Prop} {Q : Value → Shared → Prop} (I : Inv X pins σ H s) (TB : TabB X.base X.mg c P) (hcode : X.env.code = .ref c)
    (hm : (P, nm) ∈ T) (hn : nm pos.line pos.col = X.env.qual ++ "<lambda>") (hu : ∀ p ∈ T, p.1 = P → p.2 = nm) (hT : TabsN T H) (hfree : ∀ y ∈ scope.names, y.2 = .free → ∃ c, X.env.cells.lookup y.1 = some c)
    (h : ∀ (f c' : Addr) (H1 : Hp) (s' : Shared), Inv X pins σ H1 s' → Made T (fun c' => ⟨X.env.qual ++ "<lambda>", params, body, scope, cloFrom X.env.cells scope.names [], c', dT⟩) H H1 f c' → Q (.ref f) s') :
    wpAny (model X.prog X.w) X.A (makeTail "<lambda>" (X.env.qual ++ "<lambda>") params (.expr body) scope X.env (dT.elim .none .ref) .none none pos pos.line) Q E s := by
  obtain ⟨ps, hP, ht, ha⟩ := (show TabN H P nm from hT _ hm)
  have bP : s.heap.BuiltinsAt X.mg P := TB.bm.keeps I.bk
  have hP' : s.heap.get? P = some { cls := .none, data := .fields ps } := I.hok P _ hP
  refine lam_tail (closure_ok hfree) I.ok.glob (I.mod.glob.keeps I.bk) hcode (TB.code.keeps I.bk) hP' ht TB.gP bP (fun hc c' ctv h' tk hx hge hlt hrec htb => ?_) (fun cv hc ctv h' tk hx hsz => ?_)
  · obtain ⟨c2, oc, vs, t, e2, hoc, hd, hv⟩ := hrec
    cases e2
    have nC : H c' = none := I.hok.fresh hge
    have I1 := inv_table (t' := tk) (more := #[rawInt pos.line, rawInt pos.col, .ref c']) (h' := h') I hP (fun b o hb e => hx b o hb e) htb hge ⟨oc, vs, t, hoc, hd, hv⟩
    have hE : ExtN H (upd (upd H P (.tbl (ps ++ #[rawInt pos.line, rawInt pos.col, .ref c']))) c' (CodeO c' (X.env.qual ++ "<lambda>"))) := fun b o e n => by
      rw [upd_ne (ne_of_none e nC), upd_ne (fun z => n ps (Option.some.inj (e.symm.trans (by rw [z]; exact hP))))]
      exact e
    have eL : (ps ++ #[rawInt pos.line, rawInt pos.col, .ref c']).toList = ps.toList ++ [rawInt pos.line, rawInt pos.col, .ref c'] := by simp
    have T1 : TabsN T (upd (upd H P (.tbl (ps ++ #[rawInt pos.line, rawInt pos.col, .ref c']))) c' (CodeO c' (X.env.qual ++ "<lambda>"))) := fun p hp => by
      by_cases hb : p.1 = P
      · rw [hu p hp hb, hb]
        refine ⟨_, by rw [upd_ne (ne_of_none hP nC), upd_same], by rw [eL]; exact PySem.TriplesOk_snoc _ _ _ _ ht, fun p' cv hcv => ?_⟩
        rw [eL] at hcv
        rcases among_app2 _ ht hcv with z | ⟨z, z1, z2⟩
        · obtain ⟨c0, e1, e2⟩ := ha p' cv z
          exact ⟨c0, e1, hE _ _ e2 codeO_ne⟩
        · refine ⟨c', z, ?_⟩
          rw [← z1, ← z2, hn]
          exact upd_same
      · obtain ⟨ps', a1, a2, a3⟩ := hT p hp
        refine ⟨ps', by rw [upd_ne (ne_of_none a1 nC), upd_ne hb]; exact a1, a2, fun p' cv hcv => ?_⟩
        obtain ⟨c0, e1, e2⟩ := a3 p' cv hcv
        exact ⟨c0, e1, hE _ _ e2 codeO_ne⟩
    have nF := I1.hok.fresh (Nat.le_refl _)
    have I2 := inv_lam (F := ⟨X.env.qual ++ "<lambda>", params, body, scope, cloFrom X.env.cells scope.names [], c', dT⟩) (t' := tk) (pm := (X.mg "__name__").getD .none) (ctv := ctv) I1 rfl
    refine h h'.objs.size c' _ _ I2 ⟨fun b o e n => ?_, fun b e => upd_none (upd_none (upd_none e)), T1.ext fun b o e => ?_, I.hok.fresh (Nat.le_trans hge (Nat.le_of_lt hlt)), upd_same, ?_⟩
    · have e1 := hE b o e n
      exact (upd_ne (ne_of_none e1 nF)).trans e1
    · exact (upd_ne (ne_of_none e nF)).trans e
    · exact (upd_ne (Nat.ne_of_lt hlt)).trans upd_same
  · obtain ⟨c', e, hco⟩ := ha pos cv hc
    subst e
    rw [hn] at hco
    have I1 : Inv X pins σ H { s with heap := h', toks := tk } := I.kept hx
    have nF : H h'.objs.size = none := I1.hok.fresh (Nat.le_refl _)
    have I2 := inv_lam (F := ⟨X.env.qual ++ "<lambda>", params, body, scope, cloFrom X.env.cells scope.names [], c', dT⟩) (t' := tk) (pm := (X.mg "__name__").getD .none) (ctv := ctv) I1 rfl
    refine h h'.objs.size c' _ _ I2 ⟨fun b o e n => ?_, fun b e => upd_none e, hT.ext fun b o e => ?_, nF, upd_same, ?_⟩
    · exact (upd_ne (ne_of_none e nF)).trans e
    · exact (upd_ne (ne_of_none e nF)).trans e
    · exact (upd_ne (ne_of_none hco nF)).trans hco
end
/-- the Lambda expression: no default -/
theorem he_lam0 {X : Cx} {σ : L2.St} {H : Hp} {T : List NTab} {nm : Nat → Nat → Str} {c P : Addr} {params : Arguments} {body : Expr} {scope : Scope} {pos : Pos} {Q : VK} (TB : TabB X.base X.mg c P) (hcode : X.env.code = .ref c) (hm : (P, nm) ∈ T) (hn : nm pos.line pos.col = X.env.qual ++ "<lambda>") (hu : ∀ p ∈ T, p.1 = P → p.2 = nm) (hT : TabsN T H)
    (hfree : ∀ y ∈ scope.names, y.2 = .free → X.env.scope.names.lookup y.1 = some .cell ∨ X.env.scope.names.lookup y.1 = some .free) (hdef : defaultsOf params X.env = ([], []))
    (h : ∀ f c' H1, Made T (fun c' => ⟨X.env.qual ++ "<lambda>", params, body, scope, cloFrom X.env.cells scope.names [], c', none⟩) H H1 f c' → Q (.ref f) H1) : HE X (.Lambda params body scope pos) σ H Q := fun pins s I => by
  refine PySem.W.kla_eval hdef ?_
  rw [makeFunction_eq]
  simp only [List.zip_nil_right, List.filterMap_nil, List.isEmpty_nil, if_true, pure_bind]
  exact lam_made (dT := none) I TB hcode hm hn hu hT (fun y hy e => (hfree y hy e).elim (fun z => I.ok.has _ (.inl z)) fun z => I.ok.has _ (.inr z)) fun f c' H1 s' I1 M => ⟨.ref f, H1, I1, rfl, h f c' H1 M⟩
/-- .. with one default -/
theorem he_lam1 {X : Cx} {σ : L2.St} {H : Hp} {T : List NTab} {nm : Nat → Nat → Str} {c P : Addr} {params : Arguments} {body e : Expr} {scope : Scope} {pos : Pos} {Q : VK} (TB : TabB X.base X.mg c P) (hcode : X.env.code = .ref c) (hm : (P, nm) ∈ T) (hn : nm pos.line pos.col = X.env.qual ++ "<lambda>") (hu : ∀ p ∈ T, p.1 = P → p.2 = nm)
    (hfree : ∀ y ∈ scope.names, y.2 = .free → X.env.scope.names.lookup y.1 = some .cell ∨ X.env.scope.names.lookup y.1 = some .free) (hdef : defaultsOf params X.env = ([eval e X.env], []))
    (h : HE X e σ H fun v H0 => TabsN T H0 ∧ ∀ d, H0 d = none → ∀ f c' H1, Made T (fun c' => ⟨X.env.qual ++ "<lambda>", params, body, scope, cloFrom X.env.cells scope.names [], c', some d⟩) (upd H0 d (.tup [v])) H1 f c' → Q (.ref f) H1) : HE X (.Lambda params body scope pos) σ H Q := fun pins s I => by
  rw [arm_eval_Lambda, hdef]
  show wpAny _ _ (do let dv ← evalAll [eval e X.env]; let kdv ← holding dv (evalAllOpt []); makeFunction "<lambda>" (X.env.qual ++ "<lambda>") params (.expr body) scope X.env dv kdv [] pos pos.line) _ _ s
  refine wpAny_bind ?_
  show wpAny _ _ (do let v ← eval e X.env; let r ← holding [v] (evalAll []); pure (v :: r)) _ _ s
  refine wpAny_bind (thn (h pins s I) fun u s1 hh => ?_)
  obtain ⟨v, H0, I0, rv, hT, q⟩ := hh
  refine wpAny_bind (wpAny_holding (wpAny_pure (wpAny_pure ?_)))
  refine wpAny_bind (wpAny_holding (wpAny_pure ?_))
  rw [makeFunction_eq]
  simp only [List.zip_nil_right, List.filterMap_nil, List.isEmpty_nil, List.isEmpty_cons, Bool.false_eq_true, if_false, if_true, pure_bind]
  refine wpAny_bind (wpAny_newTextTuple ?_)
  have nD : H0 s1.heap.objs.size = none := I0.hok.fresh (Nat.le_refl _)
  have I1 : Inv X pins σ (upd H0 s1.heap.objs.size (.tup [v])) { s1 with heap := s1.heap.push { cls := .type "tuple", data := .seq [u].toArray }, toks := s1.toks } :=
    I0.laid (fun b o e => Heap.get?_push_of_some _ e) (Nat.le_refl _) ⟨by size_fits, [u], .cons rv .nil, IsTup.new _ _⟩
  exact lam_made (dT := some s1.heap.objs.size) I1 TB hcode hm hn hu (hT.ext fun b o e => (upd_ne (ne_of_none e nD)).trans e) (fun y hy e => (hfree y hy e).elim (fun z => I0.ok.has _ (.inl z)) fun z => I0.ok.has _ (.inr z)) fun f c' H1 s' I2 M => ⟨.ref f, H1, I2, rfl, q _ nD f c' H1 M⟩
end Y

namespace Y
open PySem PySem.Spec PyProof.Rows L2 Z LamX NdefX
/-! ## a kept lambda is called, its cells shown here -/
theorem delL_ne {b : Addr} : ∀ {L : List (Addr × Obj)} {H : Hp}, (∀ p ∈ L, p.1 ≠ b) → delL H L b = H b
  | [], _, _ => rfl
  | p :: L, H, h => (delL_ne (L := L) (H := L2.del H p.1) fun q hq => h q (List.mem_cons_of_mem _ hq)).trans (L2.del_ne (Ne.symm (h p List.mem_cons_self)))
theorem delL_none {b : Addr} : ∀ {L : List (Addr × Obj)} {H : Hp}, H b = none → delL H L b = none
  | [], _, h => h
  | p :: L, H, h => delL_none (L := L) (H := L2.del H p.1) (by
      by_cases hb : b = p.1
      · rw [hb]; exact L2.del_same
      · exact (L2.del_ne hb).trans h)
theorem delL_mem {b : Addr} : ∀ {L : List (Addr × Obj)} {H : Hp}, b ∈ L.map (·.1) → delL H L b = none
  | p :: L, H, h => by
    rw [List.map_cons, List.mem_cons] at h
    by_cases hb : b = p.1
    · exact delL_none (L := L) (H := L2.del H p.1) (by rw [hb]; exact L2.del_same)
    · exact delL_mem (L := L) (H := L2.del H p.1) (h.resolve_left hb)
theorem delL_sub : ∀ {L : List (Addr × Obj)} {H : Hp}, Same (delL H L) H
  | [], H => Same.refl H
  | p :: L, H => (delL_sub (L := L) (H := L2.del H p.1)).trans fun b o e => by
      by_cases hb : b = p.1
      · rw [hb, L2.del_same] at e; cases e
      · rw [L2.del_ne hb] at e; exact e
/-- the captured cells among the shown things, what they hold (ws) -/
structure CellsL (cl : List (Str × Addr)) (fr : List Str) (ws : List (Option V)) (L : List (Addr × Obj)) : Prop where
  len : ws.length = fr.length
  all : ∀ y c, cl.lookup y = some c → ∃ o v, (c, o) ∈ L ∧ o.data = .cell v
  inj : ∀ x y c, cl.lookup x = some c → cl.lookup y = some c → x = y
  has : ∀ (i : Nat) (y : Str), fr[i]? = some y → ∃ c, cl.lookup y = some c ∧ ∀ v, ws[i]? = some (some v) → ∃ u o, L2.RelV v u ∧ (c, o) ∈ L ∧ o.data = .cell (some u)
theorem CellsL.at_ {cl : List (Str × Addr)} {fr : List Str} {ws : List (Option V)} {L : List (Addr × Obj)} {h : Heap} {H : Hp} (C : CellsL cl fr ws L) (hL : ∀ p ∈ L, h.get? p.1 = some p.2) : CellsAt cl fr ws h (delL H L) := by
  refine ⟨C.len, fun y c e => ?_, C.inj, fun i y e => ?_⟩
  · obtain ⟨o, v, m, d⟩ := C.all y c e
    exact ⟨delL_mem (List.mem_map.mpr ⟨_, m, rfl⟩), v, o, hL _ m, d⟩
  · obtain ⟨c, e1, e2⟩ := C.has i y e
    refine ⟨c, e1, fun v hv => ?_⟩
    obtain ⟨u, o, r, m, d⟩ := e2 v hv
    exact ⟨u, r, o, hL _ m, d⟩
/-- a kept lambda with its cells shown: what is known of it in H -/
structure Kept (F : LF) (f : Addr) (fr : List Str) (dvs : List V) (ws : List (Option V)) (L : List (Addr × Obj)) (H : Hp) : Prop where
  lam : H f = some (LamO f F)
  code : H F.c = some (CodeO F.c F.qual)
  dfl : LDef F dvs H
  shw : ∀ p ∈ L, H p.1 = some (.frz p.2 Tr)
  nd : (L.map (·.1)).Nodup
  cells : CellsL F.cl fr ws L
theorem Kept.ext {F : LF} {f : Addr} {fr : List Str} {dvs : List V} {ws : List (Option V)} {L : List (Addr × Obj)} {H H' : Hp} (k : Kept F f fr dvs ws L H) (s : Same H H') : Kept F f fr dvs ws L H' :=
  ⟨s _ _ k.lam, s _ _ k.code, ⟨k.dfl.1, fun T e => s _ _ (k.dfl.2 T e)⟩, fun p hp => s _ _ (k.shw p hp), k.nd, k.cells⟩
section
variable {X : Cx} {σ : L2.St} {H : Hp} {i k : Nat} {a : Str} {p1 p2 : Pos} {f : Addr} {F : LF} {fr : List Str} {dvs : List V} {ws : List (Option V)} {L : List (Addr × Obj)} {sp : List (Option V) → Hp → VK → XK → Prop} {W : WX} {E : XK} {Q : VK}
/-- a(), a the name of slot i -/
theorem he_callLam (tk : Takes X W) (hW : ∀ cls d σ' H', E cls d H' → W cls d σ' H') (LO : LOk X.prog X.w X.K X.mg X.base (L2.CX X.prog X.w) k f F fr dvs sp) (hr : Room k X.A) (hs : σ[i]? = some (some (.ref f))) (KH : Kept F f fr dvs ws L H)
    (h : sp ws (delL H L) (fun v H' => (∀ p ∈ L, H' p.1 = none) → Q v (shownL H' L)) (fun cls d H' => (∀ p ∈ L, H' p.1 = none) → E cls d (shownL H' L))) (hN : X.N[i]? = some a) (hv : Vis X.env.scope a) (hd : (a == ("__debug__" : Str)) = false := by decide) (hcd : (a == ("__classdict__" : Str)) = false := by decide) :
    HE X (.Call (.Name a p1) [] [] p2) σ H Q := fun pins s I => by
  refine wpAny_Call_Name_kw (thn ((pe_var (pos := p1) (i := i) hN hv hd hcd).run pins s σ H (fun v H1 => v = .ref f ∧ H1 = H) I ⟨.ref f, hs, rfl, rfl⟩) fun u s1 ⟨v, H1, I1, r1, q1⟩ => ?_)
  obtain ⟨ev, eH⟩ := q1
  subst ev
  rw [eH] at I1
  obtain rfl : u = Value.ref f := r1
  obtain ⟨⟨pm, ctv, ho⟩, _, _⟩ := I1.hok f _ KH.lam
  refine PySem.W.callWith_F0 ⟨_, _, _, _, ho⟩ ?_
  have e0 := I1.env0
  have sh : ∀ p ∈ L, Shown X.stack H s1 p.1 p.2 := fun p hp => Shown.of I1.hok e0.frf (KH.shw p hp)
  have off : ∀ b v, H b = some v → (∀ o, v ≠ .frz o Tr) → delL H L b = H b := fun b v e n => delL_ne fun p hp z => by
    have q := KH.shw p hp
    rw [z, e] at q
    exact n _ (Option.some.inj q)
  have o1 : delL H L f = some (LamO f F) := (off f _ KH.lam fun o z => by unfold LamO at z; cases z).trans KH.lam
  have o2 : delL H L F.c = some (CodeO F.c F.qual) := (off _ _ KH.code fun o z => by unfold CodeO at z; cases z).trans KH.code
  have o3 : LDef F dvs (delL H L) := ⟨KH.dfl.1, fun T e => (off T _ (KH.dfl.2 T e) fun o z => by cases z).trans (KH.dfl.2 T e)⟩
  have rc : codeAny (model X.prog X.w) X.A (.call (.ref f) ⟨[], []⟩) (CR (L2.CX X.prog X.w) X.stack X.prog X.w H s1 Q E) s1 :=
    bareL baresX sh KH.nd (LO.run X.A X.stack s1 (delL H L) ws _ _ hr (env0_delL e0 sh KH.nd) o1 o2 o3 (KH.cells.at_ fun p hp => (sh p hp).ob) h)
  have hx : Passes (L2.CX X.prog X.w) X E := passes_call tk hW
  refine wpAny_call (codeAny_mono rc fun r s' hq => ?_)
  cases r with
  | error e => exact hx pins σ H s1 e s' I1 hq
  | ok fl =>
    cases fl with
    | ret u => exact I1.after hq
    | next => exact False.elim hq
    | brk => exact False.elim hq
    | cont => exact False.elim hq
end
end Y

namespace Y
open PySem PySem.Spec PyProof.Rows L2 Z
/-! ## a text in a list of texts; what a caught error keeps -/
theorem dts_str {K : PySem.W.Frag} {H : Hp} {ns : List Str} {xs : List V} (h : Dts K (ns.map .str) xs H) : xs = ns.map V.str := by
  refine List.ext_getElem? fun i => ?_
  cases e : ns[i]? with
  | none =>
    rw [List.getElem?_map, e]
    refine List.getElem?_eq_none ?_
    rw [h.1, List.length_map]
    exact List.getElem?_eq_none_iff.mp e
  | some n =>
    obtain ⟨hi, _⟩ := List.getElem?_eq_some_iff.mp e
    have hx : i < xs.length := by rw [h.1, List.length_map]; exact hi
    have q := h.2 i xs[i] (.str n) (List.getElem?_eq_getElem hx) (by rw [List.getElem?_map, e]; rfl)
    rw [List.getElem?_map, e, List.getElem?_eq_getElem hx]
    cases hq : xs[i] with
    | str m => rw [hq] at q; cases q; rfl
    | _ => rw [hq] at q; cases q
theorem inV_str (n : Str) : ∀ ns : List Str, inV (.str n) (ns.map V.str) = ns.any fun m => decide (m = n)
  | [] => rfl
  | m :: ns => by
    have h := inV_str n ns
    unfold inV at h ⊢
    rw [List.map_cons, List.any_cons, h, List.any_cons]
    congr 1
theorem flat_strs (ns : List Str) : (ns.map V.str).all flatV = true := by
  induction ns with
  | nil => rfl
  | cons n ns ih => rw [List.map_cons, List.all_cons, ih]; rfl
section
variable {X : Cx} {σ : L2.St} {S : Hp} {a b : Expr} {pos : Pos} {n : Str} {ns : List Str}
theorem opE_inLs {K : PySem.W.Frag} : OpE (rIn K false) S (Dt K (.str n)) (Dt K (.list (ns.map .str))) (Dt K (.bool (ns.any fun m => decide (m = n)))) := fun v w S1 H1 _ s pv pw Q q => by
  cases pv
  obtain ⟨l, xs, rfl, hl, hx, z⟩ := pw.lst_inv
  rw [dts_str hx] at hl
  refine ⟨l, ns.map V.str, rfl, .inl (sql_of (s _ _ hl)), rfl, flat_strs ns, ?_⟩
  rw [if_neg Bool.false_ne_true, inV_str]
  exact q _ S1 H1 (Gr.refl s) (.bl _)
theorem et_inLs (ha : EE X σ S a (Dt X.K (.str n))) (hb : EE X σ S b (Dt X.K (.list (ns.map .str)))) (hm : behindInMarks .In b = false := by rfl) : ET X σ S (.Compare a [.In] [b] pos) (ns.any fun m => decide (m = n)) := et_cmp op_in_seq ha hb opE_inLs hm
end
/-- a shown own error, its code, the attribute n -/
def ExcAt (C : Addr) (code n : Str) (v : V) (w : V) (S : Hp) : Prop := ∃ (a : Addr) (oe : Obj) (dd : Addr) (fs : List (Str × V)), w = .ref a ∧ S a = some (.frz oe Tr) ∧ oe.cls = .ref C ∧ oe.dict = some dd ∧ (∃ vs, oe.data = .fields vs) ∧ S dd = some (.xd fs) ∧ fs.lookup ("code" : Str) = some (V.str code) ∧ fs.lookup n = some v
instance {C : Addr} {code n : Str} {v : V} : Mn (ExcAt C code n v) := ⟨fun s ⟨a, oe, dd, fs, h1, h2, h3, h4, h5, h6, h7, h8⟩ => ⟨a, oe, dd, fs, h1, s _ _ h2, h3, h4, h5, s _ _ h6, h7, h8⟩⟩
section
variable {X : Cx} {σ : L2.St} {S : Hp} {e : Expr} {pos : Pos} {n code : Str} {v : V} {C : Addr}
theorem ee_code (T : XfC X.K C) (h0 : PySem.W.findIn X.K (.ref C) "code" = some none) (he : EE X σ S e (ExcAt C code n v)) (hb : attributeBase e "code" X.env (eval e X.env) = eval e X.env := by rfl) : EE X σ S (.Attribute e "code" pos) (Dt X.K (.str code)) :=
  ee_xf T h0 he (fun w S1 ⟨a, oe, dd, fs, h1, h2, h3, h4, h5, h6, h7, h8⟩ => ⟨a, oe, dd, fs, _, h1, h2, h3, h4, h5, h6, h7, .str _⟩) hb
theorem ee_kept (T : XfC X.K C) (h0 : PySem.W.findIn X.K (.ref C) n = some none) (he : EE X σ S e (ExcAt C code n v)) (hb : attributeBase e n X.env (eval e X.env) = eval e X.env := by rfl) : EE X σ S (.Attribute e n pos) (fun w _ => w = v) :=
  ee_xf T h0 he (fun w S1 ⟨a, oe, dd, fs, h1, h2, h3, h4, h5, h6, h7, h8⟩ => ⟨a, oe, dd, fs, v, h1, h2, h3, h4, h5, h6, h8, rfl⟩) hb
end
end Y

namespace Y
open PySem PySem.Spec PyProof.Rows L2 Z
/-- a state with the exception shown, and back -/
theorem Gr.unshown {S H S1 H1 : Hp} {a : Addr} {oe : Obj} (s : Same S H) (n : H a = none) (g : Gr (shown S a oe) (shown H a oe) S1 H1) : Gr S H (L2.del S1 a) (L2.del H1 a) := by
  have nS : S a = none := s.free n
  refine ⟨fun b o e => ?_, fun b o e => ?_, fun b o e => ?_, fun b o e => ?_⟩
  · have hb := ne_of_none e nS
    exact (L2.del_ne hb).trans (g.st b o ((shown_ne hb).trans e))
  · by_cases hb : b = a
    · rw [hb, L2.del_same] at e; cases e
    · rw [L2.del_ne hb] at e
      exact (L2.del_ne hb).trans (g.sub b o e)
  · have hb := ne_of_none e n
    exact (L2.del_ne hb).trans (g.hh b o ((shown_ne hb).trans e))
  · have hb := ne_of_none e n
    exact (L2.del_ne hb).trans ((g.old b o ((shown_ne hb).trans e)).trans (shown_ne hb))
theorem shown_same_sub {S H : Hp} {a : Addr} {oe : Obj} (s : Same S H) : Same (shown S a oe) (shown H a oe) := fun b o e => by
  by_cases hb : b = a
  · subst hb; rw [shown_same] at e ⊢; exact e
  · rw [shown_ne hb] at e ⊢; exact s b o e
/-- shown things put back on top -/
theorem Gr.shownL {S H S1 H1 : Hp} {L : List (Addr × Obj)} (g : Gr S (delL H L) S1 H1) (hL : ∀ p ∈ L, H1 p.1 = none) (hk : ∀ p ∈ L, H p.1 = some (.frz p.2 Tr)) (nd : (L.map (·.1)).Nodup) : Gr S H S1 (shownL H1 L) := by
  have atL : ∀ {L : List (Addr × Obj)} {p : Addr × Obj}, p ∈ L → (L.map (·.1)).Nodup → Y.shownL H1 L p.1 = some (.frz p.2 Tr) := by
    intro L
    induction L with
    | nil => intro p hp; cases hp
    | cons q L ih =>
      intro p hp nd
      rw [List.map_cons, List.nodup_cons] at nd
      rcases List.mem_cons.mp hp with e | e
      · rw [e]; exact shown_same
      · exact (shown_ne fun z => nd.1 (by rw [← z]; exact List.mem_map_of_mem e)).trans (ih e nd.2)
  have top : Same H1 (Y.shownL H1 L) := fun b o e => by
    have hb : b ∉ L.map (·.1) := fun z => by
      obtain ⟨p, hp, rfl⟩ := List.mem_map.mp z
      rw [hL p hp] at e; cases e
    exact (shownL_ne hb).trans e
  refine ⟨g.st, g.sub.trans top, fun b o e => ?_, fun b o e => ?_⟩
  · by_cases hb : b ∈ L.map (·.1)
    · obtain ⟨p, hp, rfl⟩ := List.mem_map.mp hb
      rw [hk p hp] at e
      rw [atL hp nd]; exact e
    · exact top b o (g.hh b o ((delL_ne fun p hp z => hb (by rw [← z]; exact List.mem_map_of_mem hp)).trans e))
  · by_cases hb : b ∈ L.map (·.1)
    · obtain ⟨p, hp, rfl⟩ := List.mem_map.mp hb
      have n1 : S1 p.1 = none := g.sub.free (hL p hp)
      rw [n1, g.st.free n1]
    · exact g.old b o ((delL_ne fun p hp z => hb (by rw [← z]; exact List.mem_map_of_mem hp)).trans e)
end Y

namespace Y
open PySem PySem.Spec PyProof.Rows L2 L2H Z
/-! ## a def called within an except suite, the caught exception pinned; it raises nothing there (after HandS.HotCalls, without its wish on the exception's context) -/
structure FnP (P : Program) (w : World) (K : PySem.W.Frag) (mg : Str → Option Value) (base : Heap) (k : Nat) (f : Addr) (fd : FuncData) (ps : List Str) (sp : Addr × Obj → List V → Hp → VK → Prop) : Prop where
  len : ∀ p vs H Q, sp p vs H Q → vs.length = ps.length
  run : ∀ (A : Around) (outer : List Env) (s : Shared) (H : Hp) (args : Args) (us : List Value) (vs : List V) (Q : VK) (p : Addr × Obj), RoomH k A → PinOk outer H s p → Env0 P w K mg base A outer s H → BindsTo s fd args (ps.zip us) → Vals vs us → sp p vs H Q →
    codeAny (model P w) A (.call (.ref f) args) (CR CX0 outer P w H s Q (fun _ _ _ => False)) s
section
variable {P : Program} {w : World} {K : PySem.W.Frag} {mg : Str → Option Value} {base : Heap} {x qual : Str} {params : Arguments} {body : List Stmt} {scope : Scope} {dvs : List V} {kws : List (Str × V)} {f : Addr} {fd : FuncData} {N ps : List Str} {k : Nat} {sp : Addr × Obj → List V → Hp → VK → Prop}
theorem fn_hsP (F : FunD K x qual params body scope dvs kws f fd) (S : FnScope N ps scope) (len : ∀ p vs H Q, sp p vs H Q → vs.length = ps.length)
    (hb : ∀ (cdv : Value) (A : Around) (outer : List Env) (s : Shared) (H : Hp) (vs : List V) (Q : VK) (p : Addr × Obj), RoomH k (A.deeper (envOfC qual scope s.heap.objs.size f cdv)) → sp p vs H Q →
      HS (cxH CX0 P w K mg base N qual scope f cdv A outer s H (fun _ _ _ => False) p) { nx := fun _ H' => Q .non H', rt := Q } body (start N vs) H) : FnP P w K mg base (k + 1) f fd ps sp := by
  obtain ⟨oc, od, dV, kV, doc, pm, an, cdv, ct, osl, rfl, lk, hcd, _, _⟩ := F.ex
  refine ⟨len, fun A outer s H args us vs Q p hr hpin e0 hbt r hsp => ?_⟩
  have hl := len _ _ _ _ hsp
  have KX : K.In s.heap := e0.mod.kin.keeps fun b o e => (e0.bs b o e).1
  have lim : s.heap.NoLimit := e0.mod.nolimit.keeps fun b o e => (e0.bs b o e).1
  have hkind : ∀ y ∈ ps.zip us, scope.names.lookup y.1 = some .local ∨ (scope.names.lookup y.1 = some .cell ∧ ((cellsFrom (s.heap.objs.size + 1) scope.names []).lookup y.1).isSome = true) := fun ⟨n, v⟩ hy => by
    rcases S.par n (List.of_mem_zip hy).1 with q | q
    · exact .inl q
    · exact .inr ⟨q, PySem.W.cellsFrom_some _ _ _ (.inl q)⟩
  refine codeAny_call_function hr.depth (KX _ _ lk) rfl S.co S.gen rfl (PySem.W.codeRec_of KX hcd) (hbt _ _ _ _ ?_)
  refine wpAny_newFunctionEnv_cells S.kind hkind fun env he s1 xx => ?_
  subst he
  refine ⟨lim.keeps xx.toInCall.keep, codeAny_func ?_⟩
  have I : Inv (cxH CX0 P w K mg base N qual scope f cdv A outer s H (fun _ _ _ => False) p) [] (L2.start N vs) H s1 := inv_startH S hpin e0 hl r xx
  refine wpAny_mono (hb cdv A outer s H vs Q p (hr.deeper _) hsp [] s1 I) (fun fl s' hs => ?_) fun e s' hs => hs
  have fin : ∀ {σ' : L2.St} {H' : Hp} {v : V} {u : Value}, Inv (cxH CX0 P w K mg base N qual scope f cdv A outer s H (fun _ _ _ => False) p) [] σ' H' s' → L2.RelV v u → Q v H' → CE outer P w H s Q u s' :=
    fun {σ' H' v u} J rv q => ⟨v, H', J.os, J.bare, J.base, J.hok, rv, q⟩
  cases fl with
  | ret u => exact hs.elim fun v ⟨σ', H', J, rv, q⟩ => fin J rv q
  | next => exact hs.elim fun σ' ⟨H', J, q⟩ => fin (v := V.non) (u := Value.none) J rfl q
  | brk => exact hs.elim fun _ ⟨_, _, q⟩ => False.elim q
  | cont => exact hs.elim fun _ ⟨_, _, q⟩ => False.elim q
end
/-- f(e), e the caught exception, in its suite -/
theorem he_callP {X : Cx} {a : Addr} {oe : Obj} {pn : List (Addr × Obj)} {k : Nat} {f : Addr} {fd : FuncData} {ps : List Str} {sp : Addr × Obj → List V → Hp → VK → Prop} {fx : Str} {e : Expr} {σ : L2.St} {H : Hp} {Q : VK} {p pos : Pos} (F : FnP X.prog X.w X.K X.mg X.base k f fd ps sp) (hr : RoomH k (X.suite a ((a, oe) :: pn)).A)
    (hm : X.mg fx = some (.ref f)) (hk : PySem.W.keepIn X.K (.ref f) = true) (hb : Binds X.K fd ps []) (ha : HE (X.suite a ((a, oe) :: pn)) e σ H (fun v H1 => v = .ref a ∧ H1 = H)) (h : sp (a, oe) [.ref a] H Q)
    (hg : Gl X fx := by rfl) (hdb : (fx == ("__debug__" : Str)) = false := by decide) (he : starEach [e] X.env = (false, eval e X.env) :: starEach [] X.env := by rfl) (hpl : (backTo pos (starEach [] X.env)).any (·.1) = false := by rfl) :
    HE (X.suite a ((a, oe) :: pn)) (.Call (.Name fx p) [e] [] pos) σ H Q := fun pins s I => by
  refine wpAny_Call_Name_kw (ld_glob I hg hm ?_ hdb)
  refine PySem.W.callWith_K (h₀ := X.base) I.ok.mod.kin hk (thn ((pa_cons (X := X.suite a ((a, oe) :: pn)) (te := bE (X.suite a ((a, oe) :: pn)) e) peb pa_nil he).run pos pins s σ H (fun vs H1 => vs = [.ref a] ∧ H1 = H) I ?_) fun us s1 ⟨vs, H1, I1, r, q⟩ => ⟨I1.kIn, ?_⟩) he hpl
  · exact fun pins' s' I' => thn (ha pins' s' I') fun u s1 ⟨v, H1, I1, r, e1, e2⟩ => ⟨v, H1, I1, r, by rw [e1], e2⟩
  · obtain ⟨rfl, rfl⟩ := q
    have hl : us.length = ps.length := by rw [← r.length]; exact F.len _ _ _ _ h
    have pk : PinOk X.stack H1 s1 (a, oe) := by
      obtain ⟨e1, n, nL, nF, nc⟩ := I1.pin (a, oe) (List.mem_append_left _ List.mem_cons_self)
      exact ⟨e1, n, fun hm' => (List.mem_cons.mp (I1.stkSub _ hm')).elim nL nF, nc⟩
    have hbt := hb s1 us I1.kIn (by rw [List.append_nil]; exact hl)
    rw [List.append_nil] at hbt
    refine wpAny_call (codeAny_mono (F.run _ X.stack s1 H1 ⟨us, []⟩ us [.ref a] Q (a, oe) hr pk I1.env0 hbt r h) fun r s' hq => ?_)
    cases r with
    | error e => exact (show False from hq).elim
    | ok fl =>
      cases fl with
      | ret u => exact I1.after hq
      | next => exact False.elim hq
      | brk => exact False.elim hq
      | cont => exact False.elim hq
end Y

namespace Y
open PySem PySem.Spec PyProof.Rows L2 L2H Z
/-! ## attributes of the pinned exception -/
/-- the exception p: its class, its code, the value of its attribute n -/
def ExcP (C : Addr) (code n : Str) (v : V) (p : Addr × Obj) (S : Hp) : Prop := ∃ (dd : Addr) (fs : List (Str × V)), p.2.cls = .ref C ∧ p.2.dict = some dd ∧ (∃ vs, p.2.data = .fields vs) ∧ S dd = some (.xd fs) ∧ fs.lookup ("code" : Str) = some (V.str code) ∧ fs.lookup n = some v
theorem ExcP.up {C : Addr} {code n : Str} {v : V} {p : Addr × Obj} {S S' : Hp} (h : ExcP C code n v p S) (s : Same S S') : ExcP C code n v p S' := by
  obtain ⟨dd, fs, h1, h2, h3, h4, h5, h6⟩ := h
  exact ⟨dd, fs, h1, h2, h3, s _ _ h4, h5, h6⟩
section
variable {X : Cx} {σ : L2.St} {S : Hp} {e : Expr} {P : V → Hp → Prop} {pos : Pos} {C dd : Addr} {n code : Str} {p : Addr × Obj} {fs : List (Str × V)} {v : V}
theorem ee_xfP [Mn P] (hp : p ∈ X.pn) (hc : p.2.cls = .ref C) (hdd : p.2.dict = some dd) (hf : ∃ vs, p.2.data = .fields vs) (T : XfC X.K C) (hno : PySem.W.findIn X.K (.ref C) n = some none) (he : EE X σ S e (fun w _ => w = .ref p.1)) (hx : S dd = some (.xd fs)) (l : fs.lookup n = some v) (pv : P v S)
    (hb : attributeBase e n X.env (eval e X.env) = eval e X.env := by rfl) : EE X σ S (.Attribute e n pos) P := fun H s Q q pins sh I => by
  refine attr_of hb (thn (he H s (fun w H1 => w = .ref p.1 ∧ ∃ S1, Gr S H S1 H1) (fun v S1 H1 g pv => ⟨pv, S1, g⟩) pins sh I) fun x s1 hh => ?_)
  obtain ⟨w, H1, I1, rx, ew, S1, g⟩ := hh
  subst ew
  obtain rfl : x = Value.ref p.1 := rx
  obtain ⟨vs, hd⟩ := hf
  have ho : s1.heap.get? p.1 = some p.2 := (I1.pin p (List.mem_append_left _ hp)).1
  have hx1 : ObjOk X.prog X.w H1 s1.heap dd (.xd fs) := I1.hok dd _ (g.sub _ _ (g.st _ _ hx))
  obtain ⟨mA, hns, hr⟩ := hx1
  obtain ⟨od, hod, hl⟩ := lookIn_ns hns
  obtain ⟨u', hu, ru⟩ := RelO.some_of (v := v) (o := mA n) (by rw [← l]; exact hr n)
  have J : PySem.W.InstAt s1.heap p.1 p.2 C (some od) := ⟨ho, hc, by unfold PySem.W.notCls; rw [hd] <;> rfl, by rw [hdd]; exact hod⟩
  exact HandSPX.exc_get I1.kIn J T.ga T.gg T.exC (PySem.W.findObj_own T.hdC hno rfl (by rw [hl, hu])) (handed_of ru) ⟨v, H1, I1.tok _, ru, q v S1 H1 g (Mn.up g.st pv)⟩
theorem ee_codeP (hp : p ∈ X.pn) (px : ExcP C code n v p S) (T : XfC X.K C) (h0 : PySem.W.findIn X.K (.ref C) "code" = some none) (he : EE X σ S e (fun w _ => w = .ref p.1)) (hb : attributeBase e "code" X.env (eval e X.env) = eval e X.env := by rfl) : EE X σ S (.Attribute e "code" pos) (Dt X.K (.str code)) := by
  obtain ⟨dd, fs, h1, h2, h3, h4, h5, h6⟩ := px
  exact ee_xfP hp h1 h2 h3 T h0 he h4 h5 (.str _) hb
theorem ee_keptP [Mn P] (hp : p ∈ X.pn) (px : ExcP C code n v p S) (T : XfC X.K C) (h0 : PySem.W.findIn X.K (.ref C) n = some none) (he : EE X σ S e (fun w _ => w = .ref p.1)) (pv : P v S) (hb : attributeBase e n X.env (eval e X.env) = eval e X.env := by rfl) : EE X σ S (.Attribute e n pos) P := by
  obtain ⟨dd, fs, h1, h2, h3, h4, h5, h6⟩ := px
  exact ee_xfP hp h1 h2 h3 T h0 he h4 h6 pv hb
end
end Y

namespace Y
open PySem PySem.Spec PyProof.Rows L2 Z
section
variable {X : Cx} {pins : List (Addr × Obj)} {σ : L2.St} {S H : Hp} {s : Shared} {x : Str} {c : Addr}
/-- a cell of the running frame may be shown -/
theorem show_cell (I : Inv X pins σ H s) (e : X.env.cells.lookup x = some c) (hf : X.fn x = true) : ∃ o cv, o.data = .cell cv ∧ Show X.base X.stack H s c o := by
  obtain ⟨cv, o, ho, hd⟩ := I.cell x c e
  have lt := I.ok.cab x c hf e
  refine ⟨o, cv, hd, ho, I.freeC x c e, fun hm => ?_, ?_⟩
  · rcases List.mem_cons.mp (I.stkSub c hm) with h | h
    · exact I.cne x c e h
    · obtain ⟨_, o', e', _⟩ := I.ok.funs.mem h
      exact absurd (Heap.lt_size e') (Nat.not_lt.mpr lt)
  · cases hb : X.base.get? c with
    | none => rfl
    | some o' => exact absurd (Heap.lt_size (I.ok.bs c o' hb).1) (Nat.not_lt.mpr lt)
/-- f(e, ..) that raises, as an expression -/
theorem he_callX {k : Nat} {sp : Sp} {e : Expr} {es : List Expr} {Ps : List (V → Hp → Prop)} {fx : Str} {p pos : Pos} {E : XK} {Q : VK} (tk : Takes X (fun cls d _ H => E cls d H)) (D1 : ∃ f fd ps, FnOk X.prog X.w X.K X.mg X.base (L2.CX X.prog X.w) k f fd ps sp ∧ X.mg fx = some (.ref f) ∧ PySem.W.keepIn X.K (.ref f) = true ∧ Binds X.K fd ps []) (hr : Room k X.A) (ha : EA X σ S (e :: es) Ps) (s : Same S H)
    (q : ∀ vs S1 H1, Gr S H S1 H1 → Al Ps vs S1 → ∀ Q, sp vs H1 Q E) (hg : Gl X fx := by rfl) (hdb : (fx == ("__debug__" : Str)) = false := by decide)
    (he : starEach (e :: es) X.env = (false, eval e X.env) :: starEach es X.env := by rfl) (hpl : (backTo pos (starEach es X.env)).any (·.1) = false := by rfl) : HE X (.Call (.Name fx p) (e :: es) [] pos) σ H Q := by
  obtain ⟨f, fd, ps, F, hm, hk, hb⟩ := D1
  refine he_of (pe_call F hr hg hm hk hb .nil (passes_call tk fun _ _ _ _ h => h) pab hdb he hpl) (ha.2 H s _ fun vs S1 H1 g1 al => ?_)
  rw [List.append_nil]
  exact q vs S1 H1 g1 al _
end
end Y

namespace Y
open PySem PySem.Spec PyProof.Rows L2 Z
/-! ## a list comprehension over things of any kind (Z3's ee_lcG with predicates for the items) -/
section
variable {α : Type} {R : α → V → Hp → Prop} {X : Cx} {σ : L2.St} {S : Hp} {elt tg iter : Expr} {ifs : List Expr} {scope : Scope} {own : List (Str × Nat)} {pos : Pos} {ds : List α} {p : α → Bool} {G : α → PyData → Prop}
theorem lc_loopA (hz : ds.length ≤ sizeLine)
    (hel : ∀ d ∈ ds, ∀ v S', Same S S' → R d v S' → ∃ τ, wipe τ (own.map (·.2)) = wipe σ (own.map (·.2)) ∧ ∀ (s : Shared) (H0 : Hp) (C : Addr) (cl : List (Str × Addr)) (fp : List Addr),
      EG (X.blk s H0 scope (compEnvC scope cl C X.env) fp) S' tg v (wipe σ (own.map (·.2))) τ ∧ ETs (X.blk s H0 scope (compEnvC scope cl C X.env) fp) τ S' ifs (p d) ∧ (p d = true → EE (X.blk s H0 scope (compEnvC scope cl C X.env) fp) τ S' elt (Ex X.K (G d)))) {H : Hp} (Q : VK) (q : ∀ v S' H', Gr S H S' H' → (∃ rs, Paired G (ds.filter p) rs ∧ Dt X.K (.list rs) v S') → Q v H') {J : It} {S1 H1 : Hp} (g1 : Gr S H S1 H1) (it : ItP J S1 (ds.map R)) :
    ∀ D, H1 D = none → ∃ W : Nat → Nat → Hp → Prop, (∃ m, W 0 m (upd H1 D (.lst []))) ∧ ∀ i m H, W i m H →
      (J.stop i H ∧ Q (.ref D) H) ∨ (J.go i H ∧ ∃ Nx : Hp → Prop, (∀ H', Nx H' → ∃ m', m' < m ∧ W (i + 1) m' H') ∧ ∀ x H', J.yld i H x H' → gBlk X scope tg x (wipe σ (own.map (·.2))) H' fun σ2 H2 => wipe σ2 (own.map (·.2)) = wipe σ (own.map (·.2)) ∧ tBlk X scope ifs σ2 H2 fun b H3 =>
        if b = true then eBlk X scope elt σ2 H3 fun y H4 => ∃ acc, H4 D = some (.lst acc) ∧ acc.length < sizeLine ∧ Nx (upd H4 D (.lst (acc ++ [y]))) else Nx H3) := by
  intro D hD
  have hD1 : S1 D = none := g1.sub.free hD
  have hlen : (List.map R ds).length = ds.length := List.length_map ..
  refine lc_it (g := gBlk X scope tg) (tt := tBlk X scope ifs) (te := eBlk X scope elt) (vs := own.map (·.2)) (σ := σ) (Qd := Q (.ref D)) it (fun i H' => ∃ S' xs rs, Same S1 S' ∧ Same S' H' ∧ Same H1 H' ∧ (∀ a o, H1 a = some o → S' a = S1 a) ∧ S' D = none ∧ H' D = some (.lst xs) ∧ Paired G ((ds.take i).filter p) rs ∧ Dts X.K rs xs S' ∧ xs.length ≤ i)
    ⟨S1, [], [], Same.refl _, Same.mut g1.sub hD1, Same.new hD, fun _ _ _ => rfl, hD1, upd_same, .nil, .nil, Nat.le_refl _⟩ (fun i H' _ ⟨S', _, _, a, b, _⟩ => a.trans b) ?_ ?_
  · intro i x H2 H3 hi2 ⟨S2, xs, rs, k1, k2, k3, k4, k5, k6, k7, k8, k9⟩ y
    rw [hlen] at hi2
    obtain ⟨S3, g3, P, hP, px⟩ := y S2 k1 k2
    obtain ⟨d, hd⟩ : ∃ d, ds[i]? = some d := ⟨ds[i], List.getElem?_eq_getElem hi2⟩
    rw [List.getElem?_map, hd] at hP
    obtain rfl := Option.some.inj hP
    have sS3 : Same S S3 := g1.st.trans (k1.trans g3.st)
    obtain ⟨τ, hw, hb⟩ := hel d (List.mem_of_getElem? hd) x S3 sS3 px
    have hf : ∀ q, p d = q → (ds.take (i + 1)).filter p = (ds.take i).filter p ++ (if q = true then [d] else []) := fun q hq => by
      rw [take_snoc hd, List.filter_append]
      cases q with
      | true => simp [hq]
      | false => simp [hq]
    intro sh H0 C cl fp
    refine (hb sh H0 C cl fp).1 H3 g3.sub _ ⟨hw, ?_⟩
    intro sh' H0' C' cl' fp'
    refine (hb sh' H0' C' cl' fp').2.1 H3 g3.sub _ fun S4 H4 g4 => ?_
    have g34 := g3.trans g4
    cases hpd : p d with
    | false =>
      refine iteF ⟨S4, xs, rs, k1.trans g34.st, g34.sub, k3.trans g34.hh, fun a o h => (g34.old a o (k3 a o h)).trans (k4 a o h), (g34.old D _ k6).trans k5, g34.hh _ _ k6, ?_, k8.up g34.st, by omega⟩
      rw [hf false hpd]
      simpa using k7
    | true =>
      refine iteT ?_
      intro sh'' H0'' C'' cl'' fp''
      refine ((hb sh'' H0'' C'' cl'' fp'').2.2 hpd).up g4.st H4 g4.sub _ fun w S5 H5 g5 ⟨r, hr, hrw⟩ => ?_
      have g := g34.trans g5
      have hD5 : S5 D = none := (g.old D _ k6).trans k5
      refine ⟨xs, g.hh _ _ k6, Nat.lt_of_le_of_lt k9 (Nat.lt_of_lt_of_le hi2 hz), S5, xs ++ [w], rs ++ [r], k1.trans g.st, Same.mut g.sub hD5, fun a o h => ?_, fun a o h => (g.old a o (k3 a o h)).trans (k4 a o h), hD5, upd_same, ?_, (k8.up g.st).snoc hrw, by rw [List.length_append]; show xs.length + 1 ≤ i + 1; omega⟩
      · rw [upd_ne (ne_of_none h hD)]; exact g.hh _ _ (k3 a o h)
      · rw [hf true hpd]
        exact paired_snoc k7 hr
  · intro H2 ⟨S2, xs, rs, k1, k2, k3, k4, k5, k6, k7, k8, k9⟩
    rw [hlen] at k7 k9
    rw [List.take_length] at k7
    refine q _ (upd S2 D (.lst xs)) H2 (g1.trans ⟨k1.trans (Same.new k5), fun a o h => ?_, k3, fun a o h => by rw [upd_ne (ne_of_none h hD)]; exact k4 a o h⟩) ⟨rs, k7, Dt.lst_mk upd_same (k8.up (Same.new k5)) (Nat.le_trans k9 hz)⟩
    by_cases ha : a = D
    · subst ha; rw [upd_same] at h; rw [k6]; exact h
    · rw [upd_ne ha] at h; exact k2 a o h
theorem lc_readA (hi : EI X σ S tg iter (ds.map R)) (hz : ds.length ≤ sizeLine)
    (hel : ∀ d ∈ ds, ∀ v S', Same S S' → R d v S' → ∃ τ, wipe τ (own.map (·.2)) = wipe σ (own.map (·.2)) ∧ ∀ (s : Shared) (H0 : Hp) (C : Addr) (cl : List (Str × Addr)) (fp : List Addr),
      EG (X.blk s H0 scope (compEnvC scope cl C X.env) fp) S' tg v (wipe σ (own.map (·.2))) τ ∧ ETs (X.blk s H0 scope (compEnvC scope cl C X.env) fp) τ S' ifs (p d) ∧ (p d = true → EE (X.blk s H0 scope (compEnvC scope cl C X.env) fp) τ S' elt (Ex X.K (G d)))) {H : Hp} (s : Same S H) (Q : VK) (q : ∀ v S' H', Gr S H S' H' → (∃ rs, Paired G (ds.filter p) rs ∧ Dt X.K (.list rs) v S') → Q v H') :
    tLc (bI X tg iter) (gBlk X scope tg) (tBlk X scope ifs) (eBlk X scope elt) (own.map (·.2)) σ H Q := hi H s _ fun J S1 H1 g1 it => lc_loopA hz hel Q q g1 it
theorem ee_lcA (hc : X.calm = true) (hN : X.N.Nodup) (ok : BlkOk X.N X.env.scope scope own) (hi : EI X σ S tg iter (ds.map R)) (hz : ds.length ≤ sizeLine)
    (hel : ∀ d ∈ ds, ∀ v S', Same S S' → R d v S' → ∃ τ, wipe τ (own.map (·.2)) = wipe σ (own.map (·.2)) ∧ ∀ (s : Shared) (H0 : Hp) (C : Addr) (cl : List (Str × Addr)) (fp : List Addr),
      EG (X.blk s H0 scope (compEnvC scope cl C X.env) fp) S' tg v (wipe σ (own.map (·.2))) τ ∧ ETs (X.blk s H0 scope (compEnvC scope cl C X.env) fp) τ S' ifs (p d) ∧ (p d = true → EE (X.blk s H0 scope (compEnvC scope cl C X.env) fp) τ S' elt (Ex X.K (G d))))
    (hs : ∀ x, foldedSetIterable iter X.env x = pure x := by intro _; rfl) :
    EE X σ S (.ListComp elt [⟨tg, iter, ifs, 0⟩] scope pos) (fun v S' => ∃ rs, Paired G (ds.filter p) rs ∧ Dt X.K (.list rs) v S') := fun H s Q q =>
  he_of (pe_lc (own := own) (wi := bI X tg iter) (g := gBlk X scope tg) (tt := tBlk X scope ifs) (te := eBlk X scope elt) hc hN pib ok
    (fun s H0 C cl fp => ⟨fun pins sh σ' H' v u Q' I r h => h s H0 C cl fp pins sh u I r⟩) (fun s H0 C cl fp => ⟨fun pins sh σ' H' Q' I h => h s H0 C cl fp pins sh I⟩) (fun s H0 C cl fp => ⟨fun pins sh σ' H' Q' I h => h s H0 C cl fp pins sh I⟩) hs) (lc_readA hi hz hel s Q q)
end
end Y

namespace Y
open PySem PySem.Spec PyProof.Rows L2 Z
/-- a list whose items have the Ps -/
def LstP (Ps : List (V → Hp → Prop)) (v : V) (S : Hp) : Prop := ∃ l xs, v = .ref l ∧ S l = some (.lst xs) ∧ Al Ps xs S
theorem al_len {Ps : List (V → Hp → Prop)} {xs : List V} {H : Hp} (h : Al Ps xs H) : xs.length = Ps.length := by
  induction h with
  | nil => rfl
  | cons _ _ ih => rw [List.length_cons, List.length_cons, ih]
theorem al_get {Ps : List (V → Hp → Prop)} {xs : List V} {H : Hp} (h : Al Ps xs H) : ∀ {i : Nat} {x : V}, xs[i]? = some x → ∃ P, Ps[i]? = some P ∧ P x H := by
  induction h with
  | nil => intro i x e; cases e
  | cons p _ ih =>
    intro i x e
    cases i with
    | zero => cases e; exact ⟨_, rfl, p⟩
    | succ i => exact ih e
section
variable {X : Cx} {σ : L2.St} {S : Hp} {e tg : Expr} {Ps : List (V → Hp → Prop)}
theorem ei_lstP (hP : ∀ P ∈ Ps, Mn P) (ha : EE X σ S e (LstP Ps)) : EI X σ S tg e Ps := fun H s R q =>
  hi_of (pi_list peb) (ha H s _ fun v S1 H1 g1 pv => by
    obtain ⟨l, xs, rfl, hl, hx⟩ := pv
    have hlen := al_len hx
    refine ⟨l, rfl, ⟨xs, sql_of (g1.sub _ _ hl)⟩, q _ S1 H1 g1 ⟨fun i H hi hs => ?_, fun H hs => ?_, fun i H x H' hi hs y T st th => ?_⟩⟩
    · rw [← hlen] at hi
      exact (walk_list (K := X.K) (a := l) (xs := xs)).goes i H hi (sql_of (hs _ _ hl))
    · rw [← hlen]
      exact (walk_list (K := X.K) (a := l) (xs := xs)).stops H (sql_of (hs _ _ hl))
    · rw [← hlen] at hi
      obtain ⟨rfl, hy⟩ := (walk_list (K := X.K) (a := l) (xs := xs)).yields i H x H' hi (sql_of (hs _ _ hl)) y
      obtain ⟨P, e1, e2⟩ := al_get hx hy
      have m := hP P (List.mem_of_getElem? e1)
      exact ⟨T, Gr.refl th, P, e1, m.up st e2⟩)
end
/-- a closure's promise seen from the state with the cells: the state without them, and back -/
theorem Gr.under {S H S1 H1 : Hp} {L : List (Addr × Obj)} (s : Same S H) (hS : ∀ p ∈ L, S p.1 = some (.frz p.2 Tr)) (nd : (L.map (·.1)).Nodup) (g : Gr (delL S L) H S1 H1) : Gr S H (Y.shownL S1 L) H1 := by
  have atL : ∀ {L : List (Addr × Obj)} {p : Addr × Obj}, p ∈ L → (L.map (·.1)).Nodup → Y.shownL S1 L p.1 = some (.frz p.2 Tr) := by
    intro L
    induction L with
    | nil => intro p hp; cases hp
    | cons q L ih =>
      intro p hp nd
      rw [List.map_cons, List.nodup_cons] at nd
      rcases List.mem_cons.mp hp with e | e
      · rw [e]; exact shown_same
      · exact (shown_ne fun z => nd.1 (by rw [← z]; exact List.mem_map_of_mem e)).trans (ih e nd.2)
  have off : ∀ b, b ∉ L.map (·.1) → delL S L b = S b := fun b hb => delL_ne fun p hp z => hb (by rw [← z]; exact List.mem_map_of_mem hp)
  refine ⟨fun b o e => ?_, fun b o e => ?_, g.hh, fun b o e => ?_⟩
  · by_cases hb : b ∈ L.map (·.1)
    · obtain ⟨p, hp, rfl⟩ := List.mem_map.mp hb
      rw [atL hp nd, ← hS p hp]; exact e
    · rw [shownL_ne hb]
      exact g.st b o ((off b hb).trans e)
  · by_cases hb : b ∈ L.map (·.1)
    · obtain ⟨p, hp, rfl⟩ := List.mem_map.mp hb
      rw [atL hp nd] at e
      rw [← e]
      exact g.hh _ _ (s _ _ (hS p hp))
    · rw [shownL_ne hb] at e
      exact g.sub b o e
  · by_cases hb : b ∈ L.map (·.1)
    · obtain ⟨p, hp, rfl⟩ := List.mem_map.mp hb
      rw [atL hp nd, hS p hp]
    · rw [shownL_ne hb]
      exact (g.old b o e).trans (off b hb)
end Y

namespace Y
open PySem PySem.Spec PyProof.Rows L2 Z
section
variable {α : Type} {R : α → V → Hp → Prop} {X : Cx} {σ : L2.St} {S : Hp} {elt iter : Expr} {scope : Scope} {pos px : Pos} {x : Str} {i : Nat} {ds : List α} {f : α → PyData}
/-- [elt for x in iter], items of any kind, each element fixed by its item -/
theorem ee_lcQ (hc : X.calm = true) (hN : X.N.Nodup) (ok : BlkOk X.N X.env.scope scope [(x, i)]) (hi : EI X σ S (.Name x px) iter (ds.map R)) (hz : ds.length ≤ sizeLine)
    (hel : ∀ d ∈ ds, ∀ v S', Same S S' → R d v S' → ∀ (s : Shared) (H0 : Hp) (C : Addr) (cl : List (Str × Addr)) (fp : List Addr), EE (X.blk s H0 scope (compEnvC scope cl C X.env) fp) ((wipe σ [i]).set i (some v)) S' elt (Dt X.K (f d)))
    (hix : X.N[i]? = some x := by rfl) (hx : ∀ (s : Shared) (H0 : Hp) (C : Addr) (cl : List (Str × Addr)) (fp : List Addr), Loc (X.blk s H0 scope (compEnvC scope cl C X.env) fp).env.scope x ∧ ((X.blk s H0 scope (compEnvC scope cl C X.env) fp).fn x = true ∨ (X.blk s H0 scope (compEnvC scope cl C X.env) fp).env.scope.names.lookup x = some .local) := by
      intros; exact ⟨by first | exact Or.inl rfl | exact Or.inr rfl, by first | exact .inl rfl | exact .inr rfl⟩)
    (hs : ∀ x, foldedSetIterable iter X.env x = pure x := by intro _; rfl) :
    EE X σ S (.ListComp elt [⟨.Name x px, iter, [], 0⟩] scope pos) (Dt X.K (.list (ds.map f))) := by
  refine (ee_lcA (R := R) (own := [(x, i)]) (p := fun _ => true) (G := fun d r => r = f d) hc hN ok hi hz (fun d hd v S' s hv => ⟨(wipe σ [i]).set i (some v), wipe1, fun sh H0 C cl fp => ?_⟩) hs).imp fun v S' h => ?_
  · obtain ⟨k1, k2⟩ := hx sh H0 C cl fp
    exact ⟨eg_name hN hix k1 k2, ets_nil, fun _ => (hel d hd v S' s hv sh H0 C cl fp).imp fun w S2 hw => ⟨_, rfl, hw⟩⟩
  · obtain ⟨rs, h1, h2⟩ := h
    rw [filter_true] at h1
    rw [← paired_map h1]
    exact h2
end
end Y

namespace Y
open PySem PySem.Spec PyProof.Rows L2 Z
/-- lambda: .. gets nothing -/
theorem lbind0 {F : LF} (hd : F.dT = none) (h : ∀ pm ctv, bindArgs (F.fd pm ctv) ⟨[], []⟩ = pure []) : LBind F [] := fun pm ctv its s h0 _ _ => by
  rw [h0 hd]
  exact .of_eq (h pm ctv)
/-- lambda x=e: .. gets its default -/
theorem lbind1 {F : LF} {x : Str} {T : Addr} (hd : F.dT = some T) (h : ∀ pm ctv, ∃ k, bindArgs (F.fd pm ctv) ⟨[], []⟩ = seqItems? (F.fd pm ctv).defaults >>= k ∧ ∀ u, k (some #[u]) = pure [(x, u)]) : LBind F [x] := fun pm ctv its s _ h1 hl => by
  obtain ⟨o, n, ho, hs⟩ := h1 T hd
  obtain ⟨k, e1, e2⟩ := h pm ctv
  match its, hl with
  | [u], _ => exact .of_defaults (show (F.dT.elim Value.none .ref) = .ref T by rw [hd]; rfl) ho hs e1 (e2 u)
end Y

namespace Y
open PySem PySem.Spec PyProof.Rows L2 Z LamX NdefX
/-! ## the running frame's cells, shown to a call -/
theorem gr_unshownL : ∀ {L : List (Addr × Obj)} {S H S1 H1 : Hp}, Same S H → (∀ p ∈ L, H p.1 = none) → (L.map (·.1)).Nodup → Gr (Y.shownL S L) (Y.shownL H L) S1 H1 → Gr S H (delL S1 L) (delL H1 L)
  | [], _, _, _, _, _, _, _, g => g
  | p :: L, S, H, S1, H1, s, n, nd, g => by
    rw [List.map_cons, List.nodup_cons] at nd
    have s1 : Same (Y.shownL S L) (Y.shownL H L) := by
      have key : ∀ {L : List (Addr × Obj)} {S H : Hp}, Same S H → Same (Y.shownL S L) (Y.shownL H L) := by
        intro L
        induction L with
        | nil => intro S H s; exact s
        | cons q L ih => intro S H s; exact shown_same_sub (ih s)
      exact key s
    have n1 : Y.shownL H L p.1 = none := (shownL_ne nd.1).trans (n p List.mem_cons_self)
    exact gr_unshownL (L := L) s (fun q hq => n q (List.mem_cons_of_mem _ hq)) nd.2 (Gr.unshown s1 n1 g)
theorem shownL_at {L : List (Addr × Obj)} {S : Hp} {p : Addr × Obj} (hp : p ∈ L) (nd : (L.map (·.1)).Nodup) : Y.shownL S L p.1 = some (.frz p.2 Tr) := by
  induction L with
  | nil => cases hp
  | cons q L ih =>
    rw [List.map_cons, List.nodup_cons] at nd
    rcases List.mem_cons.mp hp with e | e
    · rw [e]; exact shown_same
    · exact (shown_ne fun z => nd.1 (by rw [← z]; exact List.mem_map_of_mem e)).trans (ih e nd.2)
/-- data does not lean on what is shown -/
theorem dt_hide {K : PySem.W.Frag} {d : PyData} {v : V} {S : Hp} {a : Addr} {o : Obj} (h : Dt K d v S) (e : S a = some (.frz o Tr)) : Dt K d v (L2.del S a) := by
  induction h with
  | non => exact .non
  | bl b => exact .bl b
  | int i => exact .int i
  | str x => exact .str x
  | lst h l z _ ih => exact .lst ((L2.del_ne (fun q => by rw [q, e] at h; cases h)).trans h) l z fun i x d hx hd => ih i x d hx hd e
  | tup h l z _ ih =>
    refine .tup ?_ l z fun i x d hx hd => ih i x d hx hd e
    rcases h with (h | ⟨o', h⟩) | h
    · exact .inl (.inl ((L2.del_ne (fun q => by rw [q, e] at h; cases h)).trans h))
    · exact .inl (.inr ⟨o', (L2.del_ne (fun q => by rw [q, e] at h; cases h)).trans h⟩)
    · exact .inr h
theorem dt_hideL {K : PySem.W.Frag} {d : PyData} {v : V} : ∀ {L : List (Addr × Obj)} {S : Hp}, Dt K d v S → (∀ p ∈ L, S p.1 = some (.frz p.2 Tr)) → (L.map (·.1)).Nodup → Dt K d v (delL S L)
  | [], _, h, _, _ => h
  | p :: L, S, h, e, nd => by
    rw [List.map_cons, List.nodup_cons] at nd
    exact dt_hideL (L := L) (dt_hide h (e p List.mem_cons_self)) (fun q hq => (L2.del_ne fun z => nd.1 (by rw [← z]; exact List.mem_map_of_mem hq)).trans (e q (List.mem_cons_of_mem _ hq))) nd.2
/-- L: the cells of the names xs, with what they hold -/
structure CellsOf (X : Cx) (σ : L2.St) (xs : List Str) (L : List (Addr × Obj)) : Prop where
  nd : (L.map (·.1)).Nodup
  has : ∀ x ∈ xs, ∃ (c : Addr) (o : Obj), X.env.cells.lookup x = some c ∧ (c, o) ∈ L ∧ (∃ cv, o.data = .cell cv) ∧ ∀ (j : Nat) (v : V), X.N[j]? = some x → σ[j]? = some (some v) → ∃ u, o.data = .cell (some u) ∧ RelV v u
  of : ∀ p ∈ L, ∃ x ∈ xs, X.env.cells.lookup x = some p.1
section
variable {X : Cx} {pins : List (Addr × Obj)} {σ : L2.St} {S H : Hp} {s : Shared}
theorem cells_show (I : Inv X pins σ H s) : ∀ {xs : List Str}, xs.Nodup → (∀ x ∈ xs, X.env.scope.names.lookup x = some .cell ∧ X.fn x = true) → ∃ L, CellsOf X σ xs L ∧ ∀ p ∈ L, Show X.base X.stack H s p.1 p.2
  | [], _, _ => ⟨[], ⟨List.nodup_nil, fun x hx => (by cases hx), fun p hp => (by cases hp)⟩, fun p hp => (by cases hp)⟩
  | x :: xs, nd, hk => by
    rw [List.nodup_cons] at nd
    obtain ⟨L, C, hs⟩ := cells_show I nd.2 fun y hy => hk y (List.mem_cons_of_mem _ hy)
    obtain ⟨k1, k2⟩ := hk x List.mem_cons_self
    obtain ⟨c, hc⟩ := I.ok.has x (.inl k1)
    obtain ⟨o, cv, hd, sh⟩ := show_cell I hc k2
    have nc : c ∉ L.map (·.1) := fun z => by
      obtain ⟨p, hp, e⟩ := List.mem_map.mp z
      obtain ⟨y, hy, hyc⟩ := C.of p hp
      rw [e] at hyc
      exact nd.1 (by rw [I.ok.inj x y c hc hyc]; exact hy)
    refine ⟨(c, o) :: L, ⟨by rw [List.map_cons, List.nodup_cons]; exact ⟨nc, C.nd⟩, fun y hy => ?_, fun p hp => ?_⟩, fun p hp => ?_⟩
    · rcases List.mem_cons.mp hy with e | e
      · subst e
        refine ⟨c, o, hc, List.mem_cons_self, ⟨cv, hd⟩, fun j v hj hv => ?_⟩
        obtain ⟨m, _, hl⟩ := I.loc
        obtain ⟨u, r, l⟩ := hl j y v hj hv (.inr (.inl k1))
        rcases l with ⟨z, _⟩ | ⟨_, c', hc', o', ho', hd'⟩
        · have z' : X.env.scope.names.lookup y = some .local := z
          rw [k1] at z'; cases z'
        · rw [hc] at hc'; cases hc'
          rw [sh.ob] at ho'; cases ho'
          exact ⟨u, hd', r⟩
      · obtain ⟨c', o', h1, h2, h3⟩ := C.has y e
        exact ⟨c', o', h1, List.mem_cons_of_mem _ h2, h3⟩
    · rcases List.mem_cons.mp hp with e | e
      · subst e; exact ⟨x, List.mem_cons_self, hc⟩
      · obtain ⟨y, hy, h⟩ := C.of p e
        exact ⟨y, List.mem_cons_of_mem _ hy, h⟩
    · rcases List.mem_cons.mp hp with e | e
      · subst e; exact sh
      · exact hs p e
/-- a lambda's captured cells among them -/
theorem cellsL_of {xs : List Str} {L : List (Addr × Obj)} {cl : List (Str × Addr)} {fr : List Str} {js : List Nat} (ok : X.Ok) (C : CellsOf X σ xs L) (K : Caps X cl fr js) (hcl : ∀ y c, cl.lookup y = some c → y ∈ xs) (hfr : ∀ y ∈ fr, y ∈ xs) : CellsL cl fr (js.map (slotAt σ)) L := by
  refine ⟨?_, fun y c e => ?_, fun x y c e1 e2 => ok.inj x y c (K.sub x c e1) (K.sub y c e2), fun i y e => ?_⟩
  · have q := congrArg List.length K.at_
    rw [List.length_map, List.length_map] at q
    rw [List.length_map]; exact q
  · obtain ⟨c', o, h1, h2, ⟨cv, h3⟩, _⟩ := C.has y (hcl y c e)
    rw [K.sub y c e] at h1; cases h1
    exact ⟨o, cv, h2, h3⟩
  · obtain ⟨c, o, h1, h2, _, h4⟩ := C.has y (hfr y (List.mem_of_getElem? e))
    refine ⟨c, K.sup y (List.mem_of_getElem? e) c h1, fun v ev => ?_⟩
    have e2 : (js.map fun j => X.N[j]?)[i]? = some (some y) := by
      rw [K.at_, List.getElem?_map, e]; rfl
    rw [List.getElem?_map] at e2 ev
    cases ej : js[i]? with
    | none => rw [ej] at e2; cases e2
    | some j =>
      rw [ej] at e2 ev
      have hj : X.N[j]? = some y := Option.some.inj (show some (X.N[j]?) = some (some y) from e2)
      obtain ⟨u, h5, h6⟩ := h4 j v hj (slotAt_some (Option.some.inj (show some (slotAt σ j) = some (some v) from ev)))
      exact ⟨u, o, h6, h2, h5⟩
end
section
variable {X : Cx} {σ : L2.St} {S : Hp} {e : Expr} {es : List Expr} {Ps : List (V → Hp → Prop)} {x : Str} {k : Nat} {sp : Sp} {d : PyData} {p pos : Pos}
/-- f(e, ..), the cells of the names xs shown to it -/
theorem ee_callCells (xs : List Str) (hxs : xs.Nodup) (hk : ∀ y ∈ xs, X.env.scope.names.lookup y = some .cell ∧ X.fn y = true) (D : KD X.prog X.w X.K X.mg X.base x k sp) (hr : Room k X.A) (ha : EA X σ S (e :: es) Ps)
    (hsp : X.Ok → ∀ L, CellsOf X σ xs L → ∀ vs S1 H1, Same S S1 → Same S1 H1 → (∀ p ∈ L, H1 p.1 = none) → Al Ps vs S1 → ∀ Q : VK, (∀ v S2 H2, Gr (Y.shownL S1 L) (Y.shownL H1 L) S2 H2 → Dt X.K d v S2 → Q v H2) → sp vs (Y.shownL H1 L) Q E0)
    (hg : Gl X x := by rfl) (hdb : (x == ("__debug__" : Str)) = false := by decide) (he : starEach (e :: es) X.env = (false, eval e X.env) :: starEach es X.env := by rfl) (hpl : (backTo pos (starEach es X.env)).any (·.1) = false := by rfl) : EE X σ S (.Call (.Name x p) (e :: es) [] pos) (Dt X.K d) := fun H s Q q pins s0 I => by
  obtain ⟨f, fd, ps, F, hm, hkp, hb⟩ := D.ex
  refine wpAny_Call_Name_kw (ld_glob I hg hm ?_ hdb)
  refine PySem.W.callWith_K (h₀ := X.base) I.ok.mod.kin hkp (thn ((ha.2 H s (fun vs H1 => ∃ S1, Gr S H S1 H1 ∧ Al Ps vs S1) fun vs S1 H1 g al => ⟨S1, g, al⟩) pos pins s0 I) fun us s1 ⟨vs, H1, I1, r, S1, g, al⟩ => ⟨I1.kIn, ?_⟩) he hpl
  obtain ⟨L, C, hsh⟩ := cells_show I1 hxs hk
  refine run_shown F hr hb .nil pass0 hides0 I1 r hsh C.nd ?_
  rw [List.append_nil]
  refine hsp I1.ok L C vs S1 H1 g.st g.sub (fun p hp => (hsh p hp).no) al _ fun v S2 H2 g2 pv => q v (delL S2 L) (delL H2 L) (g.trans (gr_unshownL g.sub (fun p hp => (hsh p hp).no) C.nd g2)) (dt_hideL pv (fun p hp => g2.st _ _ (shownL_at hp C.nd)) C.nd)
end
/-! ## what is known without the tables -/
def noTab (S : Hp) : Hp := fun a => match S a with
  | some (.tbl _) => none
  | o => o
theorem noTab_at {S : Hp} {a : Addr} {o : HO} (h : S a = some o) (n : ∀ ps, o ≠ .tbl ps) : noTab S a = some o := by
  unfold noTab
  rw [h]
  cases o with
  | tbl ps => exact absurd rfl (n ps)
  | _ => rfl
theorem noTab_sub {S : Hp} : Same (noTab S) S := fun a o h => by
  unfold noTab at h
  cases e : S a with
  | none => rw [e] at h; cases h
  | some u =>
    rw [e] at h
    cases u with
    | tbl ps => cases h
    | _ => exact h
theorem noTab_no {S : Hp} {a : Addr} {ps : Array Value} : noTab S a ≠ some (.tbl ps) := fun h => by
  unfold noTab at h
  cases e : S a with
  | none => rw [e] at h; cases h
  | some u =>
    rw [e] at h
    cases u with
    | tbl qs => cases h
    | _ => cases h
theorem dt_noTab {K : PySem.W.Frag} {d : PyData} {v : V} {S : Hp} (h : Dt K d v S) : Dt K d v (Y.noTab S) := by
  induction h with
  | non => exact .non
  | bl b => exact .bl b
  | int i => exact .int i
  | str x => exact .str x
  | lst h l z _ ih => exact .lst (noTab_at h (fun _ z => nomatch z)) l z ih
  | tup h l z _ ih =>
    refine .tup ?_ l z ih
    rcases h with (h | ⟨o', h⟩) | h
    · exact .inl (.inl (noTab_at h (fun _ z => nomatch z)))
    · exact .inl (.inr ⟨o', noTab_at h (fun _ z => nomatch z)⟩)
    · exact .inr h
theorem bx_noTab {v : V} {S : Hp} (h : BX v S) : BX v (Y.noTab S) := by
  obtain ⟨b, c, ns, e, n, h1, h2, l⟩ := h
  exact ⟨b, c, ns, e, n, noTab_at h1 (fun _ z => nomatch z), noTab_at h2 (fun _ z => nomatch z), l⟩
/-- what is known without tables stands behind a lambda's making -/
theorem ext_same {S H H1 : Hp} (s : Same S H) (n : ∀ a ps, S a ≠ some (.tbl ps)) (e : ExtN H H1) : Same S H1 := fun a o h => e a o (s a o h) fun ps z => n a ps (by rw [h, z])
end Y

namespace Y
open PySem PySem.Spec PyProof.Rows L2 Z
theorem ifK {k : Bool} {A B : Prop} (e : k = true) (h : A) : if k = true then A else B := by
  rw [if_pos e]; exact h
theorem ifN {k : Bool} {A B : Prop} (e : k = false) (h : B) : if k = true then A else B := by
  rw [e]; exact iteF h
section
variable {X : Cx} {σ : L2.St} {S S' H : Hp} {a b c e d0 tg : Expr} {pos p : Pos} {i j l m : Int} {b1 b2 b3 : Bool} {g1 g2 : Int → Int → V} {D : Ends} {rest body : List Stmt} {x : Str} {k n : Nat}
/-- a op b op' c, of ints -/
theorem et_chain2 {op op' : CmpOp} (o1 : OpR X (compareOp op) (rI0 g1)) (o2 : OpR X (compareOp op') (rI0 g2)) (h1 : g1 i j = .bl b1) (h2 : g2 j l = .bl b2) (ha : EE X σ S a (Dt X.K (.int i))) (hb : EE X σ S b (Dt X.K (.int j))) (hc : EE X σ S c (Dt X.K (.int l))) (hm : lastMarks [op, op'] [b, c] = false := by with_unfolding_all rfl) :
    ET X σ S (.Compare a [op, op'] [b, c] pos) (b1 && b2) := fun H s Q q =>
  ht_of (pt_chain o1 o2 peb peb peb hm) (ha H s _ fun x S1 H1 k1 px => (hb.up k1.st) H1 k1.sub _ fun y S2 H2 k2 py => by
    cases px; cases py
    refine ⟨i, j, rfl, rfl, b1, h1, ?_⟩
    cases b1 with
    | true =>
      refine iteT ?_
      exact (hc.up (k1.st.trans k2.st)) H2 k2.sub _ fun z S3 H3 k3 pz => by
        cases pz
        exact ⟨j, l, rfl, rfl, b2, h2, q S3 H3 ((k1.trans k2).trans k3)⟩
    | false => exact iteF ⟨false, rfl, q S2 H2 (k1.trans k2)⟩)
/-- a <= b <= c <= d, of ints -/
theorem et_chain3 (ha : EE X σ S a (Dt X.K (.int i))) (hb : EE X σ S b (Dt X.K (.int j))) (hc : EE X σ S c (Dt X.K (.int l))) (hd : EE X σ S d0 (Dt X.K (.int m))) (hm : lastMarks [.LtE, .LtE, .LtE] [b, c, d0] = false := by with_unfolding_all rfl) :
    ET X σ S (.Compare a [.LtE, .LtE, .LtE] [b, c, d0] pos) (decide (i ≤ j) && (decide (j ≤ l) && decide (l ≤ m))) := fun H s Q q pins sh I => by
  refine isTrue_chain (thn (ha H s (fun x H1 => x = .int i ∧ ∃ S1, Gr S H S1 H1) (fun x S1 H1 g px => by cases px; exact ⟨rfl, S1, g⟩) pins sh I) fun v s1 hh => test_link ?_) hm
  obtain ⟨x, H1, I1, r1, rfl, S1, q1⟩ := hh
  refine thn ((hb.up q1.st) H1 q1.sub (fun x H2 => x = .int j ∧ ∃ S2, Gr S1 H1 S2 H2) (fun x S2 H2 g px => by cases px; exact ⟨rfl, S2, g⟩) pins s1 I1) fun u s2 hh => ?_
  obtain ⟨y, H2, I2, r2, rfl, S2, q2⟩ := hh
  refine thn (op_le pins s2 σ H2 (.int i) (.int j) v u (fun z H' => z = .bl (decide (i ≤ j)) ∧ H' = H2) I2 r1 r2 ⟨i, j, rfl, rfl, rfl, rfl⟩) fun cv s3 hh => ?_
  obtain ⟨z, H3, I3, r3, rfl, rfl⟩ := hh
  cases r3
  refine wpAny_truthy_bool ?_
  by_cases hij : i ≤ j
  · rw [decide_eq_true hij, Bool.true_and] at q
    refine ifK (decide_eq_true hij) (test_link ?_)
    refine thn ((hc.up (q1.st.trans q2.st)) H3 q2.sub (fun x H4 => x = .int l ∧ ∃ S4, Gr S2 H3 S4 H4) (fun x S4 H4 g px => by cases px; exact ⟨rfl, S4, g⟩) pins s3 I3) fun w s4 hh => ?_
    obtain ⟨y', H4, I4, r4, rfl, S4, q4⟩ := hh
    refine thn (op_le pins s4 σ H4 (.int j) (.int l) u w (fun z H' => z = .bl (decide (j ≤ l)) ∧ H' = H4) I4 r2 r4 ⟨j, l, rfl, rfl, rfl, rfl⟩) fun cv s5 hh => ?_
    obtain ⟨z, H5, I5, r5, rfl, rfl⟩ := hh
    cases r5
    refine wpAny_truthy_bool ?_
    by_cases hjl : j ≤ l
    · rw [decide_eq_true hjl, Bool.true_and] at q
      refine ifK (decide_eq_true hjl) (test_last ?_)
      refine thn ((hd.up ((q1.st.trans q2.st).trans q4.st)) H5 q4.sub (fun x H6 => x = .int m ∧ ∃ S6, Gr S4 H5 S6 H6) (fun x S6 H6 g px => by cases px; exact ⟨rfl, S6, g⟩) pins s5 I5) fun w2 s6 hh => ?_
      obtain ⟨y', H6, I6, r6, rfl, S6, q6⟩ := hh
      refine thn (op_le pins s6 σ H6 (.int l) (.int m) w w2 (fun z H' => z = .bl (decide (l ≤ m)) ∧ H' = H6) I6 r4 r6 ⟨l, m, rfl, rfl, rfl, rfl⟩) fun cv s7 hh => ?_
      obtain ⟨z, H7, I7, r7, rfl, rfl⟩ := hh
      cases r7
      exact wpAny_truthy_bool ⟨H7, I7, q S6 H7 (((q1.trans q2).trans q4).trans q6)⟩
    · rw [decide_eq_false hjl, Bool.false_and] at q
      exact ifN (decide_eq_false hjl) ⟨H5, I5, q S4 H5 ((q1.trans q2).trans q4)⟩
  · rw [decide_eq_false hij, Bool.false_and] at q
    exact ifN (decide_eq_false hij) ⟨H3, I3, q S2 H3 (q1.trans q2)⟩
/-- any(e) of a list of ints -/
def rAnyI (K : PySem.W.Frag) : List V → Hp → VK → Prop := fun vs H Q => ∃ (a : Addr) (ns : List Int), vs = [V.ref a] ∧ SqL K H a (ns.map V.int) ∧ Q (.bl (ns.any fun n => n != 0)) H
theorem any_upto (f : Int → Bool) : ∀ ns : List Int, (List.range ns.length).any (fun i => (ns.map f).getD i false) = ns.any f
  | [] => rfl
  | n :: ns => by
    rw [List.length_cons, List.range_succ_eq_map, List.any_cons, List.any_map, List.any_cons, ← any_upto f ns]
    rfl
theorem intsAre_get {us : List Value} {ns : List Int} (h : IntsAre us ns) : ∀ {i : Nat} {v : Value}, us[i]? = some v → ∃ n t, ns[i]? = some n ∧ v = .int n t := by
  induction h with
  | nil => intro i v e; simp at e
  | cons n t _ ih =>
    intro i v e
    cases i with
    | zero => simp at e; exact ⟨n, t, rfl, e.symm⟩
    | succ i => exact ih (by simpa using e)
theorem truth_ints {prog : Program} {w : World} {A : Around} {ns : List Int} {its : List Value} (r : IntsAre its ns) : TruthOf prog w A (fun i v => its.toArray[i]? = some v) (fun i => (ns.map fun n => n != 0).getD i false) := fun i v s Q E hv hq => by
  obtain ⟨n, t, h1, h2⟩ := intsAre_get r (show its[i]? = some v by simpa using hv)
  subst h2
  have hq' : Q ((ns.map fun n => n != 0).getD i false) s := hq
  rw [List.getD_eq_getElem?_getD, List.getElem?_map, h1] at hq'
  exact PySem.P.truthy_int hq'
theorem cr_anyI (hcalm : X.calm = true) : CallR X (.builtin "any") (rAnyI X.K) := fun pins s σ H vs us Q I r ⟨a, ns, ev, hs, q⟩ => by
  subst ev
  obtain ⟨its, rv, hl, _⟩ := I.list hs
  have hi := Vals.ints rv
  rw [Vals.ref1 r]
  refine call_any_walk (iter_any hl.isList fun s2 e2 st hne => ?_)
  subst e2
  refine ⟨_, _, _, _, _, _, _, rfl, Walks.list (A := X.A.in1) (I.ok.hd hcalm) _ a hne its.toArray, st, truth_ints hi, fun h' tk hk => ⟨.bl _, H, I.kept fun b o eo => hk b o (fun hm => ?_) (Heap.get?_push_of_some _ eo), ?_, q⟩⟩
  · rcases List.mem_cons.mp hm with e1 | hm
    · rw [e1] at eo; exact absurd (Heap.lt_size eo) (Nat.lt_irrefl _)
    · cases hm
  · show Value.bool _ = Value.bool _
    rw [← any_upto, List.size_toArray, hi.length]
theorem ee_anyI {ns : List Int} (hc : X.calm = true) (hm : X.mg "any" = none) (ha : EE X σ S a (Dt X.K (.list (ns.map .int)))) (hg : Gl X "any" := by rfl) (hs : starEach [a] X.env = (false, eval a X.env) :: starEach [] X.env := by rfl) :
    EE X σ S (.Call (.Name "any" p) [a] [] pos) (Dt X.K (.bool (ns.any fun n => n != 0))) :=
  ee_callB (cr_anyI hc) hm boot_any (ea_1 ha hs) (fun vs S1 H1 _ s al Q q => by
    obtain ⟨v, rfl, pv⟩ := al.one
    obtain ⟨l, xs, rfl, hl, hx, z⟩ := pv.lst_inv
    rw [dts_int hx] at hl
    exact ⟨l, ns, rfl, sql_of (s _ _ hl), q _ S1 H1 (Gr.refl s) (.bl _)⟩) hg (he := hs) (hpl := by rfl)
theorem ee_mx2 (hc : X.calm = true) (hm : X.mg "max" = none) (ha : EE X σ S a (Dt X.K (.int i))) (hb : EE X σ S b (Dt X.K (.int j))) (hg : Gl X "max" := by rfl) (hs : starEach [a, b] X.env = (false, eval a X.env) :: starEach [b] X.env := by rfl) (hs2 : starEach [b] X.env = (false, eval b X.env) :: starEach [] X.env := by rfl) (hpl : (backTo pos (starEach [b] X.env)).any (·.1) = false := by rfl) :
    EE X σ S (.Call (.Name "max" p) [a, b] [] pos) (Dt X.K (.int (if j > i then j else i))) :=
  ee_callB (call_max2 hc) hm (by rfl) (ea_2 ha hb hs hs2) (fun vs S1 H1 _ s al Q q => by
    obtain ⟨v, w, rfl, pv, pw⟩ := al.two
    cases pv; cases pw
    exact ⟨i, j, rfl, q _ S1 H1 (Gr.refl s) (.int _)⟩) hg (he := hs) (hpl := hpl)
/-- a def over the box and one thing that is not fixed -/
theorem ee_callBE {F : List PyData → (PyData → Prop) → Prop} {W G : PyData → Prop} (D : KD X.prog X.w X.K X.mg X.base x k (spB X.K F)) (hr : Room k X.A) (hF : ∀ d, W d → ∃ G', F [d] G' ∧ ∀ r, G' r → G r) (hb : EE X σ S b BX) (he0 : EE X σ S e (Ex X.K W)) (hg : Gl X x := by rfl) (hdb : (x == ("__debug__" : Str)) = false := by decide)
    (hs : starEach [b, e] X.env = (false, eval b X.env) :: starEach [e] X.env := by rfl) (hs2 : starEach [e] X.env = (false, eval e X.env) :: starEach [] X.env := by rfl) (hpl : (backTo pos (starEach [e] X.env)).any (·.1) = false := by rfl) : EE X σ S (.Call (.Name x p) [b, e] [] pos) (Ex X.K G) :=
  ee_call D hr (ea_2 hb he0 hs hs2) (fun vs S1 H1 _ s al Q q => by
    obtain ⟨v, w, rfl, pv, d, wd, pw⟩ := al.two
    obtain ⟨G', h1, h2⟩ := hF d wd
    exact ⟨S1, v, [w], [d], G', rfl, s, pv, Dts.cons pw .nil, h1, fun r hr u S' H' g pu => q u S' H' g ⟨r, h2 r hr, pu⟩⟩) hg hdb hs hpl
/-- f(k1 = e1, k2 = e2), by name alone; the values stand the other way round in the def -/
def gS {α : Type} : List α → List α → List α
  | us, [a, b] => us ++ [b, a]
  | us, ws => us ++ ws
theorem gS_rel {vs zs : List V} {us ws : List Value} (r1 : Vals vs us) (r3 : Vals zs ws) : Vals (gS vs zs) (gS us ws) := by
  cases r3 with
  | nil => exact r1.append .nil
  | cons a t =>
    cases t with
    | nil => exact r1.append (.cons a .nil)
    | cons b t =>
      cases t with
      | nil => exact r1.append (.cons b (.cons a .nil))
      | cons c t => exact r1.append (.cons a (.cons b (.cons c t)))
structure KDK (P : Program) (w : World) (K : PySem.W.Frag) (mg : Str → Option Value) (base : Heap) (x : Str) (ks : List Str) (k : Nat) (sp : Sp) : Prop where
  ex : ∃ f fd ps, FnOk P w K mg base CX0 k f fd ps sp ∧ mg x = some (.ref f) ∧ PySem.W.keepIn K (.ref f) = true ∧ KBn K fd ps 0 ks gS gS
theorem ee_callK2 {k1 k2 : Str} {e1 e2 : Expr} {q1 q2 : Pos} {sp : Sp} {P1 P2 R : V → Hp → Prop} [Mn P1] [Mn P2] (D : KDK X.prog X.w X.K X.mg X.base x [k1, k2] k sp) (hr : Room k X.A) (h1 : EE X σ S e1 P1) (h2 : EE X σ S e2 P2) (hsp : SpE sp S [P2, P1] R) (hg : Gl X x := by rfl) (hdb : (x == ("__debug__" : Str)) = false := by decide)
    (hall : (backToKw pos (keywordEach [⟨some k1, e1, q1⟩, ⟨some k2, e2, q2⟩] X.env)).all (·.1.isSome) = true := by rfl) (hks : (backToKw pos (keywordEach [⟨some k1, e1, q1⟩, ⟨some k2, e2, q2⟩] X.env)).filterMap (·.1) = [k1, k2] := by rfl)
    (hpl : ((backTo pos (starEach [] X.env)).any (·.1) || (backToKw pos (keywordEach [⟨some k1, e1, q1⟩, ⟨some k2, e2, q2⟩] X.env)).any (·.1.isNone)) = false := by rfl) : EE X σ S (.Call (.Name x p) [] [⟨some k1, e1, q1⟩, ⟨some k2, e2, q2⟩] pos) R := fun H s Q q pins s0 I => by
  obtain ⟨f, fd, ps, F, hm, hk, hb⟩ := D.ex
  refine wpAny_Call_Name_kw (ld_glob I hg hm ?_ hdb)
  refine PySem.W.callWith_KW0 (h₀ := X.base) (first := []) I.ok.mod.kin hk hall ?_ hpl
  refine thn ((pk_cons (te := bE X e1) (t := tCons (bE X e2) tNil) peb (pk_cons (te := bE X e2) (t := tNil) peb pk_nil)).run pos pins s0 σ H (fun zs H2 => ∃ v w S2, zs = [v, w] ∧ Gr S H S2 H2 ∧ P1 v S2 ∧ P2 w S2) I (h1 H s _ fun v S1 H1 g1 pv => (h2.up g1.st) H1 g1.sub _ fun w S2 H2 g2 pw => ⟨v, w, S2, rfl, g1.trans g2, Mn.up g2.st pv, pw⟩)) fun ws s2 ⟨zs, H2, I2, rz, v, w, S2, ez, g, pv, pw⟩ => ⟨I2.kIn, ?_⟩
  subst ez
  rw [hks]
  exact run_fnK (us := []) (vs := []) (zs := [v, w]) F hr hb pass0 I2 .nil rz rfl rfl (hsp _ S2 H2 g.st g.sub (.cons pw (.cons pv .nil)) Q fun v S3 H3 g3 rv => q v S3 H3 (g.trans g3) rv)
/-- for .. in range(n): what is kept is told of the whole heap -/
theorem hs_forR {n : Nat} (Iv : Nat → L2.St → Hp → Prop) (hp : PassesOwn (model X.prog X.w) X.A X.env X.xe) (hc : X.calm = true) (hm : X.mg "range" = none) (hn : (n : Int) < 2 ^ 62) (ha : EE X σ S a (Dt X.K (.int (n : Nat)))) (s : Same S H) (h0 : ∀ S' H', Gr S H S' H' → Iv 0 σ H')
    (step : ∀ i σ1 H1, i < n → Iv i σ1 H1 → HG X tg (.int (i : Nat)) σ1 H1 fun σ3 H3 => HS X { D with nx := Iv (i + 1), ct := Iv (i + 1), bk := fun σ' H' => HS X D rest σ' H' } body σ3 H3)
    (done : ∀ σ1 H1, Iv n σ1 H1 → HS X D rest σ1 H1) (hg : Gl X "range" := by rfl) (hs1 : starEach [a] X.env = [(false, eval a X.env)] := by rfl) (hs : ∀ x, foldedSetIterable (.Call (.Name "range" p) [a] [] pos) X.env x = pure x := by intro _; rfl) {pos2 : Pos} :
    HS X D (.For tg (.Call (.Name "range" p) [a] [] pos) body [] pos2 :: rest) σ H :=
  hs_cons (ps_for hp hc (pi_range1 hg hm pab hs1) pgb psb hs) ((ea_1 ha (by rw [hs1]; rfl)).2 H s _ fun vs S1 H1 g1 al => by
    obtain ⟨v, rfl, pv⟩ := al.one
    cases pv
    refine ⟨(n : Int), rfl, by omega, hn, for_it (G := fun _ => True) (Y := fun i H x H' => H' = H ∧ x = .int (0 + (i : Int))) (n := n) ⟨fun i H hi _ => ?_, fun H _ => ?_, fun i H x H' _ _ y => y⟩ Iv (h0 S1 H1 g1) (fun _ _ _ _ _ => trivial) (fun i x σ' H2 H3 hi iv y => ?_) done⟩
    · show i < ((n : Int)).toNat
      omega
    · show ((n : Int)).toNat ≤ n
      omega
    · obtain ⟨rfl, rfl⟩ := y
      rw [Int.zero_add]
      exact step i σ' H3 hi iv)
end
section
variable {P : Program} {w : World} {K : PySem.W.Frag} {mg : Str → Option Value} {base : Heap} {x qual : Str} {params : Arguments} {body : List Stmt} {scope : Scope} {dvs : List V} {kws : List (Str × V)} {f c : Addr} {fd : FuncData} {N ps : List Str} {k : Nat} {sp : Sp}
/-- a def by its body, its code object known -/
theorem fn_hsC (F : FunD K x qual params body scope dvs kws f fd) (Sc : FnScope N ps scope) (hc : fd.code = .ref c) (len : ∀ vs H Q E, sp vs H Q E → vs.length = ps.length)
    (hb : ∀ (A : Around) (outer : List Env) (s : Shared) (H : Hp) (vs : List V) (Q : VK) (E : XK), Room k (A.deeper (envOfC qual scope s.heap.objs.size f (.ref c))) → sp vs H Q E →
      HS (cxOf CX0 P w K mg base N qual scope f (.ref c) A outer s H E).nox { nx := fun _ H' => Q .non H', rt := Q } body (start N vs) H) : FnOk P w K mg base CX0 (k + 1) f fd ps sp := by
  obtain ⟨oc, od, dV, kV, doc, pm, an, cdv, ct, osl, rfl, lk, hcd, _, _⟩ := F.ex
  have e : cdv = .ref c := hc
  subst e
  exact fn_of lk hcd Sc len fun A outer s H vs Q E hr hsp => ⟨_, PSs.nox psb, hb A outer s H vs Q E hr hsp⟩
theorem kbindsS {ks : List Str} (F : FunD K x qual params body scope [] [] f fd) (h : ∀ (kV doc pm : Value) (an : Option Addr) (cdv ct : Value) (ws : List Value), ws.length = ks.length → bindArgs (PySem.W.fnOf x qual params body scope .none kV doc pm an cdv ct) ⟨[], ks.zip ws⟩ = pure (ps.zip (gS [] ws))) : KBn K fd ps 0 ks gS gS := by
  obtain ⟨oc, od, dV, kV, doc, pm, an, cdv, ct, osl, rfl, lk, hcd, hD, hK⟩ := F.ex
  rcases hD with ⟨_, rfl⟩ | ⟨e, _⟩
  · refine ⟨fun s us ws _ l1 l2 => ?_, fun r1 r2 => gS_rel r1 r2⟩
    obtain rfl : us = [] := List.length_eq_zero_iff.mp l1
    exact .of_eq (h kV doc pm an cdv ct ws l2)
  · exact absurd rfl e
end
end Y

namespace Y
open PySem PySem.Spec PyProof.Rows L2 Z
/-! ## an own error of the ValueErrors, told by one Bool -/
def oexB (K : PySem.W.Frag) (C : Addr) : Bool := (match K.lookup C with
  | some ⟨.type t, _, .cls cd, sl⟩ => t == "type" && (match cd.mro, sl.toList with
    | .ref C' :: bm, [_, _, _, _, some (.builtin n), _] => C' == C && (PySem.HandSPX.refsVE bm && (n == "ValueError.__new__" && (cd.hasDict && !cd.hasDel)))
    | _, _ => false)
  | _ => false) && (decide (PySem.W.findIn K (.ref C) "__setattr__" = some (some (.builtin "object.__setattr__"))) && (decide (PySem.W.subIn K (.ref C) (.type "BaseException") = some true) && (decide (PySem.W.typeIn K (.ref C) = some (.type "type")) && PySem.W.keepIn K (.ref C))))
theorem oexB_ok {K : PySem.W.Frag} {C : Addr} (h : oexB K C = true) : OexC K C := by
  unfold oexB at h
  simp only [Bool.and_eq_true, decide_eq_true_eq] at h
  obtain ⟨h1, h2, h3, h4, h5⟩ := h
  refine ⟨?_, h2, h3, h4, h5⟩
  split at h1
  · rename_i t dd cd sl lk
    rw [Bool.and_eq_true] at h1
    obtain ⟨ht, h1⟩ := h1
    split at h1
    · rename_i C' bm k0 k1 k2 k3 n k5 hm hs
      simp only [Bool.and_eq_true, beq_iff_eq, Bool.not_eq_true'] at h1 ht
      obtain ⟨rfl, hb, rfl, hd, hl⟩ := h1
      subst ht
      obtain ⟨nm, bs, mro, ns, qn, hd', sn, sub, ab, col, del⟩ := cd
      dsimp only at hm hd hl
      subst hm hd hl
      have hsl : sl = #[k0, k1, k2, k3, some (.builtin "ValueError.__new__"), k5] := by
        obtain ⟨l⟩ := sl
        simp only at hs
        rw [hs]
      subst hsl
      exact ⟨nm, qn, ns, bs, bm, sn, sub, ab, col, dd, k0, k1, k2, k3, k5, lk, hb⟩
    · cases h1
  · cases h1
/-- what an error class must tell to be raised, caught and read: its attribute f -/
def errB (K : PySem.W.Frag) (C fI : Addr) (f : Str) : Bool := oexB K C && (xfB K C && (He.eqO (PySem.W.findIn K (.ref C) f) (some none) && (He.eqO (PySem.W.findIn K (.ref C) "code") (some none) && (He.eqO (PySem.W.findIn K (.ref C) "__init__") (some (some (.ref fI))) && decide (PySem.W.typeIn K (.ref fI) = some (.type "function"))))))
theorem errB_ok {K : PySem.W.Frag} {C fI : Addr} {f : Str} (h : errB K C fI f = true) : OexC K C ∧ XfC K C ∧ PySem.W.findIn K (.ref C) f = some none ∧ PySem.W.findIn K (.ref C) "code" = some none ∧ PySem.W.findIn K (.ref C) "__init__" = some (some (.ref fI)) ∧ PySem.W.typeIn K (.ref fI) = some (.type "function") := by
  unfold errB at h
  simp only [Bool.and_eq_true, decide_eq_true_eq] at h
  obtain ⟨h1, h2, h3, h4, h5, h6⟩ := h
  exact ⟨oexB_ok h1, xfB_ok h2, He.eqO_ok h3, He.eqO_ok h4, He.eqO_ok h5, h6⟩
/-- the table and the code object of a def, at a base -/
theorem tabB_of {K : PySem.W.Frag} {h : Heap} {c P : Addr} (X : K.In h) (hh : PySem.W.codeHdIn K c P = true) : PySem.W.CodeHd h c P := PySem.W.codeHd_of_K X hh
end Y

namespace K02
open PySem PySem.Spec PyProof.Rows L2
/-! ## the head's facts: K with the statics, without the empty tables -/
def asE (g : Addr → Option Obj) (n : Nat) : List Addr := He.asD g n ++ [cStatics]
structure SaysF (fa : List He.Fa) (fn : List He.DefD) (tf : List He.Defn) (ex : PySem.W.Frag → Bool) (h : Heap) (K : PySem.W.Frag) : Prop where
  d : He.SaysD fa fn K
  more : ex K = true
  tab : ∀ p ∈ tf, PySem.W.codeHdIn K (He.cT K p).1 (He.cT K p).2 = true ∧ K.lookup (He.cT K p).2 = none ∧ h.get? (He.cT K p).2 = some { cls := .none, data := .fields #[] }
def obsF (n : Nat) (fa : List He.Fa) (fn : List He.DefD) (tf : List He.Defn) (ex : PySem.W.Frag → Bool) (g : Addr → Option Obj) : He.AlD × Bool :=
  (He.obsD fa fn (He.frT g (asE g n)), ex (He.frT g (asE g n)) && He.tabsB g tf (He.frT g (asE g n)))
theorem saysF_of {n : Nat} {fa : List He.Fa} {fn : List He.DefD} {tf : List He.Defn} {ex : PySem.W.Frag → Bool} {h : Heap} (e : obsF n fa fn tf ex h.get? = (He.valD fn, true)) : SaysF fa fn tf ex h (He.frT h.get? (asE h.get? n)) := by
  have e2 : (ex (He.frT h.get? (asE h.get? n)) && He.tabsB h.get? tf (He.frT h.get? (asE h.get? n))) = true := congrArg (fun z : He.AlD × Bool => z.2) e
  rw [Bool.and_eq_true] at e2
  refine ⟨congrArg (fun z : He.AlD × Bool => z.1) e, e2.1, fun p hp => ?_⟩
  have e3 := List.all_eq_true.mp e2.2 p hp
  rw [Bool.and_eq_true] at e3
  cases q : h.get? (He.cT (He.frT h.get? (asE h.get? n)) p).2 with
  | none => rw [q] at e3; exact absurd e3.2 Bool.false_ne_true
  | some o =>
    rw [q] at e3
    exact ⟨e3.1, He.frT_none q e3.2, by rw [He.emptyTab_eq e3.2]⟩
def hookF (n : Nat) (fa : List He.Fa) (fn : List He.DefD) (tf : List He.Defn) (ex : PySem.W.Frag → Bool) : PySem.W.Hook where
  α := He.AlD × Bool
  obs := fun s => obsF n fa fn tf ex s.heap.get?
  val := fun _ => (He.valD fn, true)
  says := fun _ h => ∃ K : PySem.W.Frag, K.In h ∧ SaysF fa fn tf ex h K
  of := fun _ _ e => ⟨_, He.frT_in, saysF_of e⟩
  keeps := fun _ _ _ ⟨K, hK, c⟩ k => ⟨K, PySem.W.Frag.In.keeps hK k, ⟨c.d, c.more, fun p hp => ⟨(c.tab p hp).1, (c.tab p hp).2.1, k _ _ (c.tab p hp).2.2⟩⟩⟩
theorem obsF_eq {n : Nat} {fa : List He.Fa} {fn : List He.DefD} {tf : List He.Defn} {ex : PySem.W.Frag → Bool} {g : Addr → Option Obj} {s : Shared} (h : ∀ a, g a = s.heap.get? a) : obsF n fa fn tf ex g = (hookF n fa fn tf ex).obs s := by
  have e : g = s.heap.get? := funext h
  rw [e] <;> rfl
def top (i : Nat) : Stmt := PySem.Challenge.pw_dealtpowers_k02_numbers_and_roots.main.body.getD i (.Pass ⟨0, 0, 0, 0⟩)
abbrev sInvalidNumber____init__ : Stmt := inClass (top 3) 0
def dInvalidNumber____init__ : He.DefD := ⟨("InvalidNumber", some "__init__"), "__init__", "InvalidNumber.__init__", defArgs sInvalidNumber____init__, defBody sInvalidNumber____init__, defScope sInvalidNumber____init__, [], []⟩
abbrev sNothingLeft____init__ : Stmt := inClass (top 4) 0
def dNothingLeft____init__ : He.DefD := ⟨("NothingLeft", some "__init__"), "__init__", "NothingLeft.__init__", defArgs sNothingLeft____init__, defBody sNothingLeft____init__, defScope sNothingLeft____init__, [], []⟩
abbrev sis_number : Stmt := top 7
def dis_number : He.DefD := ⟨("is_number", none), "is_number", "is_number", defArgs sis_number, defBody sis_number, defScope sis_number, [], []⟩
abbrev scheck_root : Stmt := top 8
def dcheck_root : He.DefD := ⟨("check_root", none), "check_root", "check_root", defArgs scheck_root, defBody scheck_root, defScope scheck_root, [], []⟩
abbrev spower_of : Stmt := top 9
def dpower_of : He.DefD := ⟨("power_of", none), "power_of", "power_of", defArgs spower_of, defBody spower_of, defScope spower_of, [], []⟩
abbrev swhole_root : Stmt := top 10
def dwhole_root : He.DefD := ⟨("whole_root", none), "whole_root", "whole_root", defArgs swhole_root, defBody swhole_root, defScope swhole_root, [], []⟩
abbrev sfloor_root : Stmt := top 11
def dfloor_root : He.DefD := ⟨("floor_root", none), "floor_root", "floor_root", defArgs sfloor_root, defBody sfloor_root, defScope sfloor_root, [], []⟩
abbrev sceiling_root : Stmt := top 12
def dceiling_root : He.DefD := ⟨("ceiling_root", none), "ceiling_root", "ceiling_root", defArgs sceiling_root, defBody sceiling_root, defScope sceiling_root, [], []⟩
abbrev slowest : Stmt := top 13
def dlowest : He.DefD := ⟨("lowest", none), "lowest", "lowest", defArgs slowest, defBody slowest, defScope slowest, [], []⟩
abbrev sL_open : Stmt := top 15
def dL_open : He.DefD := ⟨("_law_open", none), "_law_open", "_law_open", defArgs sL_open, defBody sL_open, defScope sL_open, [], []⟩
abbrev sL_take : Stmt := top 16
def dL_take : He.DefD := ⟨("_law_take", none), "_law_take", "_law_take", defArgs sL_take, defBody sL_take, defScope sL_take, [], []⟩
abbrev sL_one : Stmt := top 17
def dL_one : He.DefD := ⟨("_law_one", none), "_law_one", "_law_one", defArgs sL_one, defBody sL_one, defScope sL_one, [], []⟩
abbrev sL_kind : Stmt := top 18
def dL_kind : He.DefD := ⟨("_law_kind", none), "_law_kind", "_law_kind", defArgs sL_kind, defBody sL_kind, defScope sL_kind, [], []⟩
abbrev sL_same : Stmt := top 19
def dL_same : He.DefD := ⟨("_law_same", none), "_law_same", "_law_same", defArgs sL_same, defBody sL_same, defScope sL_same, [], []⟩
abbrev sL_field : Stmt := top 20
def dL_field : He.DefD := ⟨("_law_field", none), "_law_field", "_law_field", defArgs sL_field, defBody sL_field, defScope sL_field, [], []⟩
abbrev sL_try : Stmt := top 21
def dL_try : He.DefD := ⟨("_law_try", none), "_law_try", "_law_try", defArgs sL_try, defBody sL_try, defScope sL_try, [], []⟩
abbrev sL_tries : Stmt := top 22
def dL_tries : He.DefD := ⟨("_law_tries", none), "_law_tries", "_law_tries", defArgs sL_tries, defBody sL_tries, defScope sL_tries, [], []⟩
abbrev sL_odd : Stmt := top 23
def dL_odd : He.DefD := ⟨("_law_odd", none), "_law_odd", "_law_odd", defArgs sL_odd, defBody sL_odd, defScope sL_odd, [], []⟩
abbrev sL_pow : Stmt := top 24
def dL_pow : He.DefD := ⟨("_law_pow", none), "_law_pow", "_law_pow", defArgs sL_pow, defBody sL_pow, defScope sL_pow, [], []⟩
abbrev slaw : Stmt := top 25
def dlaw : He.DefD := ⟨("law", none), "law", "law", defArgs slaw, defBody slaw, defScope slaw, [], []⟩
def fn : List He.DefD := [dInvalidNumber____init__, dNothingLeft____init__, dis_number, dcheck_root, dpower_of, dwhole_root, dfloor_root, dceiling_root, dlowest, dL_open, dL_take, dL_one, dL_kind, dL_same, dL_field, dL_try, dL_tries, dL_odd, dL_pow, dlaw]
def fa : List He.Fa := [.glo "is_number", .glo "check_root", .glo "power_of", .glo "whole_root", .glo "floor_root", .glo "ceiling_root", .glo "lowest", .glo "_law_open", .glo "_law_take", .glo "_law_one", .glo "_law_kind", .glo "_law_same", .glo "_law_field", .glo "_law_try", .glo "_law_tries", .glo "_law_odd", .glo "_law_pow", .glo "law", .glo "DealError", .glo "Missing", .glo "NothingLeft", .glo "InvalidNumber", .free "isinstance", .free "bool", .free "int", .free "str", .free "list", .free "tuple", .free "len", .free "all", .free "any", .free "sum", .free "zip", .free "range", .free "max", .free "abs", .int "MOST_DEGREE" 60]
def nm0 : List PySem.Str := ["__name__", "DealError", "Missing", "InvalidNumber", "NothingLeft", "MOST_DEGREE", "is_number", "check_root", "power_of", "whole_root", "floor_root", "ceiling_root", "lowest", "_law_open", "_law_take", "_law_one", "_law_kind", "_law_same", "_law_field", "_law_try", "_law_tries", "_law_odd", "_law_pow"]
def nms : List PySem.Str := nm0
def ex : PySem.W.Frag → Bool := fun K => Y.errB K (He.ga K "InvalidNumber") (He.fAd K ("InvalidNumber", some "__init__")) "given" && decide (PySem.W.exmAny K (.ref (He.ga K "InvalidNumber")) [.ref (He.ga K "DealError"), .ref (He.ga K "Missing"), .ref (He.ga K "NothingLeft")] = some true)
abbrev R : PySem.W.OpenRow := PySem.W.OpenLaw.row PySem.Challenge.rw_dealtpowers_k02_numbers_and_roots
def tf : List He.Defn := [("law", none)]
abbrev hk : PySem.W.Hook := hookF 5 fa fn tf ex
def ob (s : PySem.W.SharedT) : He.AlD × Bool := obsF 5 fa fn tf ex (HandSHeadRun.getT s)
theorem ob_eq (s : PySem.W.SharedT) : ob s = hk.obs s.abs := obsF_eq (HandSHeadRun.getT_eq s)
theorem run (w : World) : HandSHeadRun.RunEq R (PySem.W.view R.prog [25]) hk ob 20000 nms w := by
  intro os
  kernel_rfl
end K02

namespace K02
open PySem PySem.Spec PyProof.Rows L2 Z 
abbrev FnT (K : PySem.W.Frag) (x : Str) (st : Stmt) (f : Addr) (fd : FuncData) : Prop := FunD K x x (defArgs st) (defBody st) (defScope st) [] [] f fd
/-! ## data in short -/
def tI (l : List Int) : PyData := .tuple (l.map .int)
def lI (l : List Int) : PyData := .list (l.map .int)
def tP (a b : List Int) : PyData := .tuple [tI a, tI b]
def isNum (d : PyData) (l : Int) : Bool := match d with
  | .int i => decide (l ≤ i)
  | _ => false
def leNum (d : PyData) (m : Int) : Bool := match d with
  | .int i => decide (i ≤ m)
  | _ => false
def isExp (d : PyData) (w : Int) : Bool := match d with
  | .tuple ds => decide ((ds.length : Int) = w) && ds.all fun x => isNum x 0 && leNum x 6
  | _ => false
def isDir (d : PyData) (w : Int) : Bool := match d with
  | .tuple ds => decide ((ds.length : Int) = w) && ds.all fun x => isNum x 0
  | _ => false
def dotI (a b : List Int) : Int := ((a.zip b).map fun p => p.1 * p.2).sum
def monoI : List Int → List Int → Int
  | e :: es, n :: ns => n ^ e.toNat * monoI es ns
  | _, _ => 1
theorem map_all {α : Type} (f : α → Bool) (l : List α) : (l.map f).all (fun b => b) = l.all f := by
  induction l with
  | nil => rfl
  | cons a l ih => simp [List.map_cons, List.all_cons, ih]
theorem tI_zip (a b : List Int) : (a.map PyData.int).zip (b.map PyData.int) = (a.zip b).map fun p => (PyData.int p.1, PyData.int p.2) := by
  rw [List.zip_map]; rfl
def mulD (q : PyData × PyData) : Int := match q with
  | (.int x, .int y) => x * y
  | _ => 0
theorem zip_int (a b : List Int) : zipD (a.map PyData.int) (b.map PyData.int) = ((a.zip b).map fun p => (PyData.int p.1, PyData.int p.2)).map tupP := by
  rw [zipD_eq, tI_zip]
theorem zip_mul (a b : List Int) : (((a.zip b).map fun p => (PyData.int p.1, PyData.int p.2)).map mulD).sum = dotI a b := by
  rw [List.map_map]; rfl
/-- the facts as data; what a row must keep -/
def ruleD (p : List Int × List Int) : PyData := tP p.1 p.2
def keepsI (ps : List (List Int × List Int)) (r : List Int) : Bool := ps.all fun p => decide (monoI p.1 r ≤ monoI p.2 r)
/-- n to the power e, of a bounded size -/
def PowOk (n e : Int) : Prop := 0 ≤ e ∧ (max 1 n.natAbs) ^ e.toNat < 2 ^ 2000000
theorem natAbs_pow' (n : Int) : ∀ e : Nat, (n ^ e).natAbs = n.natAbs ^ e
  | 0 => by simp
  | e + 1 => by rw [Int.pow_succ, Nat.pow_succ, Int.natAbs_mul, natAbs_pow' n e]
theorem pow_bd {n : Int} {e a : Nat} (h : (max 1 n.natAbs) ^ e < 2 ^ 2000000) (ha : a ≤ e) : (n ^ a).natAbs < 2 ^ 2000000 := by
  rw [natAbs_pow']
  refine Nat.lt_of_le_of_lt ?_ h
  refine Nat.le_trans (Nat.pow_le_pow_left (Nat.le_max_right 1 _) a) (Nat.pow_le_pow_right (by omega) ha)
theorem pow_mulx {n : Int} {e a b : Nat} (h : (max 1 n.natAbs) ^ e < 2 ^ 2000000) (ha : a ≤ e) (hb : b ≤ e) : CMulX (n ^ a) (n ^ b) := mulx_ok (pow_bd h ha) (pow_bd h hb) (by decide)
/-! ## roots -/
/-- r is the whole root of n -/
def RootOf (n d r : Int) : Prop := 0 ≤ r ∧ r ^ d.toNat ≤ n ∧ n < (r + 1) ^ d.toNat
theorem pow_mono_int {a b : Int} (h0 : 0 ≤ a) (h : a ≤ b) : ∀ k : Nat, a ^ k ≤ b ^ k
  | 0 => by simp
  | k + 1 => by
    have ih := pow_mono_int h0 h k
    have p1 : 0 ≤ a ^ k := Int.pow_nonneg h0
    rw [Int.pow_succ, Int.pow_succ]
    exact Int.mul_le_mul ih h h0 (Int.le_trans p1 ih)
theorem root_unique {n d r s : Int} (h1 : RootOf n d r) (h2 : RootOf n d s) : r = s := by
  rcases Int.lt_trichotomy r s with h | h | h
  · have := pow_mono_int (a := r + 1) (b := s) (by have := h1.1; omega) (by omega) d.toNat
    have := h1.2.2
    have := h2.2.1
    omega
  · exact h
  · have := pow_mono_int (a := s + 1) (b := r) (by have := h2.1; omega) (by omega) d.toNat
    have := h2.2.2
    have := h1.2.1
    omega
/-- the first guess is great enough -/
theorem root_high {n : Int} {b d : Nat} (hd : 1 ≤ d) (h0 : 0 ≤ n) (hn : n < 2 ^ b) : n < ((2 : Int) ^ (b / d + 1)) ^ d := by
  rw [← Int.pow_mul]
  have h1 : b ≤ (b / d + 1) * d := by
    have := Nat.div_add_mod b d
    have h2 := Nat.mod_lt b (show d > 0 by omega)
    rw [Nat.add_mul, Nat.one_mul, Nat.mul_comm (b / d) d]
    omega
  have h2 : ((2 : Nat) : Int) ^ b ≤ ((2 : Nat) : Int) ^ ((b / d + 1) * d) := by
    have := Nat.pow_le_pow_right (show 2 > 0 by decide) h1
    exact_mod_cast this
  exact Int.lt_of_lt_of_le hn h2
theorem root_small {n d : Int} (hd : 1 ≤ d) (h0 : 0 ≤ n) (h2 : n < 2) : RootOf n d n := by
  obtain ⟨k, hk⟩ : ∃ k, d.toNat = k + 1 := ⟨d.toNat - 1, by omega⟩
  rcases (show n = 0 ∨ n = 1 by omega) with rfl | rfl
  · refine ⟨by omega, ?_, ?_⟩
    · rw [hk, Int.pow_succ, Int.mul_zero]; omega
    · rw [show (0 : Int) + 1 = 1 by rfl, Int.one_pow]; decide
  · refine ⟨by omega, by rw [Int.one_pow]; omega, ?_⟩
    have := pow_mono_int (a := 1) (b := 2) (by decide) (by decide) k
    rw [Int.one_pow] at this
    rw [hk, show (1 : Int) + 1 = 2 by rfl, Int.pow_succ]
    omega
theorem root_one {n : Int} (h0 : 0 ≤ n) : RootOf n 1 n := by
  have e : ∀ x : Int, x ^ (1 : Int).toNat = x := fun x => by rw [show (1 : Int).toNat = 1 from rfl, Int.pow_succ, Int.pow_zero, Int.one_mul]
  exact ⟨h0, by rw [e]; omega, by rw [e]; omega⟩
section
variable {P : Program} {w : World} {K : PySem.W.Frag} {mg : Str → Option Value} {base : Heap} {f : Addr} {fd : FuncData}
def FisNumber : List PyData → PyData → Prop := fun ds r => ∃ d l, ds = [d, .int l] ∧ r = .bool (isNum d l)
theorem sc_is_number : FnScope ["value", "least"] ["value", "least"] (defScope sis_number) := ⟨rfl, rfl, rfl, by decide +kernel, rfl, by decide +kernel, by decide +kernel⟩
theorem ok_is_number (F : FnT K "is_number" sis_number f fd) (g1 : mg "isinstance" = none) (g2 : mg "int" = none) (g3 : mg "bool" = none) : FnOk P w K mg base CX0 1 f fd ["value", "least"] (spD K FisNumber) := by
  refine fn_hs F sc_is_number (fun vs H Q E h => ?_) (fun cdv A outer sh H vs Q E hr h => ?_)
  · obtain ⟨S, ds, d, _, hd, ⟨_, _, rfl, _⟩, _⟩ := h
    exact hd.1
  · obtain ⟨S, ds, r, s, hd, ⟨d, l, rfl, rfl⟩, q⟩ := h
    obtain ⟨v1, v2, rfl, p1, p2⟩ := hd.two
    refine hs_ret ((ee_and (ee_isi (isD_ok d (T := "int") (by simp)) g1 g2 boot_int (ee_var 0 rfl p1)) fun h1 =>
      ee_and (ee_not (ee_isi (isD_ok d (T := "bool") (by simp)) g1 g3 boot_bool (ee_var 0 rfl p1))) fun h2 => ee_one (P := Dt K (.bool (isNum d l))) ?_).isd ?_) s q
    · cases d <;> first | (exact ee_ge (ee_var 0 rfl p1) (ee_var 1 rfl p2)) | (exfalso; simp [isDi, isDb] at h1 h2; done)
    · cases d <;> rfl
def Fpower_of : List PyData → PyData → Prop := fun ds r => ∃ n e, ds = [.int n, .int e] ∧ r = .int (n ^ e.toNat) ∧ PowOk n e
theorem sc_power_of : FnScope ["number", "exponent", "found", "square", "rest"] ["number", "exponent"] (defScope spower_of) := ⟨rfl, rfl, rfl, by decide +kernel, rfl, by decide +kernel, by decide +kernel⟩
theorem ok_power_of (F : FnT K "power_of" spower_of f fd) : FnOk P w K mg base CX0 1 f fd ["number", "exponent"] (spD K Fpower_of) := by
  refine fn_hs F sc_power_of (fun vs H Q E h => ?_) (fun cdv A outer sh H vs Q E hr h => ?_)
  · obtain ⟨S, ds, d, _, hd, ⟨_, _, rfl, _⟩, _⟩ := h
    exact hd.1
  · obtain ⟨S, ds, r, s, hd, ⟨n, e, rfl, rfl, h0, hb⟩, q⟩ := h
    obtain ⟨v1, v2, rfl, p1, p2⟩ := hd.two
    obtain ⟨en, rfl⟩ : ∃ en : Nat, e = (en : Int) := ⟨e.toNat, by omega⟩
    rw [Int.toNat_natCast] at hb q
    refine hs_par3 (i := 2) (j := 3) (l := 4) rfl sc_power_of.nd ee_int (ee_var 0 rfl p1) (ee_var 1 rfl p2) s rfl fun w1 w2 w3 S1 H1 g1 q1 q2 q3 => ?_
    refine hs_while (fun m σ S2 => ∃ a b : Nat, a + b * m = en ∧ ∃ x y z, σ = [some v1, some v2, some x, some y, some z] ∧ Dt K (.int (n ^ a)) x S2 ∧ Dt K (.int (n ^ b)) y S2 ∧ Dt K (.int (m : Nat)) z S2) en PassesOwn.never g1.sub ⟨0, 1, by omega, w1, w2, w3, rfl, by rw [Int.pow_zero]; exact q1, by rw [Int.pow_succ, Int.pow_zero, Int.one_mul]; exact q2, q3⟩ ?_
    rintro m σ S2 H2 g2 ⟨a, b, hab, x, y, z, rfl, px, py, pz⟩
    refine ⟨decide ((0 : Int) < (m : Nat)), et_gt (ee_var 4 rfl pz) ee_int, fun hm S3 H3 g3 => ?_, fun hm S3 H3 g3 => ?_⟩
    · have hm : 0 < m := by simpa using hm
      have hbe : b ≤ b * m := Nat.le_mul_of_pos_right b hm
      have px := px.up g3.st
      have py := py.up g3.st
      have pz := pz.up g3.st
      have hmod : m = 2 * (m / 2) + m % 2 := (Nat.div_add_mod m 2).symm
      refine hs_ifJ (fun σ' S4 => ∃ (a' : Nat) (x' : V), a' + (b + b) * (m / 2) = en ∧ Dt K (.int (n ^ a')) x' S4 ∧ σ' = [some v1, some v2, some x', some y, some z]) (et_tru (d := .int ((m % 2 : Nat) : Int)) (ee_op op_odd (ee_var 4 rfl pz) ee_int fun x y S4 H4 _ s4 pa pb Q qq => by
        cases pa; cases pb; exact ⟨m, rfl, rfl, qq _ S4 H4 (Gr.refl s4) (.int _)⟩) (fun _ h => nomatch h)) g3.sub (fun ho S4 H4 g4 => ?_) (fun ho S4 H4 g4 => ?_) ?_
      · have ho : m % 2 = 1 := by simp [truD] at ho; omega
        refine hs_set (i := 2) (ee_mul (pow_mulx hb (by omega) (by omega)) (ee_var 2 rfl (px.up g4.st)) (ee_var 3 rfl (py.up g4.st))) g4.sub sc_power_of.nd fun x' S5 H5 g5 px' => hs_nil ?_
        rw [← Int.pow_add] at px'
        refine ⟨S5, g5, a + b, x', ?_, px', rfl⟩
        rw [← hab]
        conv => rhs; rw [hmod, ho]
        rw [Nat.mul_add, Nat.add_mul, ← Nat.mul_assoc, Nat.mul_comm b 2, Nat.mul_assoc]
        omega
      · have ho : m % 2 = 0 := by simp [truD] at ho; omega
        refine hs_nil ⟨S4, Gr.refl g4.sub, a, x, ?_, px.up g4.st, rfl⟩
        rw [← hab]
        conv => rhs; rw [hmod, ho]
        rw [Nat.add_zero, Nat.add_mul, ← Nat.mul_assoc, Nat.mul_comm b 2, Nat.mul_assoc]
        omega
      rintro σ' S4 H4 g4 ⟨a', x', ha', px', rfl⟩
      refine hs_set (i := 4) (P := Dt K (.int ((m / 2 : Nat) : Int))) (ee_op op_halfN (ee_var 4 rfl (pz.up g4.st)) ee_int fun x y S5 H5 _ s5 pa pb Q qq => by
        cases pa; cases pb; exact ⟨m, rfl, rfl, qq _ S5 H5 (Gr.refl s5) (.int _)⟩) g4.sub sc_power_of.nd fun z' S5 H5 g5 pz' => ?_
      by_cases hm2 : 0 < m / 2
      · have hb2 : b + b ≤ (b + b) * (m / 2) := Nat.le_mul_of_pos_right _ hm2
        refine hs_ifT ((et_gt (ee_var 4 rfl pz') ee_int).is (decide_eq_true (by omega))) g5.sub fun S6 H6 g6 => ?_
        refine hs_set (i := 3) (ee_mul (pow_mulx hb (by omega) (by omega)) (ee_var 3 rfl (((py.up g4.st).up g5.st).up g6.st)) (ee_var 3 rfl (((py.up g4.st).up g5.st).up g6.st))) g6.sub sc_power_of.nd fun y' S7 H7 g7 py' => hs_nil (hs_nil ?_)
        rw [← Int.pow_add] at py'
        exact ⟨S7, g4.trans (g5.trans (g6.trans g7)), m / 2, by omega, a', b + b, ha', x', y', z', rfl, ((px'.up g5.st).up g6.st).up g7.st, py', (pz'.up g6.st).up g7.st⟩
      · have hm0 : m / 2 = 0 := by omega
        refine hs_ifN ((et_gt (ee_var 4 rfl pz') ee_int).is (decide_eq_false (by omega))) g5.sub fun S6 H6 g6 => hs_nil ?_
        rw [hm0, Nat.mul_zero] at ha'
        exact ⟨S6, g4.trans (g5.trans g6), m / 2, by omega, a', b, by rw [hm0]; omega, x', y, z', rfl, (px'.up g5.st).up g6.st, ((py.up g4.st).up g5.st).up g6.st, pz'.up g6.st⟩
    · have hm : m = 0 := by simpa using hm
      subst hm
      refine hs_ret (ee_var 2 rfl (px.up g3.st)) g3.sub fun v S4 H4 g4 pv => q v S4 H4 (g1.trans (g2.trans (g3.trans g4))) ?_
      have e1 : a = en := by omega
      rw [e1] at pv
      exact pv
def FwRoot : List PyData → PyData → Prop := fun ds r => ∃ n d x, ds = [.int n, .int d] ∧ r = .int x ∧ 0 ≤ n ∧ n.natAbs < 2 ^ 1000 ∧ 1 ≤ d ∧ d ≤ 60 ∧ RootOf n d x
theorem sc_whole_root : FnScope ["number", "degree", "high", "low", "middle"] ["number", "degree"] (defScope swhole_root) := ⟨rfl, rfl, rfl, by decide +kernel, rfl, by decide +kernel, by decide +kernel⟩
theorem ee_shl {X : Cx} {σ : L2.St} {S : Hp} {a b : Expr} {pos : Pos} {i j : Int} (hc : CShl i j) (ha : EE X σ S a (Dt X.K (.int i))) (hb : EE X σ S b (Dt X.K (.int j))) : EE X σ S (.BinOp a .LShift b pos) (Dt X.K (.int (i * 2 ^ j.toNat))) := ee_op op_shlW ha hb (opE_I hc fun _ => .int _)
theorem ee_bits {X : Cx} {σ : L2.St} {S : Hp} {a : Expr} {apos pos : Pos} {i : Int} (ha : EE X σ S a (Dt X.K (.int i))) (hbase : attributeBase a "bit_length" X.env (eval a X.env) = eval a X.env := by rfl) (hline : (apos.endLine == pos.line) = true := by rfl) : EE X σ S (.Call (.Attribute a "bit_length" apos) [] [] pos) (Dt X.K (.int (Builtin.Int.intBits i : Nat))) := fun H s Q q =>
  he_of (pe_bits peb hbase hline) (ha H s _ fun v S1 H1 g pv => by cases pv; exact ⟨i, rfl, q _ S1 H1 g (.int _)⟩)
theorem pow_bdd {m d b : Nat} (hm : m ≤ 2 ^ (b / d + 1)) (hd : 1 ≤ d) (hb : b + d < 2000000) : (max 1 m) ^ d < 2 ^ 2000000 := by
  have h1 : max 1 m ≤ 2 ^ (b / d + 1) := by
    have : 1 ≤ 2 ^ (b / d + 1) := Nat.one_le_two_pow
    omega
  have h2 : (max 1 m) ^ d ≤ (2 ^ (b / d + 1)) ^ d := Nat.pow_le_pow_left h1 d
  rw [← Nat.pow_mul] at h2
  have h3 : (b / d + 1) * d ≤ b + d := by
    have := Nat.div_mul_le_self b d
    rw [Nat.add_mul, Nat.one_mul]
    omega
  exact Nat.lt_of_le_of_lt h2 (Nat.pow_lt_pow_right (by decide) (by omega))
theorem ok_whole_root (F : FnT K "whole_root" swhole_root f fd) (D1 : KD P w K mg base "power_of" 1 (spD K Fpower_of)) : FnOk P w K mg base CX0 2 f fd ["number", "degree"] (spD K FwRoot) := by
  refine fn_hs F sc_whole_root (fun vs H Q E h => ?_) (fun cdv A outer sh H vs Q E hr h => ?_)
  · obtain ⟨S, ds, d, _, hd, ⟨_, _, _, rfl, _⟩, _⟩ := h
    exact hd.1
  · obtain ⟨S, ds, r, s, hd, ⟨n, d, x, rfl, rfl, n0, nb, d1, d60, hx⟩, q⟩ := h
    obtain ⟨v1, v2, rfl, p1, p2⟩ := hd.two
    refine hs_if (et_w (ew_or (et_eqI (ee_var 1 rfl p2) ee_int) fun _ => ew_or1 (et_lt (ee_var 0 rfl p1) ee_int))) s (fun h1 S1 H1 g => ?_) (fun h1 S1 H1 g => hs_nil ?_)
    · have e : n = x := by
        simp only [Bool.or_eq_true, decide_eq_true_eq] at h1
        rcases h1 with rfl | h1
        · exact root_unique (root_one n0) hx
        · exact root_unique (root_small d1 n0 h1) hx
      refine hs_ret (ee_var 0 rfl (p1.up g.st)) g.sub fun v S2 H2 g2 pv => q v S2 H2 (g.trans g2) ?_
      rw [← e]; exact pv
    · simp only [Bool.or_eq_false_iff, decide_eq_false_iff_not] at h1
      obtain ⟨dn, rfl⟩ : ∃ dn : Nat, d = (dn : Int) := ⟨d.toNat, by omega⟩
      have hdn : 1 ≤ dn := by omega
      generalize hbits : Builtin.Int.intBits n = b
      have hb1 : b ≤ 1000 := by rw [← hbits]; exact PyProof.Rows.intBits_le nb
      have hnb : n < 2 ^ b := by
        have := PyProof.Rows.natAbs_lt_pow_bits n
        rw [hbits] at this
        have h2 : ((n.natAbs : Nat) : Int) < ((2 ^ b : Nat) : Int) := Int.ofNat_lt.mpr this
        have h3 : ((2 ^ b : Nat) : Int) = (2 : Int) ^ b := by push_cast; rfl
        omega
      have hbd : b / dn ≤ 1000 := Nat.le_trans (Nat.div_le_self b dn) hb1
      refine hs_set (i := 2) (P := Dt K (.int (2 ^ (b / dn + 1)))) ((ee_shl (j := ((b / dn + 1 : Nat) : Int)) (shl_ok (n := 1) (by decide) (by omega)) ee_int ((ee_add (ee_fdiv (wide_div (b := 31) (by omega) (by omega) (by decide) (by decide)) ((ee_bits (ee_var 0 rfl (p1.up g.st))).isd (by rw [hbits])) (ee_var 1 rfl (p2.up g.st))) ee_int).isd (by push_cast; rfl))).isd (by rw [Int.toNat_natCast, Int.one_mul])) g.sub sc_whole_root.nd fun v3 S1 H1 g1 p3 => ?_
      refine hs_set (i := 3) ee_int g1.sub sc_whole_root.nd fun v4 S2 H2 g2 p4 => ?_
      have G2 := g.trans (g1.trans g2)
      have h2p : (0 : Int) < 2 ^ (b / dn + 1) := Int.pow_pos (by decide)
      refine hs_while (fun m σ S3 => ∃ lo hi : Int, (hi - lo).toNat = m ∧ 0 ≤ lo ∧ lo < hi ∧ hi ≤ 2 ^ (b / dn + 1) ∧ lo ^ dn ≤ n ∧ n < hi ^ dn ∧ ∃ x y z, σ = [some v1, some v2, some x, some y, z] ∧ Dt K (.int hi) x S3 ∧ Dt K (.int lo) y S3) ((2 : Int) ^ (b / dn + 1)).toNat PassesOwn.never g2.sub ⟨0, 2 ^ (b / dn + 1), by rw [Int.sub_zero], by omega, h2p, Int.le_refl _, ?_, root_high hdn n0 hnb, v3, v4, none, rfl, p3.up g2.st, p4⟩ ?_
      · rw [show dn = dn - 1 + 1 by omega, Int.pow_succ, Int.mul_zero]; exact n0
      · rintro m σ S3 H3 g3 ⟨lo, hi, hm, l0, lh, hh, hl, hu, x1, y1, z1, rfl, px, py⟩
        refine ⟨decide (1 < hi - lo), et_gt (ee_sub (ee_var 2 rfl px) (ee_var 3 rfl py)) ee_int, fun hk S4 H4 g4 => ?_, fun hk S4 H4 g4 => ?_⟩
        · have hk : 1 < hi - lo := of_decide_eq_true hk
          have px := px.up g4.st
          have py := py.up g4.st
          refine hs_set (i := 4) (ee_fdiv (wide_div (b := 31) (by decide) (by decide) (by decide) (by decide)) (ee_add (ee_var 3 rfl py) (ee_var 2 rfl px)) ee_int) g4.sub sc_whole_root.nd fun z2 S5 H5 g5 pz => ?_
          have m1 : lo < (lo + hi) / 2 := by omega
          have m2 : (lo + hi) / 2 < hi := by omega
          generalize (lo + hi) / 2 = md at m1 m2 pz
          have hpo : PowOk md dn := by
            refine ⟨by omega, ?_⟩
            rw [Int.toNat_natCast]
            refine pow_bdd (b := b) ?_ hdn (by omega)
            have e2 : (((2 : Nat) ^ (b / dn + 1) : Nat) : Int) = (2 : Int) ^ (b / dn + 1) := by push_cast; rfl
            omega
          refine hs_if ((et_le ((ee_callD D1 hr ⟨md, dn, rfl, rfl, hpo⟩ (ea_2 (ee_var 4 rfl pz) (ee_var 1 rfl (p2.up (G2.st.trans (g3.st.trans (g4.st.trans g5.st))))))).isd (d' := .int (md ^ dn)) (by rw [Int.toNat_natCast])) (ee_var 0 rfl (p1.up (G2.st.trans (g3.st.trans (g4.st.trans g5.st))))))) g5.sub (fun hc S6 H6 g6 => ?_) (fun hc S6 H6 g6 => ?_)
          · have hc := of_decide_eq_true hc
            refine hs_set (i := 3) (ee_var 4 rfl (pz.up g6.st)) g6.sub sc_whole_root.nd fun y2 S7 H7 g7 py2 => hs_nil (hs_nil ?_)
            exact ⟨S7, g5.trans (g6.trans g7), (hi - md).toNat, by omega, md, hi, rfl, by omega, m2, hh, hc, hu, x1, y2, some z2, rfl, px.up (g5.st.trans (g6.st.trans g7.st)), py2⟩
          · have hc := of_decide_eq_false hc
            refine hs_set (i := 2) (ee_var 4 rfl (pz.up g6.st)) g6.sub sc_whole_root.nd fun y2 S7 H7 g7 py2 => hs_nil (hs_nil ?_)
            exact ⟨S7, g5.trans (g6.trans g7), (md - lo).toNat, by omega, lo, md, rfl, l0, m1, by omega, hl, by omega, y2, y1, some z2, rfl, py2, py.up (g5.st.trans (g6.st.trans g7.st))⟩
        · have hk := of_decide_eq_false hk
          have e1 : hi = lo + 1 := by omega
          subst e1
          have e : lo = x := root_unique (d := dn) ⟨l0, by rw [Int.toNat_natCast]; exact hl, by rw [Int.toNat_natCast]; exact hu⟩ hx
          refine hs_ret (ee_var 3 rfl (py.up g4.st)) g4.sub fun v S5 H5 g5 pv => q v S5 H5 (G2.trans (g3.trans (g4.trans g5))) ?_
          rw [← e]; exact pv
end
end K02

namespace K02
open PySem PySem.Spec PyProof.Rows L2 Z Y
section
variable {P : Program} {w : World} {K : PySem.W.Frag} {mg : Str → Option Value} {base : Heap} {f : Addr} {fd : FuncData}
def FchkR : List PyData → PyData → Prop := fun ds r => ∃ n d : Int, ds = [.int n, .int d] ∧ r = .none ∧ 0 ≤ n ∧ 1 ≤ d ∧ d ≤ 60
theorem sc_check_root : FnScope ["number", "degree"] ["number", "degree"] (defScope scheck_root) := ⟨rfl, rfl, rfl, by decide +kernel, rfl, by decide +kernel, by decide +kernel⟩
theorem isNum_t {n l : Int} (h : l ≤ n) : isNum (.int n) l = true := decide_eq_true h
theorem ok_check_root (F : FnT K "check_root" scheck_root f fd) (D1 : KD P w K mg base "is_number" 1 (spD K FisNumber)) (g5 : ∃ t, mg "MOST_DEGREE" = some (.int 60 t)) : FnOk P w K mg base CX0 2 f fd ["number", "degree"] (spD K FchkR) := by
  refine fn_hs F sc_check_root (fun vs H Q E h => ?_) (fun cdv A outer sh H vs Q E hr h => ?_)
  · obtain ⟨S, ds, d, _, hd, ⟨_, _, rfl, _⟩, _⟩ := h
    exact hd.1
  · obtain ⟨S, ds, r, s, hd, ⟨n, d, rfl, rfl, n0, d1, d60⟩, q⟩ := h
    obtain ⟨v1, v2, rfl, p1, p2⟩ := hd.two
    obtain ⟨t, g5⟩ := g5
    refine hs_ifN ((et_not (et_val (ee_callD D1 hr ⟨.int n, 0, rfl, rfl⟩ (ea_2 (ee_var 0 rfl p1) ee_int)))).is (by rw [isNum_t n0]; rfl)) s fun S1 H1 g => ?_
    have p2 := p2.up g.st
    refine hs_ifN ((et_w (ew_or (et_not (et_val (ee_callD D1 hr ⟨.int d, 1, rfl, rfl⟩ (ea_2 (ee_var 1 rfl p2) ee_int)))) fun _ => ew_or1 (et_gt (ee_var 1 rfl p2) (ee_globI g5)))).is (by rw [isNum_t d1, decide_eq_false (by omega)]; rfl)) g.sub fun S2 H2 g2 => hs_nil (q _ S2 H2 (g.trans g2) .non)
def FfRoot : List PyData → PyData → Prop := FwRoot
theorem sc_floor_root : FnScope ["number", "degree"] ["number", "degree"] (defScope sfloor_root) := ⟨rfl, rfl, rfl, by decide +kernel, rfl, by decide +kernel, by decide +kernel⟩
theorem ok_floor_root (F : FnT K "floor_root" sfloor_root f fd) (D1 : KD P w K mg base "check_root" 2 (spD K FchkR)) (D2 : KD P w K mg base "whole_root" 2 (spD K FwRoot)) : FnOk P w K mg base CX0 3 f fd ["number", "degree"] (spD K FfRoot) := by
  refine fn_hs F sc_floor_root (fun vs H Q E h => ?_) (fun cdv A outer sh H vs Q E hr h => ?_)
  · obtain ⟨S, ds, d, _, hd, ⟨_, _, _, rfl, _⟩, _⟩ := h
    exact hd.1
  · obtain ⟨S, ds, r, s, hd, ⟨n, d, x, rfl, rfl, n0, nb, d1, d60, hx⟩, q⟩ := h
    obtain ⟨v1, v2, rfl, p1, p2⟩ := hd.two
    refine hs_expr (ee_callD D1 hr ⟨n, d, rfl, rfl, n0, d1, d60⟩ (ea_2 (ee_var 0 rfl p1) (ee_var 1 rfl p2))) s fun _ S1 H1 g _ => ?_
    exact hs_ret (ee_callD D2 hr ⟨n, d, x, rfl, rfl, n0, nb, d1, d60, hx⟩ (ea_2 (ee_var 0 rfl (p1.up g.st)) (ee_var 1 rfl (p2.up g.st)))) g.sub fun v S2 H2 g2 pv => q v S2 H2 (g.trans g2) pv
def ceilI (n d x : Int) : Int := if x ^ d.toNat = n then x else x + 1
def FcRoot : List PyData → PyData → Prop := fun ds r => ∃ n d x, ds = [.int n, .int d] ∧ r = .int (ceilI n d x) ∧ 0 ≤ n ∧ n.natAbs < 2 ^ 1000 ∧ 1 ≤ d ∧ d ≤ 60 ∧ RootOf n d x
theorem sc_ceiling_root : FnScope ["number", "degree", "root"] ["number", "degree"] (defScope sceiling_root) := ⟨rfl, rfl, rfl, by decide +kernel, rfl, by decide +kernel, by decide +kernel⟩
theorem root_pow_ok {n d x : Int} (hx : RootOf n d x) (d1 : 1 ≤ d) (d60 : d ≤ 60) (nb : n.natAbs < 2 ^ 1000) : PowOk x d := by
  refine ⟨by omega, ?_⟩
  have hx0 := hx.1
  have e1 : x ≤ n ∨ x ≤ 1 := by
    by_cases h : x ≤ 1
    · exact .inr h
    · obtain ⟨k, hk⟩ : ∃ k, d.toNat = k + 1 := ⟨d.toNat - 1, by omega⟩
      have h1 := hx.2.1
      rw [hk, Int.pow_succ] at h1
      have h2 := pow_mono_int (a := 1) (b := x) (by decide) (by omega) k
      rw [Int.one_pow] at h2
      have h3 : 1 * x ≤ x ^ k * x := Int.mul_le_mul_of_nonneg_right h2 (by omega)
      exact .inl (by omega)
  have hm : max 1 x.natAbs < 2 ^ 1000 := by
    have h1 : 1 < 2 ^ 1000 := Nat.one_lt_two_pow (by decide)
    rcases e1 with h | h
    · have : x.natAbs ≤ n.natAbs := by omega
      exact Nat.max_lt.mpr ⟨h1, by omega⟩
    · exact Nat.max_lt.mpr ⟨h1, by omega⟩
  have h2 : (max 1 x.natAbs) ^ d.toNat ≤ (2 ^ 1000) ^ d.toNat := Nat.pow_le_pow_left (Nat.le_of_lt hm) _
  rw [← Nat.pow_mul] at h2
  exact Nat.lt_of_le_of_lt h2 (Nat.pow_lt_pow_right (by decide) (by omega))
theorem ok_ceiling_root (F : FnT K "ceiling_root" sceiling_root f fd) (D1 : KD P w K mg base "check_root" 2 (spD K FchkR)) (D2 : KD P w K mg base "whole_root" 2 (spD K FwRoot)) (D3 : KD P w K mg base "power_of" 1 (spD K Fpower_of)) : FnOk P w K mg base CX0 3 f fd ["number", "degree"] (spD K FcRoot) := by
  refine fn_hs F sc_ceiling_root (fun vs H Q E h => ?_) (fun cdv A outer sh H vs Q E hr h => ?_)
  · obtain ⟨S, ds, d, _, hd, ⟨_, _, _, rfl, _⟩, _⟩ := h
    exact hd.1
  · obtain ⟨S, ds, r, s, hd, ⟨n, d, x, rfl, rfl, n0, nb, d1, d60, hx⟩, q⟩ := h
    obtain ⟨v1, v2, rfl, p1, p2⟩ := hd.two
    refine hs_expr (ee_callD D1 hr ⟨n, d, rfl, rfl, n0, d1, d60⟩ (ea_2 (ee_var 0 rfl p1) (ee_var 1 rfl p2))) s fun _ S1 H1 g _ => ?_
    refine hs_set (i := 2) (ee_callD D2 hr ⟨n, d, x, rfl, rfl, n0, nb, d1, d60, hx⟩ (ea_2 (ee_var 0 rfl (p1.up g.st)) (ee_var 1 rfl (p2.up g.st)))) g.sub sc_ceiling_root.nd fun v S2 H2 g2 pv => ?_
    have G := g.trans g2
    refine hs_ret (ee_if (Q' := Dt K (.int (ceilI n d x))) (et_eqI (ee_callD D3 (hr.mono (by decide)) ⟨x, d, rfl, rfl, root_pow_ok hx d1 d60 nb⟩ (ea_2 (ee_var 2 rfl pv) (ee_var 1 rfl (p2.up G.st)))) (ee_var 0 rfl (p1.up G.st))) (fun h => ?_) (fun h => ?_)) g2.sub fun v S3 H3 g3 pv => q v S3 H3 (G.trans g3) pv
    · rw [show ceilI n d x = x from if_pos (of_decide_eq_true h)]
      exact ee_var 2 rfl pv
    · rw [show ceilI n d x = x + 1 from if_neg (of_decide_eq_false h)]
      exact ee_add (ee_var 2 rfl pv) ee_int
/-! ### lowest -/
def gcdI (l : List Int) : Nat := l.foldl (fun g x => Nat.gcd g x.natAbs) 0
def lowI (l : List Int) : List Int := l.map fun x => x / (max (gcdI l : Int) 1)
def Flowest : List PyData → PyData → Prop := fun ds r => ∃ l : List Int, (ds = [lI l] ∨ ds = [tI l]) ∧ r = lI (lowI l) ∧ l.length ≤ 1000 ∧ ∀ x ∈ l, x.natAbs < 2 ^ 1000
end
end K02

namespace K02
open PySem PySem.Spec PyProof.Rows L2 Z Y
section
variable {P : Program} {w : World} {K : PySem.W.Frag} {mg : Str → Option Value} {base : Heap} {f : Addr} {fd : FuncData}
theorem sc_lowest : FnScope ["numbers", "common", "number", "rest"] ["numbers"] (defScope slowest) := ⟨rfl, rfl, rfl, by decide +kernel, rfl, by decide +kernel, by decide +kernel⟩
theorem gcd_turn (a b : Nat) : Nat.gcd b (a % b) = Nat.gcd a b := by
  rw [Nat.gcd_comm, ← Nat.gcd_rec, Nat.gcd_comm]
theorem gcdI_take (l : List Int) {i : Nat} (hi : i < l.length) : gcdI (l.take (i + 1)) = Nat.gcd (gcdI (l.take i)) (l[i]).natAbs := by
  unfold gcdI
  rw [take_snoc (List.getElem?_eq_getElem hi), List.foldl_append]
  rfl
theorem gcd_lt {l : List Int} (h : ∀ x ∈ l, x.natAbs < 2 ^ 1000) : gcdI l < 2 ^ 1000 := by
  unfold gcdI
  have key : ∀ (l : List Int) (g : Nat), g < 2 ^ 1000 → (∀ x ∈ l, x.natAbs < 2 ^ 1000) → l.foldl (fun g x => Nat.gcd g x.natAbs) g < 2 ^ 1000 := fun l => by
    induction l with
    | nil => intro g hg _; exact hg
    | cons a l ih =>
      intro g hg hl
      refine ih _ ?_ fun x hx => hl x (List.mem_cons_of_mem _ hx)
      by_cases h0 : g = 0
      · subst h0; show Nat.gcd 0 a.natAbs < 2 ^ 1000; rw [Nat.gcd_zero_left]; exact hl a (List.mem_cons_self ..)
      · exact Nat.lt_of_le_of_lt (Nat.gcd_le_left _ (by omega)) hg
  exact key l 0 (Nat.pow_pos (by decide)) h
theorem ee_abs {X : Cx} {σ : L2.St} {S : Hp} {a : Expr} {p pos : Pos} {i : Int} (hm : X.mg "abs" = none) (ha : EE X σ S a (Dt X.K (.int i))) (hg : Gl X "abs" := by rfl) (hs : starEach [a] X.env = (false, eval a X.env) :: starEach [] X.env := by rfl) : EE X σ S (.Call (.Name "abs" p) [a] [] pos) (Dt X.K (.int (i.natAbs : Nat))) :=
  ee_callB call_abs hm (by first | rfl | decide +kernel | exact boot_abs) (ea_1 ha hs) (fun vs S1 H1 _ s al Q q => by
    obtain ⟨v, rfl, pv⟩ := al.one
    cases pv
    refine ⟨i, rfl, ?_⟩
    have e : (if i < 0 then -i else i) = ((i.natAbs : Nat) : Int) := by split <;> omega
    rw [e]
    exact q _ S1 H1 (Gr.refl s) (.int _)) hg (he := hs) (hpl := by rfl)
theorem ee_max2 {X : Cx} {σ : L2.St} {S : Hp} {a b : Expr} {p pos : Pos} {i j : Int} (hc : X.calm = true) (hm : X.mg "max" = none) (ha : EE X σ S a (Dt X.K (.int i))) (hb : EE X σ S b (Dt X.K (.int j))) (hg : Gl X "max" := by rfl) (hs : starEach [a, b] X.env = (false, eval a X.env) :: starEach [b] X.env := by rfl) (hs2 : starEach [b] X.env = (false, eval b X.env) :: starEach [] X.env := by rfl) (hpl : (backTo pos (starEach [b] X.env)).any (·.1) = false := by rfl) : EE X σ S (.Call (.Name "max" p) [a, b] [] pos) (Dt X.K (.int (max i j))) :=
  ee_callB (call_max2 hc) hm (by first | rfl | decide +kernel | exact boot_max) (ea_2 ha hb hs hs2) (fun vs S1 H1 _ s al Q q => by
    obtain ⟨v, w, rfl, pv, pw⟩ := al.two
    cases pv; cases pw
    refine ⟨i, j, rfl, ?_⟩
    have e : (if j > i then j else i) = max i j := by split <;> omega
    rw [e]
    exact q _ S1 H1 (Gr.refl s) (.int _)) hg (he := hs) (hpl := hpl)
theorem ok_lowest (F : FnT K "lowest" slowest f fd) (g1 : mg "abs" = none) (g2 : mg "max" = none) : FnOk P w K mg base CX0 1 f fd ["numbers"] (spD K Flowest) := by
  refine fn_hs F sc_lowest (fun vs H Q E h => ?_) (fun cdv A outer sh H vs Q E hr h => ?_)
  · obtain ⟨S, ds, d, _, hd, ⟨_, h, _⟩, _⟩ := h
    rcases h with rfl | rfl <;> exact hd.1
  · obtain ⟨S, ds, r, s, hd, ⟨l, hds, rfl, hl, hb⟩, q⟩ := h
    have hei : ∀ {σ : L2.St} {S1 : Hp} {tg : Expr} {p : Pos} {v : V}, σ[0]? = some (some v) → Dts K ds [v] S1 → EI (cxOf CX0 P w K mg base ["numbers", "common", "number", "rest"] "lowest" (defScope slowest) f cdv A outer sh H E).nox σ S1 tg (.Name "numbers" p) (Ds K (l.map .int)) := fun h0 hv => by
      rcases hds with rfl | rfl
      · obtain ⟨u, e, pu⟩ := hv.one
        cases e
        exact ei_list (ee_var 0 h0 pu)
      · obtain ⟨u, e, pu⟩ := hv.one
        cases e
        exact ei_tup (ee_var 0 h0 pu)
    obtain ⟨v1, rfl⟩ : ∃ v1, vs = [v1] := by
      rcases hds with rfl | rfl <;> (obtain ⟨u, e, _⟩ := hd.one; exact ⟨u, e⟩)
    refine hs_set (i := 1) ee_int s sc_lowest.nd fun w1 S1 H1 g1' q1 => ?_
    have hlen : ∀ K, (Ds K (l.map PyData.int)).length = l.length := fun K => by rw [ds_len, List.length_map]
    refine hs_for (fun i σ S2 => ∃ x a b, σ = [some v1, some x, a, b] ∧ Dt K (.int ((gcdI (l.take i) : Nat) : Int)) x S2) PassesOwn.never rfl (hei rfl (hd.up g1'.st)) g1'.sub (fun S2 H2 g3 => ⟨w1, none, none, rfl, q1.up g3.st⟩) ?_ ?_
    · rintro i Pi σ1 S2 H2 x S3 H3 hP g3 ⟨y, a, b, rfl, py⟩ g4 px
      have hi : i < l.length := by
        have := (List.getElem?_eq_some_iff.mp hP).1
        rw [hlen] at this; exact this
      have hz : (l.map PyData.int)[i]? = some (.int l[i]) := by rw [List.getElem?_map, List.getElem?_eq_getElem hi]; rfl
      rw [ds_get hz] at hP
      obtain rfl := Option.some.inj hP
      refine (eg_name (i := 2) sc_lowest.nd rfl (Or.inl rfl)) H3 g4.sub _ ?_
      refine hs_set (i := 3) (ee_abs g1 (ee_var 2 rfl px)) g4.sub sc_lowest.nd fun z S4 H4 g5 pz => ?_
      refine hs_while (fun m σ S5 => ∃ c : Nat, Nat.gcd c m = gcdI (l.take (i + 1)) ∧ ∃ y2 z2, σ = [some v1, some y2, some x, some z2] ∧ Dt K (.int ((c : Nat) : Int)) y2 S5 ∧ Dt K (.int ((m : Nat) : Int)) z2 S5) (l[i]).natAbs PassesOwn.never g5.sub ⟨gcdI (l.take i), (gcdI_take l hi).symm, y, z, rfl, py.up (g4.st.trans g5.st), pz⟩ ?_
      rintro m σ S5 H5 g6 ⟨c, hc, y2, z2, rfl, py2, pz2⟩
      refine ⟨decide ((0 : Int) < (m : Nat)), et_gt (ee_var 3 rfl pz2) ee_int, fun hm S6 H6 g7 => ?_, fun hm S6 H6 g7 => ?_⟩
      · have hm : 0 < m := by simpa using hm
        have py2 := py2.up g7.st
        have pz2 := pz2.up g7.st
        refine hs_unp2 (i := 1) (j := 3) rfl sc_lowest.nd (ee_var 3 rfl pz2) ((ee_mod (by omega) (ee_var 1 rfl py2) (ee_var 3 rfl pz2)).isd (d' := .int ((c % m : Nat) : Int)) (by push_cast; rfl)) g7.sub fun u1 u2 S7 H7 pu1 pu2 g8 => hs_nil ?_
        exact ⟨S7, g8, c % m, Nat.mod_lt c hm, m, by rw [gcd_turn]; exact hc, u1, u2, rfl, pu1, pu2⟩
      · have hm : m = 0 := by simpa using hm
        subst hm
        rw [Nat.gcd_zero_right] at hc
        refine hs_nil ⟨S6, g5.trans (g6.trans g7), y2, some x, some z2, rfl, ?_⟩
        rw [← hc]; exact py2.up g7.st
    · rintro σ1 S2 H2 g3 ⟨y, a, b, rfl, py⟩
      rw [hlen, List.take_length] at py
      refine hs_ret ((ee_lc (i := 2) (enc := .int) (f := fun d => (match d with | .int x => x | _ => 0) / max ((gcdI l : Nat) : Int) 1) rfl sc_lowest.nd (blkOk_by (N := ["numbers", "common", "number", "rest"]) (sc := defScope slowest) (by decide +kernel)) (hei rfl (hd.up (g1'.st.trans g3.st))) (by rw [List.length_map]; show _ ≤ 16777216; omega) ?_).isd ?_) g3.sub fun v S3 H3 g4 pv => q v S3 H3 (g1'.trans (g3.trans g4)) pv
      · intro d hd' v S4 s4 pv sh' H0 C cl fp
        obtain ⟨x, hx, rfl⟩ := List.mem_map.mp hd'
        have pv : Dt K (.int x) v S4 := pv
        refine ee_fdiv (wide_div (b := 1001) (by omega) ?_ (by decide) (by decide)) (ee_var 2 rfl pv) (ee_max2 rfl g2 (ee_var 1 rfl (py.up s4)) ee_int)
        have h1 := gcd_lt hb
        have h2 : (2 : Nat) ^ 1000 < 2 ^ 1001 := Nat.pow_lt_pow_right (by decide) (by decide)
        have h3 : 1 < 2 ^ 1001 := Nat.one_lt_two_pow (by decide)
        rcases Int.max_def ((gcdI l : Nat) : Int) 1 with h | h
        have h4 : (max ((gcdI l : Nat) : Int) 1).natAbs = max (gcdI l) 1 := by omega
        rw [h4]
        exact Nat.max_lt.mpr ⟨by omega, h3⟩
      · unfold lI lowI
        simp only [List.map_map, Function.comp_def]
end
end K02

namespace K02
open PySem PySem.Spec PyProof.Rows L2 Z Y
section
variable {P : Program} {w : World} {K : PySem.W.Frag} {mg : Str → Option Value} {base : Heap} {f : Addr} {fd : FuncData}
theorem sc_IN_init : FnScope ["self", "given"] ["self", "given"] (defScope sInvalidNumber____init__) := ⟨rfl, rfl, rfl, by decide +kernel, rfl, by decide +kernel, by decide +kernel⟩
theorem ok_IN_init {C : Addr} (F : FunD K "__init__" "InvalidNumber.__init__" (defArgs sInvalidNumber____init__) (defBody sInvalidNumber____init__) (defScope sInvalidNumber____init__) [] [] f fd) (T : OexC K C) (n1 : PySem.W.findIn K (.ref C) "given" = some none) (n2 : PySem.W.findIn K (.ref C) "code" = some none) : FnOk P w K mg base CX0 1 f fd ["self", "given"] (spXI C "given" "InvalidNumber") := by
  refine fn_hs F sc_IN_init (fun vs H Q E h => ?_) (fun cdv A outer sh H vs Q E hr h => ?_)
  · obtain ⟨a, v, rfl, _⟩ := h
    rfl
  · obtain ⟨a, v, rfl, ha, q⟩ := h
    refine hs_cons (ps_ost (pv 0) (pv 1)) ⟨_, rfl, _, rfl, a, C, rfl, T, n1, .inl ⟨ha, fun dx h1 h2 => ?_⟩⟩
    refine hs_cons (ps_ost (pv 0) pe_str) ⟨_, rfl, a, C, rfl, T, n2, .inr ⟨dx, [("given", v)], upd_same, by rw [upd_ne h2, upd_same], (show 1 ≤ 900 by decide), ?_⟩⟩
    exact hs_nil (q dx h1 h2)
/-- the exception that a bad number gives: E is met by it -/
def XNum (K : PySem.W.Frag) (C : Addr) (S H : Hp) (g : PyData) (E : XK) : Prop := ∀ d v S3 H3, Gr S H S3 H3 → H d = none → S3 d = some (.xd [("code", .str "InvalidNumber"), ("given", v)]) → Dt K g v S3 → E (.ref C) (some d) H3
def BadRoot (n d g : PyData) : Prop := (isNum n 0 = false ∧ g = n) ∨ (isNum n 0 = true ∧ (isNum d 1 && leNum d 60) = false ∧ g = d)
/-- a def over two values that raises -/
def spRoot (K : PySem.W.Frag) (C : Addr) : Sp := fun vs H _ E => ∃ S n d g, Same S H ∧ Dts K [n, d] vs S ∧ BadRoot n d g ∧ XNum K C S H g E
theorem XNum.of {K : PySem.W.Frag} {C : Addr} {S S1 H H1 H3 : Hp} {g : PyData} {v : V} {d : Addr} {E : XK} (h : XNum K C S H g E) (gr : Gr S H S1 H1) (s : Same S H) (pv : Dt K g v S1) (hd : H1 d = none) (h1 : Same (upd S1 d (.xd [("code", .str "InvalidNumber"), ("given", v)])) H3) (h2 : Same H1 H3) : E (.ref C) (some d) H3 := by
  have n1 : S1 d = none := gr.sub.free hd
  exact h d v _ H3 ⟨gr.st.trans (Same.new n1), h1, gr.hh.trans h2, fun a o ha => (upd_ne (ne_of_none ha (gr.hh.free hd))).trans (gr.old a o ha)⟩ (gr.hh.free hd) upd_same (pv.up (Same.new n1))
theorem ok_check_rootX {C : Addr} (F : FnT K "check_root" scheck_root f fd) (R : Err P w K mg base "InvalidNumber" C "given" "InvalidNumber") (D1 : KD P w K mg base "is_number" 1 (spD K FisNumber)) (g5 : ∃ t, mg "MOST_DEGREE" = some (.int 60 t)) : FnOk P w K mg base (L2.CX P w) 3 f fd ["number", "degree"] (spRoot K C) := by
  refine fn_hsX F sc_check_root (fun vs H Q E h => ?_) (fun cdv A outer sh H vs Q E hr h tk => ?_)
  · obtain ⟨S, n, d, g, _, hd, _⟩ := h
    exact hd.1
  · obtain ⟨S, n, d, g, s, hd, hbad, hx⟩ := h
    obtain ⟨v1, v2, rfl, p1, p2⟩ := hd.two
    obtain ⟨t, g5⟩ := g5
    have c1 : ∀ {S1 : Hp}, Same S S1 → ET (cxOf (L2.CX P w) P w K mg base ["number", "degree"] "check_root" (defScope scheck_root) f cdv A outer sh H E) [some v1, some v2] S1 (match defBody scheck_root with | .If c _ _ _ :: _ => c | _ => .Constant .none 0 ⟨0, 0, 0, 0⟩) (!isNum n 0) := fun s1 => et_not (et_val (ee_callD D1 (hr.mono (by decide)) ⟨n, 0, rfl, rfl⟩ (ea_2 (ee_var 0 rfl (p1.up s1)) ee_int)))
    rcases hbad with ⟨hn, rfl⟩ | ⟨hn, hdg, rfl⟩
    · refine hs_ifT ((c1 (Same.refl S)).is (by rw [hn]; rfl)) s fun S1 H1 g1 => ?_
      exact hs_raiseO rfl tk R hr (ee_var (P := Dt K g) 0 rfl (p1.up g1.st)) g1.sub fun v S2 H2 d' H3 g2 pv hd' h1 h2 => hx.of (g1.trans g2) s pv hd' h1 h2
    · refine hs_ifN ((c1 (Same.refl S)).is (by rw [hn]; rfl)) s fun S1 H1 g1 => ?_
      have p2 := p2.up g1.st
      have hraise : ∀ S2 H2, Gr S1 H1 S2 H2 → HS (cxOf (L2.CX P w) P w K mg base ["number", "degree"] "check_root" (defScope scheck_root) f cdv A outer sh H E) (Dn (cxOf (L2.CX P w) P w K mg base ["number", "degree"] "check_root" (defScope scheck_root) f cdv A outer sh H E) { nx := fun _ H' => Q .non H', rt := Q } []) (match defBody scheck_root with | [_, .If _ b _ _] => b | _ => []) [some v1, some v2] H2 := fun S2 H2 g2 =>
        hs_raiseO rfl tk R hr (ee_var (P := Dt K g) 1 rfl (p2.up g2.st)) g2.sub fun v S3 H3 d' H4 g3 pv hd' h1 h2 => hx.of ((g1.trans g2).trans g3) s pv hd' h1 h2
      by_cases h1 : isNum g 1 = true
      · have h60 : leNum g 60 = false := by simpa [h1] using hdg
        cases g with
        | int i =>
          refine hs_ifT ((et_w (ew_or (k2 := true) (et_not (et_val (ee_callD D1 (hr.mono (by decide)) ⟨.int i, 1, rfl, rfl⟩ (ea_2 (ee_var 1 rfl p2) ee_int)))) fun _ => ew_or1 ((et_gt (ee_var 1 rfl p2) (ee_globI g5)).is ?_))).is (by simp)) g1.sub hraise
          have : ¬ (i ≤ 60) := of_decide_eq_false h60
          exact decide_eq_true (by omega)
        | _ => exact absurd h1 (by simp [isNum])
      · have h1' : isNum g 1 = false := by simpa using h1
        refine hs_ifT ((et_w (ew_or (k2 := true) (et_not (et_val (ee_callD D1 (hr.mono (by decide)) ⟨g, 1, rfl, rfl⟩ (ea_2 (ee_var 1 rfl p2) ee_int)))) fun h => ?_)).is (by simp)) g1.sub hraise
        exfalso
        rw [h1'] at h
        cases h
theorem ok_floor_rootX {C : Addr} (F : FnT K "floor_root" sfloor_root f fd) (D1 : ∃ f fd ps, FnOk P w K mg base (L2.CX P w) 3 f fd ps (spRoot K C) ∧ mg "check_root" = some (.ref f) ∧ PySem.W.keepIn K (.ref f) = true ∧ Binds K fd ps []) : FnOk P w K mg base (L2.CX P w) 4 f fd ["number", "degree"] (spRoot K C) := by
  refine fn_hsX F sc_floor_root (fun vs H Q E h => ?_) (fun cdv A outer sh H vs Q E hr h tk => ?_)
  · obtain ⟨S, n, d, g, _, hd, _⟩ := h
    exact hd.1
  · obtain ⟨S, n, d, g, s, hd, hbad, hx⟩ := h
    obtain ⟨v1, v2, rfl, p1, p2⟩ := hd.two
    exact hs_callX tk D1 hr (ea_2 (ee_var 0 rfl p1) (ee_var 1 rfl p2)) s fun vs S1 H1 g1 al Q' => ⟨S1, n, d, g, g1.sub, al_dts (ds := [n, d]) al, hbad, fun d' v S3 H3 a1 a2 a3 a4 => hx d' v S3 H3 (g1.trans a1) (g1.hh.free a2) a3 a4⟩
theorem ok_ceiling_rootX {C : Addr} (F : FnT K "ceiling_root" sceiling_root f fd) (D1 : ∃ f fd ps, FnOk P w K mg base (L2.CX P w) 3 f fd ps (spRoot K C) ∧ mg "check_root" = some (.ref f) ∧ PySem.W.keepIn K (.ref f) = true ∧ Binds K fd ps []) : FnOk P w K mg base (L2.CX P w) 4 f fd ["number", "degree"] (spRoot K C) := by
  refine fn_hsX F sc_ceiling_root (fun vs H Q E h => ?_) (fun cdv A outer sh H vs Q E hr h tk => ?_)
  · obtain ⟨S, n, d, g, _, hd, _⟩ := h
    exact hd.1
  · obtain ⟨S, n, d, g, s, hd, hbad, hx⟩ := h
    obtain ⟨v1, v2, rfl, p1, p2⟩ := hd.two
    exact hs_callX tk D1 hr (ea_2 (ee_var 0 rfl p1) (ee_var 1 rfl p2)) s fun vs S1 H1 g1 al Q' => ⟨S1, n, d, g, g1.sub, al_dts (ds := [n, d]) al, hbad, fun d' v S3 H3 a1 a2 a3 a4 => hx d' v S3 H3 (g1.trans a1) (g1.hh.free a2) a3 a4⟩
end
end K02

namespace K02
open PySem PySem.Spec PyProof.Rows L2 Z Y
section
variable {P : Program} {w : World} {K : PySem.W.Frag} {mg : Str → Option Value} {base : Heap} {f : Addr} {fd : FuncData}
/-- what a caught InvalidNumber keeps (of _law_field, called in the except suite; v: the value of its attribute given) -/
def spFieldN (C : Addr) (p : Addr × Obj) (vs : List V) (H : Hp) (Q : VK) : Prop := ∃ S v, Same S H ∧ vs = [.ref p.1] ∧ ExcP C "InvalidNumber" "given" v p S ∧ ∀ S1 H1, Gr S H S1 H1 → Q v H1
theorem sc_law_field : FnScope ["_law_e"] ["_law_e"] (defScope sL_field) := ⟨rfl, rfl, rfl, by decide +kernel, rfl, by decide +kernel, by decide +kernel⟩
theorem ok_law_fieldN {C : Addr} (F : FnT K "_law_field" sL_field f fd) (T : XfC K C) (n1 : PySem.W.findIn K (.ref C) "code" = some none) (n2 : PySem.W.findIn K (.ref C) "given" = some none) : FnP P w K mg base 1 f fd ["_law_e"] (spFieldN C) := by
  refine fn_hsP F sc_law_field (fun p vs H Q h => ?_) (fun cdv A outer sh H vs Q p hr h => ?_)
  · obtain ⟨S, v, _, rfl, _⟩ := h
    rfl
  · obtain ⟨S, v, s, rfl, px, q⟩ := h
    have hp : p ∈ [p] := List.mem_cons_self
    refine hs_ifN ((et_inLs (ns := ["InvalidSystem", "InvalidFact", "InvalidFactor", "InvalidGroup", "InvalidClaim", "InvalidSums", "InvalidDeed", "InvalidCommand", "WrongSchema", "TooHigh", "EqualSums"]) (ee_codeP hp px T n1 (ee_var 0 rfl rfl)) (ee_lst (by repeat (first | exact ea_nil | refine ea_cons ee_str ?_)))).is (by decide)) s fun S1 H1 g1 => ?_
    have px := px.up g1.st
    refine hs_ifN ((et_inLs (ns := ["InvalidName", "WrongKind", "DuplicateName", "UnknownName"]) (ee_codeP hp px T n1 (ee_var 0 rfl rfl)) (ee_lst (by repeat (first | exact ea_nil | refine ea_cons ee_str ?_)))).is (by decide)) g1.sub fun S2 H2 g2 => ?_
    have px := px.up g2.st
    refine hs_ifN ((et_inLs (ns := ["InvalidText", "Boundless", "NoTable", "NotThere", "Empty", "NothingLeft"]) (ee_codeP hp px T n1 (ee_var 0 rfl rfl)) (ee_lst (by repeat (first | exact ea_nil | refine ea_cons ee_str ?_)))).is (by decide)) g2.sub fun S3 H3 g3 => ?_
    have px := px.up g3.st
    refine hs_ifN ((et_eqS (ee_codeP hp px T n1 (ee_var 0 rfl rfl)) ee_str).is (by decide)) g3.sub fun S4 H4 g4 => ?_
    have px := px.up g4.st
    refine hs_ifN ((et_eqS (ee_codeP hp px T n1 (ee_var 0 rfl rfl)) ee_str).is (by decide)) g4.sub fun S5 H5 g5 => ?_
    have px := px.up g5.st
    refine hs_ifN ((et_eqS (ee_codeP hp px T n1 (ee_var 0 rfl rfl)) ee_str).is (by decide)) g5.sub fun S6 H6 g6 => ?_
    have px := px.up g6.st
    refine hs_ifN ((et_eqS (ee_codeP hp px T n1 (ee_var 0 rfl rfl)) ee_str).is (by decide)) g6.sub fun S7 H7 g7 => ?_
    have px := px.up g7.st
    refine hs_ifN ((et_eqS (ee_codeP hp px T n1 (ee_var 0 rfl rfl)) ee_str).is (by decide)) g7.sub fun S8 H8 g8 => ?_
    have px := px.up g8.st
    have mnv : Mn (fun (w : V) (_ : Hp) => w = v) := ⟨fun _ h => h⟩
    refine hs_ret (ee_if (Q' := fun w _ => w = v) ((et_eqS (ee_codeP hp px T n1 (ee_var 0 rfl rfl)) ee_str).is (show _ = false by decide)) (fun z => nomatch z) fun _ => ee_keptP hp px T n2 (ee_var 0 rfl rfl) rfl) g8.sub fun w S9 H9 g9 pw => ?_
    subst pw
    exact q S9 H9 (((((((((g1.trans g2).trans g3).trans g4).trans g5).trans g6).trans g7).trans g8).trans g9))
end
end K02

namespace K02
open PySem PySem.Spec PyProof.Rows L2 Z Y
section
variable {P : Program} {w : World} {K : PySem.W.Frag} {mg : Str → Option Value} {base : Heap} {f : Addr} {fd : FuncData}
/-- _law_try of a kept lambda that raises InvalidNumber of g -/
def spTryN (P : Program) (w : World) (K : PySem.W.Frag) (mg : Str → Option Value) (base : Heap) (C : Addr) (k : Nat) : Sp := fun vs H Q _ => ∃ S g f F fr dvs ws L sp, vs = [.ref f] ∧ LOk P w K mg base (L2.CX P w) k f F fr dvs sp ∧ Kept F f fr dvs ws L H ∧ Same S (delL H L) ∧
  (∀ Q' E', XNum K C S (delL H L) g E' → sp ws (delL H L) Q' E') ∧ ∀ w S1 H1, Gr S H S1 H1 → Dt K (.tuple [.str "InvalidNumber", g]) w S1 → Q w H1
theorem sc_law_try : FnScope ["_law_ask", "_law_e"] ["_law_ask"] (defScope sL_try) := ⟨rfl, rfl, rfl, by decide +kernel, rfl, by decide +kernel, by decide +kernel⟩
theorem ok_law_tryN {C C1 C2 C3 : Addr} {k : Nat} (F : FnT K "_law_try" sL_try f fd) (T : XfC K C) (n1 : PySem.W.findIn K (.ref C) "code" = some none) (D1 : ∃ f fd, FnP P w K mg base 1 f fd ["_law_e"] (spFieldN C) ∧ mg "_law_field" = some (.ref f) ∧ PySem.W.keepIn K (.ref f) = true ∧ Binds K fd ["_law_e"] [])
    (m1 : mg "DealError" = some (.ref C1)) (m2 : mg "Missing" = some (.ref C2)) (m3 : mg "NothingLeft" = some (.ref C3)) (hx : PySem.W.exmAny K (.ref C) [.ref C1, .ref C2, .ref C3] = some true) (hk : 1 ≤ k) : FnOk P w K mg base CX0 (k + 1) f fd ["_law_ask"] (spTryN P w K mg base C k) := by
  refine fn_hs F sc_law_try (fun vs H Q E h => ?_) (fun cdv A outer sh H vs Q E hr h => ?_)
  · obtain ⟨S, g, f', F', fr, dvs, ws, L, sp, rfl, _⟩ := h
    rfl
  · obtain ⟨S, g, f', F', fr, dvs, ws, L, sp, rfl, LO, KH, s, hR, q⟩ := h
    obtain ⟨fF, fdF, FP, hmF, hkF, hbF⟩ := D1
    refine hs_tryAs (Wout := fun _ _ _ _ => False) (i := 1) (n := "_law_e") rfl rfl (show (["_law_ask", "_law_e"] : List Str).Nodup by decide) rfl rfl LamX.takes0 fun pn xe tk _ => ?_
    refine hs_cons (ps_ret (pe_tup (pa_cons (te := tC (.str "")) pe_str (pa_cons (te := bE _ _) peb pa_nil)))) ?_
    refine he_callLam (i := 0) (E := fun cls d H' => ∀ σ', WAs _ _ 1 _ (fun _ _ _ _ => False) _ cls d σ' H') tk (fun cls d σ' H' h => h σ') LO hr rfl KH (hR _ _ ?_) rfl (Or.inl rfl)
    intro d v S3 H3 g1 hd hxd pvv hL σ' hlen
    have g2 : Gr S H S3 (shownL H3 L) := Y.Gr.shownL g1 hL KH.shw KH.nd
    refine ⟨true, tst3 ⟨rfl, by decide, .inl m1⟩ ⟨rfl, by decide, .inl m2⟩ ⟨rfl, by decide, .inl m3⟩ hx, fun _ a oe pn na nb hz hf => ?_, fun z => nomatch z⟩
    have px : ExcP C "InvalidNumber" "given" v (a, oe) S3 := ⟨d, _, hz.1, hz.2, hf, hxd, rfl, rfl⟩
    have hσ : (σ'.set 1 (some (V.ref a)))[1]? = some (some (V.ref a)) := by
      have z : σ'.length = 2 := hlen
      rw [List.getElem?_set_self (by omega)]
    refine hs_cons (ps_ret (pe_tup (pa_cons (te := bE _ _) peb (pa_cons (te := bE _ _) peb pa_nil)))) ?_
    refine (ee_codeP (p := (a, oe)) List.mem_cons_self px T n1 (ee_var (P := fun w _ => w = .ref a) 1 hσ rfl)) _ g2.sub _ fun x S4 H4 g4 px4 => ?_
    cases px4
    refine he_callP FP ⟨(L2H.roomH_of (hr.mono hk)).dp, (L2H.roomH_of (hr.mono hk)).un⟩ hmF hkF hbF (he_of (pv 1 rfl (Or.inl rfl) (by decide) (by decide)) ⟨.ref a, hσ, rfl, rfl⟩) ⟨S4, v, g4.sub, rfl, px.up g4.st, fun S5 H5 g5 => ⟨by show 2 ≤ 16777216; omega, fun p hp => ?_⟩⟩
    refine q _ _ _ (((g2.trans g4).trans g5).trans (Gr.new g5.sub hp)) (Dt.tup_mk (sqt_of upd_same) (al_dts (ds := [.str "InvalidNumber", g]) (.cons (.str _) (.cons (pvv.up ((g4.st.trans g5.st).trans (Same.new (g5.sub.free hp)))) .nil))) (by show 2 ≤ 16777216; omega))
end
end K02

namespace K02
open PySem PySem.Spec PyProof.Rows L2 Z Y
section
variable {P : Program} {w : World} {K : PySem.W.Frag} {mg : Str → Option Value} {base : Heap} {f : Addr} {fd : FuncData}
/-- an ask: a kept lambda that raises InvalidNumber of g -/
structure AskN (P : Program) (w : World) (K : PySem.W.Frag) (mg : Str → Option Value) (base : Heap) (C : Addr) (k : Nat) where
  g : PyData
  f : Addr
  F : LF
  fr : List Str
  dvs : List V
  ws : List (Option V)
  L : List (Addr × Obj)
  sp : List (Option V) → Hp → VK → XK → Prop
  S0 : Hp
  lok : LOk P w K mg base (L2.CX P w) k f F fr dvs sp
  hR : ∀ S2 H2 Q' E', Same S0 S2 → Same S2 H2 → XNum K C S2 H2 g E' → sp ws H2 Q' E'
def AskP {C : Addr} {k : Nat} (it : AskN P w K mg base C k) (v : V) (S : Hp) : Prop := v = .ref it.f ∧ Kept it.F it.f it.fr it.dvs it.ws it.L S ∧ Same it.S0 (delL S it.L)
theorem delL_mono : ∀ {L : List (Addr × Obj)} {S S' : Hp}, Same S S' → Same (delL S L) (delL S' L)
  | [], _, _, s => s
  | p :: L, S, S', s => delL_mono (L := L) (S := L2.del S p.1) (S' := L2.del S' p.1) fun b o e => by
      by_cases hb : b = p.1
      · rw [hb, L2.del_same] at e; cases e
      · rw [L2.del_ne hb] at e ⊢; exact s b o e
theorem shownL_sub {L : List (Addr × Obj)} {S : Hp} (h : ∀ p ∈ L, S p.1 = none) : Same S (shownL S L) := fun b o e => by
  have hb : b ∉ L.map (·.1) := fun z => by
    obtain ⟨p, hp, rfl⟩ := List.mem_map.mp z
    rw [h p hp] at e; cases e
  exact (shownL_ne hb).trans e
instance askMn {C : Addr} {k : Nat} {it : AskN P w K mg base C k} : Mn (AskP it) := ⟨fun s ⟨h1, h2, h3⟩ => ⟨h1, h2.ext s, h3.trans (delL_mono s)⟩⟩
theorem try_E {C : Addr} {k : Nat} {S : Hp} (it : AskN P w K mg base C k) : SpE (spTryN P w K mg base C k) S [AskP it] (Dt K (.tuple [.str "InvalidNumber", it.g])) := fun vs S1 H1 _ s al Q q => by
  obtain ⟨v, rfl, pv⟩ := al.one
  obtain ⟨rfl, KH, s0⟩ := pv
  refine ⟨delL S1 it.L, it.g, it.f, it.F, it.fr, it.dvs, it.ws, it.L, it.sp, rfl, it.lok, KH.ext s, delL_mono s, fun Q' E' hx => it.hR _ _ Q' E' s0 (delL_mono s) hx, fun w S2 H2 g2 pw => q w _ H2 (Y.Gr.under s KH.shw KH.nd g2) (pw.up (shownL_sub fun p hp => ?_))⟩
  rw [g2.old _ _ (s _ _ (KH.shw p hp))]
  exact delL_mem (List.mem_map_of_mem hp)
end
end K02

namespace K02
open PySem PySem.Spec PyProof.Rows L2 Z Y
section
variable {P : Program} {w : World} {K : PySem.W.Frag} {mg : Str → Option Value} {base : Heap} {f : Addr} {fd : FuncData}
/-- _law_tries of asks that raise -/
def spTriesN (P : Program) (w : World) (K : PySem.W.Frag) (mg : Str → Option Value) (base : Heap) (C : Addr) (k : Nat) : Sp := fun vs H Q _ => ∃ (S : Hp) (its : List (AskN P w K mg base C k)) (l : V), Same S H ∧ vs = [l] ∧ LstP (its.map AskP) l S ∧ its.length ≤ 1000 ∧ ∀ u S1 H1, Gr S H S1 H1 → Dt K (.list (its.map fun it => .tuple [.str "InvalidNumber", it.g])) u S1 → Q u H1
theorem sc_law_tries : FnScope ["_law_asks", "_law_ask"] ["_law_asks"] (defScope sL_tries) := ⟨rfl, rfl, rfl, by decide +kernel, rfl, by decide +kernel, by decide +kernel⟩
theorem ok_law_triesN {C : Addr} {k : Nat} (F : FnT K "_law_tries" sL_tries f fd) (D1 : KD P w K mg base "_law_try" (k + 1) (spTryN P w K mg base C k)) : FnOk P w K mg base CX0 (k + 3) f fd ["_law_asks"] (spTriesN P w K mg base C k) := by
  refine fn_hs F sc_law_tries (fun vs H Q E h => ?_) (fun cdv A outer sh H vs Q E hr h => ?_)
  · obtain ⟨S, its, l, _, rfl, _⟩ := h
    rfl
  · obtain ⟨S, its, l, s, rfl, hl, hz, q⟩ := h
    refine hs_ret (ee_lcQ (R := AskP) (i := 1) (f := fun it : AskN P w K mg base C k => .tuple [.str "InvalidNumber", it.g]) rfl sc_law_tries.nd (blkOk_by (N := ["_law_asks", "_law_ask"]) (sc := defScope sL_tries) (by decide +kernel)) (ei_lstP (fun P hP => ?_) (ee_var 0 rfl hl)) (Nat.le_trans hz (by show 1000 ≤ 16777216; omega)) ?_) s q
    · obtain ⟨it, _, rfl⟩ := List.mem_map.mp hP
      exact askMn
    · intro it _ v S' s' pv sh' H0 C' cl fp
      exact ee_call D1 (hr.mono (by omega)) (ea_1 (ee_var 1 rfl pv)) (try_E it)
end
end K02

namespace K02
open PySem PySem.Spec PyProof.Rows L2 Z Y LamX NdefX
section
variable {P : Program} {w : World} {K : PySem.W.Frag} {mg : Str → Option Value} {base : Heap} {f : Addr} {fd : FuncData}
/-- lambda: fx(e1, e2), which raises; W tells the numbers by what the captured cells hold -/
def spLamR (K : PySem.W.Frag) (C : Addr) (W : List (Option V) → Hp → PyData → PyData → Prop) (ws : List (Option V)) (H : Hp) (_ : VK) (E : XK) : Prop := ∃ S n d g, W ws S n d ∧ Same S H ∧ BadRoot n d g ∧ XNum K C S H g E
theorem lok_root {C : Addr} {fx : Str} {fl : Addr} {F : LF} {e1 e2 : Expr} {p pos : Pos} {N ps fr : List Str} {dvs : List V} {W : List (Option V) → Hp → PyData → PyData → Prop} (hF : F.body = .Call (.Name fx p) [e1, e2] [] pos) (Sc : NdefX.NScope N ps fr F.scope) (hB : LBind F ps) (hl : dvs.length = ps.length)
    (hg : F.scope.names.lookup fx = some .globalImplicit) (h1 : (fx == ("__debug__" : Str)) = false) (hst : ∀ env, starEach [e1, e2] env = (false, eval e1 env) :: starEach [e2] env) (hpl : ∀ env, (backTo pos (starEach [e2] env)).any (·.1) = false)
    (ha : ∀ (A : Around) (outer : List Env) (s : Shared) (H : Hp) (ws : List (Option V)) (E : XK) (S : Hp) (n d : PyData), ws.length = fr.length → W ws S n d → EA (NdefX.ncx (L2.CX P w) P w K mg base N F.nf fl A outer s H E) (NdefX.startF N dvs ws) S [e1, e2] (Ds K [n, d]))
    (D1 : ∃ f fd ps, FnOk P w K mg base (L2.CX P w) 4 f fd ps (spRoot K C) ∧ mg fx = some (.ref f) ∧ PySem.W.keepIn K (.ref f) = true ∧ Binds K fd ps []) : LOk P w K mg base (L2.CX P w) 5 fl F fr dvs (spLamR K C W) := by
  refine lok_of Sc hB hl fun A outer s H ws Q E hr hlen h => ?_
  obtain ⟨S, n, d, g, hw, sS, hbad, hx⟩ := h
  rw [hF]
  refine he_callX (takes_of rfl rfl rfl rfl) D1 hr (ha A outer s H ws E S n d hlen hw) sS (fun vs S1 H1 g1 al Q' => ?_) hg h1 (hst _) (hpl _)
  exact ⟨S1, n, d, g, g1.sub, al_dts (ds := [n, d]) al, hbad, fun d' v S3 H3 a1 a2 a3 a4 => hx d' v S3 H3 (g1.trans a1) (g1.hh.free a2) a3 a4⟩
/-- the parts of a lambda's expression -/
def lamF (e : Expr) (qual : Str) (cells : List (Str × Addr)) (c : Addr) (dT : Option Addr) : LF := match e with
  | .Lambda params body scope _ => ⟨qual, params, body, scope, cloFrom cells scope.names [], c, dT⟩
  | e => ⟨qual, default, e, default, [], c, dT⟩
/-- the lambda at f, in a state -/
def AskS (F : LF) (f : Addr) (dvs : List V) (S : Hp) : Prop := S f = some (LamO f F) ∧ S F.c = some (CodeO F.c F.qual) ∧ LDef F dvs S
theorem AskS.up {F : LF} {f : Addr} {dvs : List V} {S S' : Hp} (h : AskS F f dvs S) (s : Same S S') : AskS F f dvs S' := ⟨s _ _ h.1, s _ _ h.2.1, ⟨h.2.2.1, fun T e => s _ _ (h.2.2.2 T e)⟩⟩
theorem extN_trans {H1 H2 H3 : Hp} (a : ExtN H1 H2) (b : ExtN H2 H3) : ExtN H1 H3 := fun x o e n => b x o (a x o e n) n
theorem extN_new {H : Hp} {p : Addr} {o : HO} (h : H p = none) : ExtN H (upd H p o) := fun b u e _ => (upd_ne (ne_of_none e h)).trans e
theorem codeO_ne' {c : Addr} {q : Str} (ps : Array Value) : CodeO c q ≠ .tbl ps := fun z => by unfold CodeO at z; cases z
theorem AskS.ext {F : LF} {f : Addr} {dvs : List V} {H H' : Hp} (h : AskS F f dvs H) (s : ExtN H H') : AskS F f dvs H' := ⟨s _ _ h.1 lamO_ne, s _ _ h.2.1 codeO_ne', ⟨h.2.2.1, fun T e => s _ _ (h.2.2.2 T e) (fun _ z => nomatch z)⟩⟩
theorem AskS.noTab {F : LF} {f : Addr} {dvs : List V} {H : Hp} (h : AskS F f dvs H) : AskS F f dvs (Y.noTab H) := ⟨noTab_at h.1 lamO_ne, noTab_at h.2.1 codeO_ne', ⟨h.2.2.1, fun T e => noTab_at (h.2.2.2 T e) (fun _ z => nomatch z)⟩⟩
end
end K02

namespace K02
open PySem PySem.Spec PyProof.Rows L2 Z Y
def kindN : PyData → Nat
  | .none => 0
  | .bool _ => 1
  | .int _ => 2
  | .str _ => 3
  | .list _ => 4
  | .tuple _ => 5
  | .dict _ => 6
def marksL (d : PyData) : List Bool := [decide (kindN d = 0), isD d "bool", isD d "int", isD d "str"] ++ [isD d "list", isD d "tuple", true]
theorem marks_at (d : PyData) : (marksL d)[kindN d]? = some true := by cases d <;> rfl
theorem marks_no (d : PyData) : ∀ m, m < kindN d → (marksL d)[m]? = some false := by
  cases d with
  | none => exact fun m h => absurd h (Nat.not_lt_zero _)
  | bool b => exact fun
    | 0, _ => rfl
    | m + 1, h => absurd (show m + 1 < 1 from h) (by omega)
  | int b => exact fun
    | 0, _ => rfl
    | 1, _ => rfl
    | m + 2, h => absurd (show m + 2 < 2 from h) (by omega)
  | str b => exact fun
    | 0, _ => rfl
    | 1, _ => rfl
    | 2, _ => rfl
    | m + 3, h => absurd (show m + 3 < 3 from h) (by omega)
  | list b => exact fun
    | 0, _ => rfl
    | 1, _ => rfl
    | 2, _ => rfl
    | 3, _ => rfl
    | m + 4, h => absurd (show m + 4 < 4 from h) (by omega)
  | tuple b => exact fun
    | 0, _ => rfl
    | 1, _ => rfl
    | 2, _ => rfl
    | 3, _ => rfl
    | 4, _ => rfl
    | m + 5, h => absurd (show m + 5 < 5 from h) (by omega)
  | dict b => exact fun
    | 0, _ => rfl
    | 1, _ => rfl
    | 2, _ => rfl
    | 3, _ => rfl
    | 4, _ => rfl
    | 5, _ => rfl
    | m + 6, h => absurd (show m + 6 < 6 from h) (by omega)
theorem dt_non {K : PySem.W.Frag} {d : PyData} {v : V} {S : Hp} (h : Dt K d v S) : decide (v = .non) = decide (kindN d = 0) := by
  cases h <;> rfl
/-- data without dicts, at most n deep -/
def Bd : Nat → PyData → Prop
  | _, .none => True
  | _, .bool _ => True
  | _, .int _ => True
  | _, .str _ => True
  | 0, .list _ => False
  | 0, .tuple _ => False
  | n + 1, .list xs => ∀ x ∈ xs, Bd n x
  | n + 1, .tuple xs => ∀ x ∈ xs, Bd n x
  | _, .dict _ => False
theorem zip_self (xs : List PyData) : xs.zip xs = xs.map fun x => (x, x) := by
  induction xs with
  | nil => rfl
  | cons a l ih => simp [ih]
section
variable {P : Program} {w : World} {K : PySem.W.Frag} {mg : Str → Option Value} {base : Heap} {f : Addr} {fd : FuncData}
def spOpen0 (K : PySem.W.Frag) : Sp := fun vs H Q _ => ∃ (a : Addr) (ns : List Int), vs = [.ref a] ∧ SqL K H a (ns.map V.int) ∧ ns.length ≤ 63 ∧ ∀ (b c : Addr) (ms : List Int) (k : Int) (H' : Hp), H b = none → H c = none → b ≠ c → Same H H' → ms.length ≤ 63 → 0 ≤ k → k < 100000 →
  H' c = some (.lst (ms.map V.int)) → H' b = some (.lst [.ref c, .int 0, .int 0, .int k, .int 0]) → Q (.ref b) H'
def spOpen (K : PySem.W.Frag) : Sp := fun vs H Q _ => ∃ (a : Addr) (ns : List Int), vs = [.ref a] ∧ SqL K H a (ns.map V.int) ∧ ns.length ≤ 63 ∧ ∀ v H', Same H H' → BX v H' → Q v H'
theorem scL_open : FnScope ["_law_script"] ["_law_script"] (defScope sL_open) := ⟨rfl, rfl, rfl, by decide +kernel, rfl, by decide +kernel, by decide +kernel⟩
theorem cut_ints (ns : List Int) (k : Nat) : cutV (ns.map V.int) none (some (k : Int)) = (ns.take k).map V.int := by
  unfold cutV
  rw [HT.sIx_none, HT.sIx_nat, List.drop_zero, List.map_take, Nat.sub_zero]
  by_cases h : k ≤ (ns.map V.int).length
  · rw [Nat.min_eq_left h]
  · rw [Nat.min_eq_right (by omega), List.take_of_length_le (Nat.le_refl _), List.take_of_length_le (by omega)]
theorem ok_L_open0 (F : FnT K "_law_open" sL_open f fd) (g1 : mg "list" = none) (g2 : mg "len" = none) : FnOk P w K mg base CX0 1 f fd ["_law_script"] (spOpen0 K) := by
  refine fn_hs F scL_open (fun vs H Q E h => ?_) (fun cdv A outer sh H vs Q E hr h => ?_)
  · obtain ⟨a, ns, rfl, _⟩ := h
    rfl
  · obtain ⟨a, ns, rfl, hS, hl, q⟩ := h
    refine hs_cons (ps_ret (pe_lst (pa_cons (pe_callTy call_list_of (by rfl) g1 boot_list (pa_cons (pe_slice sl_list (pv 0) po_none (po_some pe_int)) pa_nil)) (pa_cons pe_int (pa_cons pe_int (pa_cons (pe_op op_add pe_int (pe_op op_mul pe_int (pe_callB call_len_seq (by rfl) g2 PySem.boot_len (pa_cons (pv 0) pa_nil)))) (pa_cons pe_int pa_nil))))))) ?_
    refine ⟨_, rfl, _, rfl, a, _, rfl, hS, fun p hp => ⟨p, _, rfl, .inl (sql_of upd_same), fun c hc => ?_⟩⟩
    have s1 : Same H (upd H p (.lst (cutV (ns.map V.int) none (some 63)))) := Same.new hp
    have hcp : p ≠ c := ne_of_none upd_same hc
    have hc0 : H c = none := s1.free hc
    have s2 := s1.trans (Same.new (o := .lst (cutV (ns.map V.int) none (some 63))) hc)
    refine ⟨_, rfl, a, _, rfl, .inl (sql_up s2 hS), 7, ((ns.map V.int).length : Int), rfl, rfl, .inl (by decide), 12016, 7 * ((ns.map V.int).length : Int), rfl, rfl, (by show 5 ≤ 16777216; decide), fun b hb => ?_⟩
    have hbc : b ≠ c := (ne_of_none upd_same hb).symm
    rw [List.length_map]
    refine q b c (ns.take 63) _ _ (s2.free hb) hc0 hbc (s2.trans (Same.new hb)) (by rw [List.length_take]; omega) (by omega) (by omega) ?_ upd_same
    rw [upd_ne hbc.symm, upd_same]
    exact congrArg (fun l => some (HO.lst l)) (cut_ints ns 63)
theorem ok_L_open (F : FnT K "_law_open" sL_open f fd) (g1 : mg "list" = none) (g2 : mg "len" = none) : FnOk P w K mg base CX0 1 f fd ["_law_script"] (spOpen K) := by
  refine FnOk.close (ok_L_open0 F g1 g2) (fun vs H Q E h => by obtain ⟨a, ns, rfl, _⟩ := h; rfl) fun vs H Q E h => ?_
  obtain ⟨a, ns, rfl, hS, hl, q⟩ := h
  refine ⟨a, ns, rfl, hS, hl, fun b c ms k H' nb nc nbc sm hm k0 k1 hc hb => ⟨b, _, boxPhi b c, nb, hb, sm, fun h' o => box_of ⟨0, 0, k, 0, rfl, by omega, by omega, k0, by omega, by omega⟩ o, box_stab, ?_⟩⟩
  refine q _ _ (fun x o e => by rw [upd_ne (ne_of_none e nb)]; exact sm _ _ e) ⟨b, c, ms, rfl, nbc, upd_same, by rw [upd_ne nbc.symm]; exact hc, hm⟩
def spTake0 : Sp := fun vs H Q _ => ∃ (b c : Addr) (ns : List Int) (sz : Int) (xs : List V), vs = [.ref b, .int sz] ∧ b ≠ c ∧ H b = some (.lst xs) ∧ BoxV c xs ∧ H c = some (.lst (ns.map V.int)) ∧ ns.length ≤ 63 ∧ 0 < sz ∧ sz < 1073741824 ∧
  ∀ (n : Int) (H' : Hp) (ys : List V), 0 ≤ n → n < sz → (∀ a o, H a = some o → a ≠ b → H' a = some o) → H' b = some (.lst ys) → BoxV c ys → Q (.int n) H'
def Ftake : List PyData → (PyData → Prop) → Prop := fun ds G => ∃ sz, ds = [.int sz] ∧ 0 < sz ∧ sz < 1073741824 ∧ G = fun d => ∃ n, d = .int n ∧ 0 ≤ n ∧ n < sz
theorem scL_take : FnScope ["_law_box", "_law_size", "_law_cell", "_law_digit", "_law_seed"] ["_law_box", "_law_size"] (defScope sL_take) := ⟨rfl, rfl, rfl, by decide +kernel, rfl, by decide +kernel, by decide +kernel⟩
theorem bound_mod {x y : Int} (h : 0 < y) : 0 ≤ x % y ∧ x % y < y := ⟨Int.emod_nonneg x (by omega), Int.emod_lt_of_pos x h⟩
/-- the box at b in H', all else as in H -/
structure TkI (H : Hp) (b c : Addr) (H' : Hp) (i g m k : Int) : Prop where
  hb : H' b = some (.lst [.ref c, .int i, .int g, .int m, .int k])
  ot : ∀ a o, H a = some o → a ≠ b → H' a = some o
  i0 : 0 ≤ i
  g0 : 0 ≤ g
  m0 : 0 ≤ m
  m1 : m < 2147483648
  k0 : 0 ≤ k
theorem TkI.up {H : Hp} {b c : Addr} {H1 H2 : Hp} {i g m k : Int} (t : TkI H b c H1 i g m k) (s : Same H1 H2) : TkI H b c H2 i g m k := ⟨s _ _ t.hb, fun a o h n => s _ _ (t.ot a o h n), t.i0, t.g0, t.m0, t.m1, t.k0⟩
theorem TkI.put {H : Hp} {b c : Addr} {H1 : Hp} {i g m k i' g' m' k' : Int} (t : TkI H b c H1 i g m k) (xs : List V) (e : xs = [.ref c, .int i', .int g', .int m', .int k']) (a0 : 0 ≤ i') (a1 : 0 ≤ g') (a2 : 0 ≤ m') (a3 : m' < 2147483648) (a4 : 0 ≤ k') : TkI H b c (upd H1 b (.lst xs)) i' g' m' k' := by
  subst e
  exact ⟨upd_same, fun a o h n => by rw [upd_ne n]; exact t.ot a o h n, a0, a1, a2, a3, a4⟩
theorem small64' {z : Int} (h0 : 0 ≤ z) (h : z < 2147483648) : -(2 ^ 64) < z ∧ z < 2 ^ 64 := by
  have e : (2 : Int) ^ 64 = 18446744073709551616 := by decide
  omega
theorem ok_L_take0 (F : FnT K "_law_take" sL_take f fd) (g1 : mg "len" = none) (g2 : mg "int" = none) : FnOk P w K mg base CX0 1 f fd ["_law_box", "_law_size"] spTake0 := by
  refine fn_hs F scL_take (fun vs H Q E h => ?_) (fun cdv A outer sh H vs Q E hr h => ?_)
  · obtain ⟨b, c, ns, sz, xs, rfl, _⟩ := h
    rfl
  · obtain ⟨b, c, ns, sz, xs, rfl, hbc, hb, hx, hc, hl, z0, z1, q⟩ := h
    obtain ⟨i, g, m, k, rfl, i0, g0, m0, m1, k0⟩ := hx.ex
    have T0 : TkI H b c H i g m k := ⟨hb, fun a o h _ => h, i0, g0, m0, m1, k0⟩
    have eb : ∀ {σ : L2.St} {S : Hp} {pos : Pos}, σ[0]? = some (some (V.ref b)) → EE (cxOf CX0 P w K mg base ["_law_box", "_law_size", "_law_cell", "_law_digit", "_law_seed"] "_law_take" (defScope sL_take) f cdv A outer sh H E).nox σ S (.Name "_law_box" pos) (fun w _ => w = .ref b) := fun h => ee_var 0 h rfl
    have hnz : ns.length ≤ sizeLine := Nat.le_trans hl (by decide)
    have ec : ∀ {S : Hp} {i g m k : Int} {σ : L2.St} {p1 p2 p3 : Pos} {n : Nat}, TkI H b c S i g m k → σ[0]? = some (some (V.ref b)) → EE (cxOf CX0 P w K mg base ["_law_box", "_law_size", "_law_cell", "_law_digit", "_law_seed"] "_law_take" (defScope sL_take) f cdv A outer sh H E).nox σ S (.Subscript (.Name "_law_box" p1) (.Constant (.int 0) n p2) p3) (Dt K (lI ns)) := fun {S i g m k} _ _ _ _ _ T h =>
      ee_ixB T.hb (eb h) ee_int (v := .ref c) rfl fun S' s => Dt.lst_mk (s _ _ (T.ot _ _ hc hbc.symm)) (int_dts ns S') (by rw [List.length_map]; exact hnz)
    refine hs_ifR (S := H) (fun σ' H' => ∃ (v : Option V) (i g m k : Int), σ' = [some (.ref b), some (.int sz), v, none, none] ∧ TkI H b c H' i g m k)
      (et_w (ew_and (et_eqI (ee_ixB hb (eb rfl) ee_int (v := .int g) rfl fun _ _ => .int g) ee_int) fun _ => ew_and1 (et_lt (ee_ixB hb (eb rfl) ee_int (v := .int i) rfl fun _ _ => .int i) (ee_len g1 (n := ns.length) (by simp [lI, lenD]) (ec T0 rfl))))) (Same.refl H) (fun hk S1 H1 g1' => ?_) (fun hk S1 H1 g1' => hs_nil ⟨none, i, g, m, k, rfl, T0.up g1'.hh⟩) ?_
    · -- a cell is taken
      have hi : i < (ns.length : Int) := by
        have h2 := (Bool.and_eq_true_iff.mp hk).2
        exact of_decide_eq_true h2
      have T1 := T0.up g1'.hh
      have hget : atI (ns.map PyData.int) i = some (.int (ns[i.toNat]'(by omega))) := by
        unfold atI ixN
        rw [if_pos i0, List.length_map, if_pos hi]
        show (ns.map PyData.int)[i.toNat]? = _
        rw [List.getElem?_map, List.getElem?_eq_getElem (by omega)]
        rfl
      refine hs_set (S := H1) (i := 2) (ee_ixL hget (ec T1 rfl) (ee_ixB T1.hb (eb rfl) ee_int (v := .int i) rfl fun _ _ => .int i)) (Same.refl _) scL_take.nd fun v S2 H2 g2' pv => ?_
      cases pv
      have T2 := T1.up g2'.hh
      refine hs_setL (ee_add (ee_ixB T2.hb (eb rfl) ee_int (v := .int i) rfl fun _ _ => .int i) ee_int) (eb rfl) ee_int T2.hb (j := 1) rfl fun v H3 s3 pv => ?_
      cases pv
      have T3 := (T2.up s3).put ([.ref c, .int i, .int g, .int m, .int k].set 1 (.int (i + 1))) rfl (by omega) g0 m0 m1 k0
      refine hs_if (S := _) (et_ge (ee_var 2 rfl (Dt.int (K := K) _)) (ee_pow (by exact ⟨by decide, by decide, by decide⟩) ee_int ee_int)) (Same.refl _) (fun hk4 S4 H4 g4 => ?_) (fun hk4 S4 H4 g4 => ?_)
      · have T4 := T3.up g4.hh
        have hge := of_decide_eq_true hk4
        refine hs_setL (ee_var 2 rfl (Dt.int (K := K) _)) (eb rfl) ee_int T4.hb (j := 2) rfl fun v H5 s5 pv => hs_nil (hs_nil ?_)
        cases pv
        have e18 : (0 : Int) ≤ 10 ^ (18 : Int).toNat := by decide
        exact ⟨_, i + 1, _, m, k, rfl, (T4.up s5).put _ rfl (by omega) (by omega) m0 m1 k0⟩
      · have T4 := T3.up g4.hh
        have b1 := @bound_mod (ns[i.toNat]'(by omega)) 2147483497 (by decide)
        refine hs_setL (ee_mod (by decide) (ee_intOf g2 (ee_add (ee_add (ee_mulS (.inr (by decide)) (ee_ixB T4.hb (eb rfl) ee_int (v := .int m) rfl fun _ _ => .int m) ee_int) (ee_mulS (.inr (by decide)) (ee_mod (by decide) (ee_intOf g2 (ee_var 2 rfl (Dt.int (K := K) _))) ee_int) ee_int)) ee_int)) ee_int) (eb rfl) ee_int T4.hb (j := 3) rfl fun v H5 s5 pv => hs_nil (hs_nil ?_)
        cases pv
        have b2 := @bound_mod (m * 39119 + ns[i.toNat]'(by omega) % 2147483497 * 6143 + 53) 2147483563 (by decide)
        exact ⟨_, i + 1, g, _, k, rfl, (T4.up s5).put _ rfl (by omega) g0 b2.1 (by omega) k0⟩
    · rintro σ' H2 ⟨v, i, g, m, k, rfl, T2⟩
      have g0 := T2.g0
      have m0 := T2.m0
      refine hs_if (S := H2) (et_gt (ee_ixB T2.hb (eb rfl) ee_int (v := .int g) rfl fun _ _ => .int g) ee_int) (Same.refl _) (fun hk S3 H3 g3 => ?_) (fun hk S3 H3 g3 => hs_nil ?_)
      · have T3 := T2.up g3.hh
        refine hs_set (S := H3) (i := 3) (ee_mod z0 (ee_intOf g2 (ee_ixB T3.hb (eb rfl) ee_int (v := .int g) rfl fun _ _ => .int g)) (ee_var 1 rfl (Dt.int (K := K) sz))) (Same.refl _) scL_take.nd fun v S4 H4 g4 pv => ?_
        cases pv
        have T4 := T3.up g4.hh
        have b3 := @bound_mod g sz z0
        refine hs_setL (ee_fdiv (wide_div (b := 31) z0 (by omega) (by decide) (by decide)) (ee_ixB T4.hb (eb rfl) ee_int (v := .int g) rfl fun _ _ => .int g) (ee_var 1 rfl (Dt.int (K := K) sz))) (eb rfl) ee_int T4.hb (j := 2) rfl fun v H5 s5 pv => ?_
        cases pv
        have T5 := (T4.up s5).put ([.ref c, .int i, .int g, .int m, .int k].set 2 (.int (g / sz))) rfl T2.i0 (Int.ediv_nonneg g0 (by omega)) T2.m0 T2.m1 T2.k0
        refine hs_ret (S := _) (ee_var 3 rfl (Dt.int (K := K) _)) (Same.refl _) fun v S6 H6 g6 pv => ?_
        cases pv
        have T6 := T5.up g6.hh
        exact q _ H6 _ b3.1 b3.2 T6.ot T6.hb ⟨i, g / sz, m, k, rfl, T6.i0, T6.g0, T6.m0, T6.m1, T6.k0⟩
      · have T3 := T2.up g3.hh
        refine hs_setL (ee_add (ee_ixB T3.hb (eb rfl) ee_int (v := .int k) rfl fun _ _ => .int k) ee_int) (eb rfl) ee_int T3.hb (j := 4) rfl fun v H4 s4 pv => ?_
        cases pv
        have k0 := T3.k0
        have T4 := (T3.up s4).put ([.ref c, .int i, .int g, .int m, .int k].set 4 (.int (k + 1))) rfl T3.i0 T3.g0 T3.m0 T3.m1 (by omega)
        refine hs_set (S := _) (i := 4) (ee_ixB (P := Dt K (.int m)) T4.hb (eb rfl) ee_int (v := .int m) rfl fun _ _ => .int m) (Same.refl _) scL_take.nd fun v S5 H5 g5 pv => ?_
        cases pv
        have T5 := T4.up g5.hh
        refine hs_setL (ee_mod (by decide) (ee_intOf g2 (ee_add (ee_add (ee_add (ee_mulS (.inl (small64' m0 T2.m1)) (ee_var 4 rfl (Dt.int (K := K) m)) (ee_var 4 rfl (Dt.int (K := K) m))) (ee_mulS (.inr (by decide)) (ee_var 4 rfl (Dt.int (K := K) m)) ee_int)) (ee_mulS (.inr (by decide)) (ee_ixB T5.hb (eb rfl) ee_int (v := .int (k + 1)) rfl fun _ _ => .int (k + 1)) ee_int)) ee_int)) ee_int) (eb rfl) ee_int T5.hb (j := 3) rfl fun v H6 s6 pv => ?_
        cases pv
        have b2 := @bound_mod (m * m + m * 28411 + (k + 1) * 1500007 + 90001) 2147483587 (by decide)
        have T6 := (T5.up s6).put ([.ref c, .int i, .int g, .int m, .int (k + 1)].set 3 (.int ((m * m + m * 28411 + (k + 1) * 1500007 + 90001) % 2147483587))) rfl T5.i0 T5.g0 b2.1 (by omega) (by omega)
        refine hs_ret (S := _) (ee_mod z0 (ee_intOf g2 (ee_add (ee_fdiv (wide_div (b := 31) (by decide) (by decide) (by decide) (by decide)) (ee_ixB T6.hb (eb rfl) ee_int (P := Dt K (.int ((m * m + m * 28411 + (k + 1) * 1500007 + 90001) % 2147483587))) (v := .int ((m * m + m * 28411 + (k + 1) * 1500007 + 90001) % 2147483587)) rfl fun _ _ => .int _) ee_int) (ee_mulS (.inr (by decide)) (ee_mod (by decide) (ee_intOf g2 (ee_ixB T6.hb (eb rfl) ee_int (P := Dt K (.int ((m * m + m * 28411 + (k + 1) * 1500007 + 90001) % 2147483587))) (v := .int ((m * m + m * 28411 + (k + 1) * 1500007 + 90001) % 2147483587)) rfl fun _ _ => .int _)) ee_int) ee_int))) (ee_var 1 rfl (Dt.int (K := K) sz))) (Same.refl _) fun v S7 H7 g7 pv => ?_
        cases pv
        have T7 := T6.up g7.hh
        exact q _ H7 _ (bound_mod z0).1 (bound_mod z0).2 T7.ot T7.hb ⟨_, _, _, _, rfl, T7.i0, T7.g0, T7.m0, T7.m1, T7.k0⟩
theorem ok_L_take (F : FnT K "_law_take" sL_take f fd) (g1 : mg "len" = none) (g2 : mg "int" = none) : FnOk P w K mg base CX0 1 f fd ["_law_box", "_law_size"] (spB K Ftake) := by
  refine FnOk.box (ok_L_take0 F g1 g2) (fun vs H Q E h => ?_) fun vs H Q E h => ?_
  · obtain ⟨S, v, ws, ds, G, rfl, _, _, hd, ⟨sz, rfl, _⟩, _⟩ := h
    have := hd.1
    simp at this
    simp [this]
  · obtain ⟨S, v, ws, ds, G, rfl, s, ⟨b, c, ns, rfl, hbc, hb, hc, hl⟩, hd, ⟨sz, rfl, z0, z1, rfl⟩, q⟩ := h
    obtain ⟨u, rfl, pu⟩ := hd.one
    cases pu
    refine ⟨b, boxPhi b c, s _ _ hb, fun h p => ?_⟩
    obtain ⟨xs, hx, ox⟩ := of_box (P := P) (w := w) (H := H) p
    refine ⟨xs, ox, b, c, ns, sz, xs, rfl, hbc, upd_same, hx, by rw [upd_ne hbc.symm]; exact s _ _ hc, hl, z0, z1, fun n H' ys n0 n1 ot hy hys => ⟨ys, hy, fun h' o => box_of hys o, fun a o e ne => ot a o (by rw [upd_ne ne]; exact e) ne, ?_⟩⟩
    have sm : Same H (upd H' b (.ext (boxPhi b c))) := fun a o e => by
      by_cases ha : a = b
      · subst ha; rw [upd_same]; rw [s _ _ hb] at e; exact e
      · rw [upd_ne ha]; exact ot a o (by rw [upd_ne ha]; exact e) ha
    exact q (.int n) ⟨n, rfl, n0, n1⟩ _ S _ ⟨Same.refl S, s.trans sm, sm, fun _ _ _ => rfl⟩ (Dt.int n)
def Fone : List PyData → (PyData → Prop) → Prop := fun ds G => ∃ xs, ds = [.list xs] ∧ 0 < xs.length ∧ xs.length < 1073741824 ∧ G = fun d => d ∈ xs
theorem scL_one : FnScope ["_law_box", "_law_some"] ["_law_box", "_law_some"] (defScope sL_one) := ⟨rfl, rfl, rfl, by decide +kernel, rfl, by decide +kernel, by decide +kernel⟩
theorem ok_L_one (F : FnT K "_law_one" sL_one f fd) (D1 : KD P w K mg base "_law_take" 1 (spB K Ftake)) (g1 : mg "len" = none) : FnOk P w K mg base CX0 2 f fd ["_law_box", "_law_some"] (spB K Fone) := by
  refine fn_hs F scL_one (fun vs H Q E h => ?_) (fun cdv A outer sh H vs Q E hr h => ?_)
  · obtain ⟨S, v, ws, ds, G, rfl, _, _, hd, ⟨xs, rfl, _⟩, _⟩ := h
    have := hd.1
    simp at this
    simp [this]
  · obtain ⟨S, v, ws, ds, G, rfl, s, hb, hd, ⟨xs, rfl, z0, z1, rfl⟩, q⟩ := h
    obtain ⟨u, rfl, pu⟩ := hd.one
    refine hs_ret (ee_ixE (ee_var 1 rfl pu) ((ee_callBx D1 hr ⟨xs.length, rfl, by omega, by omega, rfl⟩ (ea_2 (ee_var 0 rfl hb) (ee_len g1 rfl (ee_var 1 rfl pu)))).exi fun d ⟨n, e, n0, n1⟩ => ⟨n, e, n0, n1⟩)) s ?_
    rintro v S' H' g ⟨d, hd, pd⟩
    exact q d hd v S' H' g pd
def Fkind : List PyData → PyData → Prop := fun ds r => ∃ d, ds = [d] ∧ r = .int (kindN d : Nat)
theorem scL_kind : FnScope ["_law_thing", "_law_marks"] ["_law_thing"] (defScope sL_kind) := ⟨rfl, rfl, rfl, by decide +kernel, rfl, by decide +kernel, by decide +kernel⟩
theorem ok_L_kind (F : FnT K "_law_kind" sL_kind f fd) (g1 : mg "isinstance" = none) (g2 : mg "bool" = none) (g3 : mg "int" = none) (g4 : mg "str" = none) (g5 : mg "list" = none) (g6 : mg "tuple" = none) : FnOk P w K mg base CX0 1 f fd ["_law_thing"] (spD K Fkind) := by
  refine fn_hs F scL_kind (fun vs H Q E h => ?_) (fun cdv A outer sh H vs Q E hr h => ?_)
  · obtain ⟨S, ds, d, _, hd, ⟨_, rfl, _⟩, _⟩ := h
    exact hd.1
  · obtain ⟨S, ds, r, s, hd, ⟨d, rfl, rfl⟩, q⟩ := h
    obtain ⟨v, rfl, p⟩ := hd.one
    refine hs_set (i := 1) (ee_lst (ds := [.bool (decide (kindN d = 0)), .bool (isD d "bool"), .bool (isD d "int"), .bool (isD d "str")]) (ea_cons (by rw [← dt_non p]; exact ee_isN (ee_var 0 rfl rfl)) (ea_cons (ee_isi (isD_ok d (T := "bool") (by simp)) g1 g2 boot_bool (ee_var 0 rfl p)) (ea_cons (ee_isi (isD_ok d (T := "int") (by simp)) g1 g3 boot_int (ee_var 0 rfl p)) (ea_cons (ee_isi (isD_ok d (T := "str") (by simp)) g1 g4 boot_str (ee_var 0 rfl p)) ea_nil))))) s scL_kind.nd fun m1 S1 H1 gr1 pm1 => ?_
    have p1 := p.up gr1.st
    refine hs_set (i := 1) (ee_catL (by show _ ≤ 16777216; exact Nat.le_of_ble_eq_true rfl) (ee_var 1 rfl pm1) (ee_lst (ds := [.bool (isD d "list"), .bool (isD d "tuple"), .bool true]) (ea_cons (ee_isi (isD_ok d (T := "list") (by simp)) g1 g5 boot_list (ee_var 0 rfl p1)) (ea_cons (ee_isi (isD_ok d (T := "tuple") (by simp)) g1 g6 boot_tuple (ee_var 0 rfl p1)) (ea_cons ee_bl ea_nil))))) gr1.sub scL_kind.nd fun m2 S2 H2 gr2 pm2 => ?_
    exact hs_ret (ee_indexT (bs := marksL d) (marks_at d) (marks_no d) (ee_var 1 rfl pm2) ee_bl) gr2.sub fun v S3 H3 gr3 pv => q v S3 H3 (gr1.trans (gr2.trans gr3)) pv
def Fsame (n : Nat) : List PyData → PyData → Prop := fun ds r => ∃ d, ds = [d, d] ∧ Bd n d ∧ r = .bool true
theorem scL_same : FnScope ["_law_found", "_law_due", "_law_a", "_law_b"] ["_law_found", "_law_due"] (defScope sL_same) := ⟨rfl, rfl, rfl, by decide +kernel, rfl, by decide +kernel, by decide +kernel⟩
theorem okL_same_all (xs : List PyData) : ((xs.zip xs).map fun _ => true).all (fun b => b) = true := by
  rw [List.all_eq_true]
  intro b hb
  obtain ⟨_, _, rfl⟩ := List.mem_map.mp hb
  rfl
theorem ok_L_same (F : FnT K "_law_same" sL_same f fd) (hm : mg "_law_same" = some (.ref f)) (hb : Binds K fd ["_law_found", "_law_due"] []) (D1 : KD P w K mg base "_law_kind" 1 (spD K Fkind)) (g1 : mg "len" = none) (g2 : mg "all" = none) (g3 : mg "zip" = none) : ∀ n : Nat, FnOk P w K mg base CX0 (n + 2) f fd ["_law_found", "_law_due"] (spD K (Fsame n)) := by
  have step : ∀ n : Nat, (∀ m, n = m + 1 → FnOk P w K mg base CX0 (m + 2) f fd ["_law_found", "_law_due"] (spD K (Fsame m))) → FnOk P w K mg base CX0 (n + 2) f fd ["_law_found", "_law_due"] (spD K (Fsame n)) := fun n ih => by
    refine fn_hs F scL_same (fun vs H Q E h => ?_) (fun cdv A outer sh H vs Q E hr h => ?_)
    · obtain ⟨S, ds, d, _, hd, ⟨_, rfl, _⟩, _⟩ := h
      exact hd.1
    · obtain ⟨S, ds, r, s, hd, ⟨d, rfl, hbd, rfl⟩, q⟩ := h
      obtain ⟨v1, v2, rfl, p1, p2⟩ := hd.two
      refine hs_ifN ((et_neI (ee_callD D1 (hr.mono (by omega)) ⟨d, rfl, rfl⟩ (ea_1 (ee_var 0 rfl p1))) (ee_callD D1 (hr.mono (by omega)) ⟨d, rfl, rfl⟩ (ea_1 (ee_var 1 rfl p2)))).is (by simp)) s fun S1 H1 g4 => ?_
      have p1 := p1.up g4.st
      have p2 := p2.up g4.st
      refine hs_if (et_inT (ns := [4, 5]) (ee_callD D1 (hr.mono (by omega)) ⟨d, rfl, rfl⟩ (ea_1 (ee_var 1 rfl p2))) (ee_tup (ds := [.int 4, .int 5]) (ea_2 ee_int ee_int))) g4.sub (fun hk S2 H2 g5 => ?_) (fun hk S2 H2 g5 => hs_nil ?_)
      · have p1 := p1.up g5.st
        have p2 := p2.up g5.st
        obtain ⟨m, rfl⟩ : ∃ m, n = m + 1 := by
          cases n with
          | zero => exfalso; cases d <;> first | (simp [kindN] at hk; done) | exact hbd
          | succ m => exact ⟨m, rfl⟩
        have D2 : KD P w K mg base "_law_same" (m + 2) (spD K (Fsame m)) := ⟨f, fd, _, ih m rfl, hm, F.kp, hb⟩
        cases d with
        | list xs =>
          have hz : xs.length ≤ sizeLine := by obtain ⟨l, ys, _, _, hx, z⟩ := p1.lst_inv; rw [← hx.1]; exact z
          refine hs_ret ((ee_and (ee_eqI (ee_len g1 rfl (ee_var 0 rfl p1)) (ee_len g1 rfl (ee_var 1 rfl p2))) fun _ => ee_one (ee_all (bs := (xs.zip xs).map fun _ => true) rfl g2
            (ee_lc2 (i := 2) (j := 3) (enc := .bool) (f := fun _ => true) rfl scL_same.nd (blkOk_by (N := ["_law_found", "_law_due", "_law_a", "_law_b"]) (sc := defScope sL_same) (by decide +kernel)) (by rw [← zipD_eq]; exact ei_zipL g3 (ee_var 0 rfl p1) (ee_var 1 rfl p2)) (by rw [zip_self, List.length_map]; exact hz) ?_))).isd ?_) g5.sub fun v S3 H3 g6 pv => q v S3 H3 (g4.trans (g5.trans g6)) pv
          · intro p hp v u S2 s2 pv pu sh' H0 C cl fp
            rw [zip_self] at hp
            obtain ⟨x, hx, rfl⟩ := List.mem_map.mp hp
            exact ee_callD D2 (hr.mono (by omega)) ⟨x, rfl, hbd x hx, rfl⟩ (ea_2 (ee_var 2 rfl pv) (ee_var 3 rfl pu))
          · rw [okL_same_all]; simp
        | tuple xs =>
          have hz : xs.length ≤ sizeLine := by obtain ⟨l, ys, _, _, hx, z⟩ := p1.tup_inv; rw [← hx.1]; exact z
          refine hs_ret ((ee_and (ee_eqI (ee_len g1 rfl (ee_var 0 rfl p1)) (ee_len g1 rfl (ee_var 1 rfl p2))) fun _ => ee_one (ee_all (bs := (xs.zip xs).map fun _ => true) rfl g2
            (ee_lc2 (i := 2) (j := 3) (enc := .bool) (f := fun _ => true) rfl scL_same.nd (blkOk_by (N := ["_law_found", "_law_due", "_law_a", "_law_b"]) (sc := defScope sL_same) (by decide +kernel)) (by rw [← zipD_eq]; exact ei_zipT g3 (ee_var 0 rfl p1) (ee_var 1 rfl p2)) (by rw [zip_self, List.length_map]; exact hz) ?_))).isd ?_) g5.sub fun v S3 H3 g6 pv => q v S3 H3 (g4.trans (g5.trans g6)) pv
          · intro p hp v u S2 s2 pv pu sh' H0 C cl fp
            rw [zip_self] at hp
            obtain ⟨x, hx, rfl⟩ := List.mem_map.mp hp
            exact ee_callD D2 (hr.mono (by omega)) ⟨x, rfl, hbd x hx, rfl⟩ (ea_2 (ee_var 2 rfl pv) (ee_var 3 rfl pu))
          · rw [okL_same_all]; simp
        | _ => exfalso; simp [kindN] at hk; done
      · have p1 := p1.up g5.st
        have p2 := p2.up g5.st
        have fin : ∀ b : Bool, b = true → ∀ v S3 H3, Gr S2 H2 S3 H3 → Dt K (.bool b) v S3 → Q v H3 := fun b hb v S3 H3 g6 pv => q v S3 H3 (g4.trans (g5.trans g6)) (hb ▸ pv)
        cases d with
        | none => exact hs_ret (ee_eq hr (by decide +kernel) (by decide +kernel) (ee_var 0 rfl p1) (ee_var 1 rfl p2)) g5.sub (fin _ rfl)
        | bool b => exact hs_ret (ee_eq hr (by cases b <;> decide +kernel) (by cases b <;> decide +kernel) (ee_var 0 rfl p1) (ee_var 1 rfl p2)) g5.sub (fin _ (by cases b <;> rfl))
        | int i => exact hs_ret (ee_eqI (ee_var 0 rfl p1) (ee_var 1 rfl p2)) g5.sub (fin _ (by simp))
        | str x => exact hs_ret (ee_eqS (ee_var 0 rfl p1) (ee_var 1 rfl p2)) g5.sub (fin _ (by simp))
        | list xs => exfalso; simp [kindN] at hk; done
        | tuple xs => exfalso; simp [kindN] at hk; done
        | dict xs => exfalso; cases n <;> exact hbd
  intro n
  induction n with
  | zero => exact step 0 fun m h => nomatch h
  | succ n ih => exact step (n + 1) fun m h => by cases h; exact ih
def oddL : List PyData := [.none, .bool true, .bool false, .str "", .str "Q7", .int (-1), .tuple [.int 1, .str "a"], .list [.int 1], .tuple [], .list [.str "a"], .tuple [.bool true]]
def Fodd : List PyData → (PyData → Prop) → Prop := fun ds G => ∃ xs, ds = [.list xs] ∧ xs.length ≤ 1000 ∧ G = fun d => d ∈ oddL ++ xs
theorem scL_odd : FnScope ["_law_box", "_law_more"] ["_law_box", "_law_more"] (defScope sL_odd) := ⟨rfl, rfl, rfl, by decide +kernel, rfl, by decide +kernel, by decide +kernel⟩
theorem ok_L_odd (F : FnT K "_law_odd" sL_odd f fd) (D1 : KD P w K mg base "_law_one" 2 (spB K Fone)) : FnOk P w K mg base CX0 3 f fd ["_law_box", "_law_more"] (spB K Fodd) := by
  refine fn_hs F scL_odd (fun vs H Q E h => ?_) (fun cdv A outer sh H vs Q E hr h => ?_)
  · obtain ⟨S, v, ws, ds, G, rfl, _, _, hd, ⟨xs, rfl, _⟩, _⟩ := h
    have := hd.1
    simp at this
    simp [this]
  · obtain ⟨S, v, ws, ds, G, rfl, s, hb, hd, ⟨xs, rfl, z1, rfl⟩, q⟩ := h
    obtain ⟨u, rfl, pu⟩ := hd.one
    have l11 : oddL.length = 11 := rfl
    refine hs_ret (ee_callBx D1 hr ⟨oddL ++ xs, rfl, by rw [List.length_append, l11]; omega, by rw [List.length_append, l11]; omega, rfl⟩ (ea_2 (ee_var 0 rfl hb) (ee_catL (by rw [l11]; show _ ≤ 16777216; omega)
      (ee_lst (ds := oddL) (ea_cons ee_non (ea_cons ee_bl (ea_cons ee_bl (ea_cons ee_str (ea_cons ee_str (ea_cons (ee_neg ee_int) (ea_cons (ee_tup (ds := [.int 1, .str "a"]) (ea_2 ee_int ee_str)) (ea_cons (ee_lst (ds := [.int 1]) (ea_1 ee_int)) (ea_cons (ee_tup (ds := []) ea_nil) (ea_cons (ee_lst (ds := [.str "a"]) (ea_1 ee_str)) (ea_cons (ee_tup (ds := [.bool true]) (ea_1 ee_bl)) ea_nil)))))))))))) (ee_var 1 rfl pu)))) s ?_
    rintro v S' H' g ⟨d, hd, pd⟩
    exact q d hd v S' H' g pd
theorem scL_pow : FnScope ["_law_size", "_law_power", "_law_found", "_law_late", "_law_rest"] ["_law_size", "_law_power"] (defScope sL_pow) := ⟨rfl, rfl, rfl, by decide +kernel, rfl, by decide +kernel, by decide +kernel⟩
def FL_pow : List PyData → PyData → Prop := fun ds r => ∃ n e, ds = [.int n, .int e] ∧ r = .int (n ^ e.toNat) ∧ PowOk n e
theorem ok_L_pow (F : FnT K "_law_pow" sL_pow f fd) (gi : mg "int" = none) : FnOk P w K mg base CX0 1 f fd ["_law_size", "_law_power"] (spD K FL_pow) := by
  refine fn_hs F scL_pow (fun vs H Q E h => ?_) (fun cdv A outer sh H vs Q E hr h => ?_)
  · obtain ⟨S, ds, d, _, hd, ⟨_, _, rfl, _⟩, _⟩ := h
    exact hd.1
  · obtain ⟨S, ds, r, s, hd, ⟨n, e, rfl, rfl, h0, hb⟩, q⟩ := h
    obtain ⟨v1, v2, rfl, p1, p2⟩ := hd.two
    obtain ⟨en, rfl⟩ : ∃ en : Nat, e = (en : Int) := ⟨e.toNat, by omega⟩
    rw [Int.toNat_natCast] at hb q
    refine hs_par3 (i := 2) (j := 3) (l := 4) rfl scL_pow.nd ee_int (ee_var 0 rfl p1) (ee_var 1 rfl p2) s rfl fun w1 w2 w3 S1 H1 g1 q1 q2 q3 => ?_
    refine hs_while (fun m σ S2 => ∃ a b : Nat, a + b * m = en ∧ ∃ x y z, σ = [some v1, some v2, some x, some y, some z] ∧ Dt K (.int (n ^ a)) x S2 ∧ Dt K (.int (n ^ b)) y S2 ∧ Dt K (.int (m : Nat)) z S2) en PassesOwn.never g1.sub ⟨0, 1, by omega, w1, w2, w3, rfl, by rw [Int.pow_zero]; exact q1, by rw [Int.pow_succ, Int.pow_zero, Int.one_mul]; exact q2, q3⟩ ?_
    rintro m σ S2 H2 g2 ⟨a, b, hab, x, y, z, rfl, px, py, pz⟩
    refine ⟨decide ((0 : Int) < (m : Nat)), et_gt (ee_var 4 rfl pz) ee_int, fun hm S3 H3 g3 => ?_, fun hm S3 H3 g3 => ?_⟩
    · have hm : 0 < m := by simpa using hm
      have hbe : b ≤ b * m := Nat.le_mul_of_pos_right b hm
      have px := px.up g3.st
      have py := py.up g3.st
      have pz := pz.up g3.st
      have hmod : m = 2 * (m / 2) + m % 2 := (Nat.div_add_mod m 2).symm
      refine hs_ifJ (fun σ' S4 => ∃ (a' : Nat) (x' : V), a' + (b + b) * (m / 2) = en ∧ Dt K (.int (n ^ a')) x' S4 ∧ σ' = [some v1, some v2, some x', some y, some z]) (et_eqI (ee_mod (by decide) (ee_intOf gi (ee_var 4 rfl pz)) ee_int) ee_int) g3.sub (fun ho S4 H4 g4 => ?_) (fun ho S4 H4 g4 => ?_) ?_
      · have ho : m % 2 = 1 := by have := of_decide_eq_true ho; omega
        refine hs_set (i := 2) (ee_mul (pow_mulx hb (by omega) (by omega)) (ee_var 2 rfl (px.up g4.st)) (ee_var 3 rfl (py.up g4.st))) g4.sub scL_pow.nd fun x' S5 H5 g5 px' => hs_nil ?_
        rw [← Int.pow_add] at px'
        refine ⟨S5, g5, a + b, x', ?_, px', rfl⟩
        rw [← hab]
        conv => rhs; rw [hmod, ho]
        rw [Nat.mul_add, Nat.add_mul, ← Nat.mul_assoc, Nat.mul_comm b 2, Nat.mul_assoc]
        omega
      · have ho : m % 2 = 0 := by have := of_decide_eq_false ho; omega
        refine hs_nil ⟨S4, Gr.refl g4.sub, a, x, ?_, px.up g4.st, rfl⟩
        rw [← hab]
        conv => rhs; rw [hmod, ho]
        rw [Nat.add_zero, Nat.add_mul, ← Nat.mul_assoc, Nat.mul_comm b 2, Nat.mul_assoc]
        omega
      rintro σ' S4 H4 g4 ⟨a', x', ha', px', rfl⟩
      refine hs_set (i := 4) (P := Dt K (.int ((m / 2 : Nat) : Int))) ((ee_fdiv (wide_div (b := 31) (by decide) (by decide) (by decide) (by decide)) (ee_var 4 rfl (pz.up g4.st)) ee_int).isd (by rw [Int.natCast_ediv]; rfl)) g4.sub scL_pow.nd fun z' S5 H5 g5 pz' => ?_
      by_cases hm2 : 0 < m / 2
      · have hb2 : b + b ≤ (b + b) * (m / 2) := Nat.le_mul_of_pos_right _ hm2
        refine hs_set (i := 3) (P := Dt K (.int (n ^ b * n ^ b))) (ee_if ((et_gt (ee_var 4 rfl pz') ee_int).is (decide_eq_true (by omega))) (fun _ => ee_mul (pow_mulx hb (by omega) (by omega)) (ee_var 3 rfl ((py.up g4.st).up g5.st)) (ee_var 3 rfl ((py.up g4.st).up g5.st))) (fun h => nomatch h)) g5.sub scL_pow.nd fun y' S7 H7 g7 py' => hs_nil ?_
        rw [← Int.pow_add] at py'
        exact ⟨S7, g4.trans (g5.trans g7), m / 2, by omega, a', b + b, ha', x', y', z', rfl, (px'.up g5.st).up g7.st, py', pz'.up g7.st⟩
      · have hm0 : m / 2 = 0 := by omega
        refine hs_set (i := 3) (P := Dt K (.int (n ^ b))) (ee_if ((et_gt (ee_var 4 rfl pz') ee_int).is (decide_eq_false (by omega))) (fun h => nomatch h) (fun _ => ee_var 3 rfl ((py.up g4.st).up g5.st))) g5.sub scL_pow.nd fun y' S7 H7 g7 py' => hs_nil ?_
        rw [hm0, Nat.mul_zero] at ha'
        exact ⟨S7, g4.trans (g5.trans g7), m / 2, by omega, a', b, by rw [hm0]; omega, x', y', z', rfl, (px'.up g5.st).up g7.st, py', pz'.up g7.st⟩
    · have hm : m = 0 := by simpa using hm
      subst hm
      refine hs_ret (ee_var 2 rfl (px.up g3.st)) g3.sub fun v S4 H4 g4 pv => q v S4 H4 (g1.trans (g2.trans (g3.trans g4))) ?_
      have e1 : a = en := by omega
      rw [e1] at pv
      exact pv
end
/-! ## k02: plain -/
theorem root_step {n d : Int} (hd : 1 ≤ d) (h0 : 0 ≤ n) : ∀ k : Nat, (k : Int) ^ d.toNat ≤ n ∨ ∃ x, RootOf n d x
  | 0 => .inl (by
      obtain ⟨e, he⟩ : ∃ e, d.toNat = e + 1 := ⟨d.toNat - 1, by omega⟩
      rw [he, Int.pow_succ]
      simpa using h0)
  | k + 1 => by
    rcases root_step hd h0 k with h | h
    · by_cases h1 : ((k : Int) + 1) ^ d.toNat ≤ n
      · exact .inl (by rw [Int.natCast_add]; exact h1)
      · exact .inr ⟨k, by omega, h, by omega⟩
    · exact .inr h
theorem root_ex {n d : Int} (hd : 1 ≤ d) (h0 : 0 ≤ n) : ∃ x, RootOf n d x := by
  rcases root_step hd h0 (n.toNat + 1) with h | h
  · exfalso
    obtain ⟨e, he⟩ : ∃ e, d.toNat = e + 1 := ⟨d.toNat - 1, by omega⟩
    rw [he, Int.pow_succ] at h
    have e1 : ((n.toNat + 1 : Nat) : Int) = n + 1 := by omega
    rw [e1] at h
    have p1 := pow_mono_int (a := 1) (b := n + 1) (by omega) (by omega) e
    rw [Int.one_pow] at p1
    have h2 : 1 * (n + 1) ≤ (n + 1) ^ e * (n + 1) := Int.mul_le_mul_of_nonneg_right p1 (by omega)
    omega
  · exact h
theorem ceil_eq {n d x : Int} : (ceilI n d x = x) ↔ x ^ d.toNat = n := by
  unfold ceilI
  split
  · rename_i h; simp [h]
  · rename_i h; constructor
    · intro e; omega
    · intro e; exact absurd e h
theorem ceil_le {n d x : Int} : x ≤ ceilI n d x ∧ ceilI n d x ≤ x + 1 := by
  unfold ceilI
  split <;> omega
/-- a root's neighbours stay small -/
theorem root_pow_ok1 {n d x : Int} (hx : RootOf n d x) (d1 : 1 ≤ d) (d60 : d ≤ 60) (nb : n.natAbs < 2 ^ 1000) : PowOk (x + 1) d := by
  refine ⟨by omega, ?_⟩
  have hx0 := hx.1
  have hm : max 1 (x + 1).natAbs ≤ 2 ^ 1001 := by
    have e1 : x ≤ n ∨ x ≤ 1 := by
      by_cases h : x ≤ 1
      · exact .inr h
      · obtain ⟨k, hk⟩ : ∃ k, d.toNat = k + 1 := ⟨d.toNat - 1, by omega⟩
        have h1 := hx.2.1
        rw [hk, Int.pow_succ] at h1
        have h2 := pow_mono_int (a := 1) (b := x) (by decide) (by omega) k
        rw [Int.one_pow] at h2
        have h3 : 1 * x ≤ x ^ k * x := Int.mul_le_mul_of_nonneg_right h2 (by omega)
        exact .inl (by omega)
    have h1 : 2 ≤ 2 ^ 1000 := Nat.le_trans (by decide) (Nat.pow_le_pow_right (by decide) (show 1 ≤ 1000 by decide))
    have h2 : 2 ^ 1001 = 2 ^ 1000 * 2 := Nat.pow_succ ..
    rw [h2]
    generalize 2 ^ 1000 = T at nb h1
    refine Nat.max_le.mpr ⟨by omega, ?_⟩
    rcases e1 with h | h <;> omega
  have h2 : (max 1 (x + 1).natAbs) ^ d.toNat ≤ (2 ^ 1001) ^ d.toNat := Nat.pow_le_pow_left hm _
  rw [← Nat.pow_mul] at h2
  exact Nat.lt_of_le_of_lt h2 (Nat.pow_lt_pow_right (by decide) (by omega))
/-- the spots -/
theorem spot_lt {b d : Int} (h1 : 1 ≤ b) (h2 : b ≤ 60) (d1 : 1 ≤ d) (h : d < 30 ∨ b ≤ 5) (d60 : d ≤ 60) : 1 ≤ b ^ d.toNat ∧ b ^ d.toNat < 2 ^ 240 := by
  have p1 := pow_mono_int (a := 1) (b := b) (by decide) h1 d.toNat
  rw [Int.one_pow] at p1
  refine ⟨p1, ?_⟩
  have e : d.toNat ≤ 60 := by omega
  rcases h with h | h
  · have q1 := pow_mono_int (a := b) (b := 64) (by omega) (by omega) d.toNat
    have e2 : d.toNat ≤ 29 := by omega
    have q2 : (64 : Int) ^ d.toNat ≤ 64 ^ 29 := by
      obtain ⟨k, hk⟩ : ∃ k, 29 = d.toNat + k := ⟨29 - d.toNat, by omega⟩
      rw [hk, Int.pow_add]
      have q3 := pow_mono_int (a := 1) (b := 64) (by decide) (by decide) k
      rw [Int.one_pow] at q3
      have q4 : 0 ≤ (64 : Int) ^ d.toNat := Int.pow_nonneg (by decide)
      have := Int.mul_le_mul_of_nonneg_left q3 q4
      omega
    have q3 : (64 : Int) ^ 29 < 2 ^ 240 := by decide +kernel
    omega
  · have q1 := pow_mono_int (a := b) (b := 8) (by omega) (by omega) d.toNat
    have q2 : (8 : Int) ^ d.toNat ≤ 8 ^ 60 := by
      obtain ⟨k, hk⟩ : ∃ k, 60 = d.toNat + k := ⟨60 - d.toNat, by omega⟩
      rw [hk, Int.pow_add]
      have q3 := pow_mono_int (a := 1) (b := 8) (by decide) (by decide) k
      rw [Int.one_pow] at q3
      have q4 : 0 ≤ (8 : Int) ^ d.toNat := Int.pow_nonneg (by decide)
      have := Int.mul_le_mul_of_nonneg_left q3 q4
      omega
    have q3 : (8 : Int) ^ 60 < 2 ^ 240 := by decide +kernel
    omega
/-! lowest -/
theorem foldl_gcd_dvd (l : List Int) : ∀ g : Nat, (l.foldl (fun g x => Nat.gcd g x.natAbs) g) ∣ g ∧ ∀ x ∈ l, (l.foldl (fun g x => Nat.gcd g x.natAbs) g) ∣ x.natAbs := by
  induction l with
  | nil => intro g; exact ⟨Nat.dvd_refl _, fun x hx => by cases hx⟩
  | cons y l ih =>
    intro g
    obtain ⟨h1, h2⟩ := ih (Nat.gcd g y.natAbs)
    refine ⟨Nat.dvd_trans h1 (Nat.gcd_dvd_left ..), fun x hx => ?_⟩
    rcases List.mem_cons.mp hx with e | e
    · subst e; exact Nat.dvd_trans h1 (Nat.gcd_dvd_right ..)
    · exact h2 x e
theorem gcdI_dvd {l : List Int} {x : Int} (h : x ∈ l) : (gcdI l : Int) ∣ x := Int.ofNat_dvd_left.mpr ((foldl_gcd_dvd l 0).2 x h)
theorem foldl_gcd_great (l : List Int) (m : Nat) : ∀ g : Nat, m ∣ g → (∀ x ∈ l, m ∣ x.natAbs) → m ∣ (l.foldl (fun g x => Nat.gcd g x.natAbs) g) := by
  induction l with
  | nil => intro g h _; exact h
  | cons y l ih =>
    intro g h h2
    exact ih _ (Nat.dvd_gcd h (h2 y List.mem_cons_self)) fun x hx => h2 x (List.mem_cons_of_mem _ hx)
theorem gcdI_great {l : List Int} {m : Nat} (h : ∀ x ∈ l, m ∣ x.natAbs) : m ∣ gcdI l := foldl_gcd_great l m 0 (Nat.dvd_zero _) h
theorem gcdI_pos {l : List Int} {x : Int} (h : x ∈ l) (h0 : x ≠ 0) : 0 < gcdI l := by
  have d := (foldl_gcd_dvd l 0).2 x h
  rcases Nat.eq_zero_or_pos (gcdI l) with e | e
  · have d' : gcdI l ∣ x.natAbs := d
    rw [e] at d'
    have := Nat.eq_zero_of_zero_dvd d'
    omega
  · exact e
def anyNz (l : List Int) : Bool := l.any fun n => n != 0
theorem anyNz_t {l : List Int} (h : anyNz l = true) : ∃ x ∈ l, x ≠ 0 := by
  obtain ⟨x, h1, h2⟩ := List.any_eq_true.mp h
  exact ⟨x, h1, by simpa using h2⟩
theorem anyNz_f {l : List Int} (h : anyNz l = false) : ∀ x ∈ l, x = 0 := fun x hx => by
  unfold anyNz at h
  rw [List.any_eq_false] at h
  simpa using h x hx
theorem gcdI_zero {l : List Int} (h : anyNz l = false) : gcdI l = 0 := by
  have : ∀ l : List Int, (∀ x ∈ l, x = 0) → l.foldl (fun g x => Nat.gcd g x.natAbs) 0 = 0 := by
    intro l
    induction l with
    | nil => intro _; rfl
    | cons y l ih =>
      intro h
      have e := h y List.mem_cons_self
      subst e
      exact ih fun x hx => h x (List.mem_cons_of_mem _ hx)
  exact this l (anyNz_f h)
theorem lowI_zero {l : List Int} (h : anyNz l = false) : lowI l = l := by
  unfold lowI
  rw [gcdI_zero h]
  refine (List.map_congr_left fun x _ => ?_).trans (List.map_id l)
  show x / (max (0 : Int) 1) = x
  exact Int.ediv_one x
def divB (l : List Int) (s : Int) : Bool := l.all fun x => decide (x % s = 0)
theorem divB_low {l : List Int} (h : anyNz l = true) {s : Int} (h2 : 2 ≤ s) : divB (lowI l) s = false := by
  obtain ⟨x0, hx0, n0⟩ := anyNz_t h
  have gp := gcdI_pos hx0 n0
  cases e : divB (lowI l) s with
  | false => rfl
  | true =>
    exfalso
    have hall := List.all_eq_true.mp e
    have key : ∀ x ∈ l, (gcdI l * s.toNat) ∣ x.natAbs := fun x hx => by
      have h1 := of_decide_eq_true (hall (x / (max (gcdI l : Int) 1)) (List.mem_map.mpr ⟨x, hx, rfl⟩))
      have e1 : max (gcdI l : Int) 1 = (gcdI l : Int) := by omega
      rw [e1] at h1
      obtain ⟨k, hk⟩ := Int.dvd_of_emod_eq_zero h1
      obtain ⟨y, hy⟩ := gcdI_dvd hx
      have e2 : x / (gcdI l : Int) = y := by rw [hy]; exact Int.mul_ediv_cancel_left _ (by omega)
      rw [e2] at hk
      refine ⟨k.natAbs, ?_⟩
      rw [hy, hk, Int.natAbs_mul, Int.natAbs_mul, Int.natAbs_natCast, Nat.mul_assoc]
      congr 2
      omega
    have d := gcdI_great key
    have := Nat.le_of_dvd gp d
    have h3 : gcdI l * 2 ≤ gcdI l * s.toNat := Nat.mul_le_mul_left _ (by omega)
    omega
theorem divB_zero {l : List Int} (h : anyNz l = false) (s : Int) : divB l s = true := by
  unfold divB
  rw [List.all_eq_true]
  intro x hx
  rw [anyNz_f h x hx]
  simp
/-- each times the other's sum -/
theorem low_sum {l : List Int} (h : anyNz l = true) : l.map (fun x => x * (lowI l).sum) = (lowI l).map fun x => x * l.sum := by
  obtain ⟨x0, hx0, n0⟩ := anyNz_t h
  have gp := gcdI_pos hx0 n0
  have e1 : max (gcdI l : Int) 1 = (gcdI l : Int) := by omega
  have hs : ∀ m : List Int, (∀ x ∈ m, (gcdI l : Int) ∣ x) → m.sum = (gcdI l : Int) * (m.map fun x => x / (gcdI l : Int)).sum := by
    intro m
    induction m with
    | nil => intro _; simp
    | cons y m ih =>
      intro hm
      rw [List.map_cons, List.sum_cons, List.sum_cons, Int.mul_add, ← ih fun x hx => hm x (List.mem_cons_of_mem _ hx), Int.mul_ediv_cancel' (hm y List.mem_cons_self)]
  have h2 := hs l fun x hx => gcdI_dvd hx
  unfold lowI
  rw [List.map_map]
  refine List.map_congr_left fun x hx => ?_
  show x * (l.map fun x => x / max (gcdI l : Int) 1).sum = x / max (gcdI l : Int) 1 * l.sum
  rw [e1]
  conv => rhs; rw [h2]
  rw [← Int.mul_assoc, Int.mul_comm (x / _), Int.mul_ediv_cancel' (gcdI_dvd hx)]
theorem lowI_len (l : List Int) : (lowI l).length = l.length := List.length_map ..
theorem lowI_bd {l : List Int} {B : Nat} (h : ∀ x ∈ l, 0 ≤ x ∧ x ≤ B) : ∀ x ∈ lowI l, 0 ≤ x ∧ x ≤ B := fun x hx => by
  obtain ⟨y, hy, rfl⟩ := List.mem_map.mp hx
  obtain ⟨h0, h1⟩ := h y hy
  have hm : 1 ≤ max (gcdI l : Int) 1 := by omega
  refine ⟨Int.ediv_nonneg h0 (by omega), ?_⟩
  have := Int.ediv_le_self (max (gcdI l : Int) 1) h0
  omega
theorem sum_bd {B : Nat} : ∀ {l : List Int}, (∀ x ∈ l, 0 ≤ x ∧ x ≤ B) → 0 ≤ l.sum ∧ l.sum ≤ (l.length * B : Nat)
  | [], _ => by simp
  | y :: l, h => by
    obtain ⟨h1, h2⟩ := sum_bd (l := l) fun x hx => h x (List.mem_cons_of_mem _ hx)
    obtain ⟨h3, h4⟩ := h y List.mem_cons_self
    rw [List.sum_cons, List.length_cons, Nat.succ_mul]
    omega
end K02

namespace K02
open PySem PySem.Spec PyProof.Rows L2 Z Y LamX NdefX
section
variable {P : Program} {w : World} {K : PySem.W.Frag} {mg : Str → Option Value} {base : Heap} {f : Addr} {fd : FuncData}
/-- what stands around the law -/
structure LE (P : Program) (w : World) (K : PySem.W.Frag) (mg : Str → Option Value) (base : Heap) (C c Pt : Addr) : Prop where
  openD : KD P w K mg base "_law_open" 1 (spOpen K)
  take : KD P w K mg base "_law_take" 1 (spB K Ftake)
  one : KD P w K mg base "_law_one" 2 (spB K Fone)
  odd : KD P w K mg base "_law_odd" 3 (spB K Fodd)
  same : ∀ n, KD P w K mg base "_law_same" (n + 2) (spD K (Fsame n))
  pow : KD P w K mg base "_law_pow" 1 (spD K FL_pow)
  isn : KD P w K mg base "is_number" 1 (spD K FisNumber)
  isnK : KDK P w K mg base "is_number" ["least", "value"] 1 (spD K FisNumber)
  fl : KD P w K mg base "floor_root" 3 (spD K FfRoot)
  ce : KD P w K mg base "ceiling_root" 3 (spD K FcRoot)
  ceK : KDK P w K mg base "ceiling_root" ["degree", "number"] 3 (spD K FcRoot)
  low : KD P w K mg base "lowest" 1 (spD K Flowest)
  tries : KD P w K mg base "_law_tries" 8 (spTriesN P w K mg base C 5)
  flX : ∃ f fd ps, FnOk P w K mg base (L2.CX P w) 4 f fd ps (spRoot K C) ∧ mg "floor_root" = some (.ref f) ∧ PySem.W.keepIn K (.ref f) = true ∧ Binds K fd ps []
  ceX : ∃ f fd ps, FnOk P w K mg base (L2.CX P w) 4 f fd ps (spRoot K C) ∧ mg "ceiling_root" = some (.ref f) ∧ PySem.W.keepIn K (.ref f) = true ∧ Binds K fd ps []
  tab : TabB base mg c Pt
  flist : mg "list" = none
  flen : mg "len" = none
  frange : mg "range" = none
  fall : mg "all" = none
  fany : mg "any" = none
  fsum : mg "sum" = none
  fisi : mg "isinstance" = none
  fint : mg "int" = none
  fbool : mg "bool" = none
  fmax : mg "max" = none
abbrev NL : List Str := ["_law_script", "_law_box", "_law_turn", "_law_degree_z", "_law_size", "_law_spot", "_law_late", "_law_found", "_law_more", "_law_odd_here", "_law_far", "_law_asks", "_law_least_z", "_law_thing", "_law_due", "_law_common", "_law_some", "_law_at", "_law_held", "_law_divides", "_law_step", "_law_item"]
theorem sc_law : FnScope NL ["_law_script"] (defScope slaw) := ⟨rfl, rfl, rfl, by decide +kernel, rfl, by decide +kernel, by decide +kernel⟩
def forBody (s : Stmt) : List Stmt := match s with
  | .For _ _ b _ _ => b
  | _ => []
def stAt (l : List Stmt) (i : Nat) : Stmt := l.getD i (.Pass ⟨0, 0, 0, 0⟩)
def turnBody : List Stmt := forBody (stAt (defBody slaw) 1)
def rootBody : List Stmt := forBody (stAt turnBody 3)
/-- the law's context -/
abbrev LX (P : Program) (w : World) (K : PySem.W.Frag) (mg : Str → Option Value) (base : Heap) (f c : Addr) (A : Around) (outer : List Env) (sh : Shared) (H0 : Hp) (E : XK) : Cx := (cxOf CX0 P w K mg base NL "law" (defScope slaw) f (.ref c) A outer sh H0 E).nox
/-- a def of two things that are not fixed -/
theorem ee_callD2E {X : Cx} {σ : L2.St} {S : Hp} {x : Str} {k : Nat} {a b : Expr} {p pos : Pos} {F : List PyData → PyData → Prop} {W1 W2 G : PyData → Prop} (D : KD X.prog X.w X.K X.mg X.base x k (spD X.K F)) (hr : Room k X.A) (hF : ∀ d1 d2, W1 d1 → W2 d2 → ∃ r, F [d1, d2] r ∧ G r) (ha : EE X σ S a (Ex X.K W1)) (hb : EE X σ S b (Ex X.K W2)) (hg : Gl X x := by rfl) (hdb : (x == ("__debug__" : Str)) = false := by decide)
    (hs : starEach [a, b] X.env = (false, eval a X.env) :: starEach [b] X.env := by rfl) (hs2 : starEach [b] X.env = (false, eval b X.env) :: starEach [] X.env := by rfl) (hpl : (backTo pos (starEach [b] X.env)).any (·.1) = false := by rfl) : EE X σ S (.Call (.Name x p) [a, b] [] pos) (Ex X.K G) :=
  ee_call D hr (ea_2 ha hb hs hs2) (fun vs S1 H1 _ s al Q q => by
    obtain ⟨v, w, rfl, ⟨d1, w1, pv⟩, d2, w2, pw⟩ := al.two
    obtain ⟨r, h1, h2⟩ := hF d1 d2 w1 w2
    exact ⟨S1, [d1, d2], r, s, Dts.cons pv (Dts.cons pw .nil), h1, fun u S' H' g pu => q u S' H' g ⟨r, h2, pu⟩⟩) hg hdb hs hpl
/-- the numbers whose roots are asked -/
def RootN (n : Int) : Prop := 0 ≤ n ∧ n < 2 ^ 250
theorem rootN_nb {n : Int} (h : RootN n) : n.natAbs < 2 ^ 1000 := by
  have h1 := h.1
  have h2 := h.2
  have h3 : n.natAbs < 2 ^ 250 := by
    have e : ((2 ^ 250 : Nat) : Int) = (2 : Int) ^ 250 := by decide +kernel
    omega
  exact Nat.lt_trans h3 (Nat.pow_lt_pow_right (by decide) (by decide))
section
variable {C c Pt : Addr} {A : Around} {outer : List Env} {sh : Shared} {H0 : Hp} {E : XK} {vs vb : V} {S H : Hp} {D : Ends}
theorem turn_root (L : LE P w K mg base C c Pt) (hr : Room 10 (LX P w K mg base f c A outer sh H0 E).A) {d n : Int} (d1 : 1 ≤ d) (d60 : d ≤ 60) (hn : RootN n) {a2 a3 a4 a5 a6 a7 a8 a9 a10 a11 a12 a13 a14 a15 a16 a17 a18 a19 a20 a21 : Option V} (s : Same S H) {vd vn : V} (e3 : a3 = some vd) (e6 : a6 = some vn) (pd : Dt K (.int d) vd S) (pn : Dt K (.int n) vn S)
    (nx : ∀ v7 v8 S' H', Gr S H S' H' → D.nx [some vs, some vb, a2, a3, a4, a5, a6, v7, v8, a9, a10, a11, a12, a13, a14, a15, a16, a17, a18, a19, a20, a21] H') : HS (LX P w K mg base f c A outer sh H0 E) D rootBody [some vs, some vb, a2, a3, a4, a5, a6, a7, a8, a9, a10, a11, a12, a13, a14, a15, a16, a17, a18, a19, a20, a21] H := by
  subst e3 e6
  obtain ⟨r, hroot⟩ := root_ex (n := n) d1 hn.1
  have nb := rootN_nb hn
  have ok1 := root_pow_ok hroot d1 d60 nb
  have ok2 := root_pow_ok1 hroot d1 d60 nb
  have c1 := @ceil_le n d r
  have r0 := hroot.1
  refine hs_par (i := 7) (j := 8) (Pa := Dt K (.int r)) (Pb := Dt K (.int (ceilI n d r))) rfl sc_law.nd (ee_callD L.fl (hr.mono (by decide)) ⟨n, d, r, rfl, rfl, hn.1, nb, d1, d60, hroot⟩ (ea_2 (ee_var 6 rfl pn) (ee_var 3 rfl pd)))
    (ee_callK2 L.ceK (hr.mono (by decide)) (ee_var 3 rfl pd) (ee_var 6 rfl pn) (spD_E (X := LX P w K mg base f c A outer sh H0 E) (F := FcRoot) (ds := [.int n, .int d]) (d := .int (ceilI n d r)) ⟨n, d, r, rfl, rfl, hn.1, nb, d1, d60, hroot⟩)) s rfl fun v7 v8 S1 H1 g1 p7 p8 => ?_
  have pd := pd.up g1.st
  have pn := pn.up g1.st
  refine hs_ifN ((et_w (ew_or (et_not (et_val (ee_isi (isD_ok (.int r) (T := "int") (by simp)) L.fisi L.fint boot_int (ee_var 7 rfl p7)))) fun _ => ew_or (et_not (et_val (ee_isi (isD_ok (.int (ceilI n d r)) (T := "int") (by simp)) L.fisi L.fint boot_int (ee_var 8 rfl p8)))) fun _ =>
    ew_or1 (et_not (et_chain3 ee_int (ee_var 7 rfl p7) (ee_var 8 rfl p8) (ee_add (ee_var 7 rfl p7) ee_int))))).is ?b1) g1.sub fun S2 H2 g2 => ?_
  case b1 => rw [isDi, isDi, decide_eq_true r0, decide_eq_true c1.1, decide_eq_true c1.2]; rfl
  have p7 := p7.up g2.st
  have p8 := p8.up g2.st
  have pd := pd.up g2.st
  have pn := pn.up g2.st
  have shb : ∀ b : Bool, SeqAt.shaped (.bool b) = true := fun b => by cases b <;> decide +kernel
  refine hs_ifN ((et_w (ew_or (et_not (et_chain2 op_le op_lt rfl rfl (ee_callD L.pow (hr.mono (by decide)) ⟨r, d, rfl, rfl, ok1⟩ (ea_2 (ee_var 7 rfl p7) (ee_var 3 rfl pd))) (ee_var 6 rfl pn) (ee_callD L.pow (hr.mono (by decide)) ⟨r + 1, d, rfl, rfl, ok2⟩ (ea_2 (ee_add (ee_var 7 rfl p7) ee_int) (ee_var 3 rfl pd))))) fun _ =>
    ew_or1 (et_ne hr (shb _) (shb _) (ee_eqI (ee_var 8 rfl p8) (ee_var 7 rfl p7)) (ee_eqI (ee_callD L.pow (hr.mono (by decide)) ⟨r, d, rfl, rfl, ok1⟩ (ea_2 (ee_var 7 rfl p7) (ee_var 3 rfl pd))) (ee_var 6 rfl pn))))).is ?b2) g2.sub fun S3 H3 g3 => hs_nil (nx _ _ S3 H3 ((g1.trans g2).trans g3))
  case b2 =>
    rw [decide_eq_true hroot.2.1, decide_eq_true hroot.2.2, show decide (ceilI n d r = r) = decide (r ^ d.toNat = n) from decide_eq_decide.mpr ceil_eq]
    cases decide (r ^ d.toNat = n) <;> rfl
end
end
end K02

namespace K02
open PySem PySem.Spec PyProof.Rows L2 Z Y LamX NdefX
section
variable {P : Program} {w : World} {K : PySem.W.Frag} {mg : Str → Option Value} {base : Heap} {f : Addr} {fd : FuncData}
theorem AllF.mem {Fs : List (PyData → Prop)} {ds : List PyData} {G : PyData → Prop} (h : AllF Fs ds) (f : ∀ F ∈ Fs, ∀ x, F x → G x) : ∀ x ∈ ds, G x := by
  induction h with
  | nil => intro x hx; cases hx
  | cons p _ ih =>
    intro x hx
    rcases List.mem_cons.mp hx with e | e
    · subst e; exact f _ List.mem_cons_self _ p
    · exact ih (fun F hF => f F (List.mem_cons_of_mem _ hF)) x e
section
variable {C c Pt : Addr} {A : Around} {outer : List Env} {sh : Shared} {H0 : Hp} {E : XK} {vs vb : V} {S H : Hp} {D : Ends} {rest : List Stmt}
theorem rootNs_get {ns : List Int} {i : Nat} {Q : V → Hp → Prop} (h : (Ds K (ns.map .int))[i]? = some Q) : ∃ n ∈ ns, Q = Dt K (.int n) := by
  unfold Ds at h
  rw [List.getElem?_map, List.getElem?_map] at h
  cases e : ns[i]? with
  | none => rw [e] at h; cases h
  | some n => rw [e] at h; cases h; exact ⟨n, List.mem_of_getElem? e, rfl⟩
/-- the numbers of a turn, their roots -/
theorem turn_a (L : LE P w K mg base C c Pt) (hr : Room 10 (LX P w K mg base f c A outer sh H0 E).A) {a2 a3 a4 a5 a6 a7 a8 a9 a10 a11 a12 a13 a14 a15 a16 a17 a18 a19 a20 a21 : Option V} (s : Same S H) (hb : BX vb S)
    (nx : ∀ v3 v4 v5 v6 v7 v8 S' H', Gr S H S' H' → HS (LX P w K mg base f c A outer sh H0 E) D rest [some vs, some vb, a2, v3, v4, v5, v6, v7, v8, a9, a10, a11, a12, a13, a14, a15, a16, a17, a18, a19, a20, a21] H') :
    HS (LX P w K mg base f c A outer sh H0 E) D (stAt turnBody 0 :: stAt turnBody 1 :: stAt turnBody 2 :: stAt turnBody 3 :: rest) [some vs, some vb, a2, a3, a4, a5, a6, a7, a8, a9, a10, a11, a12, a13, a14, a15, a16, a17, a18, a19, a20, a21] H := by
  have bx : ∀ {S' : Hp} {pos : Pos} {b3 b4 b5 : Option V}, Same S S' → EE (LX P w K mg base f c A outer sh H0 E) [some vs, some vb, a2, b3, b4, b5, a6, a7, a8, a9, a10, a11, a12, a13, a14, a15, a16, a17, a18, a19, a20, a21] S' (.Name "_law_box" pos) BX := fun s' => ee_var 1 rfl (Mn.up s' hb)
  -- the degree
  refine hs_set (i := 3) (P := Ex K fun d => ∃ n : Int, d = .int n ∧ 1 ≤ n ∧ n ≤ 60) (ee_callBE L.one (hr.mono (by decide)) (W := fun d => ∃ ds, d = .list ds ∧ ds.length = 6 ∧ ∀ x ∈ ds, ∃ n : Int, x = .int n ∧ 1 ≤ n ∧ n ≤ 60) (fun d ⟨ds, e, h6, hx⟩ => ⟨_, ⟨ds, by rw [e], by omega, by omega, rfl⟩, fun r hr' => hx r hr'⟩) (bx (Same.refl S))
    ((ee_lstE (Fs := [fun x => ∃ n : Int, x = .int n ∧ 1 ≤ n ∧ n ≤ 60, fun x => ∃ n : Int, x = .int n ∧ 1 ≤ n ∧ n ≤ 60, fun x => ∃ n : Int, x = .int n ∧ 1 ≤ n ∧ n ≤ 60, fun x => ∃ n : Int, x = .int n ∧ 1 ≤ n ∧ n ≤ 60, fun x => ∃ n : Int, x = .int n ∧ 1 ≤ n ∧ n ≤ 60, fun x => ∃ n : Int, x = .int n ∧ 1 ≤ n ∧ n ≤ 60])
      (ea_cons (ee_int.ex ⟨1, rfl, by decide, by decide⟩) (ea_cons (ee_int.ex ⟨2, rfl, by decide, by decide⟩) (ea_cons (ee_int.ex ⟨3, rfl, by decide, by decide⟩) (ea_cons (ee_int.ex ⟨2, rfl, by decide, by decide⟩) (ea_cons (ee_int.ex ⟨4, rfl, by decide, by decide⟩) (ea_cons
        ((ee_addE (F := fun i => i = 5) (G := fun i => 0 ≤ i ∧ i < 56) (ee_int.ex ⟨5, rfl, rfl⟩) (ee_callBx L.take (hr.mono (by decide)) ⟨56, rfl, by decide, by decide, rfl⟩ (ea_2 (bx (Same.refl S)) ee_int))).exi fun d ⟨i, e, x, y, hx, hy, hi⟩ => ⟨i, e, by omega, by omega⟩) ea_nil))))))).exi fun d ⟨ds, e, h⟩ => ⟨ds, e, h.len, fun x hx => ?hmem⟩)) s sc_law.nd fun v3 S1 H1 g1 p3 => ?_
  case hmem =>
    refine AllF.mem (G := fun x => ∃ n : Int, x = .int n ∧ 1 ≤ n ∧ n ≤ 60) h (fun F hF x hx => ?_) x hx
    simp only [List.mem_cons, List.not_mem_nil, or_false] at hF
    rcases hF with rfl | rfl | rfl | rfl | rfl | rfl <;> exact hx
  obtain ⟨_, ⟨d, rfl, d1, d60⟩, p3⟩ := p3
  -- the size
  refine hs_set (i := 4) (P := Ex K fun d => ∃ n : Int, d = .int n ∧ RootN n) (ee_callBE L.one (hr.mono (by decide)) (W := fun d => ∃ x y : Int, d = .list [.int x, .int y] ∧ (0 ≤ x ∧ x < 40) ∧ (0 ≤ y ∧ y < 1000000000)) (fun d ⟨x, y, e, hx, hy⟩ => ⟨_, ⟨[.int x, .int y], by rw [e], (by show 0 < 2; decide), (by show 2 < 1073741824; decide), rfl⟩, fun r hr' => ?sz⟩) (bx g1.st)
    ((ee_lstE (Fs := [fun x => ∃ n : Int, x = .int n ∧ 0 ≤ n ∧ n < 40, fun x => ∃ n : Int, x = .int n ∧ 0 ≤ n ∧ n < 1000000000]) (ea_2 (ee_callBx L.take (hr.mono (by decide)) ⟨40, rfl, by decide, by decide, rfl⟩ (ea_2 (bx g1.st) ee_int)) (ee_callBx L.take (hr.mono (by decide)) ⟨1000000000, rfl, by decide, by decide, rfl⟩ (ea_2 (bx g1.st) ((ee_pow (by exact ⟨by decide, by decide, by decide⟩) ee_int ee_int).isd (congrArg PyData.int (by decide +kernel))))))).exi fun d ⟨ds, e, h⟩ => ?szl)) g1.sub sc_law.nd fun v4 S2 H2 g2 p4 => ?_
  case sz =>
    have e : (1000000000 : Int) < 2 ^ 250 := by decide +kernel
    rcases List.mem_cons.mp hr' with h | h
    · exact ⟨x, h, hx.1, by omega⟩
    · rw [List.mem_singleton] at h
      exact ⟨y, h, hy.1, by omega⟩
  case szl =>
    obtain ⟨x, y, rfl, ⟨n, rfl, hx⟩, m, rfl, hy⟩ := h.two
    exact ⟨n, m, e, hx, hy⟩
  obtain ⟨_, ⟨n, rfl, hn⟩, p4⟩ := p4
  have G2 := g1.trans g2
  have p3 := p3.up g2.st
  -- the spot
  refine hs_set (i := 5) (P := Ex K fun z => ∃ n : Int, z = .int n ∧ 1 ≤ n ∧ n < 2 ^ 240) (ee_callD2E L.pow (hr.mono (by decide)) (W1 := fun z => ∃ b : Int, z = .int b ∧ 1 ≤ b ∧ b ≤ 60 ∧ (d < 30 ∨ b ≤ 5)) (W2 := fun z => z = .int d) (fun z1 z2 ⟨b, e1, b1, b2, b3⟩ e2 => ⟨.int (b ^ d.toNat), ⟨b, d, by rw [e1, e2], rfl, ?pk⟩, _, rfl, (spot_lt b1 b2 d1 b3 d60).1, (spot_lt b1 b2 d1 b3 d60).2⟩)
    (ee_if (et_lt (ee_var 3 rfl p3) ee_int) (fun hk => (ee_addE (F := fun i => 0 ≤ i ∧ i < 60) (G := fun i => i = 1) (ee_callBx L.take (hr.mono (by decide)) ⟨60, rfl, by decide, by decide, rfl⟩ (ea_2 (bx G2.st) ee_int)) (ee_int.ex ⟨1, rfl, rfl⟩)).exi fun z ⟨i, e, x, y, hx, hy, hi⟩ => ⟨i, e, by omega, by omega, .inl (of_decide_eq_true hk)⟩)
      (fun hk => (ee_addE (F := fun i => i = 1) (G := fun i => 0 ≤ i ∧ i < 5) (ee_int.ex ⟨1, rfl, rfl⟩) (ee_callBx L.take (hr.mono (by decide)) ⟨5, rfl, by decide, by decide, rfl⟩ (ea_2 (bx G2.st) ee_int))).exi fun z ⟨i, e, x, y, hx, hy, hi⟩ => ⟨i, e, by omega, by omega, .inr (by omega)⟩))
    ((ee_var 3 rfl p3).ex rfl)) g2.sub sc_law.nd fun v5 S3 H3 g3 p5 => ?_
  case pk =>
    refine ⟨by omega, ?_⟩
    have hm : max 1 b.natAbs ≤ 64 := Nat.max_le.mpr ⟨by decide, by omega⟩
    have h2 : (max 1 b.natAbs) ^ d.toNat ≤ 64 ^ d.toNat := Nat.pow_le_pow_left hm _
    rw [show 64 = 2 ^ 6 from rfl, ← Nat.pow_mul] at h2
    exact Nat.lt_of_le_of_lt h2 (Nat.pow_lt_pow_right (by decide) (by omega))
  obtain ⟨_, ⟨q, rfl, q1, q2⟩, p5⟩ := p5
  have G3 := G2.trans g3
  have p3 := p3.up g3.st
  have p4 := p4.up g3.st
  have e250 : (2 : Int) ^ 240 + 1 < 2 ^ 250 := by decide +kernel
  have h1 : RootN q := ⟨by omega, by omega⟩
  have h2 : RootN (q + 1) := ⟨by omega, by omega⟩
  have h3 : RootN (max 0 (q - 1)) := ⟨by omega, by omega⟩
  -- the four numbers
  refine hs_for (Ps := Ds K ([n, q, q + 1, max 0 (q - 1)].map .int)) (fun i σ S' => ∃ b6 b7 b8, σ = [some vs, some vb, a2, some v3, some v4, some v5, b6, b7, b8, a9, a10, a11, a12, a13, a14, a15, a16, a17, a18, a19, a20, a21]) PassesOwn.never rfl
    (ei_list (ee_lst (ds := [n, q, q + 1, max 0 (q - 1)].map .int) (ea_cons (ee_var 4 rfl p4) (ea_cons (ee_var 5 rfl p5) (ea_cons (ee_add (ee_var 5 rfl p5) ee_int) (ea_cons (ee_max2 rfl L.fmax ee_int (ee_sub (ee_var 5 rfl p5) ee_int)) ea_nil)))))) g3.sub (fun S' H' g => ⟨_, _, _, rfl⟩) ?_ ?_
  · rintro i Pi σ1 S4 H4 x S5 H5 hP g4 ⟨b6, b7, b8, rfl⟩ g5 px
    obtain ⟨m, hm, rfl⟩ := rootNs_get hP
    have hmN : RootN m := by
      simp only [List.mem_cons, List.not_mem_nil, or_false] at hm
      rcases hm with rfl | rfl | rfl | rfl
      · exact hn
      · exact h1
      · exact h2
      · exact h3
    refine (eg_name (i := 6) sc_law.nd rfl (by first | exact Or.inl rfl | exact Or.inr rfl)) H5 g5.sub _ ?_
    exact turn_root L hr d1 d60 hmN g5.sub rfl rfl (p3.up (g4.st.trans g5.st)) px fun v7 v8 S' H' g => ⟨S', g, _, _, _, rfl⟩
  · rintro σ1 S4 H4 g4 ⟨b6, b7, b8, rfl⟩
    exact nx _ _ _ _ _ _ S4 H4 (G3.trans g4)
end
end
end K02

namespace K02
open PySem PySem.Spec PyProof.Rows L2 Z Y LamX NdefX
section
variable {P : Program} {w : World} {K : PySem.W.Frag} {mg : Str → Option Value} {base : Heap} {f : Addr} {fd : FuncData}
def lamE (i : Nat) : Expr := match stAt turnBody 5 with
  | .Assign _ (.List es _) _ => es.getD i (.Constant .none 0 ⟨0, 0, 0, 0⟩)
  | _ => .Constant .none 0 ⟨0, 0, 0, 0⟩
def lamQ : Str := (envOfC "law" (defScope slaw) 0 0 .none).qual ++ "<lambda>"
def nmL : Nat → Nat → Str := fun _ _ => lamQ
def lamSc (e : Expr) : Scope := match e with
  | .Lambda _ _ s _ => s
  | _ => default
/-- the four asks, in a state -/
def AsksP (cells : List (Str × Addr)) (v : V) (S : Hp) : Prop := ∃ (l f1 f2 f3 f4 c1 c2 c3 c4 T2 T3 T4 : Addr), v = .ref l ∧ S l = some (.lst [.ref f1, .ref f2, .ref f3, .ref f4]) ∧
  AskS (lamF (lamE 0) lamQ cells c1 none) f1 [] S ∧ AskS (lamF (lamE 1) lamQ cells c2 (some T2)) f2 [.int 0] S ∧ AskS (lamF (lamE 2) lamQ cells c3 (some T3)) f3 [.int 0] S ∧ AskS (lamF (lamE 3) lamQ cells c4 (some T4)) f4 [.int 0] S
instance {cells : List (Str × Addr)} : Mn (AsksP cells) := ⟨fun s ⟨l, f1, f2, f3, f4, c1, c2, c3, c4, T2, T3, T4, h0, h1, h2, h3, h4, h5⟩ => ⟨l, f1, f2, f3, f4, c1, c2, c3, c4, T2, T3, T4, h0, s _ _ h1, h2.up s, h3.up s, h4.up s, h5.up s⟩⟩
theorem ldef0 {F : LF} {H : Hp} (h : F.dT = none) : LDef F [] H := ⟨fun _ => rfl, fun T e => (by rw [h] at e; cases e)⟩
theorem ldef1 {F : LF} {H : Hp} {T : Addr} {dvs : List V} (h : F.dT = some T) (e : H T = some (.tup dvs)) : LDef F dvs H := ⟨fun q => (by rw [h] at q; cases q), fun T' q => (by rw [h] at q; cases q; exact e)⟩
theorem lam_free : ∀ i < 4, ∀ y ∈ (lamSc (lamE i)).names, y.2 = .free → (defScope slaw).names.lookup y.1 = some .cell ∨ (defScope slaw).names.lookup y.1 = some .free := by decide +kernel
section
variable {C c Pt : Addr} {A : Around} {outer : List Env} {sh : Shared} {H0 : Hp} {E : XK} {S H : Hp} {D : Ends} {rest : List Stmt} {σ : L2.St}
theorem turn_asks (L : LE P w K mg base C c Pt) (hT : TabsN [(Pt, nmL)] H)
    (nx : ∀ v Hf, ExtN H Hf → TabsN [(Pt, nmL)] Hf → AsksP (LX P w K mg base f c A outer sh H0 E).env.cells v (Y.noTab Hf) → HS (LX P w K mg base f c A outer sh H0 E) D rest (σ.set 11 (some v)) Hf) :
    HS (LX P w K mg base f c A outer sh H0 E) D (stAt turnBody 5 :: rest) σ H := by
  have hu : ∀ p ∈ [(Pt, nmL)], p.1 = Pt → p.2 = nmL := fun p hp _ => by rw [List.mem_singleton.mp hp]
  have hm : (Pt, nmL) ∈ [(Pt, nmL)] := List.mem_singleton.mpr rfl
  refine hs_cons (ps_set (i := 11) sc_law.nd rfl (Or.inl rfl) (pe_lst (pa_cons (te := bE _ _) peb (pa_cons (te := bE _ _) peb (pa_cons (te := bE _ _) peb (pa_cons (te := bE _ _) peb pa_nil))))) rfl) ?_
  refine he_lam0 L.tab rfl hm rfl hu hT (lam_free 0 (by decide)) rfl fun f1 c1 H1 M1 => ?_
  refine he_lam1 L.tab rfl hm rfl hu (lam_free 1 (by decide)) rfl (he_of pe_int ⟨M1.tabs, fun T2 hT2 f2 c2 H2 M2 => ?_⟩)
  refine he_lam1 L.tab rfl hm rfl hu (lam_free 2 (by decide)) rfl (he_of pe_int ⟨M2.tabs, fun T3 hT3 f3 c3 H3 M3 => ?_⟩)
  refine he_lam1 L.tab rfl hm rfl hu (lam_free 3 (by decide)) rfl (he_of pe_int ⟨M3.tabs, fun T4 hT4 f4 c4 H4 M4 => ?_⟩)
  refine ⟨by show 4 ≤ 16777216; decide, fun l hl => ?_⟩
  have x2 : ExtN H1 H2 := extN_trans (extN_new hT2) M2.ext
  have x3 : ExtN H2 H3 := extN_trans (extN_new hT3) M3.ext
  have x4 : ExtN H3 H4 := extN_trans (extN_new hT4) M4.ext
  have x5 : ExtN H4 (upd H4 l (.lst [.ref f1, .ref f2, .ref f3, .ref f4])) := extN_new hl
  have a1 : AskS (lamF (lamE 0) lamQ (LX P w K mg base f c A outer sh H0 E).env.cells c1 none) f1 [] H1 := ⟨M1.lam, M1.code, ldef0 rfl⟩
  have a2 : AskS (lamF (lamE 1) lamQ (LX P w K mg base f c A outer sh H0 E).env.cells c2 (some T2)) f2 [.int 0] H2 := ⟨M2.lam, M2.code, ldef1 rfl (M2.ext _ _ upd_same (fun _ z => nomatch z))⟩
  have a3 : AskS (lamF (lamE 2) lamQ (LX P w K mg base f c A outer sh H0 E).env.cells c3 (some T3)) f3 [.int 0] H3 := ⟨M3.lam, M3.code, ldef1 rfl (M3.ext _ _ upd_same (fun _ z => nomatch z))⟩
  have a4 : AskS (lamF (lamE 3) lamQ (LX P w K mg base f c A outer sh H0 E).env.cells c4 (some T4)) f4 [.int 0] H4 := ⟨M4.lam, M4.code, ldef1 rfl (M4.ext _ _ upd_same (fun _ z => nomatch z))⟩
  refine nx _ _ (extN_trans M1.ext (extN_trans x2 (extN_trans x3 (extN_trans x4 x5)))) (M4.tabs.ext fun b o e => (upd_ne (ne_of_none e hl)).trans e) ⟨l, f1, f2, f3, f4, c1, c2, c3, c4, T2, T3, T4, rfl, noTab_at upd_same (fun _ z => nomatch z), ?_, ?_, ?_, ?_⟩
  · exact (a1.ext (extN_trans x2 (extN_trans x3 (extN_trans x4 x5)))).noTab
  · exact (a2.ext (extN_trans x3 (extN_trans x4 x5))).noTab
  · exact (a3.ext (extN_trans x4 x5)).noTab
  · exact (a4.ext x5).noTab
end
end
end K02

namespace K02
open PySem PySem.Spec PyProof.Rows L2 Z Y LamX NdefX
section
variable {P : Program} {w : World} {K : PySem.W.Frag} {mg : Str → Option Value} {base : Heap} {f : Addr} {fd : FuncData}
def WA (K : PySem.W.Frag) (ws : List (Option V)) (S : Hp) (n d : PyData) : Prop := ∃ v1 v2, ws = [some v1, some v2] ∧ Dt K n v1 S ∧ Dt K d v2 S
def WB (K : PySem.W.Frag) (i : Int) (ws : List (Option V)) (S : Hp) (n d : PyData) : Prop := ∃ v1, ws = [some v1] ∧ Dt K n v1 S ∧ d = .int i
def WC (K : PySem.W.Frag) (i : Int) (ws : List (Option V)) (S : Hp) (n d : PyData) : Prop := ∃ v1, ws = [some v1] ∧ n = .int i ∧ Dt K d v1 S
theorem lam_in : ∀ i < 4, ∀ y ∈ (lamSc (lamE i)).names, y.2 = .free → y.1 ∈ (["_law_odd_here", "_law_far"] : List Str) := by decide +kernel
theorem clo_in {cells : List (Str × Addr)} {names : List (Str × NameKind)} {xs : List Str} (h : ∀ y ∈ names, y.2 = .free → y.1 ∈ xs) {y : Str} {c : Addr} (e : (cloFrom cells names []).lookup y = some c) : y ∈ xs := by
  rcases cloFrom_mem (PySem.mem_of_lookup e) with hm | ⟨h1, _⟩
  · cases hm
  · exact h _ h1 rfl
theorem shownL_subT {L : List (Addr × Obj)} {S H : Hp} (s : Same S H) (h : ∀ p ∈ L, H p.1 = none) : Same S (Y.shownL S L) := shownL_sub fun p hp => s.free (h p hp)
theorem shownL_mono {L : List (Addr × Obj)} : ∀ {S H : Hp}, Same S H → Same (Y.shownL S L) (Y.shownL H L) := by
  induction L with
  | nil => intro S H s; exact s
  | cons q L ih => intro S H s; exact shown_same_sub (ih s)
theorem unshow_sub {L : List (Addr × Obj)} {S : Hp} (h : ∀ p ∈ L, S p.1 = none) : Same S (delL (Y.shownL S L) L) := fun b o e => by
  have hb : ∀ p ∈ L, p.1 ≠ b := fun p hp z => by rw [← z, h p hp] at e; cases e
  rw [delL_ne hb, shownL_ne (fun z => by obtain ⟨p, hp, q⟩ := List.mem_map.mp z; exact hb p hp q)]
  exact e
theorem sc_lam0 : NScope ["_law_odd_here", "_law_far"] [] ["_law_odd_here", "_law_far"] (lamSc (lamE 0)) := nscope_by (by decide +kernel)
theorem sc_lam1 : NScope ["_law_a", "_law_odd_here"] ["_law_a"] ["_law_odd_here"] (lamSc (lamE 1)) := nscope_by (by decide +kernel)
theorem sc_lam2 : NScope ["_law_b", "_law_far"] ["_law_b"] ["_law_far"] (lamSc (lamE 2)) := nscope_by (by decide +kernel)
theorem sc_lam3 : NScope ["_law_c", "_law_far"] ["_law_c"] ["_law_far"] (lamSc (lamE 3)) := nscope_by (by decide +kernel)
section
variable {C c Pt : Addr} {A : Around} {outer : List Env} {sh : Shared} {H0 : Hp} {E : XK} {S H : Hp} {D : Ends} {rest : List Stmt} {σ : L2.St} {cells : List (Str × Addr)} {fl ca T : Addr}
theorem lok0 (L : LE P w K mg base C c Pt) : LOk P w K mg base (L2.CX P w) 5 fl (lamF (lamE 0) lamQ cells ca none) ["_law_odd_here", "_law_far"] [] (spLamR K C (WA K)) :=
  lok_root (fx := "floor_root") (N := ["_law_odd_here", "_law_far"]) rfl sc_lam0 (lbind0 rfl fun _ _ => rfl) rfl rfl (by decide) (fun _ => rfl) (fun _ => rfl) (fun A outer s H ws E S n d _ hw => by
    obtain ⟨v1, v2, rfl, q1, q2⟩ := hw
    exact ea_2 (ee_var 0 rfl q1) (ee_var 1 rfl q2)) L.flX
theorem lok1 (L : LE P w K mg base C c Pt) : LOk P w K mg base (L2.CX P w) 5 fl (lamF (lamE 1) lamQ cells ca (some T)) ["_law_odd_here"] [.int 0] (spLamR K C (WB K 2)) :=
  lok_root (fx := "ceiling_root") (N := ["_law_a", "_law_odd_here"]) (ps := ["_law_a"]) rfl sc_lam1 (lbind1 rfl fun _ _ => ⟨_, rfl, fun _ => rfl⟩) rfl rfl (by decide) (fun _ => rfl) (fun _ => rfl) (fun A outer s H ws E S n d _ hw => by
    obtain ⟨v1, rfl, q1, rfl⟩ := hw
    exact ea_2 (ee_var 1 rfl q1) ee_int) L.ceX
theorem lok2 (L : LE P w K mg base C c Pt) : LOk P w K mg base (L2.CX P w) 5 fl (lamF (lamE 2) lamQ cells ca (some T)) ["_law_far"] [.int 0] (spLamR K C (WC K 7)) :=
  lok_root (fx := "floor_root") (N := ["_law_b", "_law_far"]) (ps := ["_law_b"]) rfl sc_lam2 (lbind1 rfl fun _ _ => ⟨_, rfl, fun _ => rfl⟩) rfl rfl (by decide) (fun _ => rfl) (fun _ => rfl) (fun A outer s H ws E S n d _ hw => by
    obtain ⟨v1, rfl, rfl, q1⟩ := hw
    exact ea_2 ee_int (ee_var 1 rfl q1)) L.flX
theorem lok3 (L : LE P w K mg base C c Pt) : LOk P w K mg base (L2.CX P w) 5 fl (lamF (lamE 3) lamQ cells ca (some T)) ["_law_far"] [.int 0] (spLamR K C (WC K 7)) :=
  lok_root (fx := "ceiling_root") (N := ["_law_c", "_law_far"]) (ps := ["_law_c"]) rfl sc_lam3 (lbind1 rfl fun _ _ => ⟨_, rfl, fun _ => rfl⟩) rfl rfl (by decide) (fun _ => rfl) (fun _ => rfl) (fun A outer s H ws E S n d _ hw => by
    obtain ⟨v1, rfl, rfl, q1⟩ := hw
    exact ea_2 ee_int (ee_var 1 rfl q1)) L.ceX
/-- what the four asks answer -/
def triesD (g1 g2 : PyData) : List PyData := [.tuple [.str "InvalidNumber", g1], .tuple [.str "InvalidNumber", g1], .tuple [.str "InvalidNumber", g2], .tuple [.str "InvalidNumber", g2]]
theorem kept_of {F : LF} {g : Addr} {fr : List Str} {dvs : List V} {ws : List (Option V)} {L : List (Addr × Obj)} {S : Hp} (h : AskS F g dvs S) (s : Same S (Y.shownL S L)) (nd : (L.map (·.1)).Nodup) (cl : CellsL F.cl fr ws L) : Kept F g fr dvs ws L (Y.shownL S L) :=
  ⟨s _ _ h.1, s _ _ h.2.1, ⟨h.2.2.1, fun T e => s _ _ (h.2.2.2 T e)⟩, fun p hp => shownL_at hp nd, nd, cl⟩
theorem turn_tries (L : LE P w K mg base C c Pt) (hr : Room 10 (LX P w K mg base f c A outer sh H0 E).A) {g1 g2 : PyData} {v9 v10 va : V} {p pos p2 : Pos} (h9 : σ[9]? = some (some v9)) (h10 : σ[10]? = some (some v10)) (h11 : σ[11]? = some (some va)) (p9 : Dt K g1 v9 S) (p10 : Dt K g2 v10 S) (pa : AsksP (LX P w K mg base f c A outer sh H0 E).env.cells va S)
    (b1 : isNum g1 0 = false) (b2 : (isNum g2 1 && leNum g2 60) = false) : EE (LX P w K mg base f c A outer sh H0 E) σ S (.Call (.Name "_law_tries" p) [.Name "_law_asks" p2] [] pos) (Dt K (.list (triesD g1 g2))) := by
  refine ee_callCells ["_law_odd_here", "_law_far"] (by decide) (fun y hy => ?hk) L.tries (hr.mono (by decide)) (ea_1 (P := AsksP (LX P w K mg base f c A outer sh H0 E).env.cells) (ee_var 11 h11 pa)) (fun ok Ls Cs vs S1 H1 s0 s1 hn al Q q => ?_)
  case hk =>
    rcases List.mem_cons.mp hy with e | e
    · subst e; exact ⟨rfl, rfl⟩
    · rw [List.mem_singleton] at e; subst e; exact ⟨rfl, rfl⟩
  obtain ⟨v, rfl, l, f1, f2, f3, f4, c1, c2, c3, c4, T2, T3, T4, rfl, hl, a1, a2, a3, a4⟩ := al.one
  have hS : Same S1 (Y.shownL S1 Ls) := shownL_subT s1 hn
  have hU : Same S1 (delL (Y.shownL S1 Ls) Ls) := unshow_sub fun p hp => s1.free (hn p hp)
  have w0 : [9, 10].map (slotAt σ) = [some v9, some v10] := by
    show [slotAt σ 9, slotAt σ 10] = _
    rw [slotAt_of h9, slotAt_of h10]
  have w1 : [9].map (slotAt σ) = [some v9] := by
    show [slotAt σ 9] = _
    rw [slotAt_of h9]
  have w2 : [10].map (slotAt σ) = [some v10] := by
    show [slotAt σ 10] = _
    rw [slotAt_of h10]
  have k0 := cellsL_of (js := [9, 10]) (fr := ["_law_odd_here", "_law_far"]) (cl := cloFrom (LX P w K mg base f c A outer sh H0 E).env.cells (lamSc (lamE 0)).names []) ok Cs (Caps.made ok (lam_free 0 (by decide)) (by decide +kernel) rfl) (fun y c e => clo_in (lam_in 0 (by decide)) e) (by decide)
  have k1 := cellsL_of (js := [9]) (fr := ["_law_odd_here"]) (cl := cloFrom (LX P w K mg base f c A outer sh H0 E).env.cells (lamSc (lamE 1)).names []) ok Cs (Caps.made ok (lam_free 1 (by decide)) (by decide +kernel) rfl) (fun y c e => clo_in (lam_in 1 (by decide)) e) (by decide)
  have k2 := cellsL_of (js := [10]) (fr := ["_law_far"]) (cl := cloFrom (LX P w K mg base f c A outer sh H0 E).env.cells (lamSc (lamE 2)).names []) ok Cs (Caps.made ok (lam_free 2 (by decide)) (by decide +kernel) rfl) (fun y c e => clo_in (lam_in 2 (by decide)) e) (by decide)
  have k3 := cellsL_of (js := [10]) (fr := ["_law_far"]) (cl := cloFrom (LX P w K mg base f c A outer sh H0 E).env.cells (lamSc (lamE 3)).names []) ok Cs (Caps.made ok (lam_free 3 (by decide)) (by decide +kernel) rfl) (fun y c e => clo_in (lam_in 3 (by decide)) e) (by decide)
  rw [w0] at k0
  rw [w1] at k1
  rw [w2] at k2 k3
  have q9 := p9.up s0
  have q10 := p10.up s0
  let i1 : AskN P w K mg base C 5 := ⟨g1, f1, lamF (lamE 0) lamQ (LX P w K mg base f c A outer sh H0 E).env.cells c1 none, ["_law_odd_here", "_law_far"], [], [some v9, some v10], Ls, spLamR K C (WA K), S1, lok0 L, fun S2 H2 Q' E' s02 s22 hx => ⟨S2, g1, g2, g1, ⟨v9, v10, rfl, q9.up s02, q10.up s02⟩, s22, .inl ⟨b1, rfl⟩, hx⟩⟩
  let i2 : AskN P w K mg base C 5 := ⟨g1, f2, lamF (lamE 1) lamQ (LX P w K mg base f c A outer sh H0 E).env.cells c2 (some T2), ["_law_odd_here"], [.int 0], [some v9], Ls, spLamR K C (WB K 2), S1, lok1 L, fun S2 H2 Q' E' s02 s22 hx => ⟨S2, g1, .int 2, g1, ⟨v9, rfl, q9.up s02, rfl⟩, s22, .inl ⟨b1, rfl⟩, hx⟩⟩
  let i3 : AskN P w K mg base C 5 := ⟨g2, f3, lamF (lamE 2) lamQ (LX P w K mg base f c A outer sh H0 E).env.cells c3 (some T3), ["_law_far"], [.int 0], [some v10], Ls, spLamR K C (WC K 7), S1, lok2 L, fun S2 H2 Q' E' s02 s22 hx => ⟨S2, .int 7, g2, g2, ⟨v10, rfl, rfl, q10.up s02⟩, s22, .inr ⟨rfl, b2, rfl⟩, hx⟩⟩
  let i4 : AskN P w K mg base C 5 := ⟨g2, f4, lamF (lamE 3) lamQ (LX P w K mg base f c A outer sh H0 E).env.cells c4 (some T4), ["_law_far"], [.int 0], [some v10], Ls, spLamR K C (WC K 7), S1, lok3 L, fun S2 H2 Q' E' s02 s22 hx => ⟨S2, .int 7, g2, g2, ⟨v10, rfl, rfl, q10.up s02⟩, s22, .inr ⟨rfl, b2, rfl⟩, hx⟩⟩
  exact ⟨Y.shownL S1 Ls, [i1, i2, i3, i4], .ref l, shownL_mono s1, rfl, ⟨l, [.ref f1, .ref f2, .ref f3, .ref f4], rfl, hS _ _ hl, .cons ⟨rfl, kept_of a1 hS Cs.nd k0, hU⟩ (.cons ⟨rfl, kept_of a2 hS Cs.nd k1, hU⟩ (.cons ⟨rfl, kept_of a3 hS Cs.nd k2, hU⟩ (.cons ⟨rfl, kept_of a4 hS Cs.nd k3, hU⟩ .nil)))⟩, by show 4 ≤ 1000; decide, fun u S2 H2 g pu => q u S2 H2 g pu⟩
end
end
end K02

namespace K02
open PySem PySem.Spec PyProof.Rows L2 Z Y LamX NdefX
section
variable {P : Program} {w : World} {K : PySem.W.Frag} {mg : Str → Option Value} {base : Heap} {f : Addr} {fd : FuncData}
/-! ### lists of ints, equal or not -/
theorem can_intl : ∀ l : List Int, PyData.canLayAll0 (l.map .int) = true
  | [] => by simp [PyData.canLayAll0]
  | a :: l => by simp [PyData.canLayAll0, PyData.canLay0, can_intl l]
theorem dep_intl : ∀ l : List Int, PyData.depthAll (l.map .int) ≤ 1
  | [] => by simp [PyData.depthAll]
  | a :: l => by have := dep_intl l; simp [PyData.depthAll, PyData.depth]; omega
theorem shaped_lI (l : List Int) : SeqAt.shaped (lI l) = true := by
  unfold SeqAt.shaped lI
  rw [Bool.and_eq_true, decide_eq_true_eq]
  have := dep_intl l
  exact ⟨by simp [PyData.canLay0, can_intl], by simp [PyData.depth]; omega⟩
theorem eqv_lI (l : List Int) : PyData.eqv (lI l) (lI l) = true := SeqAt.eqv_refl _ (by simp [lI, PyData.canLay0, can_intl])
theorem eqv_lI_nil {l : List Int} (h : l ≠ []) : PyData.eqv (lI l) (lI []) = false := by
  unfold lI
  rw [PyData.eqv]
  exact SeqAt.eqvAll_other_length (by
    cases l with
    | nil => exact absurd rfl h
    | cons a l => simp)
theorem shaped_bl (b : Bool) : SeqAt.shaped (.bool b) = true := by cases b <;> decide +kernel
section
variable {X : Cx} {σ : L2.St} {S : Hp} {a b tg : Expr} {p pos : Pos} {i j : Int}
theorem ee_subE {F : Int → Prop} (ha : EE X σ S a (Ex X.K fun d => ∃ i, d = .int i ∧ F i)) (hb : EE X σ S b (Dt X.K (.int j))) : EE X σ S (.BinOp a .Sub b pos) (Ex X.K fun d => ∃ i, d = .int (i - j) ∧ F i) :=
  ee_op op_sub ha hb fun v w S1 H1 _ s ⟨d, ⟨i, e, fi⟩, pv⟩ pw Q q => by
    subst e
    cases pv; cases pw
    exact ⟨i, j, rfl, rfl, q _ S1 H1 (Gr.refl s) ⟨_, ⟨i, rfl, fi⟩, .int _⟩⟩
theorem ee_mulE {G : PyData → Prop} (hG : ∀ d, G d → ∃ j, d = .int j ∧ CMul i j) (ha : EE X σ S a (Dt X.K (.int i))) (hb : EE X σ S b (Ex X.K G)) : EE X σ S (.BinOp a .Mult b pos) (Ex X.K fun d => ∃ j, G (.int j) ∧ d = .int (i * j)) :=
  ee_op op_mul ha hb fun v w S1 H1 _ s pv ⟨d, gd, pw⟩ Q q => by
    obtain ⟨j, rfl, hc⟩ := hG d gd
    cases pv; cases pw
    exact ⟨i, j, rfl, rfl, hc, q _ S1 H1 (Gr.refl s) ⟨_, ⟨j, gd, rfl⟩, .int _⟩⟩
/-- a, a + 1, .. below a + n -/
def from_ (a : Int) (n : Nat) : List Int := (List.range n).map fun i => a + (i : Nat)
theorem ei_range2 {n : Nat} (hm : X.mg "range" = none) (h1 : -(2 ^ 62) ≤ i ∧ i < 2 ^ 62 ∧ -(2 ^ 62) ≤ j ∧ j < 2 ^ 62) (hn : j = i + n) (ha : EE X σ S a (Dt X.K (.int i))) (hb : EE X σ S b (Dt X.K (.int j))) (hg : Gl X "range" := by rfl) (hs : starEach [a, b] X.env = [(false, eval a X.env), (false, eval b X.env)] := by rfl) (hs2 : starEach [b] X.env = [(false, eval b X.env)] := by rfl) :
    EI X σ S tg (.Call (.Name "range" p) [a, b] [] pos) (Ds X.K ((from_ i n).map .int)) := fun H s R q =>
  hi_of (pi_range2 hg hm pab hs hs2) ((ea_2 ha hb (by rw [hs, hs2]) (by rw [hs2]; rfl)).2 H s _ fun vs S1 H1 g1 al => by
    obtain ⟨v, w, rfl, pv, pw⟩ := al.two
    cases pv; cases pw
    have hlen : (Ds X.K ((from_ i n).map .int)).length = n := by rw [ds_len]; unfold from_; simp
    refine ⟨i, j, rfl, h1, q _ S1 H1 g1 ⟨fun k H hk hs => ?_, fun H hs => ?_, fun k H x H' hk hs y T st th => ?_⟩⟩
    · rw [hlen] at hk
      show k < (j - i).toNat
      omega
    · rw [hlen]
      show (j - i).toNat ≤ n
      omega
    · rw [hlen] at hk
      obtain ⟨rfl, rfl⟩ : H' = H ∧ x = .int (i + (k : Int)) := y
      refine ⟨T, Gr.refl th, _, ds_get (d := .int (i + (k : Int))) ?_, .int _⟩
      unfold from_
      rw [List.map_map, List.getElem?_map, List.getElem?_range hk]
      rfl)
end
section
variable {C c Pt : Addr} {A : Around} {outer : List Env} {sh : Shared} {H0 : Hp} {E : XK} {vs vb : V} {S H : Hp} {D : Ends} {rest : List Stmt}
/-- is_number, asked -/
theorem turn_c (L : LE P w K mg base C c Pt) (hr : Room 10 (LX P w K mg base f c A outer sh H0 E).A) {a2 a3 a4 a5 a6 a7 a8 a9 a10 a11 a12 a13 a14 a15 a16 a17 a18 a19 a20 a21 : Option V} (s : Same S H) (hb : BX vb S)
    (nx : ∀ v12 v13 v14 S' H', Gr S H S' H' → HS (LX P w K mg base f c A outer sh H0 E) D rest [some vs, some vb, a2, a3, a4, a5, a6, a7, a8, a9, a10, a11, v12, v13, v14, a15, a16, a17, a18, a19, a20, a21] H') :
    HS (LX P w K mg base f c A outer sh H0 E) D (stAt turnBody 7 :: stAt turnBody 8 :: stAt turnBody 9 :: rest) [some vs, some vb, a2, a3, a4, a5, a6, a7, a8, a9, a10, a11, a12, a13, a14, a15, a16, a17, a18, a19, a20, a21] H := by
  refine hs_par (i := 12) (j := 13) (Pa := Ex K fun d => ∃ i : Int, d = .int i) (Pb := Ex K fun d => Bd 1 d) rfl sc_law.nd ((ee_subE (F := fun i => 0 ≤ i ∧ i < 9) (ee_callBx L.take (hr.mono (by decide)) ⟨9, rfl, by decide, by decide, rfl⟩ (ea_2 (ee_var 1 rfl hb) ee_int)) ee_int).exi fun d ⟨i, e, _⟩ => ⟨_, e⟩)
    ((ee_callBx L.odd (hr.mono (by decide)) ⟨[.int 3, .int 0, .int (-2), .int 4, .int (10 ^ 17)], rfl, by decide, rfl⟩ (ea_2 (ee_var 1 rfl hb) (ee_lst (ds := [.int 3, .int 0, .int (-2), .int 4, .int (10 ^ 17)]) (ea_cons ee_int (ea_cons ee_int (ea_cons (ee_neg ee_int) (ea_cons ee_int (ea_cons (ee_pow (by exact ⟨by decide, by decide, by decide⟩) ee_int ee_int) ea_nil)))))))).exi fun d hd => ?bd) s rfl fun v12 v13 S1 H1 g1 p12 p13 => ?_
  case bd =>
    unfold oddL at hd
    simp only [List.cons_append, List.nil_append, List.mem_cons, List.not_mem_nil, or_false] at hd
    rcases hd with rfl | rfl | rfl | rfl | rfl | rfl | rfl | rfl | rfl | rfl | rfl | rfl | rfl | rfl | rfl | rfl <;> simp [Bd]
  obtain ⟨_, ⟨l, rfl⟩, p12⟩ := p12
  obtain ⟨d, hd, p13⟩ := p13
  refine hs_set (i := 14) (P := Dt K (.bool (isNum d l))) ((ee_and (ee_isi (isD_ok d (T := "int") (by simp)) L.fisi L.fint boot_int (ee_var 13 rfl p13)) fun h1 => ee_and (ee_not (ee_isi (isD_ok d (T := "bool") (by simp)) L.fisi L.fbool boot_bool (ee_var 13 rfl p13))) fun h2 => ee_one (P := Dt K (.bool (isNum d l))) ?ge).isd ?eq) g1.sub sc_law.nd fun v14 S2 H2 g2 p14 => ?_
  case ge => cases d <;> first | (exact ee_ge (ee_var 13 rfl p13) (ee_var 12 rfl p12)) | (exfalso; simp [isDi, isDb] at h1 h2; done)
  case eq => cases d <;> rfl
  have p12 := p12.up g2.st
  have p13 := p13.up g2.st
  refine hs_ifN ((et_not (et_val (ee_callD (L.same 2) (hr.mono (by decide)) ⟨.list [.bool (isNum d l), .bool (isNum d l)], rfl, fun x hx => ?bs, rfl⟩ (ea_2
    (ee_lst (ds := [.bool (isNum d l), .bool (isNum d l)]) (ea_2 (ee_callD L.isn (hr.mono (by decide)) ⟨d, l, rfl, rfl⟩ (ea_2 (ee_var 13 rfl p13) (ee_var 12 rfl p12))) (ee_callK2 L.isnK (hr.mono (by decide)) (ee_var 12 rfl p12) (ee_var 13 rfl p13) (spD_E (X := LX P w K mg base f c A outer sh H0 E) (F := FisNumber) (ds := [d, .int l]) (d := .bool (isNum d l)) ⟨d, l, rfl, rfl⟩))))
    (ee_lst (ds := [.bool (isNum d l), .bool (isNum d l)]) (ea_2 (ee_var 14 rfl p14) (ee_var 14 rfl p14))))))).is (by rfl)) g2.sub fun S3 H3 g3 => nx _ _ _ S3 H3 ((g1.trans g2).trans g3)
  case bs =>
    simp only [List.mem_cons, List.not_mem_nil, or_false] at hx
    rcases hx with rfl | rfl <;> trivial
end
end
end K02

namespace K02
open PySem PySem.Spec PyProof.Rows L2 Z Y LamX NdefX
section
variable {P : Program} {w : World} {K : PySem.W.Frag} {mg : Str → Option Value} {base : Heap} {f : Addr} {fd : FuncData}
theorem noTab_mono {S H : Hp} (s : Same S H) (n : ∀ a ps, S a ≠ some (.tbl ps)) : Same S (Y.noTab H) := fun a o e => noTab_at (s a o e) fun ps z => n a ps (by rw [e, z])
theorem bd_same {g1 g2 : PyData} (h1 : Bd 1 g1) (h2 : Bd 1 g2) : Bd 3 (.list (triesD g1 g2)) := fun x hx => by
  have key : ∀ g, Bd 1 g → Bd 2 (.tuple [.str "InvalidNumber", g]) := fun g hg y hy => by
    simp only [List.mem_cons, List.not_mem_nil, or_false] at hy
    rcases hy with rfl | rfl
    · trivial
    · exact hg
  unfold triesD at hx
  simp only [List.mem_cons, List.not_mem_nil, or_false] at hx
  rcases hx with rfl | rfl | rfl | rfl
  · exact key _ h1
  · exact key _ h1
  · exact key _ h2
  · exact key _ h2
section
variable {C c Pt : Addr} {A : Around} {outer : List Env} {sh : Shared} {H0 : Hp} {E : XK} {vs vb : V} {S H : Hp} {D : Ends} {rest : List Stmt}
/-- the asks, told -/
theorem turn_b (L : LE P w K mg base C c Pt) (hr : Room 10 (LX P w K mg base f c A outer sh H0 E).A) {a2 a3 a4 a5 a6 a7 a8 a9 a10 a11 a12 a13 a14 a15 a16 a17 a18 a19 a20 a21 : Option V} (s : Same S H) (hb : BX vb S) (hT : TabsN [(Pt, nmL)] H)
    (nx : ∀ v9 v10 v11 Sf Hf, Same Sf Hf → BX vb Sf → TabsN [(Pt, nmL)] Hf → HS (LX P w K mg base f c A outer sh H0 E) D rest [some vs, some vb, a2, a3, a4, a5, a6, a7, a8, v9, v10, v11, a12, a13, a14, a15, a16, a17, a18, a19, a20, a21] Hf) :
    HS (LX P w K mg base f c A outer sh H0 E) D (stAt turnBody 4 :: stAt turnBody 5 :: stAt turnBody 6 :: rest) [some vs, some vb, a2, a3, a4, a5, a6, a7, a8, a9, a10, a11, a12, a13, a14, a15, a16, a17, a18, a19, a20, a21] H := by
  refine hs_unp2 (i := 9) (j := 10) (Pa := Ex K fun d => isNum d 0 = false ∧ Bd 1 d) (Pb := Ex K fun d => (isNum d 1 && leNum d 60) = false ∧ Bd 1 d) rfl sc_law.nd
    ((ee_callBx L.odd (hr.mono (by decide)) ⟨[.int (-3)], rfl, by decide, rfl⟩ (ea_2 (ee_var 1 rfl hb) (ee_lst (ds := [.int (-3)]) (ea_1 (ee_neg ee_int))))).exi fun d hd => ?odd)
    ((ee_callBx L.one (hr.mono (by decide)) ⟨[.int 0, .int (-1), .int 61, .bool true, .none, .str "2", .int (10 ^ 9)], rfl, by decide, by decide, rfl⟩ (ea_2 (ee_var 1 rfl hb) (ee_lst (ds := [.int 0, .int (-1), .int 61, .bool true, .none, .str "2", .int (10 ^ 9)]) (ea_cons ee_int (ea_cons (ee_neg ee_int) (ea_cons ee_int (ea_cons ee_bl (ea_cons ee_non (ea_cons ee_str (ea_cons (ee_pow (by exact ⟨by decide, by decide, by decide⟩) ee_int ee_int) ea_nil)))))))))).exi fun d hd => ?far) s fun v9 v10 S1 H1 p9 p10 g1 => ?_
  case odd =>
    unfold oddL at hd
    simp only [List.cons_append, List.nil_append, List.mem_cons, List.not_mem_nil, or_false] at hd
    rcases hd with rfl | rfl | rfl | rfl | rfl | rfl | rfl | rfl | rfl | rfl | rfl | rfl <;> exact ⟨by decide +kernel, by simp [Bd]⟩
  case far =>
    simp only [List.mem_cons, List.not_mem_nil, or_false] at hd
    rcases hd with rfl | rfl | rfl | rfl | rfl | rfl | rfl <;> exact ⟨by decide +kernel, by simp [Bd]⟩
  obtain ⟨g9, ⟨o1, o2⟩, p9⟩ := p9
  obtain ⟨g10, ⟨r1, r2⟩, p10⟩ := p10
  have hT1 : TabsN [(Pt, nmL)] H1 := hT.ext g1.hh
  have hb1 : BX vb (Y.noTab S1) := bx_noTab (Mn.up g1.st hb)
  have p9 := dt_noTab p9
  have p10 := dt_noTab p10
  have s1 : Same (Y.noTab S1) H1 := noTab_sub.trans g1.sub
  refine turn_asks L hT1 fun v11 Hf xf hTf pa => ?_
  have sf : Same (Y.noTab S1) (Y.noTab Hf) := noTab_mono (ext_same s1 (fun _ _ => noTab_no) xf) fun _ _ => noTab_no
  have hbf := Mn.up sf hb1
  have p9 := p9.up sf
  have p10 := p10.up sf
  refine hs_ifN ((et_not (et_val (ee_callD (L.same 3) (hr.mono (by decide)) ⟨.list (triesD g9 g10), rfl, bd_same o2 r2, rfl⟩ (ea_2 (turn_tries L hr rfl rfl rfl p9 p10 pa o1 r1)
    (ee_lst (ds := triesD g9 g10) (ea_cons (ee_tup (ds := [.str "InvalidNumber", g9]) (ea_2 ee_str (ee_var 9 rfl p9))) (ea_cons (ee_tup (ds := [.str "InvalidNumber", g9]) (ea_2 ee_str (ee_var 9 rfl p9))) (ea_cons (ee_tup (ds := [.str "InvalidNumber", g10]) (ea_2 ee_str (ee_var 10 rfl p10))) (ea_cons (ee_tup (ds := [.str "InvalidNumber", g10]) (ea_2 ee_str (ee_var 10 rfl p10))) ea_nil))))))))).is (by rfl)) noTab_sub fun S3 H3 g3 => ?_
  exact nx _ _ _ S3 H3 g3.sub (Mn.up g3.st hbf) (hTf.ext g3.hh)
end
end
end K02

namespace K02
open PySem PySem.Spec PyProof.Rows L2 Z Y LamX NdefX
section
variable {P : Program} {w : World} {K : PySem.W.Frag} {mg : Str → Option Value} {base : Heap} {f : Addr} {fd : FuncData}
theorem ints_of {F : PyData → Prop} (hF : ∀ d, F d → ∃ i, d = .int i) : ∀ {ds : List PyData}, (∀ d ∈ ds, F d) → ∃ l : List Int, ds = l.map .int
  | [], _ => ⟨[], rfl⟩
  | d :: ds, h => by
    obtain ⟨l, e⟩ := ints_of hF (ds := ds) fun x hx => h x (List.mem_cons_of_mem _ hx)
    obtain ⟨i, rfl⟩ := hF d (h d List.mem_cons_self)
    exact ⟨i :: l, by rw [e]; rfl⟩
theorem paired_len {α β : Type} {G : α → β → Prop} {l : List α} {r : List β} (h : Paired G l r) : r.length = l.length := by
  induction h with
  | nil => rfl
  | cons _ _ ih => simp [ih]
theorem paired_mem {α β : Type} {G : α → β → Prop} {l : List α} {r : List β} (h : Paired G l r) : ∀ y ∈ r, ∃ x, G x y := by
  induction h with
  | nil => intro y hy; cases hy
  | cons g _ ih =>
    intro y hy
    rcases List.mem_cons.mp hy with e | e
    · subst e; exact ⟨_, g⟩
    · exact ih y e
def unInt (d : PyData) : Int := match d with
  | .int i => i
  | _ => 0
theorem big_lt {x : Int} (h : 0 ≤ x ∧ x ≤ (12000000000 * 35 : Nat)) : x.natAbs < 2 ^ 1000 := by
  have h3 : x.natAbs < 2 ^ 64 := by
    have e : (2 : Nat) ^ 64 = 18446744073709551616 := by decide
    omega
  exact Nat.lt_trans h3 (Nat.pow_lt_pow_right (by decide) (by decide))
section
variable {C c Pt : Addr} {A : Around} {outer : List Env} {sh : Shared} {H0 : Hp} {E : XK} {vs vb : V} {S H : Hp} {D : Ends} {rest : List Stmt}
/-- the small common numbers -/
theorem turn_d (L : LE P w K mg base C c Pt) (hr : Room 10 (LX P w K mg base f c A outer sh H0 E).A) {a2 a3 a4 a5 a6 a7 a8 a9 a10 a11 a12 a13 a14 a15 a16 a17 a18 a19 a20 a21 : Option V} (s : Same S H) (hb : BX vb S)
    (nx : ∀ (v15 v16 : V) (l : List Int) S' H', Gr S H S' H' → Dt K (lI l) v16 S' → l.length ≤ 4 → (∀ x ∈ l, 0 ≤ x ∧ x ≤ (12000000000 * 35 : Nat)) → HS (LX P w K mg base f c A outer sh H0 E) D rest [some vs, some vb, a2, a3, a4, a5, a6, a7, a8, a9, a10, a11, a12, a13, a14, some v15, some v16, a17, a18, a19, a20, a21] H') :
    HS (LX P w K mg base f c A outer sh H0 E) D (stAt turnBody 10 :: stAt turnBody 11 :: rest) [some vs, some vb, a2, a3, a4, a5, a6, a7, a8, a9, a10, a11, a12, a13, a14, a15, a16, a17, a18, a19, a20, a21] H := by
  refine hs_set (i := 15) (P := Ex K fun d => ∃ i : Int, d = .int i ∧ 1 ≤ i ∧ i ≤ 12) ((ee_addE (F := fun i => i = 1) (G := fun i => 0 ≤ i ∧ i < 12) (ee_int.ex ⟨1, rfl, rfl⟩) (ee_callBx L.take (hr.mono (by decide)) ⟨12, rfl, by decide, by decide, rfl⟩ (ea_2 (ee_var 1 rfl hb) ee_int))).exi fun d ⟨i, e, x, y, hx, hy, hi⟩ => ⟨i, e, by omega, by omega⟩) s sc_law.nd fun v15 S1 H1 g1 p15 => ?_
  obtain ⟨_, ⟨cm, rfl, c1, c2⟩, p15⟩ := p15
  have hb1 := Mn.up g1.st hb
  refine hs_set (i := 16) (P := Ex K fun d => ∃ rs, d = .list rs ∧ ∃ ds, (∃ n, n < 5 ∧ ds = upto n) ∧ Paired (fun _ r => ∃ j : Int, r = .int (cm * j) ∧ 0 ≤ j ∧ j ≤ 1000000000) ds rs) (ee_lcW (i := 17) rfl sc_law.nd (blkOk_by (N := NL) (sc := defScope slaw) (by decide +kernel)) (W := fun ds => ∃ n, n < 5 ∧ ds = upto n)
    (eiw_range L.frange (fun n hn => by omega) ((ee_callBx L.take (hr.mono (by decide)) ⟨5, rfl, by decide, by decide, rfl⟩ (ea_2 (ee_var 1 rfl hb1) ee_int)).exi fun d ⟨n, e, n0, n5⟩ => ⟨n.toNat, by rw [e, Int.toNat_of_nonneg n0], by omega⟩)) (fun ds ⟨n, h, e⟩ => by rw [e, upto_len]; show n ≤ 16777216; omega) ?el) g1.sub sc_law.nd fun v16 S2 H2 g2 p16 => ?_
  case el =>
    intro ds _ x _ v S3 s3 _ sh' H0' C' cl fp
    have e64 : (2 : Int) ^ 64 = 18446744073709551616 := by decide
    refine EE.exi (F := fun d => ∃ j, (∃ j' : Int, PyData.int j = .int j' ∧ 0 ≤ j' ∧ j' ≤ 1000000000) ∧ d = .int (cm * j)) (ee_mulE (i := cm) (G := fun d => ∃ j : Int, d = .int j ∧ 0 ≤ j ∧ j ≤ 1000000000) (fun d ⟨j, e, j0, j1⟩ => ⟨j, e, .inl (by omega)⟩) (ee_var 15 rfl (p15.up s3)) ?one) (fun d ⟨j, ⟨j', e, j0, j1⟩, ed⟩ => by cases e; exact ⟨j, ed, j0, j1⟩)
    refine EE.exi (ee_callBx L.one (hr.mono (by decide)) ⟨[.int 0, .int 1, .int 2, .int 6, .int 35, .int (10 ^ 9)], rfl, by decide, by decide, rfl⟩ (ea_2 (ee_var 1 rfl (Mn.up s3 hb1)) (ee_lst (ds := [.int 0, .int 1, .int 2, .int 6, .int 35, .int (10 ^ 9)]) (ea_cons ee_int (ea_cons ee_int (ea_cons ee_int (ea_cons ee_int (ea_cons ee_int (ea_cons (ee_pow (by exact ⟨by decide, by decide, by decide⟩) ee_int ee_int) ea_nil))))))))) fun d hd => ?_
    simp only [List.mem_cons, List.not_mem_nil, or_false] at hd
    rcases hd with rfl | rfl | rfl | rfl | rfl | rfl <;> exact ⟨_, rfl, by decide, by decide⟩
  obtain ⟨_, ⟨rs, rfl, ds, ⟨n, n5, rfl⟩, hp⟩, p16⟩ := p16
  obtain ⟨l, rfl⟩ := ints_of (F := fun d => ∃ i, d = .int i) (fun d h => h) (ds := rs) fun d hd => by
    obtain ⟨_, j, e, _⟩ := paired_mem hp d hd
    exact ⟨_, e⟩
  refine nx _ _ l S2 H2 (g1.trans g2) p16 (by have := paired_len hp; rw [List.length_map, upto_len] at this; omega) fun x hx => ?_
  obtain ⟨_, j, e, j0, j1⟩ := paired_mem hp (.int x) (List.mem_map.mpr ⟨x, hx, rfl⟩)
  cases e
  refine ⟨Int.mul_nonneg (by omega) j0, ?_⟩
  have h1 : cm * j ≤ 12 * j := Int.mul_le_mul_of_nonneg_right c2 j0
  omega
end
end
end K02

namespace K02
open PySem PySem.Spec PyProof.Rows L2 Z Y LamX NdefX
section
variable {P : Program} {w : World} {K : PySem.W.Frag} {mg : Str → Option Value} {base : Heap} {f : Addr} {fd : FuncData}
/-- the steps that divide all -/
def divD (l : List Int) (d : PyData) : Bool := divB l (unInt d)
theorem from_mem {d : PyData} (h : d ∈ (from_ 2 11).map PyData.int) : ∃ s : Int, d = .int s ∧ 2 ≤ s := by
  obtain ⟨i, hi, rfl⟩ := List.mem_map.mp h
  unfold from_ at hi
  obtain ⟨k, _, rfl⟩ := List.mem_map.mp hi
  exact ⟨_, rfl, by omega⟩
theorem divs_low {l : List Int} (h : anyNz l = true) : (((from_ 2 11).map PyData.int).filter (divD (lowI l))).map unInt = [] := by
  have e : ((from_ 2 11).map PyData.int).filter (divD (lowI l)) = [] := by
    rw [List.filter_eq_nil_iff]
    intro d hd
    obtain ⟨s, rfl, hs⟩ := from_mem hd
    show ¬ (divB (lowI l) s = true)
    rw [divB_low h hs]
    exact Bool.false_ne_true
  rw [e]; rfl
theorem divs_zero {l : List Int} (h : anyNz l = false) : (((from_ 2 11).map PyData.int).filter (divD (lowI l))).map unInt ≠ [] := by
  rw [lowI_zero h]
  have e : ((from_ 2 11).map PyData.int).filter (divD l) = (from_ 2 11).map PyData.int := by
    rw [List.filter_eq_self]
    intro d hd
    obtain ⟨s, rfl, hs⟩ := from_mem hd
    exact divB_zero h s
  rw [e]
  decide
def divSc : Scope := match stAt turnBody 13 with
  | .Assign _ (.ListComp _ _ sc _) _ => sc
  | _ => default
def itemSc : Scope := match stAt turnBody 13 with
  | .Assign _ (.ListComp _ [⟨_, _, [.Call _ [.ListComp _ _ sc _] _ _], _⟩] _ _) _ => sc
  | _ => default
theorem blk_item : blkC NL divSc itemSc [("_law_item", 21)] = true := by decide +kernel
theorem lI_len (l : List Int) : (l.map PyData.int).length = l.length := List.length_map ..
section
variable {C c Pt : Addr} {A : Around} {outer : List Env} {sh : Shared} {H0 : Hp} {E : XK} {vs vb : V} {S H : Hp} {D : Ends} {rest : List Stmt}
/-- lowest, asked -/
theorem turn_e (L : LE P w K mg base C c Pt) (hr : Room 10 (LX P w K mg base f c A outer sh H0 E).A) {l : List Int} (hl : l.length ≤ 4) (hx : ∀ x ∈ l, 0 ≤ x ∧ x ≤ (12000000000 * 35 : Nat)) {a2 a3 a4 a5 a6 a7 a8 a9 a10 a11 a12 a13 a14 a15 a17 a18 a19 a20 a21 : Option V} {v16 : V} (s : Same S H) (p16 : Dt K (lI l) v16 S)
    (nx : ∀ v6 v18 v19 v20 v21 S' H', Gr S H S' H' → D.nx [some vs, some vb, a2, a3, a4, a5, v6, a7, a8, a9, a10, a11, a12, a13, a14, a15, some v16, a17, v18, v19, v20, v21] H') :
    HS (LX P w K mg base f c A outer sh H0 E) D [stAt turnBody 12, stAt turnBody 13, stAt turnBody 14, stAt turnBody 15] [some vs, some vb, a2, a3, a4, a5, a6, a7, a8, a9, a10, a11, a12, a13, a14, a15, some v16, a17, a18, a19, a20, a21] H := by
  have hlow := lowI_bd (B := 12000000000 * 35) hx
  have hz : ∀ m : List Int, m.length ≤ 4 → (m.map PyData.int).length ≤ sizeLine := fun m hm => by rw [lI_len]; show _ ≤ 16777216; omega
  refine hs_unp2 (i := 6) (j := 18) (Pa := Dt K (lI (lowI l))) (Pb := Dt K (lI l)) rfl sc_law.nd (ee_callD L.low (hr.mono (by decide)) ⟨l, .inl rfl, rfl, by omega, fun x h => big_lt (hx x h)⟩ (ea_1 (ee_var 16 rfl p16))) (ee_list L.flist (.inl rfl) (ee_var 16 rfl p16)) s fun v6 v18 S1 H1 p6 p18 g1 => ?_
  have p16 := p16.up g1.st
  refine hs_setLcG (i := 19) (own := [("_law_step", 20)]) (p := divD (lowI l)) (G := fun d r => r = .int (unInt d)) rfl sc_law.nd rfl rfl rfl (blkOk_by (N := NL) (sc := defScope slaw) (by decide +kernel)) (ei_range2 (n := 11) L.frange (by decide) rfl ee_int ee_int) (by decide) ?el g1.sub fun v19 S2 H2 g2 p19 => ?_
  case el =>
    intro d hd v S3 s3 pv
    obtain ⟨t, rfl, ht⟩ := from_mem hd
    refine ⟨_, wipe1, fun sh' H0' C' cl fp => ⟨eg_name (i := 20) sc_law.nd rfl (by first | exact Or.inl rfl | exact Or.inr rfl) (by first | exact .inl rfl | exact .inr rfl), ?_, fun _ => (ee_var 20 rfl pv).imp fun w S4 hw => ⟨_, rfl, hw⟩⟩⟩
    refine ets_one ((et_val (ee_all (bs := (lowI l).map fun x => decide (x % t = 0)) rfl L.fall (((ee_lc (i := 21) (enc := .bool) (f := fun d => decide (unInt d % t = 0)) rfl sc_law.nd ?blk (ei_list (ee_var 6 rfl (p6.up s3))) (hz _ (by rw [lowI_len]; exact hl)) ?el2)).isd ?eq))).is ?eq2)
    case blk => exact blkOk_by blk_item
    case el2 =>
      intro d2 hd2 u S4 s4 pu sh2 H02 C2 cl2 fp2
      obtain ⟨x, _, rfl⟩ := List.mem_map.mp hd2
      exact ee_eqI (ee_mod (by omega) (ee_intOf L.fint (ee_var 21 rfl pu)) (ee_var 20 rfl (pv.up s4))) ee_int
    case eq => rw [List.map_map, List.map_map, List.map_map]; rfl
    case eq2 =>
      rw [map_all]
      rfl
  have p19 : Dt K (lI ((((from_ 2 11).map PyData.int).filter (divD (lowI l))).map unInt)) v19 S2 := by
    have e := fun_of_G (f := fun d => PyData.int (unInt d)) p19
    unfold lI
    rw [List.map_map]
    exact e
  have p6 := p6.up g2.st
  have p16 := p16.up g2.st
  have p18 := p18.up g2.st
  have anyS : ∀ {S' : Hp} {pos p p2 : Pos} {b20 b21 : Option V}, Same S2 S' → EE (LX P w K mg base f c A outer sh H0 E) [some vs, some vb, a2, a3, a4, a5, some v6, a7, a8, a9, a10, a11, a12, a13, a14, a15, some v16, a17, some v18, some v19, b20, b21] S' (.Call (.Name "any" p) [.Name "_law_some" p2] [] pos) (Dt K (.bool (anyNz l))) := fun s' => ee_anyI rfl L.fany (ee_var 16 rfl (p16.up s'))
  refine hs_ifN ((et_w (ew_or (et_ne hr (shaped_lI l) (shaped_lI l) (ee_var 16 rfl p16) (ee_var 18 rfl p18)) fun _ => ew_or (et_neI (ee_len L.flen rfl (ee_var 6 rfl p6)) (ee_len L.flen rfl (ee_var 16 rfl p16))) fun _ =>
    ew_or1 (et_ne hr (shaped_bl _) (shaped_bl _) (ee_ne hr (shaped_lI _) (shaped_lI []) (ee_var 19 rfl p19) (ee_lst (ds := []) ea_nil)) (ee_not (anyS (Same.refl S2)))))).is ?b1) g2.sub fun S3 H3 g3 => ?_
  case b1 =>
    rw [eqv_lI, lI_len, lI_len, lowI_len]
    cases h : anyNz l with
    | true => rw [divs_low h, eqv_lI]; simp [PyData.eqv]
    | false => rw [eqv_lI_nil (divs_zero h)]; simp [PyData.eqv]
  have p6 := p6.up g3.st
  have p16 := p16.up g3.st
  have e64 : (2 : Int) ^ 64 = 18446744073709551616 := by decide
  refine hs_ifN ((et_w (ew_or (k1 := false) (k2 := false) ((et_w (ew_and (k1 := anyNz l) (k2 := false) (et_val (anyS g3.st)) fun h => ew_and1 ((et_ne hr (shaped_lI (l.map fun x => x * (lowI l).sum)) (shaped_lI ((lowI l).map fun x => x * l.sum)) ?c1 ?c2).is ?e1))).is (by cases anyNz l <;> rfl)) fun _ =>
    ew_or1 ((et_w (ew_and (k1 := !anyNz l) (k2 := false) (et_not (et_val (anyS g3.st))) fun h => ew_and1 ((et_ne hr (shaped_lI (lowI l)) (shaped_lI l) (ee_var 6 rfl p6) (ee_var 16 rfl p16)).is ?e2))).is (by cases anyNz l <;> rfl)))).is (by rfl)) g3.sub fun S4 H4 g4 => hs_nil (nx _ _ _ _ _ S4 H4 (((g1.trans g2).trans g3).trans g4))
  case e1 => rw [low_sum h, eqv_lI]; rfl
  case e2 => rw [lowI_zero (by simpa using h), eqv_lI]; rfl
  case c1 =>
    refine (ee_lc (i := 21) (enc := .int) (f := fun d => unInt d * (lowI l).sum) rfl sc_law.nd (blkOk_by (N := NL) (sc := defScope slaw) (by decide +kernel)) (ei_list (ee_var 16 rfl p16)) (hz _ hl) ?el3).isd (by unfold lI; rw [List.map_map, List.map_map, List.map_map]; rfl)
    intro d hd v S4 s4 pv sh' H0' C' cl fp
    obtain ⟨x, hxl, rfl⟩ := List.mem_map.mp hd
    have hb := hx x hxl
    exact ee_mulS (.inl (by show -(2 ^ 64) < x ∧ x < 2 ^ 64; omega)) (ee_var 21 rfl pv) (ee_sum rfl L.fsum (ee_var 6 rfl (p6.up s4)))
  case c2 =>
    refine (ee_lc (i := 21) (enc := .int) (f := fun d => unInt d * l.sum) rfl sc_law.nd (blkOk_by (N := NL) (sc := defScope slaw) (by decide +kernel)) (ei_list (ee_var 6 rfl p6)) (hz _ (by rw [lowI_len]; exact hl)) ?el4).isd (by unfold lI; rw [List.map_map, List.map_map, List.map_map]; rfl)
    intro d hd v S4 s4 pv sh' H0' C' cl fp
    obtain ⟨x, hxl, rfl⟩ := List.mem_map.mp hd
    have hb := hlow x hxl
    exact ee_mulS (.inl (by show -(2 ^ 64) < x ∧ x < 2 ^ 64; omega)) (ee_var 21 rfl pv) (ee_sum rfl L.fsum (ee_var 16 rfl (p16.up s4)))
end
end
end K02

namespace K02
open PySem PySem.Spec PyProof.Rows L2 Z Y LamX NdefX
section
variable {P : Program} {w : World} {K : PySem.W.Frag} {mg : Str → Option Value} {base : Heap} {f : Addr} {fd : FuncData}
def spLaw (K : PySem.W.Frag) (Pt : Addr) : Sp := fun vs H Q _ => ∃ (a : Addr) (ns : List Int), vs = [.ref a] ∧ SqL K H a (ns.map V.int) ∧ ns.length ≤ 63 ∧ H Pt = some (.tbl #[]) ∧ ∀ H', Q (.bl true) H'
def OSt (vs vb : V) (σ : L2.St) : Prop := ∃ a2 a3 a4 a5 a6 a7 a8 a9 a10 a11 a12 a13 a14 a15 a16 a17 a18 a19 a20 a21, σ = [some vs, some vb, a2, a3, a4, a5, a6, a7, a8, a9, a10, a11, a12, a13, a14, a15, a16, a17, a18, a19, a20, a21]
def endD : List PyData := [.int 0, .int 0, .int (10 ^ 20), lI [2, 0, 3], lI [0, 0], lI []]
theorem root_end1 : RootOf 0 3 0 := by unfold RootOf; decide +kernel
theorem root_end2 : RootOf (10 ^ 40) 2 (10 ^ 20) := by unfold RootOf; decide +kernel
theorem nb_end0 : (0 : Int).natAbs < 2 ^ 1000 := Nat.pow_pos (by decide)
theorem nb_end : ((10 : Int) ^ 40).natAbs < 2 ^ 1000 := by
  have h : ((10 : Int) ^ 40).natAbs < 2 ^ 200 := by decide +kernel
  exact Nat.lt_trans h (Nat.pow_lt_pow_right (by decide) (by decide))
theorem nb_small {x : Int} (h : x.natAbs ≤ 9) : x.natAbs < 2 ^ 1000 := Nat.lt_of_lt_of_le (show x.natAbs < 2 ^ 4 by omega) (Nat.pow_le_pow_right (by decide) (by decide))
theorem bd_end : Bd 2 (.list endD) := fun x hx => by
  have key : ∀ l : List Int, Bd 1 (lI l) := fun l y hy => by
    obtain ⟨i, _, rfl⟩ := List.mem_map.mp hy
    trivial
  unfold endD at hx
  simp only [List.mem_cons, List.not_mem_nil, or_false] at hx
  rcases hx with rfl | rfl | rfl | rfl | rfl | rfl
  · trivial
  · trivial
  · trivial
  · exact key _
  · exact key _
  · exact key _
theorem ok_law {C c Pt : Addr} (F : FnT K "law" slaw f fd) (hcode : fd.code = .ref c) (L : LE P w K mg base C c Pt) : FnOk P w K mg base CX0 11 f fd ["_law_script"] (spLaw K Pt) := by
  refine fn_hsC F sc_law hcode (fun vs H Q E h => by obtain ⟨a, ns, rfl, _⟩ := h; rfl) (fun A outer sh H vs Q E hr h => ?_)
  obtain ⟨a, ns, rfl, hS, hl, hP, q⟩ := h
  obtain ⟨fo, fdo, pso, G, hm, hk, hb⟩ := L.openD.ex
  refine hs_cons (ps_set (i := 1) sc_law.nd rfl (by first | exact Or.inl rfl | exact Or.inr rfl) (pe_call G (hr.mono (by decide)) rfl hm hk hb .nil pass0 (pa_cons (pv 0) pa_nil)) rfl (by first | exact .inl rfl | exact .inr rfl)) ?_
  refine ⟨_, rfl, ?_⟩
  refine ⟨a, ns, rfl, hS, hl, fun vb H1 sm hbx => ?_⟩
  have hT : TabsN [(Pt, nmL)] H1 := fun p hp => by rw [List.mem_singleton.mp hp]; exact TabN.nil (sm _ _ hP)
  refine hs_forR (S := H1) (n := 5) (fun i σ H' => BX vb H' ∧ TabsN [(Pt, nmL)] H' ∧ OSt (.ref a) vb σ) PassesOwn.never rfl L.frange (by decide) ee_int (Same.refl H1) (fun S' H' g => ⟨Mn.up (g.st.trans g.sub) hbx, hT.ext g.hh, _, _, _, _, _, _, _, _, _, _, _, _, _, _, _, _, _, _, _, _, rfl⟩) ?_ ?_
  · rintro i σ1 H2 _ ⟨hb2, hT2, a2, a3, a4, a5, a6, a7, a8, a9, a10, a11, a12, a13, a14, a15, a16, a17, a18, a19, a20, a21, rfl⟩
    refine (eg_name (S := Y.noTab H2) (i := 2) sc_law.nd rfl (by first | exact Or.inl rfl | exact Or.inr rfl)) H2 noTab_sub _ ?_
    have hb2' := bx_noTab hb2
    refine turn_a L hr noTab_sub hb2' fun v3 v4 v5 v6 v7 v8 S3 H3 g3 => ?_
    refine turn_b L hr g3.sub (Mn.up g3.st hb2') (hT2.ext g3.hh) fun v9 v10 v11 S4 H4 s4 hb4 hT4 => ?_
    refine turn_c L hr s4 hb4 fun v12 v13 v14 S5 H5 g5 => ?_
    refine turn_d L hr g5.sub (Mn.up g5.st hb4) fun v15 v16 l S6 H6 g6 p16 l4 hx => ?_
    have g56 := g5.trans g6
    exact turn_e L hr l4 hx g6.sub p16 fun w6 w18 w19 w20 w21 S7 H7 g7 => ⟨Mn.up ((g56.trans g7).st.trans (g56.trans g7).sub) hb4, hT4.ext (g56.trans g7).hh, _, _, _, _, _, _, _, _, _, _, _, _, _, _, _, _, _, _, _, _, rfl⟩
  · rintro σ1 H2 ⟨hb2, hT2, a2, a3, a4, a5, a6, a7, a8, a9, a10, a11, a12, a13, a14, a15, a16, a17, a18, a19, a20, a21, rfl⟩
    refine hs_ret (S := Y.noTab H2) (P := Dt K (.bool true)) (ee_callD (L.same 2) (hr.mono (by decide)) ⟨.list endD, rfl, bd_end, rfl⟩ (ea_2
      (ee_lst (ds := endD) (ea_cons (ee_callD L.fl (hr.mono (by decide)) ⟨0, 3, 0, rfl, rfl, by decide, nb_end0, by decide, by decide, root_end1⟩ (ea_2 ee_int ee_int)) (ea_cons ((ee_callD L.ce (hr.mono (by decide)) ⟨0, 3, 0, rfl, rfl, by decide, nb_end0, by decide, by decide, root_end1⟩ (ea_2 ee_int ee_int)).isd (congrArg PyData.int (by decide +kernel : ceilI 0 3 0 = 0)))
        (ea_cons (ee_callD L.fl (hr.mono (by decide)) ⟨10 ^ 40, 2, 10 ^ 20, rfl, rfl, by decide +kernel, nb_end, by decide, by decide, root_end2⟩ (ea_2 (ee_pow (by exact ⟨by decide, by decide, by decide⟩) ee_int ee_int) ee_int))
        (ea_cons ((ee_callD L.low (hr.mono (by decide)) ⟨[6, 0, 9], .inl rfl, rfl, by decide, by intro x hx; exact nb_small (by simp at hx; omega)⟩ (ea_1 (ee_lst (ds := [.int 6, .int 0, .int 9]) (ea_cons ee_int (ea_cons ee_int (ea_cons ee_int ea_nil)))))).isd (congrArg lI (by decide +kernel : lowI [6, 0, 9] = [2, 0, 3])))
        (ea_cons ((ee_callD L.low (hr.mono (by decide)) ⟨[0, 0], .inr rfl, rfl, by decide, by intro x hx; exact nb_small (by simp at hx; omega)⟩ (ea_1 (ee_tup (ds := [.int 0, .int 0]) (ea_2 ee_int ee_int)))).isd (congrArg lI (by decide +kernel : lowI [0, 0] = [0, 0])))
        (ea_cons ((ee_callD L.low (hr.mono (by decide)) ⟨[], .inl rfl, rfl, by decide, by intro x hx; cases hx⟩ (ea_1 (ee_lst (ds := []) ea_nil))).isd (congrArg lI (by decide +kernel : lowI [] = []))) ea_nil)))))))
      (ee_lst (ds := endD) (ea_cons ee_int (ea_cons ee_int (ea_cons (ee_pow (by exact ⟨by decide, by decide, by decide⟩) ee_int ee_int) (ea_cons (ee_lst (ds := [.int 2, .int 0, .int 3]) (ea_cons ee_int (ea_cons ee_int (ea_cons ee_int ea_nil)))) (ea_cons (ee_lst (ds := [.int 0, .int 0]) (ea_2 ee_int ee_int)) (ea_cons (ee_lst (ds := []) ea_nil) ea_nil))))))))) noTab_sub fun v S' H' g pv => by
        cases pv
        exact q H'
end
end K02

namespace K02
open PySem PySem.Spec PyProof.Rows L2 Z Y LamX NdefX
section
variable {P : Program} {w : World} {K : PySem.W.Frag} {mg : Str → Option Value} {base : Heap} {f : Addr} {fd : FuncData}
theorem facts {P : Program} {w : World} {K : PySem.W.Frag} {h : Heap} {mg : Str → Option Value} {f : Addr} (X : K.In h) (G : h.Ns mainGlobals mg) (hfa : mg ("law" : Str) = some (.ref f)) (c0 : SaysF fa fn tf ex h K) :
    ∃ fd : FuncData, (∀ (s : Shared) (v : Value), BindsTo s fd ⟨[v], []⟩ [("_law_script", v)]) ∧ ∀ base : Heap, K.In base → base.Ns mainGlobals mg → TabB base mg (He.cT K ("law", none)).1 (He.cT K ("law", none)).2 → FnOk P w K mg base CX0 11 f fd ["_law_script"] (spLaw K (He.cT K ("law", none)).2) := by
  have d := c0.d
  have more := c0.more
  unfold ex at more
  rw [Bool.and_eq_true] at more
  obtain ⟨hE, hx⟩ := more
  obtain ⟨T, TX, n1, n2, hI, tI'⟩ := errB_ok hE
  have hx := of_decide_eq_true hx
  have h_isinstance : mg "isinstance" = none := He.free_ok X G (d.fact 22 (f := .free "isinstance") rfl)
  have h_bool : mg "bool" = none := He.free_ok X G (d.fact 23 (f := .free "bool") rfl)
  have h_int : mg "int" = none := He.free_ok X G (d.fact 24 (f := .free "int") rfl)
  have h_str : mg "str" = none := He.free_ok X G (d.fact 25 (f := .free "str") rfl)
  have h_list : mg "list" = none := He.free_ok X G (d.fact 26 (f := .free "list") rfl)
  have h_tuple : mg "tuple" = none := He.free_ok X G (d.fact 27 (f := .free "tuple") rfl)
  have h_len : mg "len" = none := He.free_ok X G (d.fact 28 (f := .free "len") rfl)
  have h_all : mg "all" = none := He.free_ok X G (d.fact 29 (f := .free "all") rfl)
  have h_any : mg "any" = none := He.free_ok X G (d.fact 30 (f := .free "any") rfl)
  have h_sum : mg "sum" = none := He.free_ok X G (d.fact 31 (f := .free "sum") rfl)
  have h_zip : mg "zip" = none := He.free_ok X G (d.fact 32 (f := .free "zip") rfl)
  have h_range : mg "range" = none := He.free_ok X G (d.fact 33 (f := .free "range") rfl)
  have h_max : mg "max" = none := He.free_ok X G (d.fact 34 (f := .free "max") rfl)
  have h_abs : mg "abs" = none := He.free_ok X G (d.fact 35 (f := .free "abs") rfl)
  have h_MOST_DEGREE : ∃ t, mg "MOST_DEGREE" = some (.int 60 t) := He.int_ok X G (d.fact 36 (f := .int "MOST_DEGREE" 60) rfl)
  obtain ⟨fd_law, F_law⟩ := d.def_ 19 (d := dlaw) rfl
  have e := hfa.symm.trans (He.glo_ok X G (d.fact 17 (f := .glo "law") rfl))
  cases e
  have b := FunD.bindsA (ps := ["_law_script"]) F_law fun _ _ _ _ _ _ us hl => match us, hl with | [_], _ => rfl
  have hcode : fd_law.code = .ref (He.cT K ("law", none)).1 := by
    obtain ⟨oc, od, dV, kV, doc, pm, an, cdv, ct, osl, e, lk, hcd, _, _⟩ := F_law.ex
    obtain ⟨cc, hc⟩ := He.codeIn_ref hcd
    have e2 : fd_law.code = .ref cc := by rw [e]; exact hc
    rw [e2]
    exact congrArg Value.ref (He.codeOf_eq (p := ("law", none)) lk e2).symm
  refine ⟨fd_law, fun s v => b s [v] rfl, fun base _ _ TB => ?_⟩
  obtain ⟨fd_is_number, F_is_number⟩ := d.def_ 2 (d := dis_number) rfl
  have D_is_number : KD P w K mg base "is_number" 1 (spD K FisNumber) := kd_mk F_is_number (ok_is_number F_is_number h_isinstance h_int h_bool) (He.glo_ok X G (d.fact 0 (f := .glo "is_number") rfl)) (F_is_number.bindsN (fun _ _ _ _ _ _ us hl => match us, hl with | [_, _], _ => rfl))
  obtain ⟨fd_power_of, F_power_of⟩ := d.def_ 4 (d := dpower_of) rfl
  have D_power_of : KD P w K mg base "power_of" 1 (spD K Fpower_of) := kd_mk F_power_of (ok_power_of F_power_of) (He.glo_ok X G (d.fact 2 (f := .glo "power_of") rfl)) (F_power_of.bindsN (fun _ _ _ _ _ _ us hl => match us, hl with | [_, _], _ => rfl))
  obtain ⟨fd_whole_root, F_whole_root⟩ := d.def_ 5 (d := dwhole_root) rfl
  have D_whole_root : KD P w K mg base "whole_root" 2 (spD K FwRoot) := kd_mk F_whole_root (ok_whole_root F_whole_root D_power_of) (He.glo_ok X G (d.fact 3 (f := .glo "whole_root") rfl)) (F_whole_root.bindsN (fun _ _ _ _ _ _ us hl => match us, hl with | [_, _], _ => rfl))
  obtain ⟨fd_check_root, F_check_root⟩ := d.def_ 3 (d := dcheck_root) rfl
  have D_check_root : KD P w K mg base "check_root" 2 (spD K FchkR) := kd_mk F_check_root (ok_check_root F_check_root D_is_number h_MOST_DEGREE) (He.glo_ok X G (d.fact 1 (f := .glo "check_root") rfl)) (F_check_root.bindsN (fun _ _ _ _ _ _ us hl => match us, hl with | [_, _], _ => rfl))
  obtain ⟨fd_floor_root, F_floor_root⟩ := d.def_ 6 (d := dfloor_root) rfl
  have D_floor_root : KD P w K mg base "floor_root" 3 (spD K FfRoot) := kd_mk F_floor_root (ok_floor_root F_floor_root D_check_root D_whole_root) (He.glo_ok X G (d.fact 4 (f := .glo "floor_root") rfl)) (F_floor_root.bindsN (fun _ _ _ _ _ _ us hl => match us, hl with | [_, _], _ => rfl))
  obtain ⟨fd_ceiling_root, F_ceiling_root⟩ := d.def_ 7 (d := dceiling_root) rfl
  have D_ceiling_root : KD P w K mg base "ceiling_root" 3 (spD K FcRoot) := kd_mk F_ceiling_root (ok_ceiling_root F_ceiling_root D_check_root D_whole_root D_power_of) (He.glo_ok X G (d.fact 5 (f := .glo "ceiling_root") rfl)) (F_ceiling_root.bindsN (fun _ _ _ _ _ _ us hl => match us, hl with | [_, _], _ => rfl))
  obtain ⟨fd_lowest, F_lowest⟩ := d.def_ 8 (d := dlowest) rfl
  have D_lowest : KD P w K mg base "lowest" 1 (spD K Flowest) := kd_mk F_lowest (ok_lowest F_lowest h_abs h_max) (He.glo_ok X G (d.fact 6 (f := .glo "lowest") rfl)) (F_lowest.bindsN (fun _ _ _ _ _ _ us hl => match us, hl with | [_], _ => rfl))
  obtain ⟨fd_init, F_init⟩ := d.def_ 0 (d := dInvalidNumber____init__) rfl
  have R : Err P w K mg base "InvalidNumber" (He.ga K "InvalidNumber") "given" "InvalidNumber" := ⟨T, He.glo_ok X G (d.fact 21 (f := .glo "InvalidNumber") rfl), _, fd_init, ["self", "given"], hI, tI', ok_IN_init F_init T n1 n2, F_init.bindsN (fun _ _ _ _ _ _ us hl => match us, hl with | [_, _], _ => rfl)⟩
  have X_check_root : ∃ f fd ps, FnOk P w K mg base (L2.CX P w) 3 f fd ps (spRoot K (He.ga K "InvalidNumber")) ∧ mg "check_root" = some (.ref f) ∧ PySem.W.keepIn K (.ref f) = true ∧ Binds K fd ps [] := ⟨_, _, _, ok_check_rootX F_check_root R D_is_number h_MOST_DEGREE, He.glo_ok X G (d.fact 1 (f := .glo "check_root") rfl), F_check_root.kp, F_check_root.bindsN (fun _ _ _ _ _ _ us hl => match us, hl with | [_, _], _ => rfl)⟩
  have X_floor_root : ∃ f fd ps, FnOk P w K mg base (L2.CX P w) 4 f fd ps (spRoot K (He.ga K "InvalidNumber")) ∧ mg "floor_root" = some (.ref f) ∧ PySem.W.keepIn K (.ref f) = true ∧ Binds K fd ps [] := ⟨_, _, _, ok_floor_rootX F_floor_root X_check_root, He.glo_ok X G (d.fact 4 (f := .glo "floor_root") rfl), F_floor_root.kp, F_floor_root.bindsN (fun _ _ _ _ _ _ us hl => match us, hl with | [_, _], _ => rfl)⟩
  have X_ceiling_root : ∃ f fd ps, FnOk P w K mg base (L2.CX P w) 4 f fd ps (spRoot K (He.ga K "InvalidNumber")) ∧ mg "ceiling_root" = some (.ref f) ∧ PySem.W.keepIn K (.ref f) = true ∧ Binds K fd ps [] := ⟨_, _, _, ok_ceiling_rootX F_ceiling_root X_check_root, He.glo_ok X G (d.fact 5 (f := .glo "ceiling_root") rfl), F_ceiling_root.kp, F_ceiling_root.bindsN (fun _ _ _ _ _ _ us hl => match us, hl with | [_, _], _ => rfl)⟩
  have K_is_number : KDK P w K mg base "is_number" ["least", "value"] 1 (spD K FisNumber) := ⟨_, _, _, ok_is_number F_is_number h_isinstance h_int h_bool, He.glo_ok X G (d.fact 0 (f := .glo "is_number") rfl), F_is_number.kp, kbindsS F_is_number fun _ _ _ _ _ _ ws hl => match ws, hl with | [_, _], _ => rfl⟩
  have K_ceiling_root : KDK P w K mg base "ceiling_root" ["degree", "number"] 3 (spD K FcRoot) := ⟨_, _, _, ok_ceiling_root F_ceiling_root D_check_root D_whole_root D_power_of, He.glo_ok X G (d.fact 5 (f := .glo "ceiling_root") rfl), F_ceiling_root.kp, kbindsS F_ceiling_root fun _ _ _ _ _ _ ws hl => match ws, hl with | [_, _], _ => rfl⟩
  obtain ⟨fd_L_open, F_L_open⟩ := d.def_ 9 (d := dL_open) rfl
  have D_L_open : KD P w K mg base "_law_open" 1 (spOpen K) := kd_mk F_L_open (ok_L_open F_L_open h_list h_len) (He.glo_ok X G (d.fact 7 (f := .glo "_law_open") rfl)) (F_L_open.bindsN (fun _ _ _ _ _ _ us hl => match us, hl with | [_], _ => rfl))
  obtain ⟨fd_L_take, F_L_take⟩ := d.def_ 10 (d := dL_take) rfl
  have D_L_take : KD P w K mg base "_law_take" 1 (spB K Ftake) := kd_mk F_L_take (ok_L_take F_L_take h_len h_int) (He.glo_ok X G (d.fact 8 (f := .glo "_law_take") rfl)) (F_L_take.bindsN (fun _ _ _ _ _ _ us hl => match us, hl with | [_, _], _ => rfl))
  obtain ⟨fd_L_one, F_L_one⟩ := d.def_ 11 (d := dL_one) rfl
  have D_L_one : KD P w K mg base "_law_one" 2 (spB K Fone) := kd_mk F_L_one (ok_L_one F_L_one D_L_take h_len) (He.glo_ok X G (d.fact 9 (f := .glo "_law_one") rfl)) (F_L_one.bindsN (fun _ _ _ _ _ _ us hl => match us, hl with | [_, _], _ => rfl))
  obtain ⟨fd_L_kind, F_L_kind⟩ := d.def_ 12 (d := dL_kind) rfl
  have D_L_kind : KD P w K mg base "_law_kind" 1 (spD K Fkind) := kd_mk F_L_kind (ok_L_kind F_L_kind h_isinstance h_bool h_int h_str h_list h_tuple) (He.glo_ok X G (d.fact 10 (f := .glo "_law_kind") rfl)) (F_L_kind.bindsN (fun _ _ _ _ _ _ us hl => match us, hl with | [_], _ => rfl))
  obtain ⟨fd_L_same, F_L_same⟩ := d.def_ 13 (d := dL_same) rfl
  have b_same := F_L_same.bindsN (ps := ["_law_found", "_law_due"]) (fun _ _ _ _ _ _ us hl => match us, hl with | [_, _], _ => rfl)
  have g_same := He.glo_ok X G (d.fact 11 (f := .glo "_law_same") rfl)
  have D_L_same : ∀ n, KD P w K mg base "_law_same" (n + 2) (spD K (Fsame n)) := fun n => kd_mk F_L_same (ok_L_same F_L_same g_same b_same D_L_kind h_len h_all h_zip n) g_same b_same
  obtain ⟨fd_L_odd, F_L_odd⟩ := d.def_ 17 (d := dL_odd) rfl
  have D_L_odd : KD P w K mg base "_law_odd" 3 (spB K Fodd) := kd_mk F_L_odd (ok_L_odd F_L_odd D_L_one) (He.glo_ok X G (d.fact 15 (f := .glo "_law_odd") rfl)) (F_L_odd.bindsN (fun _ _ _ _ _ _ us hl => match us, hl with | [_, _], _ => rfl))
  obtain ⟨fd_L_pow, F_L_pow⟩ := d.def_ 18 (d := dL_pow) rfl
  have D_L_pow : KD P w K mg base "_law_pow" 1 (spD K FL_pow) := kd_mk F_L_pow (ok_L_pow F_L_pow h_int) (He.glo_ok X G (d.fact 16 (f := .glo "_law_pow") rfl)) (F_L_pow.bindsN (fun _ _ _ _ _ _ us hl => match us, hl with | [_, _], _ => rfl))
  obtain ⟨fd_L_field, F_L_field⟩ := d.def_ 14 (d := dL_field) rfl
  have FP : ∃ f fd, FnP P w K mg base 1 f fd ["_law_e"] (spFieldN (He.ga K "InvalidNumber")) ∧ mg "_law_field" = some (.ref f) ∧ PySem.W.keepIn K (.ref f) = true ∧ Binds K fd ["_law_e"] [] := ⟨_, _, ok_law_fieldN F_L_field TX n2 n1, He.glo_ok X G (d.fact 12 (f := .glo "_law_field") rfl), F_L_field.kp, F_L_field.bindsN (fun _ _ _ _ _ _ us hl => match us, hl with | [_], _ => rfl)⟩
  obtain ⟨fd_L_try, F_L_try⟩ := d.def_ 15 (d := dL_try) rfl
  have D_L_try : KD P w K mg base "_law_try" 6 (spTryN P w K mg base (He.ga K "InvalidNumber") 5) := kd_mk F_L_try (ok_law_tryN F_L_try TX n2 FP (He.glo_ok X G (d.fact 18 (f := .glo "DealError") rfl)) (He.glo_ok X G (d.fact 19 (f := .glo "Missing") rfl)) (He.glo_ok X G (d.fact 20 (f := .glo "NothingLeft") rfl)) hx (by decide)) (He.glo_ok X G (d.fact 13 (f := .glo "_law_try") rfl)) (F_L_try.bindsN (fun _ _ _ _ _ _ us hl => match us, hl with | [_], _ => rfl))
  obtain ⟨fd_L_tries, F_L_tries⟩ := d.def_ 16 (d := dL_tries) rfl
  have D_L_tries : KD P w K mg base "_law_tries" 8 (spTriesN P w K mg base (He.ga K "InvalidNumber") 5) := kd_mk F_L_tries (ok_law_triesN F_L_tries D_L_try) (He.glo_ok X G (d.fact 14 (f := .glo "_law_tries") rfl)) (F_L_tries.bindsN (fun _ _ _ _ _ _ us hl => match us, hl with | [_], _ => rfl))
  have L : LE P w K mg base (He.ga K "InvalidNumber") (He.cT K ("law", none)).1 (He.cT K ("law", none)).2 := ⟨D_L_open, D_L_take, D_L_one, D_L_odd, D_L_same, D_L_pow, D_is_number, K_is_number, D_floor_root, D_ceiling_root, K_ceiling_root, D_lowest, D_L_tries, X_floor_root, X_ceiling_root, TB, h_list, h_len, h_range, h_all, h_any, h_sum, h_isinstance, h_int, h_bool, h_max⟩
  exact ok_law F_law hcode L
end
end K02
open PySem PySem.W PySem.Calls PyProof.Rows
theorem PySem.Challenge.cw_dealtpowers_k02_numbers_and_roots_holds : PySem.Challenge.rw_dealtpowers_k02_numbers_and_roots.Holds := by
  w_on; o_law
  refine HandSHeadRun.head_any (r := OpenLaw.row PySem.Challenge.rw_dealtpowers_k02_numbers_and_roots) (q := view (OpenLaw.row PySem.Challenge.rw_dealtpowers_k02_numbers_and_roots).prog [25]) (H := K02.hk) (ob := K02.ob) (M := 20000) (loose := K02.nms) (d := HandSHeadRun.topDef (OpenLaw.row PySem.Challenge.rw_dealtpowers_k02_numbers_and_roots).prog 25) (kwd := []) K02.ob_eq
    (by kernel_rfl) (fun s => by kernel_rfl) K02.run (by kernel_rfl) (by kernel_rfl) (by kernel_rfl) (by rfl) (by first | assumption | decide +kernel) (by decide +kernel) ⟨rfl, rfl, rfl, rfl, rfl, by decide +kernel⟩ ?hw ?hc
  case hw => w_witness2
  case hc =>
    refine LamX.walk_ofTsE (l := PySem.Challenge.rw_dealtpowers_k02_numbers_and_roots) (n := 63) (k := 11) (x := "_law_script") (CX := fun _ => L2.CX0) rfl (by decide) (by kernel_rfl) ⟨rfl, by decide, by decide⟩ ?F (fun _ _ _ _ _ z => z)
    intro w mg fa h Y G hmg0
    obtain ⟨K, KX, c⟩ := Y
    have hmg : mg ("law" : PySem.Str) = some (.ref fa) := by
      have e : (HandSHeadRun.topDef (OpenLaw.row PySem.Challenge.rw_dealtpowers_k02_numbers_and_roots).prog 25).name = ("law" : PySem.Str) := by kernel_rfl
      rw [← e]
      exact hmg0
    obtain ⟨fd, hb, hF⟩ := K02.facts (P := (PySem.Challenge.rw_dealtpowers_k02_numbers_and_roots).prog) (w := w) KX G hmg c
    have ht := c.tab ("law", none) (List.mem_singleton.mpr rfl)
    refine ⟨K, KX, fd, [He.cT K ("law", none)], K02.spLaw K (He.cT K ("law", none)).2, fun p hp => ?_, fun p hp => ?_, fun p hp => ?_, hb, fun H a ns hl _ hT hS => ⟨a, ns, rfl, hS, hl, hT _ (List.mem_singleton.mpr rfl), fun _ => rfl⟩, fun base KB NB TB => hF base KB NB (TB _ (List.mem_singleton.mpr rfl))⟩
    · rw [List.mem_singleton.mp hp]; exact ht.2.2
    · rw [List.mem_singleton.mp hp]; exact ht.2.1
    · rw [List.mem_singleton.mp hp]; exact codeHd_of_K KX ht.1
